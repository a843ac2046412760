import PyProof.Rows.All
import Wide.All
import OpenK.AllK
import Wide.FinOn
import KE.KStateDown
import HandS.ForMost
import HandS.ForExc
import HandS.ExcInit
import HandS.ExcField
import HandS.Defaults
import HandS.Lambda
import HandS.EndTab
import HandS.HeadHook4
import HandS.HeadWalk
import HandS.Head2
import HandS.TupAny
import HandS.TupMul
import HandS.IsInst
import HandS.Walk
import HandS.Wide
import HandS.Conv
import PySem.Challenge.RW_mazesums_k02_whole_flaws_of_nests
import KE.GoesMore
import KE.GoesEnum
import PyProof.EnumMake
import PyProof.StrOps2
import PyProof.ListStr
import HandS.Replace
set_option Elab.async false
set_option linter.all false
set_option maxRecDepth 100000
set_option maxHeartbeats 0
namespace L2
open PySem PySem.Spec
open PyProof.Rows
/-- an own exception over ValueError with an __init__: what the written part must say -/
def oexL (K : PySem.W.Frag) (C : Addr) : Bool := match K.lookup C with
  | some ⟨.type t, _, .cls cd, sl⟩ => (match cd.mro, sl.toList with
    | .ref C' :: bm, [_, _, _, _, some (.builtin n), _] => decide (t = "type") && (decide (C' = C) && (decide (n = "ValueError.__new__") && (!cd.hasDel && (cd.hasDict && PySem.HandSPX.refsVE bm))))
    | _, _ => false)
  | _ => false
def oexB (K : PySem.W.Frag) (C : Addr) : Bool := oexL K C && (He.eqO (PySem.W.findIn K (.ref C) "__setattr__") (some (some (.builtin "object.__setattr__"))) && (decide (PySem.W.subIn K (.ref C) (.type "BaseException") = some true) &&
  (decide (PySem.W.typeIn K (.ref C) = some (.type "type")) && (PySem.W.keepIn K (.ref C) && decide (PySem.W.exmOne K (.ref C) (.ref C) = some true)))))
def initB (K : PySem.W.Frag) (C : Addr) : Bool := He.eqO (PySem.W.findIn K (.ref C) "__init__") (some (some (.ref (He.ma K C "__init__")))) && decide (PySem.W.typeIn K (.ref (He.ma K C "__init__")) = some (.type "function"))
theorem oexB_ok {K : PySem.W.Frag} {C : Addr} (h : oexB K C = true) : OexC K C ∧ PySem.W.exmOne K (.ref C) (.ref C) = some true := by
  unfold oexB at h
  simp only [Bool.and_eq_true, decide_eq_true_eq] at h
  obtain ⟨h1, h2, h3, h4, h5, h6⟩ := h
  refine ⟨⟨?_, He.eqO_ok h2, h3, h4, h5⟩, h6⟩
  unfold oexL at h1
  split at h1
  · rename_i t dd cd sl ho
    split at h1
    · rename_i C' bm k0 k1 k2 k3 n k5 hm hs
      simp only [Bool.and_eq_true, decide_eq_true_eq, Bool.not_eq_true'] at h1
      obtain ⟨rfl, rfl, rfl, hdel, hdict, hv⟩ := h1
      obtain ⟨nm, bs, mro, ns, qn, hd, sn, sub, ab, col, del⟩ := cd
      dsimp only at hm hdel hdict
      subst hm hdel hdict
      have hsl : sl = #[k0, k1, k2, k3, some (.builtin "ValueError.__new__"), k5] := by
        obtain ⟨l⟩ := sl
        simp only at hs
        rw [hs]
      subst hsl
      exact ⟨_, _, _, _, _, _, _, _, _, _, _, _, _, _, _, ho, hv⟩
    · cases h1
  · cases h1
theorem initB_ok {K : PySem.W.Frag} {C : Addr} (h : initB K C = true) : PySem.W.findIn K (.ref C) "__init__" = some (some (.ref (He.ma K C "__init__"))) ∧ PySem.W.typeIn K (.ref (He.ma K C "__init__")) = some (.type "function") := by
  unfold initB at h
  simp only [Bool.and_eq_true, decide_eq_true_eq] at h
  exact ⟨He.eqO_ok h.1, h.2⟩
end L2
namespace Hl
open PySem PySem.Spec
open PyProof.Rows L2 He
/-- as the kit's widest hook, but over written addresses -/
def seenAt (as : List Addr) (fa : List Fa) (fn : List DefD) (tf : List Defn) (ex : PySem.W.Frag → Bool) (g : Addr → Option Obj) : AlX :=
  let K := frT g as
  (obsT fa fn [] K, ex K && tabsB g tf K)
theorem seenAt_says {as : List Addr} {fa : List Fa} {fn : List DefD} {tf : List Defn} {ex : PySem.W.Frag → Bool} {w : World} {h : Heap} (e : seenAt as fa fn tf ex h.get? = valX fn [] w) : SaysX fa fn [] tf ex w h (frT h.get? as) := by
  have a1 : obsT fa fn [] (frT h.get? as) = valT fn [] w := (Prod.mk.inj e).1
  have a2 : (ex (frT h.get? as) && tabsB h.get? tf (frT h.get? as)) = true := (Prod.mk.inj e).2
  have b := Bool.and_eq_true_iff.mp a2
  have all : ∀ p ∈ tf, PySem.W.codeHdIn (frT h.get? as) (cT (frT h.get? as) p).1 (cT (frT h.get? as) p).2 = true ∧ ∃ o, h.get? (cT (frT h.get? as) p).2 = some o ∧ emptyTab o = true := by
    intro p hp
    have c := Bool.and_eq_true_iff.mp (List.all_eq_true.mp b.2 p hp)
    refine ⟨c.1, ?_⟩
    have c2 := c.2
    split at c2
    · rename_i o ho
      exact ⟨o, ho, c2⟩
    · cases c2
  constructor
  · exact a1
  · exact b.1
  · exact fun p hp => (all p hp).1
  · intro p hp
    obtain ⟨_, o, ho, eo⟩ := all p hp
    exact frT_none ho eo
  · intro p hp
    obtain ⟨_, o, ho, eo⟩ := all p hp
    rw [ho, emptyTab_eq eo]
def hook (as : List Addr) (fa : List Fa) (fn : List DefD) (tf : List Defn) (ex : PySem.W.Frag → Bool) : PySem.W.Hook where
  α := AlX
  obs s := seenAt as fa fn tf ex s.heap.get?
  val w := valX fn [] w
  says w h := ∃ K, PySem.W.Frag.In K h ∧ SaysX fa fn [] tf ex w h K
  of _ _ e := ⟨_, frT_in, seenAt_says e⟩
  keeps := by
    intro w h h' ⟨K, hK, c⟩ k
    refine ⟨K, PySem.W.Frag.In.keeps hK k, ⟨c.t, c.more, c.hd, c.out, ?_⟩⟩
    intro p hp
    exact k _ _ (c.empty p hp)
theorem seenAt_eq {as : List Addr} {fa : List Fa} {fn : List DefD} {tf : List Defn} {ex : PySem.W.Frag → Bool} {g : Addr → Option Obj} {s : Shared} (h : ∀ a, g a = s.heap.get? a) : seenAt as fa fn tf ex g = (hook as fa fn tf ex).obs s := by
  show seenAt as fa fn tf ex g = seenAt as fa fn tf ex s.heap.get?
  rw [funext h]
end Hl
namespace K02
open PySem PySem.Spec
open PyProof.Rows L2
def top (i : Nat) : Stmt := PySem.Challenge.pw_mazesums_k02_whole_flaws_of_nests.main.body.getD i (.Pass ⟨0, 0, 0, 0⟩)
abbrev s_BadArgument_init : Stmt := inClass (top 1) 0
abbrev s_Flaw_init : Stmt := inClass (top 2) 0
abbrev s_need : Stmt := top 4
abbrev s_Reader_init : Stmt := inClass (top 10) 0
abbrev s_Reader_sign : Stmt := inClass (top 10) 1
abbrev s_Reader_refuse : Stmt := inClass (top 10) 2
abbrev s_Reader_is_next : Stmt := inClass (top 10) 3
abbrev s_Reader_digit : Stmt := inClass (top 10) 4
abbrev s_Reader_nest : Stmt := inClass (top 10) 5
abbrev s_Reader_item : Stmt := inClass (top 10) 6
abbrev s_Reader_atom : Stmt := inClass (top 10) 7
abbrev s_Reader_ground : Stmt := inClass (top 10) 8
abbrev s_is_text : Stmt := top 11
abbrev s_tree_of : Stmt := top 12
abbrev s_flaw : Stmt := top 13
abbrev s_within_parentheses : Stmt := top 14
abbrev s_plain : Stmt := top 15
abbrev s_plain_text : Stmt := top 16
abbrev s_letters : Stmt := top 17
abbrev s__law_taken : Stmt := top 19
abbrev s__law_pick : Stmt := top 20
abbrev s__law_refused : Stmt := top 21
abbrev s__law_alike : Stmt := top 22
abbrev s__law_right : Stmt := top 23
abbrev s__law_text : Stmt := top 24
abbrev s__law_flaw : Stmt := top 25
abbrev s_law : Stmt := top 26
abbrev n_BadArgument_init : List Str := ["self", "name"]
abbrev p_BadArgument_init : List Str := ["self", "name"]
abbrev n_Flaw_init : List Str := ["self", "place", "message"]
abbrev p_Flaw_init : List Str := ["self", "place", "message"]
abbrev n_need : List Str := ["is_right", "name"]
abbrev p_need : List Str := ["is_right", "name"]
abbrev n_Reader_init : List Str := ["self", "text", "at", "sign", "place"]
abbrev p_Reader_init : List Str := ["self", "text"]
abbrev n_Reader_sign : List Str := ["self"]
abbrev p_Reader_sign : List Str := ["self"]
abbrev n_Reader_refuse : List Str := ["self", "message"]
abbrev p_Reader_refuse : List Str := ["self", "message"]
abbrev n_Reader_is_next : List Str := ["self", "sign"]
abbrev p_Reader_is_next : List Str := ["self", "sign"]
abbrev n_Reader_digit : List Str := ["self"]
abbrev p_Reader_digit : List Str := ["self"]
abbrev n_Reader_nest : List Str := ["self", "found"]
abbrev p_Reader_nest : List Str := ["self"]
abbrev n_Reader_item : List Str := ["self", "found", "many"]
abbrev p_Reader_item : List Str := ["self"]
abbrev n_Reader_atom : List Str := ["self", "found", "one"]
abbrev p_Reader_atom : List Str := ["self"]
abbrev n_Reader_ground : List Str := ["self", "sign", "found"]
abbrev p_Reader_ground : List Str := ["self"]
abbrev n_is_text : List Str := ["value"]
abbrev p_is_text : List Str := ["value"]
abbrev n_tree_of : List Str := ["text", "reader", "found"]
abbrev p_tree_of : List Str := ["text"]
abbrev n_flaw : List Str := ["text", "e"]
abbrev p_flaw : List Str := ["text"]
abbrev n_within_parentheses : List Str := ["text", "is_so"]
abbrev p_within_parentheses : List Str := ["text", "is_so"]
abbrev n_plain : List Str := ["tree", "word", "one", "own"]
abbrev p_plain : List Str := ["tree"]
abbrev n_plain_text : List Str := ["text"]
abbrev p_plain_text : List Str := ["text"]
abbrev n_letters : List Str := ["text", "sign"]
abbrev p_letters : List Str := ["text"]
abbrev n__law_taken : List Str := ["row", "many", "found", "cell"]
abbrev p__law_taken : List Str := ["row", "many"]
abbrev n__law_pick : List Str := ["row", "some"]
abbrev p__law_pick : List Str := ["row", "some"]
abbrev n__law_refused : List Str := ["call", "e"]
abbrev p__law_refused : List Str := ["call"]
abbrev n__law_alike : List Str := ["found", "due", "at"]
abbrev p__law_alike : List Str := ["found", "due"]
abbrev n__law_right : List Str := ["row", "deep", "found", "turn", "digit", "kind"]
abbrev p__law_right : List Str := ["row", "deep"]
abbrev n__law_text : List Str := ["row", "many", "found", "turn", "at", "sign"]
abbrev p__law_text : List Str := ["row"]
abbrev n__law_flaw : List Str := ["text", "at", "sign", "state", "deep", "digit"]
abbrev p__law_flaw : List Str := ["text"]
abbrev n_law : List Str := ["script", "row", "turn", "text", "due", "bad"]
abbrev p_law : List Str := ["script"]
def d_BadArgument_init : He.DefD := ⟨("BadArgument", some "__init__"), "__init__", "BadArgument.__init__", defArgs s_BadArgument_init, defBody s_BadArgument_init, defScope s_BadArgument_init, [], []⟩
def d_Flaw_init : He.DefD := ⟨("Flaw", some "__init__"), "__init__", "Flaw.__init__", defArgs s_Flaw_init, defBody s_Flaw_init, defScope s_Flaw_init, [], []⟩
def d_need : He.DefD := ⟨("need", none), "need", "need", defArgs s_need, defBody s_need, defScope s_need, [], []⟩
def d_Reader_init : He.DefD := ⟨("Reader", some "__init__"), "__init__", "Reader.__init__", defArgs s_Reader_init, defBody s_Reader_init, defScope s_Reader_init, [], []⟩
def d_Reader_sign : He.DefD := ⟨("Reader", some "sign"), "sign", "Reader.sign", defArgs s_Reader_sign, defBody s_Reader_sign, defScope s_Reader_sign, [], []⟩
def d_Reader_refuse : He.DefD := ⟨("Reader", some "refuse"), "refuse", "Reader.refuse", defArgs s_Reader_refuse, defBody s_Reader_refuse, defScope s_Reader_refuse, [], []⟩
def d_Reader_is_next : He.DefD := ⟨("Reader", some "is_next"), "is_next", "Reader.is_next", defArgs s_Reader_is_next, defBody s_Reader_is_next, defScope s_Reader_is_next, [], []⟩
def d_Reader_digit : He.DefD := ⟨("Reader", some "digit"), "digit", "Reader.digit", defArgs s_Reader_digit, defBody s_Reader_digit, defScope s_Reader_digit, [], []⟩
def d_Reader_nest : He.DefD := ⟨("Reader", some "nest"), "nest", "Reader.nest", defArgs s_Reader_nest, defBody s_Reader_nest, defScope s_Reader_nest, [], []⟩
def d_Reader_item : He.DefD := ⟨("Reader", some "item"), "item", "Reader.item", defArgs s_Reader_item, defBody s_Reader_item, defScope s_Reader_item, [], []⟩
def d_Reader_atom : He.DefD := ⟨("Reader", some "atom"), "atom", "Reader.atom", defArgs s_Reader_atom, defBody s_Reader_atom, defScope s_Reader_atom, [], []⟩
def d_Reader_ground : He.DefD := ⟨("Reader", some "ground"), "ground", "Reader.ground", defArgs s_Reader_ground, defBody s_Reader_ground, defScope s_Reader_ground, [], []⟩
def d_is_text : He.DefD := ⟨("is_text", none), "is_text", "is_text", defArgs s_is_text, defBody s_is_text, defScope s_is_text, [], []⟩
def d_tree_of : He.DefD := ⟨("tree_of", none), "tree_of", "tree_of", defArgs s_tree_of, defBody s_tree_of, defScope s_tree_of, [], []⟩
def d_flaw : He.DefD := ⟨("flaw", none), "flaw", "flaw", defArgs s_flaw, defBody s_flaw, defScope s_flaw, [], []⟩
def d_within_parentheses : He.DefD := ⟨("within_parentheses", none), "within_parentheses", "within_parentheses", defArgs s_within_parentheses, defBody s_within_parentheses, defScope s_within_parentheses, [], []⟩
def d_plain : He.DefD := ⟨("plain", none), "plain", "plain", defArgs s_plain, defBody s_plain, defScope s_plain, [], []⟩
def d_plain_text : He.DefD := ⟨("plain_text", none), "plain_text", "plain_text", defArgs s_plain_text, defBody s_plain_text, defScope s_plain_text, [], []⟩
def d_letters : He.DefD := ⟨("letters", none), "letters", "letters", defArgs s_letters, defBody s_letters, defScope s_letters, [], []⟩
def d__law_taken : He.DefD := ⟨("_law_taken", none), "_law_taken", "_law_taken", defArgs s__law_taken, defBody s__law_taken, defScope s__law_taken, [], []⟩
def d__law_pick : He.DefD := ⟨("_law_pick", none), "_law_pick", "_law_pick", defArgs s__law_pick, defBody s__law_pick, defScope s__law_pick, [], []⟩
def d__law_refused : He.DefD := ⟨("_law_refused", none), "_law_refused", "_law_refused", defArgs s__law_refused, defBody s__law_refused, defScope s__law_refused, [], []⟩
def d__law_alike : He.DefD := ⟨("_law_alike", none), "_law_alike", "_law_alike", defArgs s__law_alike, defBody s__law_alike, defScope s__law_alike, [], []⟩
def d__law_right : He.DefD := ⟨("_law_right", none), "_law_right", "_law_right", defArgs s__law_right, defBody s__law_right, defScope s__law_right, [], []⟩
def d__law_text : He.DefD := ⟨("_law_text", none), "_law_text", "_law_text", defArgs s__law_text, defBody s__law_text, defScope s__law_text, [], []⟩
def d__law_flaw : He.DefD := ⟨("_law_flaw", none), "_law_flaw", "_law_flaw", defArgs s__law_flaw, defBody s__law_flaw, defScope s__law_flaw, [], []⟩
def d_law : He.DefD := ⟨("law", none), "law", "law", defArgs s_law, defBody s_law, defScope s_law, [], []⟩
def fn : List He.DefD := [d_BadArgument_init, d_Flaw_init, d_need, d_Reader_init, d_Reader_sign, d_Reader_refuse, d_Reader_is_next, d_Reader_digit, d_Reader_nest, d_Reader_item, d_Reader_atom, d_Reader_ground, d_is_text, d_tree_of, d_flaw, d_within_parentheses, d_plain, d_plain_text, d_letters, d__law_taken, d__law_pick, d__law_refused, d__law_alike, d__law_right, d__law_text, d__law_flaw, d_law]
def fa0 : List He.Fa := [.glo "need", .glo "is_text", .glo "tree_of", .glo "flaw", .glo "within_parentheses", .glo "plain", .glo "plain_text", .glo "letters", .glo "_law_taken", .glo "_law_pick", .glo "_law_refused", .glo "_law_alike", .glo "_law_right", .glo "_law_text", .glo "_law_flaw", .glo "law", .glo "BadArgument", .keep "BadArgument", .noat "BadArgument" "name", .glo "Flaw", .keep "Flaw", .noat "Flaw" "place", .noat "Flaw" "message", .glo "Reader", .cls "Reader", .mkr "Reader", .noat "Reader" "signs", .noat "Reader" "size", .noat "Reader" "at", .noat "Reader" "deep", .meth "Reader" "sign", .meth "Reader" "refuse", .meth "Reader" "is_next", .meth "Reader" "digit", .meth "Reader" "nest", .meth "Reader" "item", .meth "Reader" "atom", .meth "Reader" "ground", .str "LETTERS" "abcdef", .str "DIGITS" "0123456789"]
def fa1 : List He.Fa := [.int "MOST_TEXT" 200, .int "MOST_DEEP" 20, .free "ValueError", .free "bool", .free "enumerate", .free "int", .free "isinstance", .free "len", .free "list", .free "range", .free "str", .free "tuple"]
def fa : List He.Fa := fa0 ++ fa1
def tf : List He.Defn := [("law", none)]
def exF (K : PySem.W.Frag) : Bool := (oexB K (He.ga K "BadArgument") && xfB K (He.ga K "BadArgument") && initB K (He.ga K "BadArgument")) && (oexB K (He.ga K "Flaw") && xfB K (He.ga K "Flaw") && initB K (He.ga K "Flaw"))
abbrev R : PySem.W.OpenRow := PySem.W.OpenLaw.row PySem.Challenge.rw_mazesums_k02_whole_flaws_of_nests
def ads : List Addr := [3, 61, 143, 150, 157, 164, 171, 178, 183, 190, 197, 204, 209, 216, 223, 230, 237, 31, 51, 132, 30, 50, 131, 28, 48, 73, 80, 87, 94, 101, 108, 115, 122, 129, 60, 142, 149, 156, 163, 170, 177, 182, 189, 196, 203, 208, 215, 222, 229, 236, 27, 47, 72, 79, 86, 93, 100, 107, 114, 121, 128]
abbrev hk : PySem.W.Hook := Hl.hook ads fa fn tf exF
def ob (s : PySem.W.SharedT) : He.AlX := Hl.seenAt ads fa fn tf exF (HandSHeadRun.getT s)
theorem ob_eq (s : PySem.W.SharedT) : ob s = hk.obs s.abs := Hl.seenAt_eq (HandSHeadRun.getT_eq s)
def loose : List PySem.Str := (["BadArgument", "Flaw", "need", "LETTERS", "DIGITS", "MOST_TEXT", "MOST_DEEP", "Reader", "is_text", "tree_of", "flaw", "within_parentheses", "plain", "plain_text", "letters", "_law_taken", "_law_pick", "_law_refused", "_law_alike", "_law_right", "_law_text", "_law_flaw"] : List PySem.Str)
theorem run (w : World) : HandSHeadRun.RunEq R (PySem.W.view R.prog [26]) hk ob 20000 loose w := by
  intro os
  kernel_rfl
end K02
/-! Data, and a small logic of what is owned: for readings of the hand layer. -/
namespace Sl
open PySem PySem.Spec
open PyProof.Rows L2
/-- immutable data -/
inductive D where
  | non | bl (b : Bool) | int (i : Int) | str (x : Str) | tup (ds : List D)
mutual
/-- v stands for d -/
inductive RD (K : PySem.W.Frag) (H : Hp) : D → V → Prop
  | non : RD K H .non .non
  | bl (b : Bool) : RD K H (.bl b) (.bl b)
  | int (i : Int) : RD K H (.int i) (.int i)
  | str (x : Str) : RD K H (.str x) (.str x)
  | tup {a : Addr} {xs : List V} {ds : List D} : SqT K H a xs → RDs K H ds xs → RD K H (.tup ds) (.ref a)
inductive RDs (K : PySem.W.Frag) (H : Hp) : List D → List V → Prop
  | nil : RDs K H [] []
  | cons {d : D} {ds : List D} {v : V} {vs : List V} : RD K H d v → RDs K H ds vs → RDs K H (d :: ds) (v :: vs)
end
/-- tuples stay -/
def TEx (H H' : Hp) : Prop := ∀ a xs, Rd H a (.tup xs) → Rd H' a (.tup xs)
/-- what was tracked stays -/
def Ex (H H' : Hp) : Prop := ∀ a o, H a = some o → H' a = some o
/-- .. but at M -/
def ExB (M : List Addr) (H H' : Hp) : Prop := ∀ a o, a ∉ M → H a = some o → H' a = some o
theorem Ex.refl (H : Hp) : Ex H H := fun _ _ h => h
theorem Ex.trans {H H1 H2 : Hp} (a : Ex H H1) (b : Ex H1 H2) : Ex H H2 := fun x o h => b x o (a x o h)
theorem ExB.refl (M : List Addr) (H : Hp) : ExB M H H := fun _ _ _ h => h
theorem ExB.trans {M : List Addr} {H H1 H2 : Hp} (a : ExB M H H1) (b : ExB M H1 H2) : ExB M H H2 := fun x o n h => b x o n (a x o n h)
theorem Ex.b {M : List Addr} {H H' : Hp} (e : Ex H H') : ExB M H H' := fun x o _ h => e x o h
theorem ExB.ex {H H' : Hp} (e : ExB [] H H') : Ex H H' := fun x o h => e x o (by simp) h
theorem ExB.mono {M M' : List Addr} {H H' : Hp} (e : ExB M H H') (h : ∀ a ∈ M, a ∈ M') : ExB M' H H' := fun x o n q => e x o (fun z => n (h x z)) q
theorem TEx.refl (H : Hp) : TEx H H := fun _ _ h => h
theorem TEx.trans {H H1 H2 : Hp} (a : TEx H H1) (b : TEx H1 H2) : TEx H H2 := fun x o h => b x o (a x o h)
theorem Ex.t {H H' : Hp} (e : Ex H H') : TEx H H' := fun a xs h => by
  rcases h with h | ⟨o, h⟩
  · exact .inl (e a _ h)
  · exact .inr ⟨o, e a _ h⟩
theorem TEx.sq {K : PySem.W.Frag} {H H' : Hp} {a : Addr} {xs : List V} (e : TEx H H') (h : SqT K H a xs) : SqT K H' a xs := by
  rcases h with h | h
  · exact .inl (e a xs h)
  · exact .inr h
theorem Ex.sqL {K : PySem.W.Frag} {H H' : Hp} {a : Addr} {xs : List V} (e : Ex H H') (h : SqL K H a xs) : SqL K H' a xs := by
  rcases h with (h | ⟨o, h⟩) | h
  · exact .inl (.inl (e a _ h))
  · exact .inl (.inr ⟨o, e a _ h⟩)
  · exact .inr h
mutual
theorem RD.mono {K : PySem.W.Frag} {H H' : Hp} (e : TEx H H') : ∀ {d : D} {v : V}, RD K H d v → RD K H' d v
  | _, _, .non => .non
  | _, _, .bl b => .bl b
  | _, _, .int i => .int i
  | _, _, .str x => .str x
  | _, _, .tup h r => .tup (e.sq h) (RDs.mono e r)
theorem RDs.mono {K : PySem.W.Frag} {H H' : Hp} (e : TEx H H') : ∀ {ds : List D} {vs : List V}, RDs K H ds vs → RDs K H' ds vs
  | _, _, .nil => .nil
  | _, _, .cons h r => .cons (RD.mono e h) (RDs.mono e r)
end
theorem RDs.len {K : PySem.W.Frag} {H : Hp} : ∀ {ds : List D} {vs : List V}, RDs K H ds vs → vs.length = ds.length
  | _, _, .nil => rfl
  | _, _, .cons _ r => by simp [RDs.len r]
theorem RDs.get {K : PySem.W.Frag} {H : Hp} : ∀ {ds : List D} {vs : List V} {i : Nat} {d : D}, RDs K H ds vs → ds[i]? = some d → ∃ v, vs[i]? = some v ∧ RD K H d v
  | _, _, _, _, .nil, e => by simp at e
  | _, _, 0, _, .cons r _, e => by simp at e; subst e; exact ⟨_, rfl, r⟩
  | _, _, i + 1, d, .cons _ t, e => by
    obtain ⟨v, h1, h2⟩ := RDs.get (i := i) t (by simpa using e)
    exact ⟨v, by simpa using h1, h2⟩
theorem RDs.getV {K : PySem.W.Frag} {H : Hp} : ∀ {ds : List D} {vs : List V} {i : Nat} {v : V}, RDs K H ds vs → vs[i]? = some v → ∃ d, ds[i]? = some d ∧ RD K H d v
  | _, _, _, _, .nil, e => by simp at e
  | _, _, 0, _, .cons r _, e => by simp at e; subst e; exact ⟨_, rfl, r⟩
  | _, _, i + 1, v, .cons _ t, e => by
    obtain ⟨d, h1, h2⟩ := RDs.getV (i := i) t (by simpa using e)
    exact ⟨d, by simpa using h1, h2⟩
theorem RDs.append {K : PySem.W.Frag} {H : Hp} : ∀ {ds es : List D} {vs ws : List V}, RDs K H ds vs → RDs K H es ws → RDs K H (ds ++ es) (vs ++ ws)
  | _, _, _, _, .nil, s => s
  | _, _, _, _, .cons r t, s => .cons r (RDs.append t s)
theorem RDs.take {K : PySem.W.Frag} {H : Hp} : ∀ {ds : List D} {vs : List V} (n : Nat), RDs K H ds vs → RDs K H (ds.take n) (vs.take n)
  | _, _, 0, _ => .nil
  | _, _, _ + 1, .nil => .nil
  | _, _, n + 1, .cons r t => .cons r (RDs.take n t)
theorem RDs.drop {K : PySem.W.Frag} {H : Hp} : ∀ {ds : List D} {vs : List V} (n : Nat), RDs K H ds vs → RDs K H (ds.drop n) (vs.drop n)
  | _, _, 0, r => r
  | _, _, _ + 1, .nil => .nil
  | _, _, n + 1, .cons _ t => RDs.drop n t
theorem RDs.set {K : PySem.W.Frag} {H : Hp} {d : D} {v : V} (r : RD K H d v) : ∀ {ds : List D} {vs : List V} (i : Nat), RDs K H ds vs → RDs K H (ds.set i d) (vs.set i v)
  | _, _, _, .nil => .nil
  | _, _, 0, .cons _ t => .cons r t
  | _, _, i + 1, .cons q t => .cons q (RDs.set r i t)
theorem RDs.one {K : PySem.W.Frag} {H : Hp} {d : D} {v : V} (r : RD K H d v) : RDs K H [d] [v] := .cons r .nil
theorem RD.ofInt {K : PySem.W.Frag} {H : Hp} {i : Int} {v : V} (r : RD K H (.int i) v) : v = .int i := by cases r; rfl
theorem RD.ofBl {K : PySem.W.Frag} {H : Hp} {b : Bool} {v : V} (r : RD K H (.bl b) v) : v = .bl b := by cases r; rfl
theorem RD.ofStr {K : PySem.W.Frag} {H : Hp} {x : Str} {v : V} (r : RD K H (.str x) v) : v = .str x := by cases r; rfl
theorem RD.ofNon {K : PySem.W.Frag} {H : Hp} {v : V} (r : RD K H .non v) : v = .non := by cases r; rfl
theorem RD.ofTup {K : PySem.W.Frag} {H : Hp} {ds : List D} {v : V} (r : RD K H (.tup ds) v) : ∃ a xs, v = .ref a ∧ SqT K H a xs ∧ RDs K H ds xs := by cases r with | tup h r => exact ⟨_, _, rfl, h, r⟩
theorem RDs.ofCons {K : PySem.W.Frag} {H : Hp} {d : D} {ds : List D} {vs : List V} (r : RDs K H (d :: ds) vs) : ∃ v ws, vs = v :: ws ∧ RD K H d v ∧ RDs K H ds ws := by cases r with | cons a b => exact ⟨_, _, rfl, a, b⟩
theorem RDs.ofNil {K : PySem.W.Frag} {H : Hp} {vs : List V} (r : RDs K H [] vs) : vs = [] := by cases r; rfl
theorem RDs.ints {K : PySem.W.Frag} {H : Hp} : ∀ {ns : List Int} {vs : List V}, RDs K H (ns.map D.int) vs → vs = ns.map V.int
  | [], _, r => r.ofNil
  | n :: ns, _, r => by
    obtain ⟨v, ws, rfl, h1, h2⟩ := RDs.ofCons r
    rw [h1.ofInt, RDs.ints h2] <;> rfl
theorem RDs.ofInts (K : PySem.W.Frag) (H : Hp) : ∀ (ns : List Int), RDs K H (ns.map D.int) (ns.map V.int)
  | [] => .nil
  | n :: ns => .cons (.int n) (RDs.ofInts K H ns)
/-! ### what is known of the heap -/
/-- a thing known of the heap, with the addresses that it leans on -/
structure As where
  P : Hp → List Addr → Prop
  there : ∀ {H : Hp} {fp : List Addr}, P H fp → ∀ a ∈ fp, ∃ o, H a = some o
  loc : ∀ {H H' : Hp} {fp : List Addr}, P H fp → (∀ a ∈ fp, H' a = H a) → TEx H H' → P H' fp
/-- data -/
def dt (K : PySem.W.Frag) (d : D) (v : V) : As where
  P := fun H fp => fp = [] ∧ RD K H d v
  there := fun h a ha => by rw [h.1] at ha; simp at ha
  loc := fun h _ t => ⟨h.1, h.2.mono t⟩
/-- an object -/
def pt (a : Addr) (o : HO) : As where
  P := fun H fp => fp = [a] ∧ H a = some o
  there := fun h b hb => by rw [h.1] at hb; simp at hb; subst hb; exact ⟨_, h.2⟩
  loc := fun h k _ => ⟨h.1, by rw [k a (by rw [h.1]; simp)]; exact h.2⟩
/-- a list of data -/
def ls (K : PySem.W.Frag) (a : Addr) (ds : List D) : As where
  P := fun H fp => fp = [a] ∧ ∃ xs, H a = some (.lst xs) ∧ RDs K H ds xs
  there := fun h b hb => by rw [h.1] at hb; simp at hb; subst hb; exact ⟨_, h.2.choose_spec.1⟩
  loc := fun h k t => ⟨h.1, by obtain ⟨xs, h1, h2⟩ := h.2; exact ⟨xs, by rw [k a (by rw [h.1]; simp)]; exact h1, h2.mono t⟩⟩
/-- both -/
def sep (A B : As) : As where
  P := fun H fp => ∃ f g, fp = f ++ g ∧ A.P H f ∧ B.P H g
  there := fun h b hb => by
    obtain ⟨f, g, rfl, h1, h2⟩ := h
    rcases List.mem_append.mp hb with z | z
    · exact A.there h1 b z
    · exact B.there h2 b z
  loc := fun h k t => by
    obtain ⟨f, g, rfl, h1, h2⟩ := h
    exact ⟨f, g, rfl, A.loc h1 (fun a ha => k a (List.mem_append_left _ ha)) t, B.loc h2 (fun a ha => k a (List.mem_append_right _ ha)) t⟩
/-- with a plain fact -/
def pur (p : Prop) : As where
  P := fun _ fp => fp = [] ∧ p
  there := fun h a ha => by rw [h.1] at ha; simp at ha
  loc := fun h _ _ => h
def exs {α : Type} (A : α → As) : As where
  P := fun H fp => ∃ x, (A x).P H fp
  there := fun ⟨x, h⟩ => (A x).there h
  loc := fun ⟨x, h⟩ k t => ⟨x, (A x).loc h k t⟩
inductive All2 (H : Hp) : List As → List (List Addr) → Prop
  | nil : All2 H [] []
  | cons {A : As} {l : List As} {fp : List Addr} {fps : List (List Addr)} : A.P H fp → All2 H l fps → All2 H (A :: l) (fp :: fps)
theorem All2.loc {H H' : Hp} (t : TEx H H') : ∀ {l : List As} {fps : List (List Addr)}, All2 H l fps → (∀ a ∈ fps.flatten, H' a = H a) → All2 H' l fps
  | _, _, .nil, _ => .nil
  | _, _, .cons h r, k => .cons (As.loc _ h (fun a ha => k a (by simp [ha])) t) (All2.loc t r fun a ha => k a (by simp at ha ⊢; exact .inr ha))
theorem All2.there {H : Hp} : ∀ {l : List As} {fps : List (List Addr)}, All2 H l fps → ∀ a ∈ fps.flatten, ∃ o, H a = some o
  | _, _, .nil, a, ha => by simp at ha
  | _, _, .cons h r, a, ha => by
    rw [List.flatten_cons] at ha
    rcases List.mem_append.mp ha with z | z
    · exact As.there _ h a z
    · exact All2.there r a z
theorem All2.mem {H : Hp} {A : As} : ∀ {l : List As} {fps : List (List Addr)}, All2 H l fps → A ∈ l → ∃ fp, A.P H fp ∧ ∀ a ∈ fp, a ∈ fps.flatten
  | _, _, .nil, h => by cases h
  | _, _, .cons h r, m => by
    rcases List.mem_cons.mp m with rfl | m
    · exact ⟨_, h, fun a ha => by simp [ha]⟩
    · obtain ⟨fp, h1, h2⟩ := All2.mem r m
      exact ⟨fp, h1, fun a ha => by rw [List.flatten_cons]; exact List.mem_append_right _ (h2 a ha)⟩
/-- one of a list, and the others -/
inductive Pick : List As → As → List As → Prop
  | here {A : As} {r : List As} : Pick (A :: r) A r
  | there {A B : As} {l r : List As} : Pick l A r → Pick (B :: l) A (B :: r)
theorem Pick.mem {l r : List As} {A : As} (p : Pick l A r) : A ∈ l := by
  induction p with
  | here => exact List.mem_cons_self
  | there _ ih => exact List.mem_cons_of_mem _ ih
theorem All2.pick {H : Hp} {l r : List As} {A : As} (p : Pick l A r) : ∀ {fps : List (List Addr)}, All2 H l fps → ∃ fp rest, A.P H fp ∧ All2 H r rest ∧ (fp ++ rest.flatten).Perm fps.flatten := by
  induction p with
  | here =>
    intro fps h
    cases h with
    | cons h t => exact ⟨_, _, h, t, by simp⟩
  | there p ih =>
    intro fps h
    cases h with
    | @cons B l f fs h t =>
      obtain ⟨fp, rest, h1, h2, h3⟩ := ih t
      refine ⟨fp, f :: rest, h1, .cons h h2, ?_⟩
      rw [List.flatten_cons, List.flatten_cons]
      calc
        (fp ++ (f ++ rest.flatten)).Perm (f ++ (fp ++ rest.flatten)) := by
          rw [← List.append_assoc, ← List.append_assoc]
          exact (List.perm_append_comm).append_right _
        _ |>.Perm (f ++ fs.flatten) := h3.append_left _
/-- the state of a body: entered at H0, it may change what stands at M; LO is its own (apart from all else), LB is known besides -/
structure SH (K : PySem.W.Frag) (H0 : Hp) (M : List Addr) (LO LB : List As) (H : Hp) : Prop where
  ex : ExB M H0 H
  tx : TEx H0 H
  own : ∃ fps fbs : List (List Addr), All2 H LO fps ∧ All2 H LB fbs ∧ fps.flatten.Nodup ∧ (∀ a ∈ fps.flatten, (H0 a = none ∨ a ∈ M) ∧ a ∉ fbs.flatten)
section
variable {K : PySem.W.Frag} {H0 H H' : Hp} {M : List Addr} {LO LB LO' LB' : List As} {A B : As}
theorem SH.lb (S : SH K H0 M LO LB H) (m : A ∈ LB) : ∃ fp, A.P H fp := by
  obtain ⟨_, _, _, h, _⟩ := S.own
  obtain ⟨fp, h1, _⟩ := h.mem m
  exact ⟨fp, h1⟩
theorem SH.lo (S : SH K H0 M LO LB H) (m : A ∈ LO) : ∃ fp, A.P H fp := by
  obtain ⟨_, _, h, _, _⟩ := S.own
  obtain ⟨fp, h1, _⟩ := h.mem m
  exact ⟨fp, h1⟩
/-- known, own or not -/
theorem SH.at (S : SH K H0 M LO LB H) (m : A ∈ LO ∨ A ∈ LB) : ∃ fp, A.P H fp := m.elim S.lo S.lb
theorem SH.rd {d : D} {v : V} (S : SH K H0 M LO LB H) (m : dt K d v ∈ LB) : RD K H d v := by
  obtain ⟨_, _, h⟩ := S.lb m
  exact h
theorem SH.start (H : Hp) : SH K H [] [] [] H := ⟨ExB.refl _ _, TEx.refl _, [], [], .nil, .nil, by simp, fun a h => by simp at h⟩
/-- something more is known, that leans on nothing of one's own -/
theorem SH.know {fp : List Addr} (S : SH K H0 M LO LB H) (h : A.P H fp) (hf : ∀ fps, All2 H LO fps → ∀ a ∈ fp, a ∉ fps.flatten) : SH K H0 M LO (A :: LB) H := by
  obtain ⟨fps, fbs, h1, h2, h3, h4⟩ := S.own
  refine ⟨S.ex, S.tx, fps, fp :: fbs, h1, .cons h h2, h3, fun a ha => ⟨(h4 a ha).1, ?_⟩⟩
  rw [List.flatten_cons]
  intro z
  rcases List.mem_append.mp z with z | z
  · exact hf fps h1 a z ha
  · exact (h4 a ha).2 z
theorem SH.data {d : D} {v : V} (S : SH K H0 M LO LB H) (h : RD K H d v) : SH K H0 M LO (dt K d v :: LB) H :=
  S.know (A := dt K d v) (fp := []) ⟨rfl, h⟩ fun _ _ a ha => by simp at ha
/-- at the entry (nothing is one's own) -/
theorem SH.know0 {fp : List Addr} (S : SH K H0 M [] LB H) (h : A.P H fp) : SH K H0 M [] (A :: LB) H :=
  S.know h fun fps q a _ => by cases q; simp
/-- one's own is let go: it is known still -/
theorem SH.freeze (S : SH K H0 M LO LB H) (p : Pick LO A LO') : SH K H0 M LO' (A :: LB) H := by
  obtain ⟨fps, fbs, h1, h2, h3, h4⟩ := S.own
  obtain ⟨fp, rest, q1, q2, q3⟩ := h1.pick p
  have nd := (q3.nodup_iff).mpr h3
  refine ⟨S.ex, S.tx, rest, fp :: fbs, q2, .cons q1 h2, (List.nodup_append.mp nd).2.1, fun a ha => ?_⟩
  have ha' : a ∈ fps.flatten := q3.mem_iff.mp (List.mem_append_right _ ha)
  refine ⟨(h4 a ha').1, ?_⟩
  rw [List.flatten_cons]
  intro z
  rcases List.mem_append.mp z with z | z
  · exact (List.nodup_append.mp nd).2.2 a z a ha rfl
  · exact (h4 a ha').2 z
/-- less is told -/
theorem SH.dropB (S : SH K H0 M LO LB H) (h : ∀ A ∈ LB', A ∈ LB) : SH K H0 M LO LB' H := by
  obtain ⟨fps, fbs, h1, h2, h3, h4⟩ := S.own
  have key : ∀ l : List As, (∀ A ∈ l, A ∈ LB) → ∃ gs, All2 H l gs ∧ ∀ a ∈ gs.flatten, a ∈ fbs.flatten := by
    intro l
    induction l with
    | nil => exact fun _ => ⟨[], .nil, fun a ha => by simp at ha⟩
    | cons B l ih =>
      intro hl
      obtain ⟨gs, g1, g2⟩ := ih fun A hA => hl A (List.mem_cons_of_mem _ hA)
      obtain ⟨fp, e1, e2⟩ := h2.mem (hl B List.mem_cons_self)
      refine ⟨fp :: gs, .cons e1 g1, fun a ha => ?_⟩
      rw [List.flatten_cons] at ha
      rcases List.mem_append.mp ha with z | z
      · exact e2 a z
      · exact g2 a z
  obtain ⟨gs, g1, g2⟩ := key LB' h
  exact ⟨S.ex, S.tx, fps, gs, h1, g1, h3, fun a ha => ⟨(h4 a ha).1, fun z => (h4 a ha).2 (g2 a z)⟩⟩
theorem SH.drop (S : SH K H0 M LO LB H) (p : Pick LO A LO') : SH K H0 M LO' LB H := (S.freeze p).dropB fun _ h => List.mem_cons_of_mem _ h
theorem SH.front (S : SH K H0 M LO LB H) (p : Pick LO A LO') : SH K H0 M (A :: LO') LB H := by
  obtain ⟨fps, fbs, h1, h2, h3, h4⟩ := S.own
  obtain ⟨fp, rest, q1, q2, q3⟩ := h1.pick p
  refine ⟨S.ex, S.tx, fp :: rest, fbs, .cons q1 q2, h2, ?_, fun a ha => ?_⟩
  · rw [List.flatten_cons]; exact (q3.nodup_iff).mpr h3
  · rw [List.flatten_cons] at ha; exact h4 a (q3.mem_iff.mp ha)
/-- a row of the first list within the second -/
inductive Sub : List As → List As → Prop
  | nil {l : List As} : Sub [] l
  | cons {A : As} {k l r : List As} : Pick l A r → Sub k r → Sub (A :: k) l
theorem SH.sub (h : Sub LO' LO) (S : SH K H0 M LO LB H) : SH K H0 M LO' LB H := by
  obtain ⟨fps, fbs, h1, h2, h3, h4⟩ := S.own
  have key : ∀ {k l : List As}, Sub k l → ∀ fps : List (List Addr), All2 H l fps → fps.flatten.Nodup → ∃ gs, All2 H k gs ∧ gs.flatten.Nodup ∧ ∀ a ∈ gs.flatten, a ∈ fps.flatten := by
    intro k l s
    induction s with
    | nil => exact fun fps _ _ => ⟨[], .nil, by simp, fun a ha => by simp at ha⟩
    | cons p _ ih =>
      intro fps q nd
      obtain ⟨fp, rest, q1, q2, q3⟩ := q.pick p
      have nd' := (q3.nodup_iff).mpr nd
      obtain ⟨n1, n2, n3⟩ := List.nodup_append.mp nd'
      obtain ⟨gs, g1, g2, g3⟩ := ih rest q2 n2
      refine ⟨fp :: gs, .cons q1 g1, ?_, fun a ha => ?_⟩
      · rw [List.flatten_cons]
        exact List.nodup_append.mpr ⟨n1, g2, fun a ha b hb => n3 a ha b (g3 b hb)⟩
      · rw [List.flatten_cons] at ha
        rcases List.mem_append.mp ha with z | z
        · exact q3.mem_iff.mp (List.mem_append_left _ z)
        · exact q3.mem_iff.mp (List.mem_append_right _ (g3 a z))
  obtain ⟨gs, g1, g2, g3⟩ := key h fps h1 h3
  exact ⟨S.ex, S.tx, gs, fbs, g1, h2, g2, fun a ha => h4 a (g3 a ha)⟩
/-- a change of heap in which the objects of fp (own things A) may have become others -/
theorem SH.step (S : SH K H0 M LO LB H) (p : Pick LO A LO') (h : ∀ fp, A.P H fp → (∀ a ∈ fp, H0 a = none ∨ a ∈ M) → fp.Nodup →
      ExB fp H H' ∧ TEx H H' ∧ ∃ fp', B.P H' fp' ∧ fp'.Nodup ∧ ∀ a ∈ fp', a ∈ fp ∨ H a = none) : SH K H0 M (B :: LO') LB H' := by
  obtain ⟨fps, fbs, h1, h2, h3, h4⟩ := S.own
  obtain ⟨fp, rest, q1, q2, q3⟩ := h1.pick p
  have nd := (q3.nodup_iff).mpr h3
  obtain ⟨n1, n2, n3⟩ := List.nodup_append.mp nd
  have inF : ∀ a ∈ fp, a ∈ fps.flatten := fun a ha => q3.mem_iff.mp (List.mem_append_left _ ha)
  have inR : ∀ a ∈ rest.flatten, a ∈ fps.flatten := fun a ha => q3.mem_iff.mp (List.mem_append_right _ ha)
  obtain ⟨e, t, fp', b1, b2, b3⟩ := h fp q1 (fun a ha => (h4 a (inF a ha)).1) n1
  have keepR : ∀ a ∈ rest.flatten, H' a = H a := fun a ha => by
    obtain ⟨o, ho⟩ := q2.there a ha
    rw [ho]
    exact e a o (fun z => n3 a z a ha rfl) ho
  have keepB : ∀ a ∈ fbs.flatten, H' a = H a := fun a ha => by
    obtain ⟨o, ho⟩ := h2.there a ha
    rw [ho]
    exact e a o (fun z => (h4 a (inF a z)).2 ha) ho
  refine ⟨fun a o na ho => ?_, S.tx.trans t, fp' :: rest, fbs, .cons b1 (q2.loc t keepR), h2.loc t keepB, ?_, fun a ha => ?_⟩
  · refine e a o (fun z => ?_) (S.ex a o na ho)
    rcases (h4 a (inF a z)).1 with w | w
    · rw [ho] at w; cases w
    · exact na w
  · rw [List.flatten_cons]
    refine List.nodup_append.mpr ⟨b2, n2, fun a ha b hb e => ?_⟩
    subst e
    rcases b3 a ha with z | z
    · exact n3 a z a hb rfl
    · obtain ⟨o, ho⟩ := q2.there a hb
      rw [ho] at z; cases z
  · rw [List.flatten_cons] at ha
    rcases List.mem_append.mp ha with z | z
    · rcases b3 a z with w | w
      · exact h4 a (inF a w)
      · refine ⟨?_, fun y => ?_⟩
        · cases q : H0 a with
          | none => exact .inl rfl
          | some o =>
            by_cases hm : a ∈ M
            · exact .inr hm
            · have := S.ex a o hm q
              rw [w] at this; cases this
        · obtain ⟨o, ho⟩ := h2.there a y
          rw [w] at ho; cases ho
    · exact h4 a (inR a z)
/-- the heap grows; what grew is one's own -/
theorem SH.grow {fp : List Addr} (S : SH K H0 M LO LB H) (e : Ex H H') (h : A.P H' fp) (nd : fp.Nodup) (nw : ∀ a ∈ fp, H a = none) : SH K H0 M (A :: LO) LB H' := by
  have S1 : SH K H0 M (pur True :: LO) LB H := by
    obtain ⟨fps, fbs, h1, h2, h3, h4⟩ := S.own
    exact ⟨S.ex, S.tx, [] :: fps, fbs, .cons ⟨rfl, trivial⟩ h1, h2, by simpa using h3, fun a ha => h4 a (by simpa using ha)⟩
  exact S1.step .here fun f hf _ _ => ⟨e.b, e.t, fp, h, nd, fun a ha => .inr (nw a ha)⟩
/-- .. nothing of it matters -/
theorem SH.ext (S : SH K H0 M LO LB H) (e : Ex H H') : SH K H0 M LO LB H' :=
  (S.grow (A := pur True) (fp := []) e ⟨rfl, trivial⟩ (by simp) (fun a ha => by simp at ha)).drop .here
theorem ex_new {p : Addr} {o : HO} (h : H p = none) : Ex H (upd H p o) := fun a u e => by
  rw [upd_ne (ne_of_none e h)]
  exact e
/-- a new object -/
theorem SH.new {p : Addr} {o : HO} (S : SH K H0 M LO LB H) (h : H p = none) : SH K H0 M (pt p o :: LO) LB (upd H p o) :=
  S.grow (A := pt p o) (fp := [p]) (ex_new h) ⟨rfl, upd_same⟩ (by simp) (fun a ha => by simp at ha; rw [ha]; exact h)
/-- a new list of data -/
theorem SH.newL {p : Addr} {xs : List V} {ds : List D} (S : SH K H0 M LO LB H) (h : H p = none) (r : RDs K H ds xs) : SH K H0 M (ls K p ds :: LO) LB (upd H p (.lst xs)) :=
  S.grow (A := ls K p ds) (fp := [p]) (ex_new h) ⟨rfl, xs, upd_same, r.mono (ex_new h).t⟩ (by simp) (fun a ha => by simp at ha; rw [ha]; exact h)
/-- a new tuple of data -/
theorem SH.newT {p : Addr} {xs : List V} {ds : List D} (S : SH K H0 M LO LB H) (h : H p = none) (r : RDs K H ds xs) : SH K H0 M LO (dt K (.tup ds) (.ref p) :: LB) (upd H p (.tup xs)) :=
  (S.ext (ex_new h)).data (.tup (.inl (.inl upd_same)) (r.mono (ex_new h).t))
theorem tex_put {p : Addr} {o o' : HO} (h : H p = some o) (n1 : ∀ xs, o ≠ .tup xs) (n2 : ∀ ob u, o ≠ .frz ob u) : TEx H (upd H p o') := fun a xs r => by
  rcases r with r | ⟨ob, r⟩
  · refine .inl ?_
    rw [upd_ne (ne_of r h (n1 xs).symm)]
    exact r
  · refine .inr ⟨ob, ?_⟩
    rw [upd_ne (ne_of r h (n2 ob _).symm)]
    exact r
/-- an object of one's own becomes another -/
theorem SH.put {p : Addr} {o o' : HO} (S : SH K H0 M LO LB H) (q : Pick LO (pt p o) LO') (n1 : ∀ xs, o ≠ .tup xs := by intro xs z; cases z) (n2 : ∀ ob u, o ≠ .frz ob u := by intro a b z; cases z) : SH K H0 M (pt p o' :: LO') LB (upd H p o') :=
  S.step q fun fp h _ _ => by
    obtain ⟨rfl, h⟩ := h
    refine ⟨fun a u na e => ?_, tex_put h n1 n2, [p], ⟨rfl, upd_same⟩, by simp, fun a ha => .inl ha⟩
    rw [upd_ne (by simpa using na)]
    exact e
/-- a list of one's own becomes another -/
theorem SH.putL {p : Addr} {ds es : List D} {ys : List V} (S : SH K H0 M LO LB H) (q : Pick LO (ls K p ds) LO') (r : RDs K H es ys) : SH K H0 M (ls K p es :: LO') LB (upd H p (.lst ys)) :=
  S.step q fun fp h _ _ => by
    obtain ⟨rfl, xs, h, _⟩ := h
    have t : TEx H (upd H p (.lst ys)) := tex_put h (by intro xs z; cases z) (by intro a b z; cases z)
    refine ⟨fun a u na e => ?_, t, [p], ⟨rfl, ys, upd_same, r.mono t⟩, by simp, fun a ha => .inl ha⟩
    rw [upd_ne (by simpa using na)]
    exact e
theorem SH.getL {p : Addr} {ds : List D} (S : SH K H0 M LO LB H) (m : ls K p ds ∈ LO ∨ ls K p ds ∈ LB) : ∃ xs, H p = some (.lst xs) ∧ RDs K H ds xs := by
  obtain ⟨_, _, h⟩ := S.at m
  exact h
theorem SH.getO {p : Addr} {o : HO} (S : SH K H0 M LO LB H) (m : pt p o ∈ LO ∨ pt p o ∈ LB) : H p = some o := by
  obtain ⟨_, _, h⟩ := S.at m
  exact h
end
end Sl
/-! enumerate over a text and over a tuple. -/
namespace EnX
open PySem
open AutoSeq1 (wpAny_loadPart')
abbrev tIt (l : Addr) : Obj := { cls := .type "tuple_iterator", data := .fields #[.ref l, .int 0 0] }
abbrev eOb (it : Addr) : Obj := { cls := .type "enumerate", data := .fields #[.none, .bool false, .ref it, rawInt 0, .none, .none] }
theorem newT (l : Addr) (items : Array Value) :
    Meets (Builtin.«enumerate.__new__» ⟨[.type "enumerate", .ref l], []⟩) (fun _ R s => s.heap.IsTuple l items ∧
      R (.ok (.ret (.ref (s.heap.push (tIt l)).objs.size)))
        { s with heap := (s.heap.push (tIt l)).push (eOb s.heap.objs.size) }) := by
  refine .of_wp fun prog w A R s h => ?_
  obtain ⟨hp, g, d, tk, os⟩ := s
  obtain ⟨hl, h⟩ := h
  have hsub := sub_enumerate
  have hL : Heap.IsTuple (Shared.heap ⟨hp, g, d, tk, os⟩) l items := hl
  obtain ⟨o0, e0, c0, n0, d0⟩ := id hl
  wp_walk using wpAny_loadPart' e0
  refine wpAny_stack_any fun st => ?_
  refine wpAny_pure ?_
  split
  · rename_i c _ _ _ _ _
    cases (c == Value.type "enumerate") <;>
      (wp_walk using wpAny_loadPart' e0, wpAny_pyIter_tuple hL
       exact ⟨_, rfl, h⟩)
  · wp_walk using wpAny_loadPart' e0, wpAny_pyIter_tuple hL
    exact ⟨_, rfl, h⟩
theorem call_tup {prog : Program} {w : World} {A : Around} {E : Value → Shared → Prop} {s : Shared} {l : Addr} {items : Array Value} {Q : Value → Shared → Prop} (hL : s.heap.IsTuple l items)
    (h : ∀ h', IsEnum h' (s.heap.objs.size + 1) s.heap.objs.size 0 .none → h'.IsTupleIter s.heap.objs.size l 0 →
      (∀ b o, s.heap.get? b = some o → h'.get? b = some o) → Q (.ref (s.heap.objs.size + 1)) { s with heap := h' }) :
    wpAny (model prog w) A (call (.type "enumerate") [.ref l]) Q E s := by
  refine callType_new F.called_enumerate (by decide) (F.typeCall_enumerate_1 _) (F.newCall_enumerate_1 _)
    (fun obj => F.args_object_init_2 obj _) F.entry_enumerate_new (newT l items) ⟨hL, ?_⟩
  have hz : (s.heap.push (tIt l)).objs.size = s.heap.objs.size + 1 := Heap.size_push ..
  show _ ∧ _
  rw [hz]
  have he : IsEnum ((s.heap.push (tIt l)).push (eOb s.heap.objs.size)) (s.heap.objs.size + 1) s.heap.objs.size 0 .none := by
    have q := Heap.get?_push_size (s.heap.push (tIt l)) (o := eOb s.heap.objs.size) rfl
    rw [hz] at q
    exact q
  refine ⟨⟨_, he, rfl⟩, h _ he ?_ fun b o x => ?_⟩
  · exact ⟨_, Heap.get?_push_of_some _ (Heap.get?_push_size _ rfl), rfl, rfl⟩
  · exact Heap.get?_push_of_some _ (Heap.get?_push_of_some _ x)
end EnX
namespace L2
open PySem PySem.Spec
open PyProof.Rows
/-- pairs of a turn's number and a thing, new at each turn -/
def ItP (n : Nat) (Y : Nat → V → Prop) : It where
  go i _ := i < n
  yld i H v H' := ∃ T x, v = .ref T ∧ H T = none ∧ H' = upd H T (.tup [.int (i : Nat), x]) ∧ Y i x
  stop i _ := i = n
/-- the same over a tuple that is read -/
def ItQ (K : PySem.W.Frag) (a : Addr) : It where
  go i H := ∃ (xs : List V) (x : V), SqT K H a xs ∧ xs[i]? = some x
  yld i H v H' := ∃ T x, v = .ref T ∧ H T = none ∧ H' = upd H T (.tup [.int (i : Nat), x]) ∧ ∀ xs, SqT K H a xs → xs[i]? = some x
  stop i H := ∃ xs : List V, SqT K H a xs ∧ i = xs.length
/-- behind a turn of an enumerate: the pair is told -/
theorem enum_told {X : Cx} {pins : List (Addr × Obj)} {σ : St} {H : Hp} {s : Shared} {e it : Addr} {elts : List Expr} {kk : Nat} {tpos : Pos} {i tk : Nat} {x : V} {u : Value} {h' : Heap} {E : Value → Shared → Prop} {tn : Nat → Heap → Prop} {Y : Hp → V → Hp → Prop}
    (I : Inv X pins σ H s) (hf : ∀ b ∈ [e, it], FpOk X pins H b) (hel : e < s.heap.objs.size) (hil : it < s.heap.objs.size) (hne : e ≠ it) (ru : RelV x u)
    (ho : IsEnumOut h' e it ((i : Int) + 1) u s.heap.objs.size) (hT : h'.get? s.heap.objs.size = some { cls := .type "tuple", data := .seq #[.int i tk, u] })
    (hk : ∀ b o, b ≠ e → b ≠ it → s.heap.get? b = some o → h'.get? b = some o)
    (hst : ∀ h'', (∀ b o, b ≠ e → h'.get? b = some o → h''.get? b = some o) → IsEnum h'' e it ((i : Int) + 1) u → tn (i + 1) h'')
    (hy : H s.heap.objs.size = none → Y H (.ref s.heap.objs.size) (upd H s.heap.objs.size (.tup [.int (i : Nat), x]))) :
    wpAny (model X.prog X.w) X.A (letOwnedTupleGo (.Tuple elts kk tpos) (.ref e) (.ref s.heap.objs.size))
      (fun _ s2 => ∃ z H', Inv X pins σ H' s2 ∧ RelV z (.ref s.heap.objs.size) ∧ Y H z H' ∧ tn (i + 1) s2.heap ∧ ∀ b ∈ [e, it], H' b = none) E { s with heap := h', toks := tk + 1 } := by
  refine wpAny_letOwnedTupleGo_enum (s := { s with heap := h', toks := tk + 1 }) ho fun h'' he' sb => ?_
  have nT : ∀ b, b < s.heap.objs.size → b ≠ s.heap.objs.size := fun b hb => Nat.ne_of_lt hb
  have hT2 : h''.get? s.heap.objs.size = some { cls := .type "tuple", data := .seq #[.int i tk, u] } := (sb.2 _ (Nat.ne_of_gt hel)).trans hT
  have new : ObjOk X.prog X.w (upd H s.heap.objs.size (.tup [.int (i : Nat), x])) h'' s.heap.objs.size (.tup [.int (i : Nat), x]) := by
    refine ⟨by show 2 ≤ sizeLine; decide, [.int i tk, u], .cons ⟨_, rfl⟩ (.cons ru .nil), ?_⟩
    exact ⟨_, hT2, rfl, _, rfl⟩
  have I1 : Inv X pins σ (upd H s.heap.objs.size (.tup [.int (i : Nat), x])) { s with heap := h'', toks := tk + 1 } := by
    refine I.turnedNew (ch := [e, it]) (fun b ob hb q => ?_) hf (Nat.le_refl _) new
    have b1 : b ≠ e := fun z => hb (by simp [z])
    have b2 : b ≠ it := fun z => hb (by simp [z])
    exact (sb.2 b b1).trans (hk b ob b1 b2 q)
  refine ⟨.ref s.heap.objs.size, _, I1, rfl, hy (I.hok.fresh (Nat.le_refl _)), ?_, fun b hb => ?_⟩
  · exact hst h'' (fun b o hb q => (sb.2 b hb).trans q) he'
  · have e' : b = e ∨ b = it := by simpa using hb
    have hb' : b < s.heap.objs.size := by
      rcases e' with z | z
      · rw [z]
        exact hel
      · rw [z]
        exact hil
    rw [upd_ne (nT b hb')]
    exact (hf b hb).1
section
variable {P : Program} {w : World} {K : PySem.W.Frag} {elts : List Expr} {kk : Nat} {tpos : Pos}
theorem turn_enumS (e it : Addr) (z : Str) (t : Tok) :
    Turn P w K (.Tuple elts kk tpos) (ItP z.cps.size fun i v => ∃ c, z.cps[i]? = some c ∧ v = .str ⟨#[c]⟩) [e, it] e (fun i h => (∃ old, IsEnum h e it ((i : Nat) : Int) old) ∧ h.IsStrIter it (strIterType z) z t i ∧ e ≠ it) where
  mem := List.mem_cons_self
  obj := by
    intro i h st b hb
    obtain ⟨⟨old, he⟩, ⟨o, ho, hc, hd⟩, _⟩ := st
    rcases (by simpa using hb : b = e ∨ b = it) with y | y
    · rw [y]
      exact ⟨_, he, fun v q => nomatch q⟩
    · rw [y]
      exact ⟨o, ho, fun v q => by rw [hd] at q; cases q⟩
  keep := by
    intro i h h' st k
    obtain ⟨⟨old, he⟩, ⟨o, ho, r⟩, hne⟩ := st
    exact ⟨⟨old, k e (by simp) _ he⟩, ⟨o, k it (by simp) o ho, r⟩, hne⟩
  item := by
    intro X hP hw hK hc i pins s σ H E I hf st hg
    subst hP hw hK
    obtain ⟨⟨old, he⟩, hit, hne⟩ := st
    have hel : e < s.heap.objs.size := Heap.lt_size he
    have hil : it < s.heap.objs.size := by
      obtain ⟨_, q, _⟩ := hit
      exact Heap.lt_size q
    have Dr := Draws.text (prog := X.prog) (w := X.w) (A := X.A.in1) (I.ok.hd hc) it z t
    refine wpAny_pyNext_enum_itemD Dr he hit hg hne (by simpa using hne) fun x h' tk hx ho hit' hT hsz hk => ?_
    obtain ⟨c, u, hcx, rfl⟩ := hx
    refine ⟨_, rfl, ?_⟩
    refine enum_told (tn := fun i h => (∃ old, IsEnum h e it ((i : Nat) : Int) old) ∧ h.IsStrIter it (strIterType z) z t i ∧ e ≠ it) (x := .str ⟨#[c]⟩) I hf hel hil hne ⟨u, rfl⟩ ho hT hk (fun h'' k q => ⟨⟨.str ⟨#[c]⟩ u, ?_⟩, ?_, hne⟩)
      (Y := (ItP z.cps.size fun i v => ∃ c, z.cps[i]? = some c ∧ v = .str ⟨#[c]⟩).yld i) fun n => ⟨_, _, rfl, n, rfl, c, hcx, rfl⟩
    · have e1 : ((i + 1 : Nat) : Int) = (i : Int) + 1 := by omega
      rw [e1]
      exact q
    · obtain ⟨o, q1, q2⟩ := hit'
      exact ⟨o, k it o (Ne.symm hne) q1, q2⟩
  done := by
    intro X hP hw hK hc i pins s σ H E I hf st hg
    subst hP hw hK
    obtain ⟨⟨old, he⟩, hit, hne⟩ := st
    obtain ⟨f0, f1, f2, f3, f4, f5⟩ := hf it (by simp)
    have fin : ∀ h', Heap.ExtBut it s.heap h' → (none : Option Value) = none ∧ Inv X pins σ H { s with heap := h' } := fun h' eb => ⟨rfl, I.turned (t' := s.toks) (fun b o hb q => eb b o hb q) f0 f1 f3 f4 f5⟩
    have Dr := Draws.text (prog := X.prog) (w := X.w) (A := X.A.in1) (I.ok.hd hc) it z t
    have hT : s.TypeIs (.ref e) "enumerate" := ⟨_, he, rfl⟩
    have hi : i = z.cps.size := hg
    subst hi
    exact wpAny_pyNext_enum_endD Dr he hit fin
  self := fun A i s Q E st h => let ⟨⟨_, he⟩, _⟩ := st; wpAny_pyIter_enum he h
theorem turn_enumT (a e it : Addr) :
    Turn P w K (.Tuple elts kk tpos) (ItQ K a) [e, it] e (fun i h => (∃ old, IsEnum h e it ((i : Nat) : Int) old) ∧ h.IsTupleIter it a i ∧ e ≠ it ∧ a ≠ it ∧ a ≠ e) where
  mem := List.mem_cons_self
  obj := by
    intro i h st b hb
    obtain ⟨⟨old, he⟩, ⟨o, ho, hc, hd⟩, _⟩ := st
    rcases (by simpa using hb : b = e ∨ b = it) with y | y
    · rw [y]
      exact ⟨_, he, fun v q => nomatch q⟩
    · rw [y]
      exact ⟨o, ho, fun v q => by rw [hd] at q; cases q⟩
  keep := by
    intro i h h' st k
    obtain ⟨⟨old, he⟩, ⟨o, ho, r⟩, hne⟩ := st
    exact ⟨⟨old, k e (by simp) _ he⟩, ⟨o, k it (by simp) o ho, r⟩, hne⟩
  item := by
    intro X hP hw hK hc i pins s σ H E I hf st hg
    subst hP hw hK
    obtain ⟨⟨old, he⟩, hit, hne, ha1, ha2⟩ := st
    obtain ⟨xs, x, hq, hx⟩ := hg
    obtain ⟨its, rv, p, hz⟩ := I.tuple hq
    obtain ⟨u, hu, ru⟩ := rv.get hx
    have hel : e < s.heap.objs.size := Heap.lt_size he
    have hil : it < s.heap.objs.size := by
      obtain ⟨_, q, _⟩ := hit
      exact Heap.lt_size q
    have Dr := Draws.tuple (prog := X.prog) (w := X.w) (A := X.A.in1) (I.ok.hd hc) it a ha1 its.toArray
    have hi : i < its.toArray.size := by
      have := (List.getElem?_eq_some_iff.mp hu).1
      simpa using this
    refine wpAny_pyNext_enum_itemD Dr he ⟨hit, p⟩ hi hne (by simpa using ⟨hne, Ne.symm ha2⟩) fun y h' tk hy ho hit' hT hsz hk => ?_
    obtain rfl : u = y := by
      have q : its[i]? = some y := by simpa using hy
      rw [hu] at q
      exact Option.some.inj q
    refine ⟨_, rfl, ?_⟩
    refine enum_told (tn := fun i h => (∃ old, IsEnum h e it ((i : Nat) : Int) old) ∧ h.IsTupleIter it a i ∧ e ≠ it ∧ a ≠ it ∧ a ≠ e) (x := x) I hf hel hil hne ru ho hT hk (fun h'' k q => ⟨⟨u, ?_⟩, ?_, hne, ha1, ha2⟩)
      (Y := (ItQ X.K a).yld i) fun n => ⟨_, _, rfl, n, rfl, fun ys hy => ?_⟩
    · have e1 : ((i + 1 : Nat) : Int) = (i : Int) + 1 := by omega
      rw [e1]
      exact q
    · obtain ⟨o, q1, q2⟩ := hit'.1
      exact ⟨o, k it o (Ne.symm hne) q1, q2⟩
    · rw [I.tuple_inj hy hq]
      exact hx
  done := by
    intro X hP hw hK hc i pins s σ H E I hf st hg
    subst hP hw hK
    obtain ⟨⟨old, he⟩, hit, hne, ha1, ha2⟩ := st
    obtain ⟨xs, hq, hi⟩ := hg
    obtain ⟨its, rv, p, hz⟩ := I.tuple hq
    obtain ⟨f0, f1, f2, f3, f4, f5⟩ := hf it (by simp)
    have Dr := Draws.tuple (prog := X.prog) (w := X.w) (A := X.A.in1) (I.ok.hd hc) it a ha1 its.toArray
    have hi2 : i = its.toArray.size := by rw [hi, rv.length]; simp
    subst hi2
    exact wpAny_pyNext_enum_endD Dr he ⟨hit, p⟩ fun h' eb => ⟨rfl, I.turned (t' := s.toks) (fun b o hb q => eb b o hb q) f0 f1 f3 f4 f5⟩
  self := fun A i s Q E st h => let ⟨⟨_, he⟩, _⟩ := st; wpAny_pyIter_enum he h
end
/-- enumerate(a text), enumerate(a tuple) -/
def iEnumS (ta : TA) : TI := fun σ H R => ta σ H fun vs H1 => ∃ z, vs = [.str z] ∧ R (ItP z.cps.size fun i v => ∃ c, z.cps[i]? = some c ∧ v = .str ⟨#[c]⟩) H1
def iEnumT (K : PySem.W.Frag) (ta : TA) : TI := fun σ H R => ta σ H fun vs H1 => ∃ a xs, vs = [.ref a] ∧ SqT K H1 a xs ∧ R (ItQ K a) H1
section
variable {X : Cx} {e : Expr} {ta : TA} {p pos tpos : Pos} {elts : List Expr} {kk : Nat}
theorem new2 {X : Cx} {pins : List (Addr × Obj)} {σ : St} {H H1 : Hp} {s1 : Shared} (I1 : Inv X pins σ H1 s1) : ∀ b ∈ [s1.heap.objs.size + 1, s1.heap.objs.size], FpOk X pins H1 b := by
  intro b hb
  have hle : s1.heap.objs.size ≤ b := by
    rcases (by simpa using hb : b = s1.heap.objs.size + 1 ∨ b = s1.heap.objs.size) with z | z
    · rw [z]
      exact Nat.le_succ _
    · exact Nat.le_of_eq z.symm
  exact I1.fpOk hle (I1.hok.fresh hle)
theorem pi_enumS (hg : Gl X "enumerate") (hm : X.mg "enumerate" = none) (ha : PA X [e] ta) (hs : starEach [e] X.env = [(false, eval e X.env)] := by rfl) :
    PI X (.Tuple elts kk tpos) (.Call (.Name "enumerate" p) [e] [] pos) (iEnumS ta) := by
  refine ⟨fun pins s σ H R I h => ?_⟩
  refine Call_ (ld_blt I hg hm boot_enumerate (PyProof.Rows.callWith_type1 (thn (ha.run pos pins s σ H _ I h) ?_) hs rfl))
  rintro us s1 ⟨vs, H1, I1, r1, z, ex, q⟩
  subst ex
  cases r1 with
  | cons r rr =>
    cases rr
    obtain ⟨t, rfl⟩ := r
    refine call_enumerate_str fun h' he hit hsz hk => wpAny_pyIter_enum he ?_
    have I2 : Inv X pins σ H1 { s1 with heap := h' } := I1.kept (t' := s1.toks) hk
    exact ⟨s1.heap.objs.size + 1, [s1.heap.objs.size + 1, s1.heap.objs.size], _, _, H1, rfl, I2, turn_enumS (s1.heap.objs.size + 1) s1.heap.objs.size z t, ⟨⟨.none, he⟩, hit, Nat.succ_ne_self _⟩, new2 (H := H) I1, q⟩
theorem pi_enumT (hg : Gl X "enumerate") (hm : X.mg "enumerate" = none) (ha : PA X [e] ta) (hs : starEach [e] X.env = [(false, eval e X.env)] := by rfl) :
    PI X (.Tuple elts kk tpos) (.Call (.Name "enumerate" p) [e] [] pos) (iEnumT X.K ta) := by
  refine ⟨fun pins s σ H R I h => ?_⟩
  refine Call_ (ld_blt I hg hm boot_enumerate (PyProof.Rows.callWith_type1 (thn (ha.run pos pins s σ H _ I h) ?_) hs rfl))
  rintro us s1 ⟨vs, H1, I1, r1, a, xs, ex, hq, q⟩
  subst ex
  cases r1 with
  | cons r rr =>
    cases rr
    cases r
    obtain ⟨its, rv, p', hz⟩ := I1.tuple hq
    have al : a < s1.heap.objs.size := by
      obtain ⟨o, ho, _⟩ := p'
      exact Heap.lt_size ho
    refine EnX.call_tup p' fun h' he hit hk => wpAny_pyIter_enum he ?_
    have I2 : Inv X pins σ H1 { s1 with heap := h' } := I1.kept (t' := s1.toks) hk
    exact ⟨s1.heap.objs.size + 1, [s1.heap.objs.size + 1, s1.heap.objs.size], _, _, H1, rfl, I2, turn_enumT a (s1.heap.objs.size + 1) s1.heap.objs.size,
      ⟨⟨.none, he⟩, hit, Nat.succ_ne_self _, Nat.ne_of_lt al, Nat.ne_of_lt (Nat.lt_succ_of_lt al)⟩, new2 (H := H) I1, q⟩
end
section
variable {K : PySem.W.Frag} {a : Addr} {xs : List V}
theorem walk_P {n : Nat} {Y : Nat → V → Prop} : Walk (ItP n Y) n (fun _ => True) (fun i H v H' => ∃ T x, v = .ref T ∧ H T = none ∧ H' = upd H T (.tup [.int (i : Nat), x]) ∧ Y i x) :=
  ⟨fun _ _ hi _ => hi, fun _ _ => rfl, fun _ _ _ _ _ _ y => y⟩
theorem walk_Q : Walk (ItQ K a) xs.length (fun H => SqT K H a xs) (fun i H v H' => ∃ T x, v = .ref T ∧ H T = none ∧ H' = upd H T (.tup [.int (i : Nat), x]) ∧ xs[i]? = some x) := by
  refine ⟨fun i _ hi q => ⟨xs, xs[i], q, by simp [hi]⟩, fun _ q => ⟨xs, q, rfl⟩, ?_⟩
  rintro i H v H' _ q ⟨T, x, h1, h2, h3, h4⟩
  exact ⟨T, x, h1, h2, h3, h4 xs q⟩
end
end L2
/-! Short words for derivations and for readings. -/
namespace Sl
open PySem PySem.Spec
open PyProof.Rows L2
/-! ### defs -/
structure Has (P : Program) (w : World) (K : PySem.W.Frag) (mg : Str → Option Value) (base : Heap) (k : Nat) (f : Addr) (ps : List Str) (sp : Sp) : Prop where
  ex : ∃ fd, FnOk P w K mg base (L2.CX P w) k f fd ps sp ∧ Binds K fd ps []
  kp : PySem.W.keepIn K (.ref f) = true
section
variable {P : Program} {w : World} {K : PySem.W.Frag} {mg : Str → Option Value} {base : Heap} {k j : Nat} {f : Addr} {N ps : List Str} {sp sp' : Sp} {x qual : Str} {params : Arguments} {body : List Stmt} {scope : Scope}
theorem Has.mono (h : Has P w K mg base j f ps sp) (z : j ≤ k) : Has P w K mg base k f ps sp := by
  obtain ⟨⟨fd, a, b⟩, c⟩ := h
  exact ⟨⟨fd, a.mono z, b⟩, c⟩
theorem Has.imp (h : Has P w K mg base k f ps sp) (z : ∀ vs H Q E, sp' vs H Q E → sp vs H Q E) : Has P w K mg base k f ps sp' := by
  obtain ⟨⟨fd, a, b⟩, c⟩ := h
  exact ⟨⟨fd, a.imp z, b⟩, c⟩
abbrev BindsBy (x qual : Str) (params : Arguments) (body : List Stmt) (scope : Scope) (ps : List Str) : Prop :=
  ∀ (kV doc pm : Value) (an : Option Addr) (cdv ct : Value) (us : List Value), us.length = ps.length → bindArgs (PySem.W.fnOf x qual params body scope .none kV doc pm an cdv ct) ⟨us, []⟩ = pure (ps.zip us)
theorem has_of (F : ∃ fd, FunD K x qual params body scope [] [] f fd) (S : FnScope N ps scope) (hb : BindsBy x qual params body scope ps) (len : ∀ vs H Q E, sp vs H Q E → vs.length = ps.length)
    (hbody : ∀ (cdv : Value) (A : Around) (outer : List Env) (s : Shared) (H : Hp) (vs : List V) (Q : VK) (E : XK), Room k (A.deeper (envOfC qual scope s.heap.objs.size f cdv)) → sp vs H Q E →
      ∃ t, PSs (cxOf (L2.CX P w) P w K mg base N qual scope f cdv A outer s H E) body t ∧ t { nx := fun _ H' => Q .non H', rt := Q } (L2.start N vs) H) : Has P w K mg base (k + 1) f ps sp := by
  obtain ⟨fd, F⟩ := F
  exact ⟨⟨fd, F.ok S len hbody, F.bindsN hb⟩, F.kp⟩
end
section
variable {X : Cx} {k : Nat} {f C : Addr} {ps : List Str} {sp : Sp} {E : XK} {x m : Str} {p pos apos : Pos} {e o : Expr} {es : List Expr} {ta : TE} {t : TA}
theorem pcall (h : Has X.prog X.w X.K X.mg X.base k f ps sp) (hr : Room k X.A) (hm : X.mg x = some (.ref f)) (ha : PA X (e :: es) t) (hg : Gl X x := by rfl)
    (hdb : (x == ("__debug__" : Str)) = false := by decide) (he : starEach (e :: es) X.env = (false, eval e X.env) :: starEach es X.env := by rfl) (hpl : (backTo pos (starEach es X.env)).any (·.1) = false := by rfl) :
    PE X (.Call (.Name x p) (e :: es) [] pos) (tCall sp [] E0 t) := by
  obtain ⟨⟨fd, F, b⟩, kp⟩ := h
  exact pe_call F hr hg hm kp b .nil passL ha hdb he hpl
/-- .. that may raise -/
theorem pcallX (h : Has X.prog X.w X.K X.mg X.base k f ps sp) (hr : Room k X.A) (hm : X.mg x = some (.ref f)) (hx : Passes (L2.CX X.prog X.w) X E) (ha : PA X (e :: es) t) (hg : Gl X x := by rfl)
    (hdb : (x == ("__debug__" : Str)) = false := by decide) (he : starEach (e :: es) X.env = (false, eval e X.env) :: starEach es X.env := by rfl) (hpl : (backTo pos (starEach es X.env)).any (·.1) = false := by rfl) :
    PE X (.Call (.Name x p) (e :: es) [] pos) (tCall sp [] E t) := by
  obtain ⟨⟨fd, F, b⟩, kp⟩ := h
  exact pe_call F hr hg hm kp b .nil hx ha hdb he hpl
/-- .. in a try's body -/
theorem pcallS {E : L2.St → XK} (h : Has X.prog X.w X.K X.mg X.base k f ps sp) (hr : Room k X.A) (hm : X.mg x = some (.ref f)) (hx : ∀ σ, PassesAt (L2.CX X.prog X.w) X σ (E σ)) (ha : PA X (e :: es) t) (hg : Gl X x := by rfl)
    (hdb : (x == ("__debug__" : Str)) = false := by decide) (he : starEach (e :: es) X.env = (false, eval e X.env) :: starEach es X.env := by rfl) (hpl : (backTo pos (starEach es X.env)).any (·.1) = false := by rfl) :
    PE X (.Call (.Name x p) (e :: es) [] pos) (tCallS sp E t) := by
  obtain ⟨⟨fd, F, b⟩, kp⟩ := h
  exact pe_callS F hr hg hm kp b hx ha hdb he hpl
theorem pmeth (h : Has X.prog X.w X.K X.mg X.base k f ps sp) (c : Cls X.K C) (hm : Meth X.K C m f) (hr : Room k X.A) (hx : Passes (L2.CX X.prog X.w) X E) (he : PE X o ta) (ha : PA X (e :: es) t) {pl : Sem Bool}
    (hst : starEach (e :: es) X.env = (false, eval e X.env) :: starEach es X.env := by rfl) (hpl : (backTo pos (starEach es X.env)).any (·.1) = false := by rfl)
    (ht : eval (.Call (.Attribute o m apos) (e :: es) [] pos) X.env = (do
      let ov ← eval o X.env
      standAt apos.atName
      let r ← holding [ov] (getMethod ov m pl)
      callWith pos r.1 r.2 (backTo pos (starEach (e :: es) X.env)) (backToKw pos (keywordEach [] X.env))) := by rfl) :
    PE X (.Call (.Attribute o m apos) (e :: es) [] pos) (tMeth C m sp [] E ta t) := by
  obtain ⟨⟨fd, F, b⟩, kp⟩ := h
  exact pe_meth he c hm F hr b .nil hx ha hst hpl ht
theorem pmeth0 (h : Has X.prog X.w X.K X.mg X.base k f ps sp) (c : Cls X.K C) (hm : Meth X.K C m f) (hr : Room k X.A) (hx : Passes (L2.CX X.prog X.w) X E) (he : PE X o ta) {pl : Sem Bool}
    (ht : eval (.Call (.Attribute o m apos) [] [] pos) X.env = (do
      let ov ← eval o X.env
      standAt apos.atName
      let r ← holding [ov] (getMethod ov m pl)
      callWith pos r.1 r.2 (backTo pos (starEach [] X.env)) (backToKw pos (keywordEach [] X.env))) := by rfl) :
    PE X (.Call (.Attribute o m apos) [] [] pos) (tMeth C m sp [] E ta tNil) := by
  obtain ⟨⟨fd, F, b⟩, kp⟩ := h
  exact pe_meth0 he c hm F hr b .nil hx ht
theorem pmake (h : Has X.prog X.w X.K X.mg X.base k f ps sp) (M : Mk X.K C f) (hr : Room (k + 1) X.A) (hm : X.mg x = some (.ref C)) (hx : Passes (L2.CX X.prog X.w) X E) (ha : PA X (e :: es) t) (hg : Gl X x := by rfl)
    (hdb : (x == ("__debug__" : Str)) = false := by decide) (he : starEach (e :: es) X.env = (false, eval e X.env) :: starEach es X.env := by rfl) (hpl : (backTo pos (starEach es X.env)).any (·.1) = false := by rfl) :
    PE X (.Call (.Name x p) (e :: es) [] pos) (tMake C sp [] E t) := by
  obtain ⟨⟨fd, F, b⟩, kp⟩ := h
  exact pe_make M F hr hg hm b .nil hx ha hdb he hpl
/-- an own exception is raised -/
theorem praise {W : WX} {pos2 : Pos} {ta : TA} (h : Has X.prog X.w X.K X.mg X.base k f ps sp) (hc : X.calm = true) (tk : Takes X W) (T : OexC X.K C) (iC : PySem.W.findIn X.K (.ref C) "__init__" = some (some (.ref f))) (tI : PySem.W.typeIn X.K (.ref f) = some (.type "function"))
    (hr : Room (k + 1) X.A) (hm : X.mg x = some (.ref C)) (ha : PA X (e :: es) ta) (hg : Gl X x := by rfl)
    (hdb : (x == ("__debug__" : Str)) = false := by decide) (he : starEach (e :: es) X.env = (false, eval e X.env) :: starEach es X.env := by rfl) (hpl : (backTo pos (starEach es X.env)).any (·.1) = false := by rfl) :
    PS X (.Raise (some (.Call (.Name x p) (e :: es) [] pos)) none pos2) (fun _ σ H => tMkO C sp [] ta σ H fun cls d H' => W cls d σ H') := by
  obtain ⟨⟨fd, F, b⟩, kp⟩ := h
  exact ps_raise hc tk (pmk_oex T iC tI F hr b .nil passL hg hm ha hdb he hpl)
end
/-! ### operators, by names -/
def rAddI : R2 := fun x y H Q => ∃ i j, x = .int i ∧ y = .int j ∧ Q (.int (i + j)) H
def rSubI : R2 := fun x y H Q => ∃ i j, x = .int i ∧ y = .int j ∧ Q (.int (i - j)) H
def rMulI : R2 := fun x y H Q => ∃ i j, x = .int i ∧ y = .int j ∧ CMul i j ∧ Q (.int (i * j)) H
def rModI : R2 := fun x y H Q => ∃ i j, x = .int i ∧ y = .int j ∧ 0 < j ∧ Q (.int (i % j)) H
def rDivI : R2 := fun x y H Q => ∃ i j, x = .int i ∧ y = .int j ∧ CDiv i j ∧ Q (.int (i / j)) H
def rPowI : R2 := fun x y H Q => ∃ i j, x = .int i ∧ y = .int j ∧ CPow i j ∧ Q (.int (i ^ j.toNat)) H
def rLtI : R2 := fun x y H Q => ∃ i j, x = .int i ∧ y = .int j ∧ Q (.bl (decide (i < j))) H
def rLeI : R2 := fun x y H Q => ∃ i j, x = .int i ∧ y = .int j ∧ Q (.bl (decide (i ≤ j))) H
def rGtI : R2 := fun x y H Q => ∃ i j, x = .int i ∧ y = .int j ∧ Q (.bl (decide (j < i))) H
def rGeI : R2 := fun x y H Q => ∃ i j, x = .int i ∧ y = .int j ∧ Q (.bl (decide (j ≤ i))) H
def rAddS : R2 := fun x y H Q => ∃ i j, x = .str i ∧ y = .str j ∧ i.length + j.length ≤ sizeLine ∧ Q (.str (i ++ j)) H
def rIsNo : R2 := fun x y H Q => y = .non ∧ Q (.bl (decide (x = .non))) H
def rNoNo : R2 := fun x y H Q => y = .non ∧ Q (.bl (!decide (x = .non))) H
def rInSg : R2 := fun x y H Q => ∃ (c : Nat) (z : Str), x = .str ⟨#[c]⟩ ∧ y = .str z ∧ Q (.bl (decide (c ∈ z.cps.toList))) H
def rNiSg : R2 := fun x y H Q => ∃ (c : Nat) (z : Str), x = .str ⟨#[c]⟩ ∧ y = .str z ∧ Q (.bl (!decide (c ∈ z.cps.toList))) H
def rRepS : R2 := fun x y H Q => ∃ (z : Str) (k : Int), x = .str z ∧ y = .int k ∧ 2 ≤ k ∧ k ≤ 1000 ∧ z.length ≤ 1000 ∧ 1 ≤ z.length ∧ Q (.str ⟨((List.replicate k.toNat z.cps.toList).flatten).toArray⟩) H
section
variable {X : Cx}
theorem oAddI : OpR X (binaryOp .Add) rAddI := op_add
theorem oSubI : OpR X (binaryOp .Sub) rSubI := op_sub
theorem oMulI : OpR X (binaryOp .Mult) rMulI := op_mul
theorem oModI : OpR X (binaryOp .Mod) rModI := op_mod
theorem oDivI : OpR X (binaryOp .FloorDiv) rDivI := op_fdiv
theorem oPowI : OpR X (binaryOp .Pow) rPowI := op_pow
theorem oLtI : OpR X (compareOp .Lt) rLtI := op_lt
theorem oLeI : OpR X (compareOp .LtE) rLeI := op_le
theorem oGtI : OpR X (compareOp .Gt) rGtI := op_gt
theorem oGeI : OpR X (compareOp .GtE) rGeI := op_ge
theorem oAddS : OpR X (binaryOp .Add) rAddS := op_add_str
theorem oIsNo : OpR X (compareOp .Is) rIsNo := op_isN
theorem oNoNo : OpR X (compareOp .IsNot) rNoNo := op_notN
theorem oInSg : OpR X (compareOp .In) rInSg := op_in_sign
theorem oNiSg : OpR X (compareOp .NotIn) rNiSg := op_notIn_sign
theorem foldl_app {α : Type} (z : Array α) : ∀ (n : Nat) (acc : Array α), (List.replicate n z).foldl (· ++ ·) acc = (acc.toList ++ (List.replicate n z.toList).flatten).toArray
  | 0, acc => by simp
  | n + 1, acc => by
    rw [List.replicate_succ, List.foldl_cons, foldl_app z n]
    simp [List.replicate_succ]
theorem oRepS : OpR X (binaryOp .Mult) rRepS := by
  intro pins s σ H x y v u Q I rx ry h
  obtain ⟨z, k, rfl, rfl, h1, h2, h3, h4, q⟩ := h
  obtain ⟨t, rfl⟩ := rx
  obtain ⟨t2, rfl⟩ := ry
  have hm : z.length * k.toNat ≤ 1000 * 1000 := Nat.mul_le_mul h3 (by omega)
  have e1 : (k == 1 || z.length == 0) = false := by
    have a : ¬ k = 1 := by omega
    have b : ¬ z.length = 0 := by omega
    simp [a, b]
  refine PySem.P.mul_str ?_ (fun _ _ => ?_) (fun _ _ => ?_) ?_
  · have a : ¬ k < -(2 ^ 63 : Int) := by omega
    have b : ¬ k ≥ 2 ^ 63 := by omega
    rw [decide_eq_false a, decide_eq_false b]
    rfl
  · have c : (1000 : Int) ≤ (2 ^ 63 - 1) / k := by
      refine (Int.le_ediv_iff_mul_le (by omega)).mpr ?_
      omega
    omega
  · show decide (_ > sizeLine) = false
    have c : z.length * k.toNat ≤ sizeLine := Nat.le_trans hm (by decide)
    simpa using c
  · have h0 : ¬ k < 1 := by omega
    rw [if_neg h0, e1]
    simp only [Bool.false_eq_true, if_false]
    have ef : (List.replicate k.toNat z.cps).foldl (· ++ ·) #[] = ((List.replicate k.toNat z.cps.toList).flatten).toArray := by
      rw [foldl_app]
      simp
    rw [ef]
    refine ⟨?_, .str ⟨((List.replicate k.toNat z.cps.toList).flatten).toArray⟩, H, I.tok _, ⟨_, rfl⟩, q⟩
    show ((List.replicate k.toNat z.cps.toList).flatten).toArray.size ≤ sizeLine
    have el : ((List.replicate k.toNat z.cps.toList).flatten).length = k.toNat * z.length := by
      simp [List.length_flatten, Str.length]
    rw [List.size_toArray, el, Nat.mul_comm]
    exact Nat.le_trans hm (by decide)
end
end Sl
namespace K02
open PySem PySem.Spec
open PyProof.Rows L2 Sl
/-- what the top has left -/
structure Tx (K : PySem.W.Frag) (mg : Str → Option Value) : Prop where
  c : He.SaysD fa fn K
  ex : exF K = true
  at_ : ∃ h : Heap, K.In h ∧ h.Ns mainGlobals mg
section
variable {K : PySem.W.Frag} {mg : Str → Option Value} (T : Tx K mg)
include T
abbrev a_BadArgument_init (K : PySem.W.Frag) : Addr := He.fAd K ("BadArgument", some "__init__")
theorem f_BadArgument_init : ∃ fd, FunD K "__init__" "BadArgument.__init__" (defArgs s_BadArgument_init) (defBody s_BadArgument_init) (defScope s_BadArgument_init) [] [] (a_BadArgument_init K) fd := T.c.def_ 0 (d := d_BadArgument_init) rfl
theorem z_BadArgument_init : FnScope n_BadArgument_init p_BadArgument_init (defScope s_BadArgument_init) := ⟨rfl, rfl, rfl, by decide +kernel, rfl, by decide +kernel, by decide +kernel⟩
theorem b_BadArgument_init : BindsBy "__init__" "BadArgument.__init__" (defArgs s_BadArgument_init) (defBody s_BadArgument_init) (defScope s_BadArgument_init) p_BadArgument_init := fun _ _ _ _ _ _ us hl => match us, hl with | [_, _], _ => rfl
abbrev a_Flaw_init (K : PySem.W.Frag) : Addr := He.fAd K ("Flaw", some "__init__")
theorem f_Flaw_init : ∃ fd, FunD K "__init__" "Flaw.__init__" (defArgs s_Flaw_init) (defBody s_Flaw_init) (defScope s_Flaw_init) [] [] (a_Flaw_init K) fd := T.c.def_ 1 (d := d_Flaw_init) rfl
theorem z_Flaw_init : FnScope n_Flaw_init p_Flaw_init (defScope s_Flaw_init) := ⟨rfl, rfl, rfl, by decide +kernel, rfl, by decide +kernel, by decide +kernel⟩
theorem b_Flaw_init : BindsBy "__init__" "Flaw.__init__" (defArgs s_Flaw_init) (defBody s_Flaw_init) (defScope s_Flaw_init) p_Flaw_init := fun _ _ _ _ _ _ us hl => match us, hl with | [_, _, _], _ => rfl
abbrev a_need (K : PySem.W.Frag) : Addr := He.fAd K ("need", none)
theorem f_need : ∃ fd, FunD K "need" "need" (defArgs s_need) (defBody s_need) (defScope s_need) [] [] (a_need K) fd := T.c.def_ 2 (d := d_need) rfl
theorem z_need : FnScope n_need p_need (defScope s_need) := ⟨rfl, rfl, rfl, by decide +kernel, rfl, by decide +kernel, by decide +kernel⟩
theorem b_need : BindsBy "need" "need" (defArgs s_need) (defBody s_need) (defScope s_need) p_need := fun _ _ _ _ _ _ us hl => match us, hl with | [_, _], _ => rfl
abbrev a_Reader_init (K : PySem.W.Frag) : Addr := He.fAd K ("Reader", some "__init__")
theorem f_Reader_init : ∃ fd, FunD K "__init__" "Reader.__init__" (defArgs s_Reader_init) (defBody s_Reader_init) (defScope s_Reader_init) [] [] (a_Reader_init K) fd := T.c.def_ 3 (d := d_Reader_init) rfl
theorem z_Reader_init : FnScope n_Reader_init p_Reader_init (defScope s_Reader_init) := ⟨rfl, rfl, rfl, by decide +kernel, rfl, by decide +kernel, by decide +kernel⟩
theorem b_Reader_init : BindsBy "__init__" "Reader.__init__" (defArgs s_Reader_init) (defBody s_Reader_init) (defScope s_Reader_init) p_Reader_init := fun _ _ _ _ _ _ us hl => match us, hl with | [_, _], _ => rfl
abbrev a_Reader_sign (K : PySem.W.Frag) : Addr := He.fAd K ("Reader", some "sign")
theorem f_Reader_sign : ∃ fd, FunD K "sign" "Reader.sign" (defArgs s_Reader_sign) (defBody s_Reader_sign) (defScope s_Reader_sign) [] [] (a_Reader_sign K) fd := T.c.def_ 4 (d := d_Reader_sign) rfl
theorem z_Reader_sign : FnScope n_Reader_sign p_Reader_sign (defScope s_Reader_sign) := ⟨rfl, rfl, rfl, by decide +kernel, rfl, by decide +kernel, by decide +kernel⟩
theorem b_Reader_sign : BindsBy "sign" "Reader.sign" (defArgs s_Reader_sign) (defBody s_Reader_sign) (defScope s_Reader_sign) p_Reader_sign := fun _ _ _ _ _ _ us hl => match us, hl with | [_], _ => rfl
abbrev a_Reader_refuse (K : PySem.W.Frag) : Addr := He.fAd K ("Reader", some "refuse")
theorem f_Reader_refuse : ∃ fd, FunD K "refuse" "Reader.refuse" (defArgs s_Reader_refuse) (defBody s_Reader_refuse) (defScope s_Reader_refuse) [] [] (a_Reader_refuse K) fd := T.c.def_ 5 (d := d_Reader_refuse) rfl
theorem z_Reader_refuse : FnScope n_Reader_refuse p_Reader_refuse (defScope s_Reader_refuse) := ⟨rfl, rfl, rfl, by decide +kernel, rfl, by decide +kernel, by decide +kernel⟩
theorem b_Reader_refuse : BindsBy "refuse" "Reader.refuse" (defArgs s_Reader_refuse) (defBody s_Reader_refuse) (defScope s_Reader_refuse) p_Reader_refuse := fun _ _ _ _ _ _ us hl => match us, hl with | [_, _], _ => rfl
abbrev a_Reader_is_next (K : PySem.W.Frag) : Addr := He.fAd K ("Reader", some "is_next")
theorem f_Reader_is_next : ∃ fd, FunD K "is_next" "Reader.is_next" (defArgs s_Reader_is_next) (defBody s_Reader_is_next) (defScope s_Reader_is_next) [] [] (a_Reader_is_next K) fd := T.c.def_ 6 (d := d_Reader_is_next) rfl
theorem z_Reader_is_next : FnScope n_Reader_is_next p_Reader_is_next (defScope s_Reader_is_next) := ⟨rfl, rfl, rfl, by decide +kernel, rfl, by decide +kernel, by decide +kernel⟩
theorem b_Reader_is_next : BindsBy "is_next" "Reader.is_next" (defArgs s_Reader_is_next) (defBody s_Reader_is_next) (defScope s_Reader_is_next) p_Reader_is_next := fun _ _ _ _ _ _ us hl => match us, hl with | [_, _], _ => rfl
abbrev a_Reader_digit (K : PySem.W.Frag) : Addr := He.fAd K ("Reader", some "digit")
theorem f_Reader_digit : ∃ fd, FunD K "digit" "Reader.digit" (defArgs s_Reader_digit) (defBody s_Reader_digit) (defScope s_Reader_digit) [] [] (a_Reader_digit K) fd := T.c.def_ 7 (d := d_Reader_digit) rfl
theorem z_Reader_digit : FnScope n_Reader_digit p_Reader_digit (defScope s_Reader_digit) := ⟨rfl, rfl, rfl, by decide +kernel, rfl, by decide +kernel, by decide +kernel⟩
theorem b_Reader_digit : BindsBy "digit" "Reader.digit" (defArgs s_Reader_digit) (defBody s_Reader_digit) (defScope s_Reader_digit) p_Reader_digit := fun _ _ _ _ _ _ us hl => match us, hl with | [_], _ => rfl
abbrev a_Reader_nest (K : PySem.W.Frag) : Addr := He.fAd K ("Reader", some "nest")
theorem f_Reader_nest : ∃ fd, FunD K "nest" "Reader.nest" (defArgs s_Reader_nest) (defBody s_Reader_nest) (defScope s_Reader_nest) [] [] (a_Reader_nest K) fd := T.c.def_ 8 (d := d_Reader_nest) rfl
theorem z_Reader_nest : FnScope n_Reader_nest p_Reader_nest (defScope s_Reader_nest) := ⟨rfl, rfl, rfl, by decide +kernel, rfl, by decide +kernel, by decide +kernel⟩
theorem b_Reader_nest : BindsBy "nest" "Reader.nest" (defArgs s_Reader_nest) (defBody s_Reader_nest) (defScope s_Reader_nest) p_Reader_nest := fun _ _ _ _ _ _ us hl => match us, hl with | [_], _ => rfl
abbrev a_Reader_item (K : PySem.W.Frag) : Addr := He.fAd K ("Reader", some "item")
theorem f_Reader_item : ∃ fd, FunD K "item" "Reader.item" (defArgs s_Reader_item) (defBody s_Reader_item) (defScope s_Reader_item) [] [] (a_Reader_item K) fd := T.c.def_ 9 (d := d_Reader_item) rfl
theorem z_Reader_item : FnScope n_Reader_item p_Reader_item (defScope s_Reader_item) := ⟨rfl, rfl, rfl, by decide +kernel, rfl, by decide +kernel, by decide +kernel⟩
theorem b_Reader_item : BindsBy "item" "Reader.item" (defArgs s_Reader_item) (defBody s_Reader_item) (defScope s_Reader_item) p_Reader_item := fun _ _ _ _ _ _ us hl => match us, hl with | [_], _ => rfl
abbrev a_Reader_atom (K : PySem.W.Frag) : Addr := He.fAd K ("Reader", some "atom")
theorem f_Reader_atom : ∃ fd, FunD K "atom" "Reader.atom" (defArgs s_Reader_atom) (defBody s_Reader_atom) (defScope s_Reader_atom) [] [] (a_Reader_atom K) fd := T.c.def_ 10 (d := d_Reader_atom) rfl
theorem z_Reader_atom : FnScope n_Reader_atom p_Reader_atom (defScope s_Reader_atom) := ⟨rfl, rfl, rfl, by decide +kernel, rfl, by decide +kernel, by decide +kernel⟩
theorem b_Reader_atom : BindsBy "atom" "Reader.atom" (defArgs s_Reader_atom) (defBody s_Reader_atom) (defScope s_Reader_atom) p_Reader_atom := fun _ _ _ _ _ _ us hl => match us, hl with | [_], _ => rfl
abbrev a_Reader_ground (K : PySem.W.Frag) : Addr := He.fAd K ("Reader", some "ground")
theorem f_Reader_ground : ∃ fd, FunD K "ground" "Reader.ground" (defArgs s_Reader_ground) (defBody s_Reader_ground) (defScope s_Reader_ground) [] [] (a_Reader_ground K) fd := T.c.def_ 11 (d := d_Reader_ground) rfl
theorem z_Reader_ground : FnScope n_Reader_ground p_Reader_ground (defScope s_Reader_ground) := ⟨rfl, rfl, rfl, by decide +kernel, rfl, by decide +kernel, by decide +kernel⟩
theorem b_Reader_ground : BindsBy "ground" "Reader.ground" (defArgs s_Reader_ground) (defBody s_Reader_ground) (defScope s_Reader_ground) p_Reader_ground := fun _ _ _ _ _ _ us hl => match us, hl with | [_], _ => rfl
abbrev a_is_text (K : PySem.W.Frag) : Addr := He.fAd K ("is_text", none)
theorem f_is_text : ∃ fd, FunD K "is_text" "is_text" (defArgs s_is_text) (defBody s_is_text) (defScope s_is_text) [] [] (a_is_text K) fd := T.c.def_ 12 (d := d_is_text) rfl
theorem z_is_text : FnScope n_is_text p_is_text (defScope s_is_text) := ⟨rfl, rfl, rfl, by decide +kernel, rfl, by decide +kernel, by decide +kernel⟩
theorem b_is_text : BindsBy "is_text" "is_text" (defArgs s_is_text) (defBody s_is_text) (defScope s_is_text) p_is_text := fun _ _ _ _ _ _ us hl => match us, hl with | [_], _ => rfl
abbrev a_tree_of (K : PySem.W.Frag) : Addr := He.fAd K ("tree_of", none)
theorem f_tree_of : ∃ fd, FunD K "tree_of" "tree_of" (defArgs s_tree_of) (defBody s_tree_of) (defScope s_tree_of) [] [] (a_tree_of K) fd := T.c.def_ 13 (d := d_tree_of) rfl
theorem z_tree_of : FnScope n_tree_of p_tree_of (defScope s_tree_of) := ⟨rfl, rfl, rfl, by decide +kernel, rfl, by decide +kernel, by decide +kernel⟩
theorem b_tree_of : BindsBy "tree_of" "tree_of" (defArgs s_tree_of) (defBody s_tree_of) (defScope s_tree_of) p_tree_of := fun _ _ _ _ _ _ us hl => match us, hl with | [_], _ => rfl
abbrev a_flaw (K : PySem.W.Frag) : Addr := He.fAd K ("flaw", none)
theorem f_flaw : ∃ fd, FunD K "flaw" "flaw" (defArgs s_flaw) (defBody s_flaw) (defScope s_flaw) [] [] (a_flaw K) fd := T.c.def_ 14 (d := d_flaw) rfl
theorem z_flaw : FnScope n_flaw p_flaw (defScope s_flaw) := ⟨rfl, rfl, rfl, by decide +kernel, rfl, by decide +kernel, by decide +kernel⟩
theorem b_flaw : BindsBy "flaw" "flaw" (defArgs s_flaw) (defBody s_flaw) (defScope s_flaw) p_flaw := fun _ _ _ _ _ _ us hl => match us, hl with | [_], _ => rfl
abbrev a_within_parentheses (K : PySem.W.Frag) : Addr := He.fAd K ("within_parentheses", none)
theorem f_within_parentheses : ∃ fd, FunD K "within_parentheses" "within_parentheses" (defArgs s_within_parentheses) (defBody s_within_parentheses) (defScope s_within_parentheses) [] [] (a_within_parentheses K) fd := T.c.def_ 15 (d := d_within_parentheses) rfl
theorem z_within_parentheses : FnScope n_within_parentheses p_within_parentheses (defScope s_within_parentheses) := ⟨rfl, rfl, rfl, by decide +kernel, rfl, by decide +kernel, by decide +kernel⟩
theorem b_within_parentheses : BindsBy "within_parentheses" "within_parentheses" (defArgs s_within_parentheses) (defBody s_within_parentheses) (defScope s_within_parentheses) p_within_parentheses := fun _ _ _ _ _ _ us hl => match us, hl with | [_, _], _ => rfl
abbrev a_plain (K : PySem.W.Frag) : Addr := He.fAd K ("plain", none)
theorem f_plain : ∃ fd, FunD K "plain" "plain" (defArgs s_plain) (defBody s_plain) (defScope s_plain) [] [] (a_plain K) fd := T.c.def_ 16 (d := d_plain) rfl
theorem z_plain : FnScope n_plain p_plain (defScope s_plain) := ⟨rfl, rfl, rfl, by decide +kernel, rfl, by decide +kernel, by decide +kernel⟩
theorem b_plain : BindsBy "plain" "plain" (defArgs s_plain) (defBody s_plain) (defScope s_plain) p_plain := fun _ _ _ _ _ _ us hl => match us, hl with | [_], _ => rfl
abbrev a_plain_text (K : PySem.W.Frag) : Addr := He.fAd K ("plain_text", none)
theorem f_plain_text : ∃ fd, FunD K "plain_text" "plain_text" (defArgs s_plain_text) (defBody s_plain_text) (defScope s_plain_text) [] [] (a_plain_text K) fd := T.c.def_ 17 (d := d_plain_text) rfl
theorem z_plain_text : FnScope n_plain_text p_plain_text (defScope s_plain_text) := ⟨rfl, rfl, rfl, by decide +kernel, rfl, by decide +kernel, by decide +kernel⟩
theorem b_plain_text : BindsBy "plain_text" "plain_text" (defArgs s_plain_text) (defBody s_plain_text) (defScope s_plain_text) p_plain_text := fun _ _ _ _ _ _ us hl => match us, hl with | [_], _ => rfl
abbrev a_letters (K : PySem.W.Frag) : Addr := He.fAd K ("letters", none)
theorem f_letters : ∃ fd, FunD K "letters" "letters" (defArgs s_letters) (defBody s_letters) (defScope s_letters) [] [] (a_letters K) fd := T.c.def_ 18 (d := d_letters) rfl
theorem z_letters : FnScope n_letters p_letters (defScope s_letters) := ⟨rfl, rfl, rfl, by decide +kernel, rfl, by decide +kernel, by decide +kernel⟩
theorem b_letters : BindsBy "letters" "letters" (defArgs s_letters) (defBody s_letters) (defScope s_letters) p_letters := fun _ _ _ _ _ _ us hl => match us, hl with | [_], _ => rfl
abbrev a__law_taken (K : PySem.W.Frag) : Addr := He.fAd K ("_law_taken", none)
theorem f__law_taken : ∃ fd, FunD K "_law_taken" "_law_taken" (defArgs s__law_taken) (defBody s__law_taken) (defScope s__law_taken) [] [] (a__law_taken K) fd := T.c.def_ 19 (d := d__law_taken) rfl
theorem z__law_taken : FnScope n__law_taken p__law_taken (defScope s__law_taken) := ⟨rfl, rfl, rfl, by decide +kernel, rfl, by decide +kernel, by decide +kernel⟩
theorem b__law_taken : BindsBy "_law_taken" "_law_taken" (defArgs s__law_taken) (defBody s__law_taken) (defScope s__law_taken) p__law_taken := fun _ _ _ _ _ _ us hl => match us, hl with | [_, _], _ => rfl
abbrev a__law_pick (K : PySem.W.Frag) : Addr := He.fAd K ("_law_pick", none)
theorem f__law_pick : ∃ fd, FunD K "_law_pick" "_law_pick" (defArgs s__law_pick) (defBody s__law_pick) (defScope s__law_pick) [] [] (a__law_pick K) fd := T.c.def_ 20 (d := d__law_pick) rfl
theorem z__law_pick : FnScope n__law_pick p__law_pick (defScope s__law_pick) := ⟨rfl, rfl, rfl, by decide +kernel, rfl, by decide +kernel, by decide +kernel⟩
theorem b__law_pick : BindsBy "_law_pick" "_law_pick" (defArgs s__law_pick) (defBody s__law_pick) (defScope s__law_pick) p__law_pick := fun _ _ _ _ _ _ us hl => match us, hl with | [_, _], _ => rfl
abbrev a__law_refused (K : PySem.W.Frag) : Addr := He.fAd K ("_law_refused", none)
theorem f__law_refused : ∃ fd, FunD K "_law_refused" "_law_refused" (defArgs s__law_refused) (defBody s__law_refused) (defScope s__law_refused) [] [] (a__law_refused K) fd := T.c.def_ 21 (d := d__law_refused) rfl
theorem z__law_refused : FnScope n__law_refused p__law_refused (defScope s__law_refused) := ⟨rfl, rfl, rfl, by decide +kernel, rfl, by decide +kernel, by decide +kernel⟩
theorem b__law_refused : BindsBy "_law_refused" "_law_refused" (defArgs s__law_refused) (defBody s__law_refused) (defScope s__law_refused) p__law_refused := fun _ _ _ _ _ _ us hl => match us, hl with | [_], _ => rfl
abbrev a__law_alike (K : PySem.W.Frag) : Addr := He.fAd K ("_law_alike", none)
theorem f__law_alike : ∃ fd, FunD K "_law_alike" "_law_alike" (defArgs s__law_alike) (defBody s__law_alike) (defScope s__law_alike) [] [] (a__law_alike K) fd := T.c.def_ 22 (d := d__law_alike) rfl
theorem z__law_alike : FnScope n__law_alike p__law_alike (defScope s__law_alike) := ⟨rfl, rfl, rfl, by decide +kernel, rfl, by decide +kernel, by decide +kernel⟩
theorem b__law_alike : BindsBy "_law_alike" "_law_alike" (defArgs s__law_alike) (defBody s__law_alike) (defScope s__law_alike) p__law_alike := fun _ _ _ _ _ _ us hl => match us, hl with | [_, _], _ => rfl
abbrev a__law_right (K : PySem.W.Frag) : Addr := He.fAd K ("_law_right", none)
theorem f__law_right : ∃ fd, FunD K "_law_right" "_law_right" (defArgs s__law_right) (defBody s__law_right) (defScope s__law_right) [] [] (a__law_right K) fd := T.c.def_ 23 (d := d__law_right) rfl
theorem z__law_right : FnScope n__law_right p__law_right (defScope s__law_right) := ⟨rfl, rfl, rfl, by decide +kernel, rfl, by decide +kernel, by decide +kernel⟩
theorem b__law_right : BindsBy "_law_right" "_law_right" (defArgs s__law_right) (defBody s__law_right) (defScope s__law_right) p__law_right := fun _ _ _ _ _ _ us hl => match us, hl with | [_, _], _ => rfl
abbrev a__law_text (K : PySem.W.Frag) : Addr := He.fAd K ("_law_text", none)
theorem f__law_text : ∃ fd, FunD K "_law_text" "_law_text" (defArgs s__law_text) (defBody s__law_text) (defScope s__law_text) [] [] (a__law_text K) fd := T.c.def_ 24 (d := d__law_text) rfl
theorem z__law_text : FnScope n__law_text p__law_text (defScope s__law_text) := ⟨rfl, rfl, rfl, by decide +kernel, rfl, by decide +kernel, by decide +kernel⟩
theorem b__law_text : BindsBy "_law_text" "_law_text" (defArgs s__law_text) (defBody s__law_text) (defScope s__law_text) p__law_text := fun _ _ _ _ _ _ us hl => match us, hl with | [_], _ => rfl
abbrev a__law_flaw (K : PySem.W.Frag) : Addr := He.fAd K ("_law_flaw", none)
theorem f__law_flaw : ∃ fd, FunD K "_law_flaw" "_law_flaw" (defArgs s__law_flaw) (defBody s__law_flaw) (defScope s__law_flaw) [] [] (a__law_flaw K) fd := T.c.def_ 25 (d := d__law_flaw) rfl
theorem z__law_flaw : FnScope n__law_flaw p__law_flaw (defScope s__law_flaw) := ⟨rfl, rfl, rfl, by decide +kernel, rfl, by decide +kernel, by decide +kernel⟩
theorem b__law_flaw : BindsBy "_law_flaw" "_law_flaw" (defArgs s__law_flaw) (defBody s__law_flaw) (defScope s__law_flaw) p__law_flaw := fun _ _ _ _ _ _ us hl => match us, hl with | [_], _ => rfl
abbrev a_law (K : PySem.W.Frag) : Addr := He.fAd K ("law", none)
theorem f_law : ∃ fd, FunD K "law" "law" (defArgs s_law) (defBody s_law) (defScope s_law) [] [] (a_law K) fd := T.c.def_ 26 (d := d_law) rfl
theorem z_law : FnScope n_law p_law (defScope s_law) := ⟨rfl, rfl, rfl, by decide +kernel, rfl, by decide +kernel, by decide +kernel⟩
theorem b_law : BindsBy "law" "law" (defArgs s_law) (defBody s_law) (defScope s_law) p_law := fun _ _ _ _ _ _ us hl => match us, hl with | [_], _ => rfl
theorem g_need : mg "need" = some (.ref (He.ga K "need")) := let ⟨_, a, b⟩ := T.at_; He.glo_ok a b (T.c.fact 0 (f := .glo "need") rfl)
theorem g_is_text : mg "is_text" = some (.ref (He.ga K "is_text")) := let ⟨_, a, b⟩ := T.at_; He.glo_ok a b (T.c.fact 1 (f := .glo "is_text") rfl)
theorem g_tree_of : mg "tree_of" = some (.ref (He.ga K "tree_of")) := let ⟨_, a, b⟩ := T.at_; He.glo_ok a b (T.c.fact 2 (f := .glo "tree_of") rfl)
theorem g_flaw : mg "flaw" = some (.ref (He.ga K "flaw")) := let ⟨_, a, b⟩ := T.at_; He.glo_ok a b (T.c.fact 3 (f := .glo "flaw") rfl)
theorem g_within_parentheses : mg "within_parentheses" = some (.ref (He.ga K "within_parentheses")) := let ⟨_, a, b⟩ := T.at_; He.glo_ok a b (T.c.fact 4 (f := .glo "within_parentheses") rfl)
theorem g_plain : mg "plain" = some (.ref (He.ga K "plain")) := let ⟨_, a, b⟩ := T.at_; He.glo_ok a b (T.c.fact 5 (f := .glo "plain") rfl)
theorem g_plain_text : mg "plain_text" = some (.ref (He.ga K "plain_text")) := let ⟨_, a, b⟩ := T.at_; He.glo_ok a b (T.c.fact 6 (f := .glo "plain_text") rfl)
theorem g_letters : mg "letters" = some (.ref (He.ga K "letters")) := let ⟨_, a, b⟩ := T.at_; He.glo_ok a b (T.c.fact 7 (f := .glo "letters") rfl)
theorem g__law_taken : mg "_law_taken" = some (.ref (He.ga K "_law_taken")) := let ⟨_, a, b⟩ := T.at_; He.glo_ok a b (T.c.fact 8 (f := .glo "_law_taken") rfl)
theorem g__law_pick : mg "_law_pick" = some (.ref (He.ga K "_law_pick")) := let ⟨_, a, b⟩ := T.at_; He.glo_ok a b (T.c.fact 9 (f := .glo "_law_pick") rfl)
theorem g__law_refused : mg "_law_refused" = some (.ref (He.ga K "_law_refused")) := let ⟨_, a, b⟩ := T.at_; He.glo_ok a b (T.c.fact 10 (f := .glo "_law_refused") rfl)
theorem g__law_alike : mg "_law_alike" = some (.ref (He.ga K "_law_alike")) := let ⟨_, a, b⟩ := T.at_; He.glo_ok a b (T.c.fact 11 (f := .glo "_law_alike") rfl)
theorem g__law_right : mg "_law_right" = some (.ref (He.ga K "_law_right")) := let ⟨_, a, b⟩ := T.at_; He.glo_ok a b (T.c.fact 12 (f := .glo "_law_right") rfl)
theorem g__law_text : mg "_law_text" = some (.ref (He.ga K "_law_text")) := let ⟨_, a, b⟩ := T.at_; He.glo_ok a b (T.c.fact 13 (f := .glo "_law_text") rfl)
theorem g__law_flaw : mg "_law_flaw" = some (.ref (He.ga K "_law_flaw")) := let ⟨_, a, b⟩ := T.at_; He.glo_ok a b (T.c.fact 14 (f := .glo "_law_flaw") rfl)
theorem g_law : mg "law" = some (.ref (He.ga K "law")) := let ⟨_, a, b⟩ := T.at_; He.glo_ok a b (T.c.fact 15 (f := .glo "law") rfl)
theorem g_BadArgument : mg "BadArgument" = some (.ref (He.ga K "BadArgument")) := let ⟨_, a, b⟩ := T.at_; He.glo_ok a b (T.c.fact 16 (f := .glo "BadArgument") rfl)
theorem n_BadArgument_name : NoAttr K (He.ga K "BadArgument") "name" := He.noat_ok (T.c.fact 18 (f := .noat "BadArgument" "name") rfl)
theorem g_Flaw : mg "Flaw" = some (.ref (He.ga K "Flaw")) := let ⟨_, a, b⟩ := T.at_; He.glo_ok a b (T.c.fact 19 (f := .glo "Flaw") rfl)
theorem n_Flaw_place : NoAttr K (He.ga K "Flaw") "place" := He.noat_ok (T.c.fact 21 (f := .noat "Flaw" "place") rfl)
theorem n_Flaw_message : NoAttr K (He.ga K "Flaw") "message" := He.noat_ok (T.c.fact 22 (f := .noat "Flaw" "message") rfl)
theorem g_Reader : mg "Reader" = some (.ref (He.ga K "Reader")) := let ⟨_, a, b⟩ := T.at_; He.glo_ok a b (T.c.fact 23 (f := .glo "Reader") rfl)
theorem c_Reader : Cls K (He.ga K "Reader") := He.cls_ok (T.c.fact 24 (f := .cls "Reader") rfl)
theorem k_Reader : Mk K (He.ga K "Reader") (a_Reader_init K) := He.mkr_ok (T.c.fact 25 (f := .mkr "Reader") rfl)
theorem n_Reader_signs : NoAttr K (He.ga K "Reader") "signs" := He.noat_ok (T.c.fact 26 (f := .noat "Reader" "signs") rfl)
theorem n_Reader_size : NoAttr K (He.ga K "Reader") "size" := He.noat_ok (T.c.fact 27 (f := .noat "Reader" "size") rfl)
theorem n_Reader_at : NoAttr K (He.ga K "Reader") "at" := He.noat_ok (T.c.fact 28 (f := .noat "Reader" "at") rfl)
theorem n_Reader_deep : NoAttr K (He.ga K "Reader") "deep" := He.noat_ok (T.c.fact 29 (f := .noat "Reader" "deep") rfl)
theorem m_Reader_sign : Meth K (He.ga K "Reader") "sign" (a_Reader_sign K) := He.meth_ok (T.c.fact 30 (f := .meth "Reader" "sign") rfl)
theorem m_Reader_refuse : Meth K (He.ga K "Reader") "refuse" (a_Reader_refuse K) := He.meth_ok (T.c.fact 31 (f := .meth "Reader" "refuse") rfl)
theorem m_Reader_is_next : Meth K (He.ga K "Reader") "is_next" (a_Reader_is_next K) := He.meth_ok (T.c.fact 32 (f := .meth "Reader" "is_next") rfl)
theorem m_Reader_digit : Meth K (He.ga K "Reader") "digit" (a_Reader_digit K) := He.meth_ok (T.c.fact 33 (f := .meth "Reader" "digit") rfl)
theorem m_Reader_nest : Meth K (He.ga K "Reader") "nest" (a_Reader_nest K) := He.meth_ok (T.c.fact 34 (f := .meth "Reader" "nest") rfl)
theorem m_Reader_item : Meth K (He.ga K "Reader") "item" (a_Reader_item K) := He.meth_ok (T.c.fact 35 (f := .meth "Reader" "item") rfl)
theorem m_Reader_atom : Meth K (He.ga K "Reader") "atom" (a_Reader_atom K) := He.meth_ok (T.c.fact 36 (f := .meth "Reader" "atom") rfl)
theorem m_Reader_ground : Meth K (He.ga K "Reader") "ground" (a_Reader_ground K) := He.meth_ok (T.c.fact 37 (f := .meth "Reader" "ground") rfl)
theorem i_LETTERS : ∃ t, mg "LETTERS" = some (.str "abcdef" t) := let ⟨_, a, b⟩ := T.at_; He.str_ok a b (T.c.fact 38 (f := .str "LETTERS" "abcdef") rfl)
theorem i_DIGITS : ∃ t, mg "DIGITS" = some (.str "0123456789" t) := let ⟨_, a, b⟩ := T.at_; He.str_ok a b (T.c.fact 39 (f := .str "DIGITS" "0123456789") rfl)
theorem i_MOST_TEXT : ∃ t, mg "MOST_TEXT" = some (.int 200 t) := let ⟨_, a, b⟩ := T.at_; He.int_ok a b (T.c.fact 40 (f := .int "MOST_TEXT" 200) rfl)
theorem i_MOST_DEEP : ∃ t, mg "MOST_DEEP" = some (.int 20 t) := let ⟨_, a, b⟩ := T.at_; He.int_ok a b (T.c.fact 41 (f := .int "MOST_DEEP" 20) rfl)
theorem l_ValueError : mg "ValueError" = none := let ⟨_, a, b⟩ := T.at_; He.free_ok a b (T.c.fact 42 (f := .free "ValueError") rfl)
theorem l_bool : mg "bool" = none := let ⟨_, a, b⟩ := T.at_; He.free_ok a b (T.c.fact 43 (f := .free "bool") rfl)
theorem l_enumerate : mg "enumerate" = none := let ⟨_, a, b⟩ := T.at_; He.free_ok a b (T.c.fact 44 (f := .free "enumerate") rfl)
theorem l_int : mg "int" = none := let ⟨_, a, b⟩ := T.at_; He.free_ok a b (T.c.fact 45 (f := .free "int") rfl)
theorem l_isinstance : mg "isinstance" = none := let ⟨_, a, b⟩ := T.at_; He.free_ok a b (T.c.fact 46 (f := .free "isinstance") rfl)
theorem l_len : mg "len" = none := let ⟨_, a, b⟩ := T.at_; He.free_ok a b (T.c.fact 47 (f := .free "len") rfl)
theorem l_list : mg "list" = none := let ⟨_, a, b⟩ := T.at_; He.free_ok a b (T.c.fact 48 (f := .free "list") rfl)
theorem l_range : mg "range" = none := let ⟨_, a, b⟩ := T.at_; He.free_ok a b (T.c.fact 49 (f := .free "range") rfl)
theorem l_str : mg "str" = none := let ⟨_, a, b⟩ := T.at_; He.free_ok a b (T.c.fact 50 (f := .free "str") rfl)
theorem l_tuple : mg "tuple" = none := let ⟨_, a, b⟩ := T.at_; He.free_ok a b (T.c.fact 51 (f := .free "tuple") rfl)
theorem exAll : (oexB K (He.ga K "BadArgument") = true ∧ xfB K (He.ga K "BadArgument") = true ∧ initB K (He.ga K "BadArgument") = true) ∧ (oexB K (He.ga K "Flaw") = true ∧ xfB K (He.ga K "Flaw") = true ∧ initB K (He.ga K "Flaw") = true) := by
  have h := T.ex
  unfold exF at h
  simp only [Bool.and_eq_true, and_assoc] at h
  simp only [and_assoc]
  exact h
theorem x_BadArgument : OexC K (He.ga K "BadArgument") ∧ PySem.W.exmOne K (.ref (He.ga K "BadArgument")) (.ref (He.ga K "BadArgument")) = some true := oexB_ok (exAll T).1.1
theorem xf_BadArgument : XfC K (He.ga K "BadArgument") := xfB_ok (exAll T).1.2.1
theorem xi_BadArgument : PySem.W.findIn K (.ref (He.ga K "BadArgument")) "__init__" = some (some (.ref (a_BadArgument_init K))) ∧ PySem.W.typeIn K (.ref (a_BadArgument_init K)) = some (.type "function") := initB_ok (exAll T).1.2.2
theorem x_Flaw : OexC K (He.ga K "Flaw") ∧ PySem.W.exmOne K (.ref (He.ga K "Flaw")) (.ref (He.ga K "Flaw")) = some true := oexB_ok (exAll T).2.1
theorem xf_Flaw : XfC K (He.ga K "Flaw") := xfB_ok (exAll T).2.2.1
theorem xi_Flaw : PySem.W.findIn K (.ref (He.ga K "Flaw")) "__init__" = some (some (.ref (a_Flaw_init K))) ∧ PySem.W.typeIn K (.ref (a_Flaw_init K)) = some (.type "function") := initB_ok (exAll T).2.2.2
end
end K02
/-! Own exceptions with one or two fields: their __init__, their making; a call that is refused. -/
namespace Sl
open PySem PySem.Spec
open PyProof.Rows L2
/-- __init__ of one field -/
def spX1 (K : PySem.W.Frag) (C : Addr) (f : Str) : Sp := fun vs H Q _ => ∃ (a : Addr) (y : V), vs = [.ref a, y] ∧ OexC K C ∧ PySem.W.findIn K (.ref C) f = some none ∧ H a = some (exo a C none) ∧
  ∀ dx, H dx = none → dx ≠ a → Q .non (upd (upd H dx (exd dx [(f, y)])) a (exo a C (some dx)))
/-- of two -/
def spX2 (K : PySem.W.Frag) (C : Addr) (f g : Str) : Sp := fun vs H Q _ => ∃ (a : Addr) (y z : V), vs = [.ref a, y, z] ∧ OexC K C ∧ PySem.W.findIn K (.ref C) f = some none ∧ PySem.W.findIn K (.ref C) g = some none ∧ H a = some (exo a C none) ∧
  ∀ dx, H dx = none → dx ≠ a → Q .non (upd (upd (upd H dx (exd dx [(f, y)])) a (exo a C (some dx))) dx (exd dx [(g, z), (f, y)]))
section
variable {K : PySem.W.Frag} {C : Addr} {f g : Str} {y z : V} {H : Hp} {Q : XK}
theorem mkx1 (T : OexC K C) (hf : PySem.W.findIn K (.ref C) f = some none) (k : ∀ d H', Ex H H' → H d = none → H' d = some (.xd [(f, y)]) → Q (.ref C) (some d) H') :
    [y].length ≤ 1000 ∧ ∀ a, H a = none → spX1 K C f (.ref a :: ([y] ++ [])) (upd H a (exo a C none))
      (fun v H2 => v = .non ∧ ∃ (d : Addr) (fs : List (Str × V)), H2 a = some (exo a C (some d)) ∧ H2 d = some (exd d fs) ∧ H d = none ∧ Q (.ref C) (some d) (upd (del H2 a) d (.xd fs))) (fun _ _ _ => False) := by
  refine ⟨by show 1 ≤ 1000; decide, fun a ha => ⟨a, y, rfl, T, hf, upd_same, fun dx hd hne => ⟨rfl, dx, [(f, y)], upd_same, ?_, ?_, ?_⟩⟩⟩
  · rw [upd_ne hne, upd_same]
  · rw [upd_ne hne] at hd
    exact hd
  · rw [upd_ne hne] at hd
    refine k dx _ (fun b o e => ?_) hd upd_same
    have n1 : b ≠ dx := ne_of_none e hd
    have n2 : b ≠ a := ne_of_none e ha
    rw [upd_ne n1, del_ne n2, upd_ne n2, upd_ne n1, upd_ne n2]
    exact e
theorem mkx2 (T : OexC K C) (hf : PySem.W.findIn K (.ref C) f = some none) (hg : PySem.W.findIn K (.ref C) g = some none) (k : ∀ d H', Ex H H' → H d = none → H' d = some (.xd [(g, z), (f, y)]) → Q (.ref C) (some d) H') :
    [y, z].length ≤ 1000 ∧ ∀ a, H a = none → spX2 K C f g (.ref a :: ([y, z] ++ [])) (upd H a (exo a C none))
      (fun v H2 => v = .non ∧ ∃ (d : Addr) (fs : List (Str × V)), H2 a = some (exo a C (some d)) ∧ H2 d = some (exd d fs) ∧ H d = none ∧ Q (.ref C) (some d) (upd (del H2 a) d (.xd fs))) (fun _ _ _ => False) := by
  refine ⟨by show 2 ≤ 1000; decide, fun a ha => ⟨a, y, z, rfl, T, hf, hg, upd_same, fun dx hd hne => ⟨rfl, dx, _, ?_, upd_same, ?_, ?_⟩⟩⟩
  · rw [upd_ne (Ne.symm hne), upd_same]
  · rw [upd_ne hne] at hd
    exact hd
  · rw [upd_ne hne] at hd
    refine k dx _ (fun b o e => ?_) hd upd_same
    have n1 : b ≠ dx := ne_of_none e hd
    have n2 : b ≠ a := ne_of_none e ha
    rw [upd_ne n1, del_ne n2, upd_ne n1, upd_ne n2, upd_ne n1, upd_ne n2]
    exact e
end
section
variable {P : Program} {w : World} {K : PySem.W.Frag} {mg : Str → Option Value} {base : Heap} {f C : Addr} {a b c : Str} {x qual : Str} {params : Arguments} {scope : Scope} {p1 p2 p3 p4 q1 q2 q3 q4 : Pos}
theorem has_x1 (F : ∃ fd, FunD K x qual params [.Assign [.Attribute (.Name a p1) b p2] (.Name b p3) p4] scope [] [] f fd) (S : FnScope [a, b] [a, b] scope)
    (hb : BindsBy x qual params [.Assign [.Attribute (.Name a p1) b p2] (.Name b p3) p4] scope [a, b]) (v1 : Vis scope a) (v2 : Vis scope b) (d1 : (a == ("__debug__" : Str)) = false) (d2 : (b == ("__debug__" : Str)) = false) (e1 : (a == ("__classdict__" : Str)) = false) (e2 : (b == ("__classdict__" : Str)) = false)
    (sw : ∀ X : Cx, X.env.scope = scope → swapsWith (.Name b p3) (some (.Attribute (.Name a p1) b p2)) p4.line X.env = pure false) : Has P w K mg base 1 f [a, b] (spX1 K C b) := by
  refine has_of F S hb (fun vs H Q E h => by obtain ⟨_, _, rfl, _⟩ := h; rfl) (fun cdv A outer s H vs Q E hr h => ?_)
  obtain ⟨o, y, rfl, T, hf, ho, k⟩ := h
  refine ⟨_, pss_one (ps_ost (pe_var (i := 0) rfl v1 d1 e1) (pe_var (i := 1) rfl v2 d2 e2) (sw _ rfl)), ?_⟩
  exact ⟨_, rfl, _, rfl, o, C, rfl, T, hf, .inl ⟨ho, k⟩⟩
end
end Sl
namespace Sl
open PySem PySem.Spec
open PyProof.Rows L2
theorem tk_of {P : Program} {w : World} {K : PySem.W.Frag} {mg : Str → Option Value} {base : Heap} {N : List Str} {qual : Str} {sc : Scope} {f : Addr} {cd : Value} {A : Around} {outer : List Env} {s : Shared} {H : Hp} {E : XK} :
    Takes (cxOf (L2.CX P w) P w K mg base N qual sc f cd A outer s H E) (fun cls d _ H => E cls d H) := takes_of rfl rfl rfl rfl
theorem px_of {P : Program} {w : World} {K : PySem.W.Frag} {mg : Str → Option Value} {base : Heap} {N : List Str} {qual : Str} {sc : Scope} {f : Addr} {cd : Value} {A : Around} {outer : List Env} {s : Shared} {H : Hp} {E : XK} :
    Passes (L2.CX P w) (cxOf (L2.CX P w) P w K mg base N qual sc f cd A outer s H E) E := passes_call tk_of fun _ _ _ _ h => h
theorem exb_put {H : Hp} {p : Addr} {o : HO} : ExB [p] H (upd H p o) := fun a u na e => by
  rw [upd_ne (by simpa using na)]
  exact e
theorem SH.upd1 {K : PySem.W.Frag} {H0 H H' : Hp} {M : List Addr} {LO LB LO' : List As} {p : Addr} {o o' : HO} (S : SH K H0 M LO LB H) (q : Pick LO (pt p o) LO') (e : ExB [p] H H') (t : TEx H H') (h : H' p = some o') : SH K H0 M (pt p o' :: LO') LB H' :=
  S.step q fun fp hp _ _ => by
    obtain ⟨rfl, _⟩ := hp
    exact ⟨e, t, [p], ⟨rfl, h⟩, by simp, fun a ha => .inl ha⟩
theorem start1 {K : PySem.W.Frag} {H : Hp} {p l : Addr} {o : HO} {ds : List D} {xs : List V} (h : H p = some o) (hl : H l = some (.lst xs)) (r : RDs K H ds xs) (n : o ≠ .lst xs) : SH K H [p] [pt p o] [ls K l ds] H :=
  ⟨ExB.refl _ _, TEx.refl _, [[p]], [[l]], .cons ⟨rfl, h⟩ .nil, .cons ⟨rfl, xs, hl, r⟩ .nil, by simp, fun a ha => by
    have e : a = p := by simpa using ha
    subst e
    refine ⟨.inr (by simp), ?_⟩
    have ne : a ≠ l := ne_of h hl n
    simpa using ne⟩
end Sl
namespace Sl
open PySem PySem.Spec
open PyProof.Rows L2
/-- a module's constant -/
theorem pgi {X : Cx} {x : Str} {p : Pos} {v : Int} (hm : ∃ t, X.mg x = some (.int v t)) (hg : Gl X x := by rfl) (hdb : (x == ("__debug__" : Str)) = false := by decide) : PE X (.Name x p) (tC (.int v)) := by
  obtain ⟨t, h⟩ := hm
  exact pe_glob hg h ⟨t, rfl⟩ hdb
theorem pgs {X : Cx} {x : Str} {p : Pos} {v : Str} (hm : ∃ t, X.mg x = some (.str v t)) (hg : Gl X x := by rfl) (hdb : (x == ("__debug__" : Str)) = false := by decide) : PE X (.Name x p) (tC (.str v)) := by
  obtain ⟨t, h⟩ := hm
  exact pe_glob hg h ⟨t, rfl⟩ hdb
end Sl
/-! ### the rules with the written part told: for use within comprehensions -/
namespace Sl
open PySem PySem.Spec
open PyProof.Rows L2
section
variable {X : Cx} {K : PySem.W.Frag}
theorem fldK (K : PySem.W.Frag) {e : Expr} {f : Str} {pos : Pos} {ta : TE} (he : PE X e ta) (hK : X.K = K := by rfl) (hb : attributeBase e f X.env (eval e X.env) = eval e X.env := by rfl) : PE X (.Attribute e f pos) (tFld K ta f) := by
  subst hK
  exact pe_fld he hb
theorem tupK (K : PySem.W.Frag) {es : List Expr} {k : Nat} {pos : Pos} {t : TGs} {n : Nat} (h : PGs X es t) (hc : X.calm = true := by rfl) (hK : X.K = K := by rfl)
    (hn : (assignEach es X.env).length = n := by rfl) (hst : (assignEach es X.env).findIdx? (·.1) = none := by rfl) : PG X (.Tuple es k pos) (gTup K n t) := by
  subst hK
  exact pg_tup hc h hn hst
theorem inK (K : PySem.W.Frag) (hK : X.K = K := by rfl) : OpR X (compareOp .In) (rIn K false) := by subst hK; exact op_in_seq
theorem niK (K : PySem.W.Frag) (hK : X.K = K := by rfl) : OpR X (compareOp .NotIn) (rIn K true) := by subst hK; exact op_notIn_seq
theorem ixL (K : PySem.W.Frag) (hK : X.K = K := by rfl) : IxR X (rIxL K) := by subst hK; exact ix_list
theorem ixT (K : PySem.W.Frag) (hK : X.K = K := by rfl) : IxR X (rIxT K) := by subst hK; exact ix_tup
theorem slL (K : PySem.W.Frag) (hK : X.K = K := by rfl) : SlR X (rSlL K) := by subst hK; exact sl_list
theorem slT (K : PySem.W.Frag) (hK : X.K = K := by rfl) : SlR X (rSlA K) := by subst hK; exact sl_tupA
theorem catT (K : PySem.W.Frag) (hK : X.K = K := by rfl) : OpR X (binaryOp .Add) (rCatA K) := by subst hK; exact op_catA
theorem eqDK (K : PySem.W.Frag) (hu : X.A.units + 64 < cLine) (hK : X.K = K := by rfl) : OpR X (compareOp .Eq) (rEqD K) := by subst hK; exact op_eqD hu
theorem neDK (K : PySem.W.Frag) (hu : X.A.units + 64 < cLine) (hK : X.K = K := by rfl) : OpR X (compareOp .NotEq) (rNeD K) := by subst hK; exact op_neD hu
def rLenQ (K : PySem.W.Frag) : List V → Hp → VK → Prop := fun xs H Q => ∃ p ys, xs = [.ref p] ∧ (SqL K H p ys ∨ SqT K H p ys) ∧ Q (.int ys.length) H
theorem lenK (K : PySem.W.Frag) (hK : X.K = K := by rfl) : CallR X (.builtin "len") (rLenQ K) := by subst hK; exact call_len_seq
def rListQ (K : PySem.W.Frag) : List V → Hp → VK → Prop := fun xs H Q => ∃ p ys, xs = [.ref p] ∧ (SqL K H p ys ∨ SqT K H p ys) ∧ ∀ l, H l = none → Q (.ref l) (upd H l (.lst ys))
theorem listK (K : PySem.W.Frag) (hK : X.K = K := by rfl) : CallR X (.type "list") (rListQ K) := by subst hK; exact call_list_of
def rTupQ (K : PySem.W.Frag) : List V → Hp → VK → Prop := fun xs H Q => ∃ p ys, xs = [.ref p] ∧ ((SqL K H p ys ∧ ∀ l, H l = none → Q (.ref l) (upd H l (.tup ys))) ∨ (SqT K H p ys ∧ Q (.ref p) H))
theorem tupleK (K : PySem.W.Frag) (hK : X.K = K := by rfl) : CallR X (.type "tuple") (rTupQ K) := by subst hK; exact call_tuple_of
theorem isiK (K : PySem.W.Frag) (hK : X.K = K := by rfl) : CallR X (.builtin "isinstance") (rIsi K) := by subst hK; exact call_isi
theorem listW (K : PySem.W.Frag) {tg l : Expr} {tl : TE} (h : PE X l tl) (hK : X.K = K := by rfl) : PI X tg l (iList K tl) := by subst hK; exact pi_list h
theorem tupW (K : PySem.W.Frag) {tg l : Expr} {tl : TE} (h : PE X l tl) (hK : X.K = K := by rfl) : PI X tg l (iTup K tl) := by subst hK; exact pi_tup h
theorem bmK (K : PySem.W.Frag) {T id : String} {r : V → List V → Hp → VK → Prop} {o e : Expr} {es : List Expr} {to : TE} {t : TA} {name : Str} {apos cpos : Pos} (pa : PlainAttrs T) (slot : Slot T name id) (hty : typeOf (.builtin id) = pure (.type "method_descriptor")) (hm : MtR X id r) (ho : PE X o to) (ha : PA X (e :: es) t)
    (hK : X.K = K := by rfl) (hbase : attributeBase o name X.env (eval o X.env) = eval o X.env := by rfl)
    (hfew : ((backTo cpos (starEach (e :: es) X.env)).all (fun x => !x.1) && (backToKw cpos (keywordEach [] X.env)).all (fun x => x.1.isSome) && decide ((e :: es).length + ([] : List Keyword).length + (if ([] : List Keyword).isEmpty then 0 else 1) < 30)) = true := by rfl)
    (hline : (apos.endLine == cpos.line) = true := by rfl) (hs : starEach (e :: es) X.env = (false, eval e X.env) :: starEach es X.env := by rfl) (hplain : (backTo cpos (starEach es X.env)).any (·.1) = false := by rfl) :
    PE X (.Call (.Attribute o name apos) (e :: es) [] cpos) (tBM K T r to t) := by
  subst hK
  exact pe_bm pa slot hty hm ho ha hbase hfew hline hs hplain
def tTru (K : PySem.W.Frag) (ta : TE) : TT := fun σ H Q => ta σ H fun x H' => ∃ k, TruV K x H' k ∧ Q k H'
theorem truK (K : PySem.W.Frag) {a : Expr} {ta : TE} (ha : PE X a ta) (hK : X.K = K := by rfl) (he : ∀ whole, isTrue a X.env whole = (do let v ← whole; standAt a.pos; holding [v] (truthy v)) := by intro _; rfl) : PT X a (tTru K ta) := by
  subst hK
  exact pt_truth ha he
end
end Sl
namespace Ps
open PySem L2 Sl
abbrev Sg := List (Nat × Nat)
def cAt (ss : Sg) (i : Nat) : Option Nat := (ss[i]?).map (·.1)
def pAt (ss : Sg) (n i : Nat) : Nat := ((ss[i]?).map (·.2)).getD n
def sgD (p : Nat × Nat) : D := .tup [.str ⟨#[p.1]⟩, .int (p.2 : Int)]
def isDg (c : Nat) : Bool := decide (48 ≤ c ∧ c ≤ 57)
def isLt (c : Nat) : Bool := decide (97 ≤ c ∧ c ≤ 102)
inductive Rz where
  | bad (p : Nat) (m : Str) | ok (t : D) (i : Nat)
/-- a digit's value, none where it is none -/
def dgV (ss : Sg) (i : Nat) : Option Nat := match cAt ss i with
  | some c => if isDg c then some (c - 48) else none
  | none => none
mutual
def nestP (ss : Sg) (n : Nat) : Nat → Nat → Nat → Option Rz
  | 0, _, _ => none
  | f + 1, d, i => match itemP ss n f d i with
    | some (.ok t j) => nestL ss n f d t j
    | r => r
def nestL (ss : Sg) (n : Nat) : Nat → Nat → D → Nat → Option Rz
  | 0, _, _, _ => none
  | f + 1, d, t, i => if cAt ss i = some 43 then (match itemP ss n f d (i + 1) with
      | some (.ok u j) => nestL ss n f d (.tup [.str "beside", t, u]) j
      | r => r) else some (.ok t i)
def itemP (ss : Sg) (n : Nat) : Nat → Nat → Nat → Option Rz
  | 0, _, _ => none
  | f + 1, d, i => match atomP ss n f d i with
    | some (.ok t j) => itemL ss n f d t j
    | r => r
def itemL (ss : Sg) (n : Nat) : Nat → Nat → D → Nat → Option Rz
  | 0, _, _, _ => none
  | f + 1, d, t, i => if cAt ss i = some 47 then (match dgV ss (i + 1) with
      | none => some (.bad (pAt ss n (i + 1)) "expected a digit")
      | some v => match atomP ss n f d (i + 2) with
        | some (.ok u j) => itemL ss n f d (.tup [.str "over", .int (v : Int), t, u]) j
        | r => r) else some (.ok t i)
def atomP (ss : Sg) (n : Nat) : Nat → Nat → Nat → Option Rz
  | 0, _, _ => none
  | f + 1, d, i => match groundP ss n f d i with
    | some (.ok t j) => atomL ss n f d t j
    | r => r
def atomL (ss : Sg) (n : Nat) : Nat → Nat → D → Nat → Option Rz
  | 0, _, _, _ => none
  | f + 1, d, t, i => if cAt ss i = some 91 then (match dgV ss (i + 1) with
      | none => some (.bad (pAt ss n (i + 1)) "expected a digit")
      | some v => if cAt ss (i + 2) = some 61 then (match dgV ss (i + 3) with
          | none => some (.bad (pAt ss n (i + 3)) "expected a digit")
          | some u => if cAt ss (i + 4) = some 93 then atomL ss n f d (.tup [.str "glue", .int (v : Int), .int (u : Int), t]) (i + 5) else some (.bad (pAt ss n (i + 4)) "expected ]"))
        else if cAt ss (i + 2) = some 93 then atomL ss n f d (.tup [.str "hide", .int (v : Int), t]) (i + 3) else some (.bad (pAt ss n (i + 2)) "expected = or ]"))
    else some (.ok t i)
def groundP (ss : Sg) (n : Nat) : Nat → Nat → Nat → Option Rz
  | 0, _, _ => none
  | f + 1, d, i => if cAt ss i = some 40 then (if d = 20 then some (.bad (pAt ss n i) "this is too deep") else match nestP ss n f (d + 1) (i + 1) with
      | some (.ok t j) => if cAt ss j = some 41 then some (.ok t (j + 1)) else some (.bad (pAt ss n j) "expected )")
      | r => r)
    else match cAt ss i with
      | some c => if isLt c then some (.ok (.tup [.str "maze", .str ⟨#[c]⟩]) (i + 1)) else some (.bad (pAt ss n i) "expected a maze")
      | none => some (.bad (pAt ss n i) "expected a maze")
end
end Ps
namespace K02
open PySem PySem.Spec
open PyProof.Rows L2 Sl Ps
/-- the fields of a reader -/
def rf (l : Addr) (n i d : Nat) : List (Str × V) := [("signs", .ref l), ("size", .int (n : Int)), ("at", .int (i : Int)), ("deep", .int (d : Int))]
theorem rf_signs (l : Addr) (n i d : Nat) : (rf l n i d).lookup ("signs" : Str) = some (.ref l) := by rfl
theorem rf_size (l : Addr) (n i d : Nat) : (rf l n i d).lookup ("size" : Str) = some (.int n) := by rfl
theorem rf_at (l : Addr) (n i d : Nat) : (rf l n i d).lookup ("at" : Str) = some (.int i) := by rfl
theorem rf_deep (l : Addr) (n i d : Nat) : (rf l n i d).lookup ("deep" : Str) = some (.int d) := by rfl
theorem rf_putAt (l : Addr) (n i d : Nat) : putF "at" (.int ((i : Int) + 1)) (rf l n i d) = rf l n (i + 1) d := by rfl
theorem rf_putDeep (l : Addr) (n i d : Nat) : putF "deep" (.int ((d : Int) + 1)) (rf l n i d) = rf l n i (d + 1) := by rfl
theorem rf_putDeep2 (l : Addr) (n i d : Nat) : putF "deep" (.int (((d + 1 : Nat) : Int) - 1)) (rf l n i (d + 1)) = rf l n i d := by
  have e : ((d + 1 : Nat) : Int) - 1 = (d : Int) := by omega
  rw [e]
  rfl
section
variable {P : Program} {w : World} {K : PySem.W.Frag} {mg : Str → Option Value} {base : Heap}
abbrev cR (K : PySem.W.Frag) : Addr := He.ga K "Reader"
abbrev cF (K : PySem.W.Frag) : Addr := He.ga K "Flaw"
abbrev cB (K : PySem.W.Frag) : Addr := He.ga K "BadArgument"
theorem ok_Badinit (T : Tx K mg) : Has P w K mg base 1 (a_BadArgument_init K) p_BadArgument_init (spX1 K (cB K) "name") := by
  refine has_of (f_BadArgument_init T) (z_BadArgument_init T) (b_BadArgument_init T) (fun vs H Q E h => by obtain ⟨_, _, rfl, _⟩ := h; rfl) (fun cdv A outer s H vs Q E hr h => ?_)
  obtain ⟨o, y, rfl, T1, hf, ho, k⟩ := h
  refine ⟨_, pss_one (ps_ost (pv 0) (pv 1)), ?_⟩
  exact ⟨_, rfl, _, rfl, o, _, rfl, T1, hf, .inl ⟨ho, k⟩⟩
theorem ok_Flawinit (T : Tx K mg) : Has P w K mg base 1 (a_Flaw_init K) p_Flaw_init (spX2 K (cF K) "place" "message") := by
  refine has_of (f_Flaw_init T) (z_Flaw_init T) (b_Flaw_init T) (fun vs H Q E h => by obtain ⟨_, _, _, rfl, _⟩ := h; rfl) (fun cdv A outer s H vs Q E hr h => ?_)
  obtain ⟨o, y, z, rfl, T1, hf, hg, ho, k⟩ := h
  refine ⟨_, pss_cons (ps_ost (pv 0) (pv 1)) (pss_one (ps_ost (pv 0) (pv 2))), ?_⟩
  refine ⟨_, rfl, _, rfl, o, _, rfl, T1, hf, .inl ⟨ho, fun dx hd hne => ?_⟩⟩
  refine ⟨_, rfl, _, rfl, o, _, rfl, T1, hg, .inr ⟨dx, [("place", y)], upd_same, ?_, by show 1 ≤ 900; decide, k dx hd hne⟩⟩
  rw [upd_ne hne, upd_same]
/-- what a flaw leaves -/
abbrev Fl (K : PySem.W.Frag) (M : List Addr) (H : Hp) (E : XK) (pl : Nat) (m : Str) : Prop := ∀ d H', ExB M H H' → H d = none → H' d = some (.xd [("message", .str m), ("place", .int (pl : Int))]) → E (.ref (cF K)) (some d) H'
abbrev Sgs (K : PySem.W.Frag) (H : Hp) (l : Addr) (ss : Sg) : Prop := ∃ xs, H l = some (.lst xs) ∧ RDs K H (ss.map sgD) xs
def sgAt (ss : Sg) (i : Nat) : Str := match cAt ss i with
  | some c => ⟨#[c]⟩
  | none => ⟨#[]⟩
def spSign (K : PySem.W.Frag) : Sp := fun vs H Q _ => ∃ (p dx l : Addr) (n i d : Nat) (ss : Sg), vs = [.ref p] ∧ H p = some (.ins (cR K) dx (rf l n i d)) ∧ Sgs K H l ss ∧ Q (.str (sgAt ss i)) H
theorem sg_at {K : PySem.W.Frag} {H : Hp} {ss : Sg} {xs : List V} {i : Nat} (r : RDs K H (ss.map sgD) xs) (hi : i < ss.length) : ∃ a, atI xs (i : Int) = some (.ref a) ∧ SqT K H a [.str ⟨#[ss[i].1]⟩, .int (ss[i].2 : Int)] := by
  obtain ⟨v, h1, h2⟩ := r.get (i := i) (d := sgD ss[i]) (by simp [hi])
  obtain ⟨a, ys, rfl, h3, h4⟩ := h2.ofTup
  obtain ⟨v1, w1, rfl, q1, q2⟩ := h4.ofCons
  obtain ⟨v2, w2, rfl, q3, q4⟩ := q2.ofCons
  obtain rfl := q1.ofStr
  obtain rfl := q3.ofInt
  obtain rfl := q4.ofNil
  exact ⟨a, at_of rfl h1, h3⟩
theorem cAt_lt {ss : Sg} {i : Nat} (h : i < ss.length) : cAt ss i = some ss[i].1 := by simp [cAt, h]
theorem cAt_ge {ss : Sg} {i : Nat} (h : ¬ i < ss.length) : cAt ss i = none := by simp [cAt]; omega
theorem pAt_lt {ss : Sg} {n i : Nat} (h : i < ss.length) : pAt ss n i = ss[i].2 := by simp [pAt, h]
theorem pAt_ge {ss : Sg} {n i : Nat} (h : ¬ i < ss.length) : pAt ss n i = n := by simp [pAt, show ss[i]? = none from List.getElem?_eq_none_iff.mpr (by omega)]
theorem ok_sign (T : Tx K mg) : Has P w K mg base 1 (a_Reader_sign K) p_Reader_sign (spSign K) := by
  refine has_of (f_Reader_sign T) (z_Reader_sign T) (b_Reader_sign T) (fun vs H Q E h => by obtain ⟨_, _, _, _, _, _, _, rfl, _⟩ := h; rfl) (fun cdv A outer s H vs Q E hr h => ?_)
  obtain ⟨p, dx, l, n, i, d, ss, rfl, hp, ⟨xs, hl, r⟩, k⟩ := h
  refine ⟨_, (pss_one (ps_ret (pe_ifExp (pt_cmpR oLtI (fldK K (pv 0)) (pe_callB (lenK K) (by rfl) (l_len T) (by decide +kernel) (pa_cons (fldK K (pv 0)) pa_nil)) (nomark _)) (pe_ix (ixT K) (pe_ix (ixL K) (fldK K (pv 0)) (fldK K (pv 0)) (fun _ _ => rfl)) pe_int (fun _ _ => rfl)) pe_str))), ?_⟩
  refine ⟨_, rfl, p, _, dx, _, _, rfl, hp, c_Reader T, n_Reader_at T, rf_at .., _, rfl, p, _, dx, _, _, rfl, hp, c_Reader T, n_Reader_signs T, rf_signs .., l, _, rfl, .inl (SqL.of hl), _, _, rfl, rfl, _, rfl, ?_⟩
  refine ite2 (fun c => ?_) (fun c => ?_)
  · have hi : i < ss.length := by
      have := of_decide_eq_true c
      rw [r.len, List.length_map] at this
      omega
    obtain ⟨a, h1, h2⟩ := sg_at r hi
    refine ⟨_, rfl, p, _, dx, _, _, rfl, hp, c_Reader T, n_Reader_signs T, rf_signs .., _, rfl, p, _, dx, _, _, rfl, hp, c_Reader T, n_Reader_at T, rf_at .., l, _, _, _, rfl, rfl, SqL.of hl, h1, a, _, _, _, rfl, rfl, h2, rfl, ?_⟩
    have e : sgAt ss i = ⟨#[ss[i].1]⟩ := by unfold sgAt; rw [cAt_lt hi]
    rw [e] at k
    exact k
  · have hi : ¬ i < ss.length := by
      intro z
      refine c (decide_eq_true ?_)
      rw [r.len, List.length_map]
      omega
    have e : sgAt ss i = ⟨#[]⟩ := by unfold sgAt; rw [cAt_ge hi]
    rw [e] at k
    exact k
def spRefuse (K : PySem.W.Frag) : Sp := fun vs H _ E => ∃ (p dx l : Addr) (n i d : Nat) (ss : Sg) (m : Str), vs = [.ref p, .str m] ∧ H p = some (.ins (cR K) dx (rf l n i d)) ∧ Sgs K H l ss ∧ Fl K [] H E (pAt ss n i) m
theorem ok_refuse (T : Tx K mg) : Has P w K mg base 3 (a_Reader_refuse K) p_Reader_refuse (spRefuse K) := by
  refine has_of (f_Reader_refuse T) (z_Reader_refuse T) (b_Reader_refuse T) (fun vs H Q E h => by obtain ⟨_, _, _, _, _, _, _, _, rfl, _⟩ := h; rfl) (fun cdv A outer s H vs Q E hr h => ?_)
  obtain ⟨p, dx, l, n, i, d, ss, m, rfl, hp, ⟨xs, hl, r⟩, k⟩ := h
  have h_Flaw_init := ok_Flawinit (P := P) (w := w) (base := base) T
  refine ⟨_, (pss_one (praise h_Flaw_init rfl tk_of (x_Flaw T).1 (xi_Flaw T).1 (xi_Flaw T).2 (hr.mono (by omega)) (g_Flaw T) (pa_cons (pe_ifExp (pt_cmpR oLtI (fldK K (pv 0)) (pe_callB (lenK K) (by rfl) (l_len T) (by decide +kernel) (pa_cons (fldK K (pv 0)) pa_nil)) (nomark _)) (pe_ix (ixT K) (pe_ix (ixL K) (fldK K (pv 0)) (fldK K (pv 0)) (fun _ _ => rfl)) pe_int (fun _ _ => rfl)) (fldK K (pv 0))) (pa_cons (pv 1) pa_nil)))), ?_⟩
  have fin : ∀ pl : Nat, pl = pAt ss n i → ∀ d' H', Ex H H' → H d' = none → H' d' = some (.xd [("message", .str m), ("place", .int (pl : Int))]) → E (.ref (cF K)) (some d') H' := fun pl e d' H' h1 h2 h3 => k d' H' h1.b h2 (by rw [← e]; exact h3)
  refine ⟨_, rfl, p, _, dx, _, _, rfl, hp, c_Reader T, n_Reader_at T, rf_at .., _, rfl, p, _, dx, _, _, rfl, hp, c_Reader T, n_Reader_signs T, rf_signs .., l, _, rfl, .inl (SqL.of hl), _, _, rfl, rfl, _, rfl, ?_⟩
  refine ite2 (fun c => ?_) (fun c => ?_)
  · have hi : i < ss.length := by
      have := of_decide_eq_true c
      rw [r.len, List.length_map] at this
      omega
    obtain ⟨a, h1, h2⟩ := sg_at r hi
    refine ⟨_, rfl, p, _, dx, _, _, rfl, hp, c_Reader T, n_Reader_signs T, rf_signs .., _, rfl, p, _, dx, _, _, rfl, hp, c_Reader T, n_Reader_at T, rf_at .., l, _, _, _, rfl, rfl, SqL.of hl, h1, a, _, _, _, rfl, rfl, h2, rfl, _, rfl, ?_⟩
    exact mkx2 (x_Flaw T).1 (n_Flaw_place T) (n_Flaw_message T) (fin _ (pAt_lt hi).symm)
  · have hi : ¬ i < ss.length := by
      intro z
      refine c (decide_eq_true ?_)
      rw [r.len, List.length_map]
      omega
    refine ⟨_, rfl, p, _, dx, _, _, rfl, hp, c_Reader T, n_Reader_size T, rf_size .., _, rfl, ?_⟩
    exact mkx2 (x_Flaw T).1 (n_Flaw_place T) (n_Flaw_message T) (fin _ (pAt_ge hi).symm)
theorem dg_list : ("0123456789" : Str).cps.toList = [48, 49, 50, 51, 52, 53, 54, 55, 56, 57] := by decide +kernel
theorem dg_mem (c : Nat) : decide (c ∈ ("0123456789" : Str).cps.toList) = isDg c := by
  rw [dg_list]
  unfold isDg
  refine decide_eq_decide.mpr ?_
  simp only [List.mem_cons, List.not_mem_nil, or_false]
  omega
theorem dg_index : ∀ v : Nat, v < 10 → ∃ rest, Builtin.Str.occurrences ("0123456789" : Str) ⟨#[48 + v]⟩ 0 ("0123456789" : Str).length 1 = v :: rest
  | 0, _ => ⟨[], by decide +kernel⟩
  | 1, _ => ⟨[], by decide +kernel⟩
  | 2, _ => ⟨[], by decide +kernel⟩
  | 3, _ => ⟨[], by decide +kernel⟩
  | 4, _ => ⟨[], by decide +kernel⟩
  | 5, _ => ⟨[], by decide +kernel⟩
  | 6, _ => ⟨[], by decide +kernel⟩
  | 7, _ => ⟨[], by decide +kernel⟩
  | 8, _ => ⟨[], by decide +kernel⟩
  | 9, _ => ⟨[], by decide +kernel⟩
  | n + 10, h => by omega
/-- what a reader's method leaves: it went on to i' -/
abbrev Went (K : PySem.W.Frag) (H : Hp) (p dx l : Addr) (n i' d : Nat) (H' : Hp) : Prop := ExB [p] H H' ∧ TEx H H' ∧ H' p = some (.ins (cR K) dx (rf l n i' d))
def spNext (K : PySem.W.Frag) : Sp := fun vs H Q _ => ∃ (p dx l : Addr) (n i d : Nat) (ss : Sg) (c : Nat), vs = [.ref p, .str ⟨#[c]⟩] ∧ H p = some (.ins (cR K) dx (rf l n i d)) ∧ Sgs K H l ss ∧
  ∀ H', Went K H p dx l n (if cAt ss i = some c then i + 1 else i) d H' → Q (.bl (decide (cAt ss i = some c))) H'
theorem sg_eq {ss : Sg} {i c : Nat} : decide (V.str (sgAt ss i) = V.str ⟨#[c]⟩) = decide (cAt ss i = some c) := by
  refine decide_eq_decide.mpr ?_
  unfold sgAt
  cases cAt ss i with
  | none => simp
  | some a => simp
theorem went_refl {K : PySem.W.Frag} {H : Hp} {p dx l : Addr} {n i d : Nat} (h : H p = some (.ins (cR K) dx (rf l n i d))) : Went K H p dx l n i d H := ⟨ExB.refl _ _, TEx.refl _, h⟩
theorem went_put {K : PySem.W.Frag} {H : Hp} {p dx l : Addr} {n i d i' d' : Nat} (h : H p = some (.ins (cR K) dx (rf l n i d))) : Went K H p dx l n i' d' (upd H p (.ins (cR K) dx (rf l n i' d'))) :=
  ⟨exb_put, tex_put h (by intro xs z; cases z) (by intro a b z; cases z), upd_same⟩
theorem ok_next (T : Tx K mg) : Has P w K mg base 3 (a_Reader_is_next K) p_Reader_is_next (spNext K) := by
  refine has_of (f_Reader_is_next T) (z_Reader_is_next T) (b_Reader_is_next T) (fun vs H Q E h => by obtain ⟨_, _, _, _, _, _, _, _, rfl, _⟩ := h; rfl) (fun cdv A outer s H vs Q E hr h => ?_)
  obtain ⟨p, dx, l, n, i, d, ss, c, rfl, hp, hs, k⟩ := h
  have h_Reader_sign := ok_sign (P := P) (w := w) (base := base) T
  refine ⟨_, (pss_cons (ps_if (pt_cmpR op_ne (pmeth0 h_Reader_sign (c_Reader T) (m_Reader_sign T) (hr.mono (by omega)) passL (pv 0)) (pv 1) (nomark _)) (pss_one (ps_ret pe_bl)) pss_nil)
  (pss_cons (ps_fldaug (pv 0) pe_int in_add)
  (pss_one (ps_ret pe_bl)))), ?_⟩
  refine ⟨_, rfl, p, dx, _, rfl, hp, rfl, p, dx, l, n, i, d, ss, rfl, hp, hs, ?_⟩
  refine ⟨_, rfl, rfl, _, rfl, ?_⟩
  rw [sg_eq]
  by_cases hc : cAt ss i = some c
  · rw [if_pos hc, decide_eq_true hc] at k
    rw [decide_eq_true hc]
    refine ⟨_, rfl, p, _, dx, _, _, rfl, hp, c_Reader T, n_Reader_at T, rf_at .., _, _, rfl, rfl, dx, _, hp, by show 4 < 1000; decide, ?_⟩
    rw [rf_putAt]
    exact k _ (went_put hp)
  · rw [if_neg hc, decide_eq_false hc] at k
    rw [decide_eq_false hc]
    exact k _ (went_refl hp)
def spDigit (K : PySem.W.Frag) : Sp := fun vs H Q E => ∃ (p dx l : Addr) (n i d : Nat) (ss : Sg), vs = [.ref p] ∧ H p = some (.ins (cR K) dx (rf l n i d)) ∧ Sgs K H l ss ∧
  match dgV ss i with
  | none => Fl K [] H E (pAt ss n i) "expected a digit"
  | some v => ∀ H', Went K H p dx l n (i + 1) d H' → Q (.int (v : Int)) H'
theorem ok_digit (T : Tx K mg) : Has P w K mg base 4 (a_Reader_digit K) p_Reader_digit (spDigit K) := by
  refine has_of (f_Reader_digit T) (z_Reader_digit T) (b_Reader_digit T) (fun vs H Q E h => by obtain ⟨_, _, _, _, _, _, _, rfl, _⟩ := h; rfl) (fun cdv A outer s H vs Q E hr h => ?_)
  obtain ⟨p, dx, l, n, i, d, ss, rfl, hp, hs, k⟩ := h
  have h_Reader_sign := ok_sign (P := P) (w := w) (base := base) T
  have h_Reader_refuse := ok_refuse (P := P) (w := w) (base := base) T
  refine ⟨_, (pss_cons (ps_if (PW.pt (pw_or (pt_cmpR op_eq (pmeth0 h_Reader_sign (c_Reader T) (m_Reader_sign T) (hr.mono (by omega)) passL (pv 0)) pe_str (nomark _)) (pw_or1 (pt_cmpR oNiSg (pmeth0 h_Reader_sign (c_Reader T) (m_Reader_sign T) (hr.mono (by omega)) passL (pv 0)) (pgs (i_DIGITS T)) rfl)))) (pss_one (ps_expr (pmeth h_Reader_refuse (c_Reader T) (m_Reader_refuse T) (hr.mono (by omega)) px_of (pv 0) (pa_cons pe_str pa_nil)))) pss_nil)
  (pss_cons (ps_fldaug (pv 0) pe_int in_add)
  (pss_one (ps_ret (bmK K PySem.F.plainAttrs_str PySem.F.slot_str_index PySem.F.type_str_index mt_sindex (pgs (i_DIGITS T)) (pa_cons (pe_ix (ixT K) (pe_ix (ixL K) (fldK K (pv 0)) (pe_op oSubI (fldK K (pv 0)) pe_int) (fun _ _ => rfl)) pe_int (fun _ _ => rfl)) pa_nil)))))), ?_⟩
  refine ⟨_, rfl, p, dx, _, rfl, hp, rfl, p, dx, l, n, i, d, ss, rfl, hp, hs, rfl, _, rfl, ?_⟩
  unfold dgV at k
  cases hc : cAt ss i with
  | none =>
    have e : sgAt ss i = ⟨#[]⟩ := by unfold sgAt; rw [hc]
    rw [hc] at k
    rw [e, decide_eq_true (show V.str ⟨#[]⟩ = V.str "" by rfl)]
    refine ⟨_, rfl, p, dx, _, rfl, hp, rfl, p, dx, l, n, i, d, ss, _, rfl, hp, hs, k⟩
  | some c =>
    have e : sgAt ss i = ⟨#[c]⟩ := by unfold sgAt; rw [hc]
    have ne : ¬ V.str ⟨#[c]⟩ = V.str "" := by
      intro z
      have z1 : (⟨#[c]⟩ : Str) = "" := V.str.inj z
      have z2 : #[c] = (#[] : Array Nat) := congrArg Str.cps z1
      simp at z2
    have hi : i < ss.length := by
      by_cases q : i < ss.length
      · exact q
      · rw [cAt_ge q] at hc; cases hc
    have hcc : ss[i].1 = c := by
      rw [cAt_lt hi] at hc
      exact Option.some.inj hc
    rw [hc] at k
    rw [e, decide_eq_false ne]
    refine ⟨_, rfl, p, dx, _, rfl, hp, rfl, p, dx, l, n, i, d, ss, rfl, hp, hs, c, _, by rw [e], rfl, _, rfl, ?_⟩
    rw [dg_mem]
    cases hd : isDg c with
    | false =>
      have k : Fl K [] H E (pAt ss n i) "expected a digit" := by simpa [hd] using k
      refine ⟨_, rfl, p, dx, _, rfl, hp, rfl, p, dx, l, n, i, d, ss, _, rfl, hp, hs, k⟩
    | true =>
      have k : ∀ H', Went K H p dx l n (i + 1) d H' → Q (.int ((c - 48 : Nat) : Int)) H' := by simpa [hd] using k
      obtain ⟨h48, h57⟩ := of_decide_eq_true hd
      refine ⟨_, rfl, p, _, dx, _, _, rfl, hp, c_Reader T, n_Reader_at T, rf_at .., _, _, rfl, rfl, dx, _, hp, by show 4 < 1000; decide, ?_⟩
      rw [rf_putAt]
      have W := went_put (i' := i + 1) (d' := d) hp
      obtain ⟨xs, hl, r⟩ := hs
      have hl2 : upd H p (.ins (cR K) dx (rf l n (i + 1) d)) l = some (.lst xs) := by
        rw [upd_ne (ne_of hl hp (by intro z; cases z))]
        exact hl
      obtain ⟨a, h1, h2⟩ := sg_at (r.mono W.2.1) hi
      obtain ⟨rest, ho⟩ := dg_index (c - 48) (by omega)
      refine ⟨rfl, _, rfl, p, _, dx, _, _, rfl, W.2.2, c_Reader T, n_Reader_signs T, rf_signs .., _, rfl, p, _, dx, _, _, rfl, W.2.2, c_Reader T, n_Reader_at T, rf_at .., _, _, rfl, rfl, l, _, _, _, rfl, rfl, SqL.of hl2, ?_, a, _, _, _, rfl, rfl, h2, rfl, ?_⟩
      · have e1 : ((i + 1 : Nat) : Int) - 1 = (i : Int) := by omega
        rw [e1]
        exact h1
      · refine ⟨_, _, c - 48, rest, rfl, rfl, ?_, k _ W⟩
        rw [hcc]
        have e2 : 48 + (c - 48) = c := by omega
        rw [e2] at ho
        exact ho
end
end K02
namespace K02
open PySem PySem.Spec
open PyProof.Rows L2 Sl Ps
section
variable {P : Program} {w : World} {K : PySem.W.Frag} {mg : Str → Option Value} {base : Heap} {H H1 H2 : Hp} {p dx l : Addr} {n i j d : Nat} {ss : Sg} {E : XK} {Q : VK}
theorem went_trans {i' d' : Nat} (a : Went K H p dx l n i d H1) (b : Went K H1 p dx l n i' d' H2) : Went K H p dx l n i' d' H2 := ⟨a.1.trans b.1, a.2.1.trans b.2.1, b.2.2⟩
theorem went_new {q : Addr} {o : HO} (a : Went K H p dx l n i d H1) (h : H1 q = none) : Went K H p dx l n i d (upd H1 q o) :=
  ⟨a.1.trans (ex_new h).b, a.2.1.trans (ex_new h).t, ex_new h _ _ a.2.2⟩
theorem went_at (a : Went K H p dx l n i d H1) (h : j = i) : Went K H p dx l n j d H1 := by rw [h]; exact a
theorem sgs_went (h : Sgs K H l ss) (a : Went K H p dx l n i d H1) {o : HO} (hp : H p = some o) (ho : ∀ xs, o ≠ .lst xs) : Sgs K H1 l ss := by
  obtain ⟨xs, h1, h2⟩ := h
  have ne : l ≠ p := ne_of h1 hp (ho xs).symm
  exact ⟨xs, a.1 l _ (by simpa using ne) h1, h2.mono a.2.1⟩
theorem fl_nil {M : List Addr} {pl : Nat} {m : Str} (f : Fl K M H E pl m) : Fl K [] H E pl m := fun d H' e n x => f d H' (e.mono fun a z => by simp at z) n x
theorem fl_later {pl : Nat} {m : Str} (f : Fl K [p] H E pl m) (a : Went K H p dx l n i d H1) : Fl K [p] H1 E pl m := fun d' H' e nn x => by
  refine f d' H' (a.1.trans e) ?_ x
  cases q : H d' with
  | none => rfl
  | some o =>
    by_cases z : d' = p
    · rw [z, a.2.2] at nn; cases nn
    · rw [a.1 d' o (by simpa using z) q] at nn; cases nn
/-- the ends of a reading -/
def Out (K : PySem.W.Frag) (H : Hp) (p dx l : Addr) (n d : Nat) (Q : VK) (E : XK) : Rz → Prop
  | .bad pl m => Fl K [p] H E pl m
  | .ok t j => ∀ v H', Went K H p dx l n j d H' → RD K H' t v → Q v H'
def spPar (K : PySem.W.Frag) (F : Sg → Nat → Nat → Nat → Nat → Option Rz) (d : Nat) : Sp := fun vs H Q E => ∃ (p dx l : Addr) (n i : Nat) (ss : Sg) (f : Nat) (r : Rz), vs = [.ref p] ∧ H p = some (.ins (cR K) dx (rf l n i d)) ∧ Sgs K H l ss ∧ F ss n f d i = some r ∧ Out K H p dx l n d Q E r
theorem par_len {F : Sg → Nat → Nat → Nat → Nat → Option Rz} {vs : List V} (h : spPar K F d vs H Q E) : vs.length = 1 := by obtain ⟨_, _, _, _, _, _, _, _, rfl, _⟩ := h; rfl
theorem plus_eq : (Str.ofString "+") = ⟨#[43]⟩ := by rfl
theorem beside_sg (u v : V) : [V.str "beside", u, v].length ≤ sizeLine := by show 3 ≤ sizeLine; decide
theorem four_sz (a b c e : V) : [a, b, c, e].length ≤ sizeLine := by show 4 ≤ sizeLine; decide
theorem three_sz (a b c : V) : [a, b, c].length ≤ sizeLine := by show 3 ≤ sizeLine; decide
theorem ok_nest (T : Tx K mg) {k : Nat} (h_Reader_item : Has P w K mg base (k + 4) (a_Reader_item K) p_Reader_item (spPar K itemP d)) : Has P w K mg base (k + 5) (a_Reader_nest K) p_Reader_nest (spPar K nestP d) := by
  refine has_of (f_Reader_nest T) (z_Reader_nest T) (b_Reader_nest T) (fun vs H Q E h => par_len h) (fun cdv A outer s H vs Q E hr h => ?_)
  obtain ⟨p, dx, l, n, i, ss, f, r, rfl, hp, hs, hf, k⟩ := h
  have h_Reader_is_next := ok_next (P := P) (w := w) (base := base) T
  refine ⟨_, (pss_cons (ps_set (i := 1) (z_Reader_nest T).nd rfl (Or.inl rfl) (pmeth0 h_Reader_item (c_Reader T) (m_Reader_item T) (hr.mono (by omega)) px_of (pv 0)))
  (pss_cons (ps_while (passes_of rfl) (pt_val (pmeth h_Reader_is_next (c_Reader T) (m_Reader_is_next T) (hr.mono (by omega)) passL (pv 0) (pa_cons pe_str pa_nil))) (pss_one (ps_set (i := 1) (z_Reader_nest T).nd rfl (Or.inl rfl) (pe_tup (pa_cons pe_str (pa_cons (pv 1) (pa_cons (pmeth0 h_Reader_item (c_Reader T) (m_Reader_item T) (hr.mono (by omega)) px_of (pv 0)) pa_nil)))))))
  (pss_one (ps_ret (pv 1))))), ?_⟩
  cases f with
  | zero => simp [nestP] at hf
  | succ f =>
  have ho : ∀ xs, HO.ins (cR K) dx (rf l n i d) ≠ .lst xs := fun _ z => by cases z
  have loop : ∀ m t i1 v H1, Went K H p dx l n i1 d H1 → RD K H1 t v → nestL ss n m d t i1 = some r →
      tWhile (tB (tMeth (cR K) "is_next" (spNext K) [] E0 (tVar 0) (tCons (tC (.str "+")) tNil))) (tAsg (tTup (tCons (tC (.str "beside")) (tCons (tVar 1) (tCons (tMeth (cR K) "item" (spPar K itemP d) [] E (tVar 0) tNil) tNil)))) (gName 1))
        { nx := fun σ H' => tRet (tVar 1) { nx := fun _ H' => Q .non H', rt := Q } σ H', rt := Q } [some (.ref p), some v] H1 := by
    intro m0 t0 i0 v0 H0 W0 r0 e0
    refine ⟨fun m σ H1 => ∃ t i1 v, σ = [some (.ref p), some v] ∧ Went K H p dx l n i1 d H1 ∧ RD K H1 t v ∧ nestL ss n m d t i1 = some r, ⟨m0, t0, i0, v0, rfl, W0, r0, e0⟩, ?_⟩
    rintro m σ H1 ⟨t, i1, v, rfl, W, rv, hm⟩
    cases m with
    | zero => simp [nestL] at hm
    | succ m =>
    refine ⟨_, rfl, p, dx, _, rfl, W.2.2, rfl, p, dx, l, n, i1, d, ss, 43, rfl, W.2.2, sgs_went hs W hp ho, fun H2 W2 => ⟨_, rfl, ?_⟩⟩
    simp only [nestL] at hm
    by_cases c : cAt ss i1 = some 43
    · rw [if_pos c] at W2 hm
      rw [decide_eq_true c]
      have W3 := went_trans W W2
      refine ⟨fun σ' H' => ∃ t i1 v, σ' = [some (.ref p), some v] ∧ Went K H p dx l n i1 d H' ∧ RD K H' t v ∧ nestL ss n m d t i1 = some r, fun σ' H' h => ⟨m, Nat.lt_succ_self m, h⟩, ?_⟩
      cases hi : itemP ss n m d (i1 + 1) with
      | none => rw [hi] at hm; cases hm
      | some r1 =>
        rw [hi] at hm
        refine ⟨_, rfl, _, rfl, p, dx, _, rfl, W3.2.2, rfl, p, dx, l, n, i1 + 1, ss, m, r1, rfl, W3.2.2, sgs_went hs W3 hp ho, hi, ?_⟩
        cases r1 with
        | bad pl msg =>
          obtain rfl : Rz.bad pl msg = r := Option.some.inj hm
          exact fl_later k W3
        | ok u j =>
          intro v2 H3 W4 rv2
          have W5 := went_trans W3 W4
          refine ⟨three_sz _ _ _, fun q hq => ⟨_, j, _, rfl, went_new W5 hq, ?_, hm⟩⟩
          refine .tup (.inl (.inl upd_same)) ?_
          exact .cons (.str _) (.cons (rv.mono ((W2.2.1.trans W4.2.1).trans (ex_new hq).t)) (.cons (rv2.mono (ex_new hq).t) .nil))
    · rw [if_neg c] at W2 hm
      rw [decide_eq_false c]
      obtain rfl : Rz.ok t i1 = r := Option.some.inj hm
      exact ⟨_, rfl, k _ _ (went_trans W W2) (rv.mono W2.2.1)⟩
  simp only [nestP] at hf
  cases hi : itemP ss n f d i with
  | none => rw [hi] at hf; cases hf
  | some r1 =>
    rw [hi] at hf
    refine ⟨_, rfl, p, dx, _, rfl, hp, rfl, p, dx, l, n, i, ss, f, r1, rfl, hp, hs, hi, ?_⟩
    cases r1 with
    | bad pl msg =>
      obtain rfl : Rz.bad pl msg = r := Option.some.inj hf
      exact k
    | ok t j =>
      intro v H1 W rv
      exact loop f t j v H1 W rv hf
theorem ok_item (T : Tx K mg) {k : Nat} (h_Reader_atom : Has P w K mg base (k + 4) (a_Reader_atom K) p_Reader_atom (spPar K atomP d)) : Has P w K mg base (k + 5) (a_Reader_item K) p_Reader_item (spPar K itemP d) := by
  refine has_of (f_Reader_item T) (z_Reader_item T) (b_Reader_item T) (fun vs H Q E h => par_len h) (fun cdv A outer s H vs Q E hr h => ?_)
  obtain ⟨p, dx, l, n, i, ss, f, r, rfl, hp, hs, hf, k⟩ := h
  have h_Reader_is_next := ok_next (P := P) (w := w) (base := base) T
  have h_Reader_digit := ok_digit (P := P) (w := w) (base := base) T
  refine ⟨_, (pss_cons (ps_set (i := 1) (z_Reader_item T).nd rfl (Or.inl rfl) (pmeth0 h_Reader_atom (c_Reader T) (m_Reader_atom T) (hr.mono (by omega)) px_of (pv 0)))
  (pss_cons (ps_while (passes_of rfl) (pt_val (pmeth h_Reader_is_next (c_Reader T) (m_Reader_is_next T) (hr.mono (by omega)) passL (pv 0) (pa_cons pe_str pa_nil))) (pss_cons (ps_set (i := 2) (z_Reader_item T).nd rfl (Or.inl rfl) (pmeth0 h_Reader_digit (c_Reader T) (m_Reader_digit T) (hr.mono (by omega)) px_of (pv 0)))
  (pss_one (ps_set (i := 1) (z_Reader_item T).nd rfl (Or.inl rfl) (pe_tup (pa_cons pe_str (pa_cons (pv 2) (pa_cons (pv 1) (pa_cons (pmeth0 h_Reader_atom (c_Reader T) (m_Reader_atom T) (hr.mono (by omega)) px_of (pv 0)) pa_nil)))))))))
  (pss_one (ps_ret (pv 1))))), ?_⟩
  cases f with
  | zero => simp [itemP] at hf
  | succ f =>
  have ho : ∀ xs, HO.ins (cR K) dx (rf l n i d) ≠ .lst xs := fun _ z => by cases z
  have loop : ∀ m t i1 v x H1, Went K H p dx l n i1 d H1 → RD K H1 t v → itemL ss n m d t i1 = some r →
      tWhile (tB (tMeth (cR K) "is_next" (spNext K) [] E0 (tVar 0) (tCons (tC (.str "/")) tNil))) (tSeq (tAsg (tMeth (cR K) "digit" (spDigit K) [] E (tVar 0) tNil) (gName 2))
          (tAsg (tTup (tCons (tC (.str "over")) (tCons (tVar 2) (tCons (tVar 1) (tCons (tMeth (cR K) "atom" (spPar K atomP d) [] E (tVar 0) tNil) tNil))))) (gName 1)))
        { nx := fun σ H' => tRet (tVar 1) { nx := fun _ H' => Q .non H', rt := Q } σ H', rt := Q } [some (.ref p), some v, x] H1 := by
    intro m0 t0 i0 v0 x0 H0 W0 r0 e0
    refine ⟨fun m σ H1 => ∃ t i1 v x, σ = [some (.ref p), some v, x] ∧ Went K H p dx l n i1 d H1 ∧ RD K H1 t v ∧ itemL ss n m d t i1 = some r, ⟨m0, t0, i0, v0, x0, rfl, W0, r0, e0⟩, ?_⟩
    rintro m σ H1 ⟨t, i1, v, x, rfl, W, rv, hm⟩
    cases m with
    | zero => simp [itemL] at hm
    | succ m =>
    refine ⟨_, rfl, p, dx, _, rfl, W.2.2, rfl, p, dx, l, n, i1, d, ss, 47, rfl, W.2.2, sgs_went hs W hp ho, fun H2 W2 => ⟨_, rfl, ?_⟩⟩
    simp only [itemL] at hm
    by_cases c : cAt ss i1 = some 47
    · rw [if_pos c] at W2 hm
      rw [decide_eq_true c]
      have W3 := went_trans W W2
      refine ⟨fun σ' H' => ∃ t i1 v x, σ' = [some (.ref p), some v, x] ∧ Went K H p dx l n i1 d H' ∧ RD K H' t v ∧ itemL ss n m d t i1 = some r, fun σ' H' h => ⟨m, Nat.lt_succ_self m, h⟩, ?_⟩
      refine ⟨_, rfl, p, dx, _, rfl, W3.2.2, rfl, p, dx, l, n, i1 + 1, d, ss, rfl, W3.2.2, sgs_went hs W3 hp ho, ?_⟩
      cases hd : dgV ss (i1 + 1) with
      | none =>
        rw [hd] at hm
        obtain rfl : Rz.bad (pAt ss n (i1 + 1)) "expected a digit" = r := Option.some.inj hm
        exact fl_nil (fl_later k W3)
      | some g =>
        rw [hd] at hm
        intro H3 W4
        have W5 := went_trans W3 W4
        cases hi : atomP ss n m d (i1 + 2) with
        | none => rw [hi] at hm; cases hm
        | some r1 =>
          rw [hi] at hm
          refine ⟨_, rfl, _, rfl, _, rfl, p, dx, _, rfl, W5.2.2, rfl, p, dx, l, n, i1 + 2, ss, m, r1, rfl, W5.2.2, sgs_went hs W5 hp ho, hi, ?_⟩
          cases r1 with
          | bad pl msg =>
            obtain rfl : Rz.bad pl msg = r := Option.some.inj hm
            exact fl_later k W5
          | ok u j =>
            intro v2 H4 W6 rv2
            have W7 := went_trans W5 W6
            refine ⟨four_sz _ _ _ _, fun q hq => ⟨_, j, _, _, rfl, went_new W7 hq, ?_, hm⟩⟩
            refine .tup (.inl (.inl upd_same)) ?_
            exact .cons (.str _) (.cons (.int _) (.cons (rv.mono (((W2.2.1.trans W4.2.1).trans W6.2.1).trans (ex_new hq).t)) (.cons (rv2.mono (ex_new hq).t) .nil)))
    · rw [if_neg c] at W2 hm
      rw [decide_eq_false c]
      obtain rfl : Rz.ok t i1 = r := Option.some.inj hm
      exact ⟨_, rfl, k _ _ (went_trans W W2) (rv.mono W2.2.1)⟩
  simp only [itemP] at hf
  cases hi : atomP ss n f d i with
  | none => rw [hi] at hf; cases hf
  | some r1 =>
    rw [hi] at hf
    refine ⟨_, rfl, p, dx, _, rfl, hp, rfl, p, dx, l, n, i, ss, f, r1, rfl, hp, hs, hi, ?_⟩
    cases r1 with
    | bad pl msg =>
      obtain rfl : Rz.bad pl msg = r := Option.some.inj hf
      exact k
    | ok t j =>
      intro v H1 W rv
      exact loop f t j v none H1 W rv hf
theorem ok_atom (T : Tx K mg) {k : Nat} (h_Reader_ground : Has P w K mg base (k + 4) (a_Reader_ground K) p_Reader_ground (spPar K groundP d)) : Has P w K mg base (k + 5) (a_Reader_atom K) p_Reader_atom (spPar K atomP d) := by
  refine has_of (f_Reader_atom T) (z_Reader_atom T) (b_Reader_atom T) (fun vs H Q E h => par_len h) (fun cdv A outer s H vs Q E hr h => ?_)
  obtain ⟨p, dx, l, n, i, ss, f, r, rfl, hp, hs, hf, k⟩ := h
  have h_Reader_is_next := ok_next (P := P) (w := w) (base := base) T
  have h_Reader_digit := ok_digit (P := P) (w := w) (base := base) T
  have h_Reader_refuse := ok_refuse (P := P) (w := w) (base := base) T
  refine ⟨_, (pss_cons (ps_set (i := 1) (z_Reader_atom T).nd rfl (Or.inl rfl) (pmeth0 h_Reader_ground (c_Reader T) (m_Reader_ground T) (hr.mono (by omega)) px_of (pv 0)))
  (pss_cons (ps_while (passes_of rfl) (pt_val (pmeth h_Reader_is_next (c_Reader T) (m_Reader_is_next T) (hr.mono (by omega)) passL (pv 0) (pa_cons pe_str pa_nil))) (pss_cons (ps_set (i := 2) (z_Reader_atom T).nd rfl (Or.inl rfl) (pmeth0 h_Reader_digit (c_Reader T) (m_Reader_digit T) (hr.mono (by omega)) px_of (pv 0)))
  (pss_one (ps_if (pt_val (pmeth h_Reader_is_next (c_Reader T) (m_Reader_is_next T) (hr.mono (by omega)) passL (pv 0) (pa_cons pe_str pa_nil))) (pss_cons (ps_set (i := 1) (z_Reader_atom T).nd rfl (Or.inl rfl) (pe_tup (pa_cons pe_str (pa_cons (pv 2) (pa_cons (pmeth0 h_Reader_digit (c_Reader T) (m_Reader_digit T) (hr.mono (by omega)) px_of (pv 0)) (pa_cons (pv 1) pa_nil))))))
  (pss_one (ps_if (pt_not (pt_val (pmeth h_Reader_is_next (c_Reader T) (m_Reader_is_next T) (hr.mono (by omega)) passL (pv 0) (pa_cons pe_str pa_nil)))) (pss_one (ps_expr (pmeth h_Reader_refuse (c_Reader T) (m_Reader_refuse T) (hr.mono (by omega)) px_of (pv 0) (pa_cons pe_str pa_nil)))) pss_nil))) (pss_cons (ps_set (i := 1) (z_Reader_atom T).nd rfl (Or.inl rfl) (pe_tup (pa_cons pe_str (pa_cons (pv 2) (pa_cons (pv 1) pa_nil)))))
  (pss_one (ps_if (pt_not (pt_val (pmeth h_Reader_is_next (c_Reader T) (m_Reader_is_next T) (hr.mono (by omega)) passL (pv 0) (pa_cons pe_str pa_nil)))) (pss_one (ps_expr (pmeth h_Reader_refuse (c_Reader T) (m_Reader_refuse T) (hr.mono (by omega)) px_of (pv 0) (pa_cons pe_str pa_nil)))) pss_nil)))))))
  (pss_one (ps_ret (pv 1))))), ?_⟩
  cases f with
  | zero => simp [atomP] at hf
  | succ f =>
  have ho : ∀ xs, HO.ins (cR K) dx (rf l n i d) ≠ .lst xs := fun _ z => by cases z
  simp only [atomP] at hf
  cases hi : groundP ss n f d i with
  | none => rw [hi] at hf; cases hf
  | some r1 =>
    rw [hi] at hf
    refine ⟨_, rfl, p, dx, _, rfl, hp, rfl, p, dx, l, n, i, ss, f, r1, rfl, hp, hs, hi, ?_⟩
    cases r1 with
    | bad pl msg =>
      obtain rfl : Rz.bad pl msg = r := Option.some.inj hf
      exact k
    | ok t0 j0 =>
    intro v0 H0 W0 r0
    refine ⟨fun m σ H1 => ∃ t i1 v x, σ = [some (.ref p), some v, x] ∧ Went K H p dx l n i1 d H1 ∧ RD K H1 t v ∧ atomL ss n m d t i1 = some r, ⟨f, t0, j0, v0, none, rfl, W0, r0, hf⟩, ?_⟩
    rintro m σ H1 ⟨t, i1, v, x, rfl, W, rv, hm⟩
    cases m with
    | zero => simp [atomL] at hm
    | succ m =>
    refine ⟨_, rfl, p, dx, _, rfl, W.2.2, rfl, p, dx, l, n, i1, d, ss, 91, rfl, W.2.2, sgs_went hs W hp ho, fun H2 W2 => ⟨_, rfl, ?_⟩⟩
    simp only [atomL] at hm
    by_cases c : cAt ss i1 = some 91
    · rw [if_pos c] at W2 hm
      rw [decide_eq_true c]
      have W3 := went_trans W W2
      refine ⟨fun σ' H' => ∃ t i1 v x, σ' = [some (.ref p), some v, x] ∧ Went K H p dx l n i1 d H' ∧ RD K H' t v ∧ atomL ss n m d t i1 = some r, fun σ' H' h => ⟨m, Nat.lt_succ_self m, h⟩, ?_⟩
      refine ⟨_, rfl, p, dx, _, rfl, W3.2.2, rfl, p, dx, l, n, i1 + 1, d, ss, rfl, W3.2.2, sgs_went hs W3 hp ho, ?_⟩
      cases hd : dgV ss (i1 + 1) with
      | none =>
        rw [hd] at hm
        obtain rfl : Rz.bad (pAt ss n (i1 + 1)) "expected a digit" = r := Option.some.inj hm
        exact fl_nil (fl_later k W3)
      | some g =>
      rw [hd] at hm
      intro H3 W4
      have W5 := went_trans W3 W4
      refine ⟨_, rfl, p, dx, _, rfl, W5.2.2, rfl, p, dx, l, n, i1 + 2, d, ss, 61, rfl, W5.2.2, sgs_went hs W5 hp ho, fun H4 W6 => ⟨_, rfl, ?_⟩⟩
      have hm : (if cAt ss (i1 + 2) = some 61 then (match dgV ss (i1 + 3) with
          | none => some (.bad (pAt ss n (i1 + 3)) "expected a digit")
          | some u => if cAt ss (i1 + 4) = some 93 then atomL ss n m d (.tup [.str "glue", .int (g : Int), .int (u : Int), t]) (i1 + 5) else some (.bad (pAt ss n (i1 + 4)) "expected ]"))
        else if cAt ss (i1 + 2) = some 93 then atomL ss n m d (.tup [.str "hide", .int (g : Int), t]) (i1 + 3) else some (.bad (pAt ss n (i1 + 2)) "expected = or ]")) = some r := hm
      by_cases c2 : cAt ss (i1 + 2) = some 61
      · rw [if_pos c2] at W6 hm
        rw [decide_eq_true c2]
        have W7 := went_trans W5 W6
        refine ⟨_, rfl, _, rfl, p, dx, _, rfl, W7.2.2, rfl, p, dx, l, n, i1 + 2 + 1, d, ss, rfl, W7.2.2, sgs_went hs W7 hp ho, ?_⟩
        cases hd2 : dgV ss (i1 + 3) with
        | none =>
          rw [hd2] at hm
          show Fl K [] H4 E (pAt ss n (i1 + 3)) _
          obtain rfl : Rz.bad (pAt ss n (i1 + 3)) "expected a digit" = r := Option.some.inj hm
          exact fl_nil (fl_later k W7)
        | some u =>
          rw [hd2] at hm
          have hm : (if cAt ss (i1 + 4) = some 93 then atomL ss n m d (.tup [.str "glue", .int (g : Int), .int (u : Int), t]) (i1 + 5) else some (.bad (pAt ss n (i1 + 4)) "expected ]")) = some r := hm
          intro H5 W8
          have W9 := went_trans W7 W8
          refine ⟨_, rfl, four_sz _ _ _ _, fun q hq => ?_⟩
          have Wa := went_new (o := .tup [.str "glue", .int (g : Int), .int (u : Int), v]) W9 hq
          refine ⟨_, rfl, p, dx, _, rfl, Wa.2.2, rfl, p, dx, l, n, i1 + 2 + 1 + 1, d, ss, 93, rfl, Wa.2.2, sgs_went hs Wa hp ho, fun H6 Wb => ⟨_, rfl, ?_⟩⟩
          have hc : cAt ss (i1 + 2 + 1 + 1) = cAt ss (i1 + 4) := rfl
          rw [hc] at Wb ⊢
          by_cases c3 : cAt ss (i1 + 4) = some 93
          · rw [if_pos c3] at Wb hm
            rw [decide_eq_true c3]
            refine ⟨_, i1 + 5, _, _, rfl, went_trans Wa Wb, ?_, hm⟩
            refine RD.mono Wb.2.1 (.tup (.inl (.inl upd_same)) ?_)
            exact .cons (.str _) (.cons (.int _) (.cons (.int _) (.cons (rv.mono ((((W2.2.1.trans W4.2.1).trans W6.2.1).trans W8.2.1).trans (ex_new hq).t)) .nil)))
          · rw [if_neg c3] at Wb hm
            rw [decide_eq_false c3]
            have Wc := went_trans Wa Wb
            obtain rfl : Rz.bad (pAt ss n (i1 + 4)) "expected ]" = r := Option.some.inj hm
            refine ⟨_, rfl, p, dx, _, rfl, Wc.2.2, rfl, p, dx, l, n, i1 + 2 + 1 + 1, d, ss, _, rfl, Wc.2.2, sgs_went hs Wc hp ho, fl_nil (fl_later k Wc)⟩
      · rw [if_neg c2] at W6 hm
        rw [decide_eq_false c2]
        have W7 := went_trans W5 W6
        refine ⟨_, rfl, _, rfl, three_sz _ _ _, fun q hq => ?_⟩
        have Wa := went_new (o := .tup [.str "hide", .int (g : Int), v]) W7 hq
        refine ⟨_, rfl, p, dx, _, rfl, Wa.2.2, rfl, p, dx, l, n, i1 + 2, d, ss, 93, rfl, Wa.2.2, sgs_went hs Wa hp ho, fun H6 Wb => ⟨_, rfl, ?_⟩⟩
        by_cases c3 : cAt ss (i1 + 2) = some 93
        · rw [if_pos c3] at Wb hm
          rw [decide_eq_true c3]
          refine ⟨_, i1 + 3, _, _, rfl, went_trans Wa Wb, ?_, hm⟩
          refine RD.mono Wb.2.1 (.tup (.inl (.inl upd_same)) ?_)
          exact .cons (.str _) (.cons (.int _) (.cons (rv.mono (((W2.2.1.trans W4.2.1).trans W6.2.1).trans (ex_new hq).t)) .nil))
        · rw [if_neg c3] at Wb hm
          rw [decide_eq_false c3]
          have Wc := went_trans Wa Wb
          obtain rfl : Rz.bad (pAt ss n (i1 + 2)) "expected = or ]" = r := Option.some.inj hm
          refine ⟨_, rfl, p, dx, _, rfl, Wc.2.2, rfl, p, dx, l, n, i1 + 2, d, ss, _, rfl, Wc.2.2, sgs_went hs Wc hp ho, fl_nil (fl_later k Wc)⟩
    · rw [if_neg c] at W2 hm
      rw [decide_eq_false c]
      obtain rfl : Rz.ok t i1 = r := Option.some.inj hm
      exact ⟨_, rfl, k _ _ (went_trans W W2) (rv.mono W2.2.1)⟩
theorem lt_list : ("abcdef" : Str).cps.toList = [97, 98, 99, 100, 101, 102] := by decide +kernel
theorem lt_mem (c : Nat) : decide (c ∈ ("abcdef" : Str).cps.toList) = isLt c := by
  rw [lt_list]
  unfold isLt
  refine decide_eq_decide.mpr ?_
  simp only [List.mem_cons, List.not_mem_nil, or_false]
  omega
theorem two_sz (a b : V) : [a, b].length ≤ sizeLine := by show 2 ≤ sizeLine; decide
theorem sg_par {c : Nat} : (V.str ⟨#[c]⟩ = V.str "(") ↔ c = 40 := by
  constructor
  · intro z
    have z2 : #[c] = (#[40] : Array Nat) := congrArg Str.cps (V.str.inj z)
    simpa using z2
  · rintro rfl
    rfl
theorem sg_nonpar : ¬ (V.str ⟨#[]⟩ = V.str "(") := by
  intro z
  have z2 : (#[] : Array Nat) = (#[40] : Array Nat) := congrArg Str.cps (V.str.inj z)
  simp at z2
theorem sg_nonil {c : Nat} : ¬ (V.str ⟨#[c]⟩ = V.str "") := by
  intro z
  have z2 : #[c] = (#[] : Array Nat) := congrArg Str.cps (V.str.inj z)
  simp at z2
/-- what of ground's callee is asked -/
def NestAt (P : Program) (w : World) (K : PySem.W.Frag) (mg : Str → Option Value) (base : Heap) (k d : Nat) : Prop := d < 20 → Has P w K mg base k (a_Reader_nest K) p_Reader_nest (spPar K nestP (d + 1))
theorem ok_ground (T : Tx K mg) {k : Nat} (hd20 : d ≤ 20) (h_nest : NestAt P w K mg base (k + 3) d) : Has P w K mg base (k + 4) (a_Reader_ground K) p_Reader_ground (spPar K groundP d) := by
  have h_Reader_nest : Has P w K mg base (k + 3) (a_Reader_nest K) p_Reader_nest (fun vs H Q E => d < 20 ∧ spPar K nestP (d + 1) vs H Q E) := by
    by_cases hd : d < 20
    · exact (h_nest hd).imp fun _ _ _ _ h => h.2
    · have z := f_Reader_nest T
      obtain ⟨fd, F⟩ := z
      refine ⟨⟨fd, ⟨fun vs H Q E h => absurd h.1 hd, fun A outer s H args us vs Q E _ _ _ _ h => absurd h.1 hd⟩, F.bindsN (b_Reader_nest T)⟩, F.kp⟩
  refine has_of (f_Reader_ground T) (z_Reader_ground T) (b_Reader_ground T) (fun vs H Q E h => par_len h) (fun cdv A outer s H vs Q E hr h => ?_)
  obtain ⟨p, dx, l, n, i, ss, f, r, rfl, hp, hs, hf, k⟩ := h
  have h_Reader_is_next := ok_next (P := P) (w := w) (base := base) T
  have h_Reader_sign := ok_sign (P := P) (w := w) (base := base) T
  have h_Reader_refuse := ok_refuse (P := P) (w := w) (base := base) T
  refine ⟨_, (pss_cons (ps_set (i := 1) (z_Reader_ground T).nd rfl (Or.inl rfl) (pmeth0 h_Reader_sign (c_Reader T) (m_Reader_sign T) (hr.mono (by omega)) passL (pv 0)))
  (pss_cons (ps_if (pt_cmpR op_eq (pv 1) pe_str (nomark _)) (pss_cons (ps_if (pt_cmpR op_eq (fldK K (pv 0)) (pgi (i_MOST_DEEP T)) (nomark _)) (pss_one (ps_expr (pmeth h_Reader_refuse (c_Reader T) (m_Reader_refuse T) (hr.mono (by omega)) px_of (pv 0) (pa_cons pe_str pa_nil)))) pss_nil)
  (pss_cons (ps_fldaug (pv 0) pe_int in_add)
  (pss_cons (ps_fldaug (pv 0) pe_int in_add)
  (pss_cons (ps_set (i := 2) (z_Reader_ground T).nd rfl (Or.inl rfl) (pmeth0 h_Reader_nest (c_Reader T) (m_Reader_nest T) (hr.mono (by omega)) px_of (pv 0)))
  (pss_cons (ps_if (pt_not (pt_val (pmeth h_Reader_is_next (c_Reader T) (m_Reader_is_next T) (hr.mono (by omega)) passL (pv 0) (pa_cons pe_str pa_nil)))) (pss_one (ps_expr (pmeth h_Reader_refuse (c_Reader T) (m_Reader_refuse T) (hr.mono (by omega)) px_of (pv 0) (pa_cons pe_str pa_nil)))) pss_nil)
  (pss_cons (ps_fldaug (pv 0) pe_int in_sub)
  (pss_one (ps_ret (pv 2))))))))) pss_nil)
  (pss_cons (ps_if (PW.pt (pw_or (pt_cmpR op_eq (pv 1) pe_str (nomark _)) (pw_or1 (pt_cmpR oNiSg (pv 1) (pgs (i_LETTERS T)) rfl)))) (pss_one (ps_expr (pmeth h_Reader_refuse (c_Reader T) (m_Reader_refuse T) (hr.mono (by omega)) px_of (pv 0) (pa_cons pe_str pa_nil)))) pss_nil)
  (pss_cons (ps_fldaug (pv 0) pe_int in_add)
  (pss_one (ps_ret (pe_tup (pa_cons pe_str (pa_cons (pv 1) pa_nil))))))))), ?_⟩
  cases f with
  | zero => simp [groundP] at hf
  | succ f =>
  have ho : ∀ xs, HO.ins (cR K) dx (rf l n i d) ≠ .lst xs := fun _ z => by cases z
  simp only [groundP] at hf
  refine ⟨_, rfl, p, dx, _, rfl, hp, rfl, p, dx, l, n, i, d, ss, rfl, hp, hs, ?_⟩
  refine ⟨_, rfl, rfl, _, rfl, ?_⟩
  cases hc : cAt ss i with
  | none =>
    have e : sgAt ss i = ⟨#[]⟩ := by unfold sgAt; rw [hc]
    rw [hc, if_neg (by simp)] at hf
    rw [e, decide_eq_false sg_nonpar]
    refine ⟨_, rfl, rfl, _, rfl, ?_⟩
    rw [decide_eq_true (show V.str ⟨#[]⟩ = V.str "" by rfl)]
    obtain rfl : Rz.bad (pAt ss n i) "expected a maze" = r := Option.some.inj hf
    exact ⟨_, rfl, p, dx, _, rfl, hp, rfl, p, dx, l, n, i, d, ss, _, rfl, hp, hs, fl_nil k⟩
  | some c =>
    have e : sgAt ss i = ⟨#[c]⟩ := by unfold sgAt; rw [hc]
    rw [hc] at hf
    rw [e]
    by_cases c40 : c = 40
    · subst c40
      rw [if_pos rfl] at hf
      rw [decide_eq_true (sg_par.mpr rfl)]
      refine ⟨_, rfl, p, _, dx, _, _, rfl, hp, c_Reader T, n_Reader_deep T, rf_deep .., rfl, _, rfl, ?_⟩
      by_cases d20 : d = 20
      · rw [if_pos d20] at hf
        rw [decide_eq_true (show V.int (d : Int) = V.int 20 by rw [d20]; rfl)]
        obtain rfl : Rz.bad (pAt ss n i) "this is too deep" = r := Option.some.inj hf
        exact ⟨_, rfl, p, dx, _, rfl, hp, rfl, p, dx, l, n, i, d, ss, _, rfl, hp, hs, fl_nil k⟩
      · rw [if_neg d20] at hf
        rw [decide_eq_false (fun z => d20 (by have := V.int.inj z; omega))]
        refine ⟨_, rfl, p, _, dx, _, _, rfl, hp, c_Reader T, n_Reader_deep T, rf_deep .., _, _, rfl, rfl, dx, _, hp, by show 4 < 1000; decide, ?_⟩
        rw [rf_putDeep]
        have W1 : Went K H p dx l n i (d + 1) _ := went_put hp
        refine ⟨_, rfl, p, _, dx, _, _, rfl, W1.2.2, c_Reader T, n_Reader_at T, rf_at .., _, _, rfl, rfl, dx, _, W1.2.2, by show 4 < 1000; decide, ?_⟩
        rw [rf_putAt]
        have W2 : Went K H p dx l n (i + 1) (d + 1) _ := went_trans W1 (went_put W1.2.2)
        cases hi : nestP ss n f (d + 1) (i + 1) with
        | none => rw [hi] at hf; cases hf
        | some r1 =>
          rw [hi] at hf
          refine ⟨_, rfl, p, dx, _, rfl, W2.2.2, rfl, by omega, p, dx, l, n, i + 1, ss, f, r1, rfl, W2.2.2, sgs_went hs W2 hp ho, hi, ?_⟩
          cases r1 with
          | bad pl msg =>
            obtain rfl : Rz.bad pl msg = r := Option.some.inj hf
            exact fl_later k W2
          | ok t j =>
            intro v H3 W3 rv
            have W4 := went_trans W2 W3
            have hf : (if cAt ss j = some 41 then some (Rz.ok t (j + 1)) else some (.bad (pAt ss n j) "expected )")) = some r := hf
            refine ⟨_, rfl, p, dx, _, rfl, W4.2.2, rfl, p, dx, l, n, j, d + 1, ss, 41, rfl, W4.2.2, sgs_went hs W4 hp ho, fun H4 W5 => ⟨_, rfl, ?_⟩⟩
            by_cases c41 : cAt ss j = some 41
            · rw [if_pos c41] at W5 hf
              rw [decide_eq_true c41]
              have W6 := went_trans W4 W5
              obtain rfl : Rz.ok t (j + 1) = r := Option.some.inj hf
              refine ⟨_, rfl, p, _, dx, _, _, rfl, W6.2.2, c_Reader T, n_Reader_deep T, rf_deep .., _, _, rfl, rfl, dx, _, W6.2.2, by show 4 < 1000; decide, ?_⟩
              rw [rf_putDeep2]
              have W7 : Went K H p dx l n (j + 1) d _ := went_trans W6 (went_put W6.2.2)
              refine ⟨_, rfl, k _ _ W7 (rv.mono ?_)⟩
              exact W5.2.1.trans (went_put (i' := j + 1) (d' := d) W6.2.2).2.1
            · rw [if_neg c41] at W5 hf
              rw [decide_eq_false c41]
              have W6 := went_trans W4 W5
              obtain rfl : Rz.bad (pAt ss n j) "expected )" = r := Option.some.inj hf
              exact ⟨_, rfl, p, dx, _, rfl, W6.2.2, rfl, p, dx, l, n, j, d + 1, ss, _, rfl, W6.2.2, sgs_went hs W6 hp ho, fl_nil (fl_later k W6)⟩
    · have hf : (if isLt c then some (Rz.ok (.tup [.str "maze", .str ⟨#[c]⟩]) (i + 1)) else some (.bad (pAt ss n i) "expected a maze")) = some r := by
        rw [if_neg (by simpa using c40)] at hf
        exact hf
      rw [decide_eq_false (fun z => c40 (sg_par.mp z))]
      refine ⟨_, rfl, rfl, _, rfl, ?_⟩
      rw [decide_eq_false sg_nonil]
      refine ⟨_, rfl, c, _, rfl, rfl, _, rfl, ?_⟩
      rw [lt_mem]
      cases hl : isLt c with
      | false =>
        rw [hl] at hf
        obtain rfl : Rz.bad (pAt ss n i) "expected a maze" = r := Option.some.inj hf
        exact ⟨_, rfl, p, dx, _, rfl, hp, rfl, p, dx, l, n, i, d, ss, _, rfl, hp, hs, fl_nil k⟩
      | true =>
        rw [hl] at hf
        obtain rfl : Rz.ok (.tup [.str "maze", .str ⟨#[c]⟩]) (i + 1) = r := Option.some.inj hf
        refine ⟨_, rfl, p, _, dx, _, _, rfl, hp, c_Reader T, n_Reader_at T, rf_at .., _, _, rfl, rfl, dx, _, hp, by show 4 < 1000; decide, ?_⟩
        rw [rf_putAt]
        have W1 : Went K H p dx l n (i + 1) d _ := went_put hp
        refine ⟨_, rfl, two_sz _ _, fun q hq => k _ _ (went_new W1 hq) ?_⟩
        exact .tup (.inl (.inl upd_same)) (.cons (.str _) (.cons (.str _) .nil))
/-- a nest at a depth -/
theorem ok_nestAt (T : Tx K mg) : ∀ e d : Nat, d + e = 20 → Has P w K mg base (4 * e + 11) (a_Reader_nest K) p_Reader_nest (spPar K nestP d)
  | 0, d, h => by
    have g := ok_ground (P := P) (w := w) (base := base) (d := d) (k := 4) T (by omega) (fun z => by omega)
    exact ok_nest T (k := 6) (ok_item T (k := 5) (ok_atom T (k := 4) g))
  | e + 1, d, h => by
    have ih := ok_nestAt T e (d + 1) (by omega)
    have g := ok_ground (P := P) (w := w) (base := base) (d := d) (k := 4 * e + 8) T (by omega) (fun _ => ih)
    exact ok_nest T (k := 4 * e + 10) (ok_item T (k := 4 * e + 9) (ok_atom T (k := 4 * e + 8) g))
end
end K02
/-! The plain law: the reader of a nest and the walk of states agree. -/
namespace Ps
open PySem L2 Sl
/-- signs that a text may have, but blanks -/
def okSg (c : Nat) : Bool := isLt c || isDg c || c == 43 || c == 47 || c == 40 || c == 41 || c == 91 || c == 93 || c == 61
def signsOf (t : List Nat) : Sg := t.zipIdx.filter fun p => p.1 != 32
/-- the first sign that cannot stand there -/
def badSg (ss : Sg) : Option Nat := (ss.find? fun p => !okSg p.1).map (·.2)
def fuel (t : List Nat) : Nat := 4 * t.length + 4
def treeOf (t : List Nat) : Except (Nat × Str) D := match badSg (signsOf t) with
  | some pl => .error (pl, "this sign cannot stand here")
  | none => match nestP (signsOf t) t.length (fuel t) 0 0 with
    | some (.bad pl m) => .error (pl, m)
    | some (.ok d j) => if cAt (signsOf t) j = none then .ok d else .error (pAt (signsOf t) t.length j, "expected the end")
    | none => .error (0, "")
inductive Wt where
  | ground | many | first | second | equal | close | behind
  deriving DecidableEq
/-- one sign: a message, or what is wanted next and how deep -/
def stepW (st : Wt) (d c : Nat) : Str ⊕ (Wt × Nat) := match st with
  | .ground => if c = 40 ∧ d = 20 then .inl "this is too deep" else if c ≠ 40 ∧ (c = 36 ∨ ¬ isLt c = true) then .inl "expected a maze" else if c = 40 then .inr (.ground, d + 1) else .inr (.behind, d)
  | .many => if ¬ isDg c = true then .inl "expected a digit" else .inr (.ground, d)
  | .first => if ¬ isDg c = true then .inl "expected a digit" else .inr (.equal, d)
  | .second => if ¬ isDg c = true then .inl "expected a digit" else .inr (.close, d)
  | .equal => if c ≠ 93 ∧ c ≠ 61 then .inl "expected = or ]" else .inr (if c = 61 then .second else .behind, d)
  | .close => if c ≠ 93 then .inl "expected ]" else .inr (if c = 61 then .second else .behind, d)
  | .behind => if (c = 43 ∨ c = 47 ∨ c = 91) ∧ c ≠ 36 then .inr (if c = 43 then .ground else if c = 47 then .many else .first, d)
    else if 0 < d then (if c ≠ 41 then .inl "expected )" else .inr (.behind, d - 1)) else if c ≠ 36 then .inl "expected the end" else .inr (.behind, d)
def runW : Wt → Nat → Sg → Option (Nat × Str)
  | _, _, [] => none
  | st, d, (c, pl) :: r => if c = 32 then runW st d r else match stepW st d c with
    | .inl m => some (pl, m)
    | .inr (st', d') => runW st' d' r
def lawFlaw (t : List Nat) : Option (Nat × Str) := match t.zipIdx.find? fun p => !(okSg p.1 || p.1 == 32) with
  | some p => some (p.2, "this sign cannot stand here")
  | none => runW .ground 0 (t ++ [36]).zipIdx
/-! ### enough fuel -/
theorem enough (ss : Sg) (n : Nat) : ∀ f : Nat,
    (∀ d i, 4 * (ss.length - i) + 4 ≤ f → ∃ r, nestP ss n f d i = some r ∧ ∀ t j, r = .ok t j → i < j) ∧
    (∀ d t i, 4 * (ss.length - i) + 1 ≤ f → ∃ r, nestL ss n f d t i = some r ∧ ∀ t j, r = .ok t j → i ≤ j) ∧
    (∀ d i, 4 * (ss.length - i) + 3 ≤ f → ∃ r, itemP ss n f d i = some r ∧ ∀ t j, r = .ok t j → i < j) ∧
    (∀ d t i, 4 * (ss.length - i) + 1 ≤ f → ∃ r, itemL ss n f d t i = some r ∧ ∀ t j, r = .ok t j → i ≤ j) ∧
    (∀ d i, 4 * (ss.length - i) + 2 ≤ f → ∃ r, atomP ss n f d i = some r ∧ ∀ t j, r = .ok t j → i < j) ∧
    (∀ d t i, 4 * (ss.length - i) + 1 ≤ f → ∃ r, atomL ss n f d t i = some r ∧ ∀ t j, r = .ok t j → i ≤ j) ∧
    (∀ d i, 4 * (ss.length - i) + 1 ≤ f → ∃ r, groundP ss n f d i = some r ∧ ∀ t j, r = .ok t j → i < j) := by
  have lt : ∀ {i c : Nat}, cAt ss i = some c → i < ss.length := fun {i c} h => by
    unfold cAt at h
    cases q : ss[i]? with
    | none => rw [q] at h; cases h
    | some p => exact (List.getElem?_eq_some_iff.mp q).1
  have dlt : ∀ {i v : Nat}, dgV ss i = some v → i < ss.length := fun {i v} h => by
    unfold dgV at h
    cases q : cAt ss i with
    | none => rw [q] at h; cases h
    | some c => exact lt q
  intro f
  induction f with
  | zero => refine ⟨?_, ?_, ?_, ?_, ?_, ?_, ?_⟩ <;> (intros; omega)
  | succ f ih =>
    obtain ⟨hN, hNL, hI, hIL, hA, hAL, hG⟩ := ih
    refine ⟨?_, ?_, ?_, ?_, ?_, ?_, ?_⟩
    · intro d i h
      obtain ⟨r, e, m⟩ := hI d i (by omega)
      simp only [nestP, e]
      cases r with
      | bad p q => exact ⟨_, rfl, fun t j z => by cases z⟩
      | ok t j =>
        have hj := m t j rfl
        obtain ⟨r2, e2, m2⟩ := hNL d t j (by omega)
        exact ⟨r2, e2, fun t' j' z => by have := m2 t' j' z; omega⟩
    · intro d t i h
      simp only [nestL]
      by_cases c : cAt ss i = some 43
      · have hi := lt c
        rw [if_pos c]
        obtain ⟨r, e, m⟩ := hI d (i + 1) (by omega)
        rw [e]
        cases r with
        | bad p q => exact ⟨_, rfl, fun t j z => by cases z⟩
        | ok u j =>
          have hj := m u j rfl
          obtain ⟨r2, e2, m2⟩ := hNL d (.tup [.str "beside", t, u]) j (by omega)
          exact ⟨r2, e2, fun t' j' z => by have := m2 t' j' z; omega⟩
      · rw [if_neg c]
        exact ⟨_, rfl, fun t' j' z => by cases z; exact Nat.le_refl _⟩
    · intro d i h
      obtain ⟨r, e, m⟩ := hA d i (by omega)
      simp only [itemP, e]
      cases r with
      | bad p q => exact ⟨_, rfl, fun t j z => by cases z⟩
      | ok t j =>
        have hj := m t j rfl
        obtain ⟨r2, e2, m2⟩ := hIL d t j (by omega)
        exact ⟨r2, e2, fun t' j' z => by have := m2 t' j' z; omega⟩
    · intro d t i h
      simp only [itemL]
      by_cases c : cAt ss i = some 47
      · have hi := lt c
        rw [if_pos c]
        cases q : dgV ss (i + 1) with
        | none => exact ⟨_, rfl, fun t j z => by cases z⟩
        | some v =>
          have hi2 := dlt q
          obtain ⟨r, e, m⟩ := hA d (i + 2) (by omega)
          simp only [e]
          cases r with
          | bad p q => exact ⟨_, rfl, fun t j z => by cases z⟩
          | ok u j =>
            have hj := m u j rfl
            obtain ⟨r2, e2, m2⟩ := hIL d (.tup [.str "over", .int (v : Int), t, u]) j (by omega)
            exact ⟨r2, e2, fun t' j' z => by have := m2 t' j' z; omega⟩
      · rw [if_neg c]
        exact ⟨_, rfl, fun t' j' z => by cases z; exact Nat.le_refl _⟩
    · intro d i h
      obtain ⟨r, e, m⟩ := hG d i (by omega)
      simp only [atomP, e]
      cases r with
      | bad p q => exact ⟨_, rfl, fun t j z => by cases z⟩
      | ok t j =>
        have hj := m t j rfl
        obtain ⟨r2, e2, m2⟩ := hAL d t j (by omega)
        exact ⟨r2, e2, fun t' j' z => by have := m2 t' j' z; omega⟩
    · intro d t i h
      simp only [atomL]
      by_cases c : cAt ss i = some 91
      · have hi := lt c
        rw [if_pos c]
        cases q : dgV ss (i + 1) with
        | none => exact ⟨_, rfl, fun t j z => by cases z⟩
        | some v =>
          have hi2 := dlt q
          simp only []
          by_cases c2 : cAt ss (i + 2) = some 61
          · have hi3 := lt c2
            rw [if_pos c2]
            cases q2 : dgV ss (i + 3) with
            | none => exact ⟨_, rfl, fun t j z => by cases z⟩
            | some u =>
              have hi4 := dlt q2
              simp only []
              by_cases c3 : cAt ss (i + 4) = some 93
              · rw [if_pos c3]
                obtain ⟨r2, e2, m2⟩ := hAL d (.tup [.str "glue", .int (v : Int), .int (u : Int), t]) (i + 5) (by omega)
                exact ⟨r2, e2, fun t' j' z => by have := m2 t' j' z; omega⟩
              · rw [if_neg c3]
                exact ⟨_, rfl, fun t j z => by cases z⟩
          · rw [if_neg c2]
            by_cases c3 : cAt ss (i + 2) = some 93
            · rw [if_pos c3]
              obtain ⟨r2, e2, m2⟩ := hAL d (.tup [.str "hide", .int (v : Int), t]) (i + 3) (by omega)
              exact ⟨r2, e2, fun t' j' z => by have := m2 t' j' z; omega⟩
            · rw [if_neg c3]
              exact ⟨_, rfl, fun t j z => by cases z⟩
      · rw [if_neg c]
        exact ⟨_, rfl, fun t' j' z => by cases z; exact Nat.le_refl _⟩
    · intro d i h
      simp only [groundP]
      by_cases c : cAt ss i = some 40
      · have hi := lt c
        rw [if_pos c]
        by_cases d20 : d = 20
        · rw [if_pos d20]
          exact ⟨_, rfl, fun t j z => by cases z⟩
        · rw [if_neg d20]
          obtain ⟨r, e, m⟩ := hN (d + 1) (i + 1) (by omega)
          rw [e]
          cases r with
          | bad p q => exact ⟨_, rfl, fun t j z => by cases z⟩
          | ok t j =>
            have hj := m t j rfl
            simp only []
            by_cases c2 : cAt ss j = some 41
            · rw [if_pos c2]
              exact ⟨_, rfl, fun t' j' z => by cases z; omega⟩
            · rw [if_neg c2]
              exact ⟨_, rfl, fun t j z => by cases z⟩
      · rw [if_neg c]
        cases q : cAt ss i with
        | none => exact ⟨_, rfl, fun t j z => by cases z⟩
        | some a =>
          simp only []
          cases isLt a with
          | true => exact ⟨_, rfl, fun t' j' z => by cases z; omega⟩
          | false => exact ⟨_, rfl, fun t j z => by cases z⟩
/-! ### the states -/
section
variable {ss : Sg} {n : Nat}
/-- the rest of the signs from the i-th on, and the end -/
def restW (ss : Sg) (n i : Nat) : Sg := ss.drop i ++ [(36, n)]
theorem rest_some {i c : Nat} (h : cAt ss i = some c) : restW ss n i = (c, pAt ss n i) :: restW ss n (i + 1) := by
  unfold cAt at h
  cases q : ss[i]? with
  | none => rw [q] at h; cases h
  | some p =>
    rw [q] at h
    obtain ⟨hi, e⟩ := List.getElem?_eq_some_iff.mp q
    have e1 : c = p.1 := (Option.some.inj h).symm
    have e2 : pAt ss n i = p.2 := by unfold pAt; rw [q]; rfl
    unfold restW
    rw [List.drop_eq_getElem_cons hi, e, e1, e2]
    rfl
theorem rest_none {i : Nat} (h : cAt ss i = none) : restW ss n i = [(36, n)] ∧ pAt ss n i = n := by
  unfold cAt at h
  have q : ss[i]? = none := by
    cases q : ss[i]? with
    | none => rfl
    | some p => rw [q] at h; cases h
  have hl : ss.length ≤ i := List.getElem?_eq_none_iff.mp q
  unfold restW pAt
  rw [List.drop_eq_nil_of_le hl, q]
  exact ⟨rfl, rfl⟩
/-- what a step gives -/
theorem run_bad {st : Wt} {d i : Nat} {m : Str} (hs : ∀ p ∈ ss, okSg p.1 = true) (h : ∀ c, (cAt ss i = some c ∨ (cAt ss i = none ∧ c = 36)) → stepW st d c = .inl m) : runW st d (restW ss n i) = some (pAt ss n i, m) := by
  cases q : cAt ss i with
  | none =>
    obtain ⟨e1, e2⟩ := rest_none (n := n) q
    rw [e1, e2]
    simp only [runW]
    rw [if_neg (by decide), h 36 (.inr ⟨q, rfl⟩)]
  | some c =>
    have hc : c ≠ 32 := by
      rintro rfl
      unfold cAt at q
      cases z : ss[i]? with
      | none => rw [z] at q; cases q
      | some p =>
        rw [z] at q
        have e1 : p.1 = 32 := Option.some.inj q
        have := hs p (List.mem_of_getElem? z)
        rw [e1] at this
        exact absurd this (by decide)
    rw [rest_some q]
    simp only [runW]
    rw [if_neg hc, h c (.inl q)]
theorem run_go {st st' : Wt} {d d' i c : Nat} (hc : cAt ss i = some c) (h32 : c ≠ 32) (h : stepW st d c = .inr (st', d')) : runW st d (restW ss n i) = runW st' d' (restW ss n (i + 1)) := by
  rw [rest_some hc]
  simp only [runW]
  rw [if_neg h32, h]
theorem ne36 {i : Nat} (hs : ∀ p ∈ ss, okSg p.1 = true) {c : Nat} (h : cAt ss i = some c) : c ≠ 36 := by
  rintro rfl
  unfold cAt at h
  cases z : ss[i]? with
  | none => rw [z] at h; cases h
  | some p =>
    rw [z] at h
    have e1 : p.1 = 36 := Option.some.inj h
    have := hs p (List.mem_of_getElem? z)
    rw [e1] at this
    exact absurd this (by decide)
/-- a digit is wanted -/
theorem dg_bad {st st' : Wt} {d i : Nat} (hs : ∀ p ∈ ss, okSg p.1 = true) (hst : ∀ c, stepW st d c = if ¬ isDg c = true then .inl "expected a digit" else .inr (st', d)) (h : dgV ss i = none) :
    runW st d (restW ss n i) = some (pAt ss n i, ("expected a digit" : Str)) := by
  refine run_bad hs fun c hc => ?_
  rw [hst c, if_pos]
  rcases hc with hc | ⟨_, rfl⟩
  · unfold dgV at h
    rw [hc] at h
    cases q : isDg c with
    | false => simp
    | true => simp [q] at h
  · decide
theorem dg_go {st st' : Wt} {d i v : Nat} (hst : ∀ c, stepW st d c = if ¬ isDg c = true then .inl "expected a digit" else .inr (st', d)) (h : dgV ss i = some v) :
    runW st d (restW ss n i) = runW st' d (restW ss n (i + 1)) := by
  unfold dgV at h
  cases q : cAt ss i with
  | none => rw [q] at h; cases h
  | some c =>
    rw [q] at h
    cases q2 : isDg c with
    | false => simp [q2] at h
    | true =>
      refine run_go q ?_ ?_
      · rintro rfl
        exact absurd q2 (by decide)
      · rw [hst c, if_neg (by simp [q2])]
theorem hx_ne {k x j : Nat} (h : cAt ss j ≠ some k) (h36 : k ≠ 36) (hx : cAt ss j = some x ∨ (cAt ss j = none ∧ x = 36)) : x ≠ k := by
  rintro rfl
  rcases hx with hx | ⟨_, hx⟩
  · exact h hx
  · exact h36 hx
/-- the ends of a reading, by the states -/
def Agr (ss : Sg) (n : Nat) (st : Wt) (d i : Nat) (no : List Nat) : Rz → Prop
  | .bad p m => runW st d (restW ss n i) = some (p, m)
  | .ok _ j => runW st d (restW ss n i) = runW .behind d (restW ss n j) ∧ ∀ c ∈ no, cAt ss j ≠ some c
theorem agr_from {st st' : Wt} {d i j : Nat} {no : List Nat} {r : Rz} (e : runW st d (restW ss n i) = runW st' d (restW ss n j)) (h : Agr ss n st' d j no r) : Agr ss n st d i no r := by
  cases r with
  | bad p m => exact e.trans h
  | ok t k => exact ⟨e.trans h.1, h.2⟩
theorem agree (hs : ∀ p ∈ ss, okSg p.1 = true) : ∀ f : Nat,
    (∀ d i r, nestP ss n f d i = some r → Agr ss n .ground d i [91, 47, 43] r) ∧
    (∀ d t i r, cAt ss i ≠ some 91 → cAt ss i ≠ some 47 → nestL ss n f d t i = some r → Agr ss n .behind d i [91, 47, 43] r) ∧
    (∀ d i r, itemP ss n f d i = some r → Agr ss n .ground d i [91, 47] r) ∧
    (∀ d t i r, cAt ss i ≠ some 91 → itemL ss n f d t i = some r → Agr ss n .behind d i [91, 47] r) ∧
    (∀ d i r, atomP ss n f d i = some r → Agr ss n .ground d i [91] r) ∧
    (∀ d t i r, atomL ss n f d t i = some r → Agr ss n .behind d i [91] r) ∧
    (∀ d i r, groundP ss n f d i = some r → Agr ss n .ground d i [] r) := by
  intro f
  induction f with
  | zero => refine ⟨?_, ?_, ?_, ?_, ?_, ?_, ?_⟩ <;> intros <;> simp_all [nestP, nestL, itemP, itemL, atomP, atomL, groundP]
  | succ f ih =>
    obtain ⟨hN, hNL, hI, hIL, hA, hAL, hG⟩ := ih
    refine ⟨?_, ?_, ?_, ?_, ?_, ?_, ?_⟩
    · intro d i r h
      simp only [nestP] at h
      cases q : itemP ss n f d i with
      | none => rw [q] at h; cases h
      | some r1 =>
        rw [q] at h
        have a := hI d i r1 q
        cases r1 with
        | bad p m => cases h; exact a
        | ok t j => exact agr_from a.1 (hNL d t j r (a.2 91 (by simp)) (a.2 47 (by simp)) h)
    · intro d t i r n1 n2 h
      simp only [nestL] at h
      by_cases c : cAt ss i = some 43
      · rw [if_pos c] at h
        have g : runW .behind d (restW ss n i) = runW .ground d (restW ss n (i + 1)) := run_go c (by decide) (by simp [stepW])
        cases q : itemP ss n f d (i + 1) with
        | none => rw [q] at h; cases h
        | some r1 =>
          rw [q] at h
          have a := agr_from g (hI d (i + 1) r1 q)
          cases r1 with
          | bad p m => cases h; exact a
          | ok u j => exact agr_from a.1 (hNL d _ j r (a.2 91 (by simp)) (a.2 47 (by simp)) h)
      · rw [if_neg c] at h
        cases h
        refine ⟨rfl, fun x hx => ?_⟩
        rcases (by simpa using hx : x = 91 ∨ x = 47 ∨ x = 43) with rfl | rfl | rfl
        · exact n1
        · exact n2
        · exact c
    · intro d i r h
      simp only [itemP] at h
      cases q : atomP ss n f d i with
      | none => rw [q] at h; cases h
      | some r1 =>
        rw [q] at h
        have a := hA d i r1 q
        cases r1 with
        | bad p m => cases h; exact a
        | ok t j => exact agr_from a.1 (hIL d t j r (a.2 91 (by simp)) h)
    · intro d t i r n1 h
      simp only [itemL] at h
      by_cases c : cAt ss i = some 47
      · rw [if_pos c] at h
        have g : runW .behind d (restW ss n i) = runW .many d (restW ss n (i + 1)) := run_go c (by decide) (by simp [stepW])
        cases q0 : dgV ss (i + 1) with
        | none =>
          rw [q0] at h
          cases h
          exact g.trans (dg_bad (st' := .ground) hs (fun c => rfl) q0)
        | some v =>
          rw [q0] at h
          have g2 := g.trans (dg_go (st' := .ground) (fun c => rfl) q0)
          have h : (match atomP ss n f d (i + 2) with
            | some (.ok u j) => itemL ss n f d (.tup [.str "over", .int (v : Int), t, u]) j
            | r => r) = some r := h
          cases q : atomP ss n f d (i + 2) with
          | none => rw [q] at h; cases h
          | some r1 =>
            rw [q] at h
            have a := agr_from g2 (hA d (i + 2) r1 q)
            cases r1 with
            | bad p m => cases h; exact a
            | ok u j => exact agr_from a.1 (hIL d _ j r (a.2 91 (by simp)) h)
      · rw [if_neg c] at h
        cases h
        refine ⟨rfl, fun x hx => ?_⟩
        rcases (by simpa using hx : x = 91 ∨ x = 47) with rfl | rfl
        · exact n1
        · exact c
    · intro d i r h
      simp only [atomP] at h
      cases q : groundP ss n f d i with
      | none => rw [q] at h; cases h
      | some r1 =>
        rw [q] at h
        have a := hG d i r1 q
        cases r1 with
        | bad p m => cases h; exact a
        | ok t j => exact agr_from a.1 (hAL d t j r h)
    · intro d t i r h
      simp only [atomL] at h
      by_cases c : cAt ss i = some 91
      · rw [if_pos c] at h
        have g : runW .behind d (restW ss n i) = runW .first d (restW ss n (i + 1)) := run_go c (by decide) (by simp [stepW])
        cases q0 : dgV ss (i + 1) with
        | none =>
          rw [q0] at h
          cases h
          exact g.trans (dg_bad (st' := .equal) hs (fun c => rfl) q0)
        | some v =>
          rw [q0] at h
          have g2 := g.trans (dg_go (st' := .equal) (fun c => rfl) q0)
          simp only [] at h
          by_cases c2 : cAt ss (i + 2) = some 61
          · rw [if_pos c2] at h
            have g3 := g2.trans (run_go (st' := .second) (d' := d) c2 (by decide) (by simp [stepW]))
            cases q1 : dgV ss (i + 3) with
            | none =>
              rw [q1] at h
              cases h
              exact g3.trans (dg_bad (st' := .close) hs (fun c => rfl) q1)
            | some u =>
              rw [q1] at h
              have g4 := g3.trans (dg_go (st' := .close) (fun c => rfl) q1)
              simp only [] at h
              by_cases c3 : cAt ss (i + 4) = some 93
              · rw [if_pos c3] at h
                have g5 := g4.trans (run_go (st' := .behind) (d' := d) c3 (by decide) (by simp [stepW]))
                exact agr_from g5 (hAL d _ (i + 5) r h)
              · rw [if_neg c3] at h
                cases h
                refine g4.trans (run_bad hs fun c hc => ?_)
                have : c ≠ 93 := by
                  rintro rfl
                  rcases hc with hc | ⟨_, hc⟩
                  · exact c3 hc
                  · cases hc
                simp [stepW, this]
          · rw [if_neg c2] at h
            by_cases c3 : cAt ss (i + 2) = some 93
            · rw [if_pos c3] at h
              have g5 := g2.trans (run_go (st' := .behind) (d' := d) c3 (by decide) (by simp [stepW]))
              exact agr_from g5 (hAL d _ (i + 3) r h)
            · rw [if_neg c3] at h
              cases h
              refine g2.trans (run_bad hs fun c hc => ?_)
              have h93 : c ≠ 93 := by
                rintro rfl
                rcases hc with hc | ⟨_, hc⟩
                · exact c3 hc
                · cases hc
              have h61 : c ≠ 61 := by
                rintro rfl
                rcases hc with hc | ⟨_, hc⟩
                · exact c2 hc
                · cases hc
              simp [stepW, h93, h61]
      · rw [if_neg c] at h
        cases h
        refine ⟨rfl, fun x hx => ?_⟩
        have : x = 91 := by simpa using hx
        rw [this]
        exact c
    · intro d i r h
      simp only [groundP] at h
      by_cases c : cAt ss i = some 40
      · rw [if_pos c] at h
        by_cases d20 : d = 20
        · rw [if_pos d20] at h
          cases h
          refine run_bad hs fun x hx => ?_
          have : x = 40 := by
            rcases hx with hx | ⟨hx, _⟩
            · rw [c] at hx; exact (Option.some.inj hx).symm
            · rw [c] at hx; cases hx
          simp [stepW, this, d20]
        · rw [if_neg d20] at h
          have g : runW .ground d (restW ss n i) = runW .ground (d + 1) (restW ss n (i + 1)) := run_go c (by decide) (by simp [stepW, d20])
          cases q : nestP ss n f (d + 1) (i + 1) with
          | none => rw [q] at h; cases h
          | some r1 =>
            rw [q] at h
            have a := hN (d + 1) (i + 1) r1 q
            cases r1 with
            | bad p m => cases h; exact g.trans a
            | ok t j =>
              have a1 := a.2 91 (by simp)
              have a2 := a.2 47 (by simp)
              have a3 := a.2 43 (by simp)
              simp only [] at h
              by_cases c2 : cAt ss j = some 41
              · rw [if_pos c2] at h
                cases h
                exact ⟨(g.trans a.1).trans (run_go c2 (by decide) (by simp [stepW])), fun x hx => by simp at hx⟩
              · rw [if_neg c2] at h
                cases h
                refine (g.trans a.1).trans (run_bad hs fun x hx => ?_)
                have x1 : x ≠ 91 := hx_ne a1 (by decide) hx
                have x2 : x ≠ 47 := hx_ne a2 (by decide) hx
                have x3 : x ≠ 43 := hx_ne a3 (by decide) hx
                have x4 : x ≠ 41 := hx_ne c2 (by decide) hx
                simp [stepW, x1, x2, x3, x4]
      · rw [if_neg c] at h
        cases q : cAt ss i with
        | none =>
          rw [q] at h
          cases h
          refine run_bad hs fun x hx => ?_
          have : x = 36 := by
            rcases hx with hx | ⟨_, hx⟩
            · rw [q] at hx; cases hx
            · exact hx
          rw [this]
          simp [stepW]
        | some a =>
          rw [q] at h
          have a40 : a ≠ 40 := by rintro rfl; exact c q
          cases hl : isLt a with
          | true =>
            simp only [hl, if_true] at h
            cases h
            refine ⟨run_go q ?_ ?_, fun x hx => by simp at hx⟩
            · rintro rfl
              exact absurd hl (by decide)
            · have := ne36 hs q
              simp [stepW, a40, hl, this]
          | false =>
            simp only [hl, Bool.false_eq_true, if_false] at h
            cases h
            refine run_bad hs fun x hx => ?_
            have : x = a := by
              rcases hx with hx | ⟨hx, _⟩
              · rw [q] at hx; exact (Option.some.inj hx).symm
              · rw [q] at hx; cases hx
            rw [this]
            simp [stepW, a40, hl]
end
theorem run_filter : ∀ (l : Sg) (st : Wt) (d : Nat), runW st d (l.filter fun p => p.1 != 32) = runW st d l
  | [], _, _ => rfl
  | (c, pl) :: r, st, d => by
    by_cases h : c = 32
    · rw [List.filter_cons_of_neg (by simp [h]), run_filter r st d]
      simp only [runW]
      rw [if_pos h]
    · rw [List.filter_cons_of_pos (by simp [h])]
      simp only [runW]
      rw [if_neg h, if_neg h]
      cases stepW st d c with
      | inl m => rfl
      | inr z => exact run_filter r z.1 z.2
theorem bad_find : ∀ l : Sg, ((l.filter fun p => p.1 != 32).find? fun p => !okSg p.1) = l.find? fun p => !(okSg p.1 || p.1 == 32)
  | [] => rfl
  | (c, pl) :: r => by
    by_cases h : c = 32
    · rw [List.filter_cons_of_neg (by simp [h]), bad_find r, List.find?_cons_of_neg (by simp [h])]
    · rw [List.filter_cons_of_pos (by simp [h])]
      by_cases k : okSg c = true
      · rw [List.find?_cons_of_neg (by simp [k]), List.find?_cons_of_neg (by simp [k]), bad_find r]
      · rw [List.find?_cons_of_pos (by simp [k]), List.find?_cons_of_pos (by simp [k, h])]
theorem len_signs (t : List Nat) : (signsOf t).length ≤ t.length := by
  unfold signsOf
  exact Nat.le_trans (List.length_filter_le _ _) (by simp)
/-- THE LAW, plain: the walk of states finds what the reader finds -/
theorem law_flaw (t : List Nat) : lawFlaw t = match treeOf t with
    | .ok _ => none
    | .error e => some e := by
  unfold lawFlaw treeOf badSg
  have e1 : ((signsOf t).find? fun p => !okSg p.1) = t.zipIdx.find? fun p => !(okSg p.1 || p.1 == 32) := bad_find _
  rw [e1]
  cases hb : t.zipIdx.find? fun p => !(okSg p.1 || p.1 == 32) with
  | some p => rfl
  | none =>
    have hs : ∀ p ∈ signsOf t, okSg p.1 = true := fun p hp => by
      obtain ⟨h1, h2⟩ := List.mem_filter.mp hp
      have h3 := List.find?_eq_none.mp hb p h1
      have h4 : p.1 ≠ 32 := by simpa using h2
      simpa [h4] using h3
    have e2 : runW .ground 0 (t ++ [36]).zipIdx = runW .ground 0 (restW (signsOf t) t.length 0) := by
      rw [← run_filter]
      congr 1
      unfold restW signsOf
      rw [List.zipIdx_append, List.filter_append]
      simp
    obtain ⟨r, h1, h2⟩ := (enough (signsOf t) t.length (fuel t)).1 0 0 (by have := len_signs t; unfold fuel; omega)
    have ag := (agree hs (fuel t)).1 0 0 r h1
    simp only [Option.map_none]
    rw [e2, h1]
    cases r with
    | bad p m => exact ag
    | ok d j =>
      obtain ⟨a1, a2⟩ := ag
      rw [a1]
      simp only []
      cases q : cAt (signsOf t) j with
      | none =>
        obtain ⟨z1, _⟩ := rest_none (n := t.length) q
        rw [z1, if_pos rfl]
        simp [runW, stepW]
      | some c =>
        rw [if_neg (by simp)]
        refine run_bad hs fun x hx => ?_
        have x1 : x ≠ 91 := hx_ne (a2 91 (by simp)) (by decide) hx
        have x2 : x ≠ 47 := hx_ne (a2 47 (by simp)) (by decide) hx
        have x3 : x ≠ 43 := hx_ne (a2 43 (by simp)) (by decide) hx
        have x4 : x ≠ 36 := by
          rcases hx with hx | ⟨hx, _⟩
          · exact ne36 hs hx
          · rw [q] at hx; cases hx
        simp [stepW, x1, x2, x3, x4]
end Ps
namespace Ps
open PySem L2 Sl
abbrev sg (l : List Nat) : Str := ⟨l.toArray⟩
theorem sg_len (l : List Nat) : (sg l).length = l.length := by simp [Str.length]
theorem sg_app (a b : List Nat) : sg a ++ sg b = sg (a ++ b) := congrArg Str.mk (show a.toArray ++ b.toArray = (a ++ b).toArray by simp)
theorem bad_none {ss : Sg} (h : ∀ q ∈ ss, okSg q.1 = true) : badSg ss = none := by
  unfold badSg
  have : (ss.find? fun p => !okSg p.1) = none := List.find?_eq_none.mpr fun q hq => by simp [h q hq]
  rw [this] <;> rfl
theorem bad_some {ss : Sg} {i : Nat} {q : Nat × Nat} (h : ∀ q ∈ ss.take i, okSg q.1 = true) (e : ss[i]? = some q) (hq : okSg q.1 = false) : badSg ss = some q.2 := by
  obtain ⟨hi, e2⟩ := List.getElem?_eq_some_iff.mp e
  have e3 : ss = ss.take i ++ q :: ss.drop (i + 1) := by
    rw [← e2, ← List.drop_eq_getElem_cons hi, List.take_append_drop]
  have e4 : (ss.find? fun p => !okSg p.1) = some q := by
    rw [e3, List.find?_append, List.find?_eq_none.mpr (fun p hp => by simp [h p hp])]
    simp [List.find?_cons, hq]
  unfold badSg
  rw [e4] <;> rfl
end Ps
namespace K02
open PySem PySem.Spec
open PyProof.Rows L2 Sl Ps
section
variable {P : Program} {w : World} {K : PySem.W.Frag} {mg : Str → Option Value} {base : Heap} {H H1 H2 : Hp} {p dx l : Addr} {n i j d : Nat} {ss : Sg} {E : XK} {Q : VK}
theorem allow_list : ((("abcdef" : Str) ++ ("0123456789" : Str)) ++ ("+/()[]=" : Str)).cps.toList = [97, 98, 99, 100, 101, 102, 48, 49, 50, 51, 52, 53, 54, 55, 56, 57, 43, 47, 40, 41, 91, 93, 61] := by decide +kernel
theorem allow_mem (c : Nat) : decide (c ∈ ((("abcdef" : Str) ++ ("0123456789" : Str)) ++ ("+/()[]=" : Str)).cps.toList) = okSg c := by
  rw [allow_list]
  unfold okSg isLt isDg
  rw [Bool.eq_iff_iff]
  simp only [Bool.or_eq_true, decide_eq_true_eq, beq_iff_eq, List.mem_cons, List.not_mem_nil, or_false]
  omega
theorem take_snoc {α : Type} {l : List α} {i : Nat} {x : α} (h : l[i]? = some x) : l.take (i + 1) = l.take i ++ [x] := by
  obtain ⟨hi, e⟩ := List.getElem?_eq_some_iff.mp h
  rw [List.take_add_one, h] <;> rfl
def spInit (K : PySem.W.Frag) : Sp := fun vs H Q E => ∃ (p dx : Addr) (t : List Nat), vs = [.ref p, .str (sg t)] ∧ H p = some (.ins (cR K) dx []) ∧ t.length ≤ 200 ∧
  (∀ pl, badSg (signsOf t) = some pl → Fl K [p] H E pl "this sign cannot stand here") ∧
  (badSg (signsOf t) = none → ∀ l H', H l = none → Went K H p dx l t.length 0 0 H' → Sgs K H' l (signsOf t) → Q .non H')
theorem zip_at {t : List Nat} {i c : Nat} (h : (sg t).cps[i]? = some c) : t.zipIdx[i]? = some (c, i) := by
  have h2 : t[i]? = some c := by simpa using h
  rw [List.getElem?_zipIdx, h2]
  simp
theorem ok_init (T : Tx K mg) : Has P w K mg base 4 (a_Reader_init K) p_Reader_init (spInit K) := by
  refine has_of (f_Reader_init T) (z_Reader_init T) (b_Reader_init T) (fun vs H Q E h => by obtain ⟨_, _, _, rfl, _⟩ := h; rfl) (fun cdv A outer s H vs Q E hr h => ?_)
  obtain ⟨p, dx, t, rfl, hp, ht, kb, kg⟩ := h
  have h_Flaw_init := ok_Flawinit (P := P) (w := w) (base := base) T
  refine ⟨_, (pss_cons (ps_fld (pv 0) (pe_lc (own := [("at", 2), ("sign", 3)]) rfl (z_Reader_init T).nd (pi_enumS (by rfl) (l_enumerate T) (pa_cons (pv 1) pa_nil)) (blkOk_by (N := n_Reader_init) (sc := defScope s_Reader_init) (by decide +kernel)) (fun _ _ _ _ _ => by exact (tupK K (n := 2) (pgs_cons (pg_name (i := 2) (z_Reader_init T).nd rfl (Or.inl rfl)) (pgs_cons (pg_name (i := 3) (z_Reader_init T).nd rfl (Or.inl rfl)) pgs_nil)))) (fun _ _ _ _ _ => by exact (pts_one (pt_cmpR op_ne (pv 3) pe_str (nomark _)))) (fun _ _ _ _ _ => by exact (pe_tup (pa_cons (pv 3) (pa_cons (pv 2) pa_nil))))) rfl)
  (pss_cons (ps_fld (pv 0) (pe_callB call_len_str (by rfl) (l_len T) (by decide +kernel) (pa_cons (pv 1) pa_nil)) rfl)
  (pss_cons (ps_fld (pv 0) pe_int rfl)
  (pss_cons (ps_fld (pv 0) pe_int rfl)
  (pss_one (ps_for (passes_of rfl) rfl (listW K (fldK K (pv 0))) (tupK K (n := 2) (pgs_cons (pg_name (i := 3) (z_Reader_init T).nd rfl (Or.inl rfl)) (pgs_cons (pg_name (i := 4) (z_Reader_init T).nd rfl (Or.inl rfl)) pgs_nil))) (pss_one (ps_if (pt_cmpR oNiSg (pv 3) (pe_op oAddS (pe_op oAddS (pgs (i_LETTERS T)) (pgs (i_DIGITS T))) pe_str) rfl) (pss_one (praise h_Flaw_init rfl tk_of (x_Flaw T).1 (xi_Flaw T).1 (xi_Flaw T).2 (hr.mono (by omega)) (g_Flaw T) (pa_cons (pv 4) (pa_cons pe_str pa_nil)))) pss_nil)))))))), ?_⟩
  have S0 : SH K H [p] [pt p (.ins (cR K) dx [])] [] H := ⟨ExB.refl _ _, TEx.refl _, [[p]], [], .cons ⟨rfl, hp⟩ .nil, .nil, by simp, fun a ha => by
    have e : a = p := by simpa using ha
    subst e
    exact ⟨.inr (by simp), by simp⟩⟩
  refine ⟨_, rfl, _, rfl, fun l hl => lc_it walk_P (fun i H' => SH K H [p] [ls K l (((t.zipIdx).take i).filter (fun q => q.1 != 32) |>.map sgD), pt p (.ins (cR K) dx [])] [] H') ?_ (fun _ _ _ _ => trivial) ?_ ?_⟩
  · exact S0.newL hl .nil
  · rintro i x H1 H2 hi S ⟨q, x', rfl, hq, rfl, c, hc, rfl⟩
    have S1 := S.ext (ex_new (o := .tup [.int (i : Nat), .str ⟨#[c]⟩]) hq)
    have hz := zip_at hc
    refine ⟨q, _, rfl, .inl (.inl upd_same), rfl, _, _, rfl, _, _, rfl, rfl, rfl, _, rfl, rfl, _, rfl, ?_⟩
    have hlen : (((t.zipIdx).take i).filter (fun q => q.1 != 32) |>.map sgD).length ≤ 200 := by
      rw [List.length_map]
      refine Nat.le_trans (List.length_filter_le _ _) ?_
      rw [List.length_take, List.length_zipIdx]
      omega
    by_cases c32 : c = 32
    · subst c32
      rw [decide_eq_true (show V.str ⟨#[32]⟩ = V.str " " by rfl)]
      refine iteF ?_
      have e : ((t.zipIdx).take (i + 1)).filter (fun q => q.1 != 32) = ((t.zipIdx).take i).filter (fun q => q.1 != 32) := by
        rw [take_snoc hz, List.filter_append]
        simp
      rw [e]
      exact S1
    · rw [decide_eq_false (fun z => c32 (by have z2 : #[c] = (#[32] : Array Nat) := congrArg Str.cps (V.str.inj z); simpa using z2))]
      refine iteT ?_
      refine ⟨_, rfl, _, rfl, two_sz _ _, fun u hu => ?_⟩
      have S2 := S1.ext (ex_new (o := .tup [.str ⟨#[c]⟩, .int (i : Nat)]) hu)
      obtain ⟨xs, g1, g2⟩ := S2.getL (.inl List.mem_cons_self)
      refine ⟨xs, g1, by rw [g2.len]; exact Nat.lt_of_le_of_lt hlen (by decide), ?_⟩
      have e : (((t.zipIdx).take (i + 1)).filter (fun q => q.1 != 32) |>.map sgD) = (((t.zipIdx).take i).filter (fun q => q.1 != 32) |>.map sgD) ++ [sgD (c, i)] := by
        rw [take_snoc hz, List.filter_append, List.map_append]
        simp [c32]
      rw [e]
      refine S2.putL .here (g2.append (.one ?_))
      exact .tup (.inl (.inl upd_same)) (.cons (.str _) (.cons (.int _) .nil))
  · intro H1 S
    have e : (((t.zipIdx).take (sg t).cps.size).filter (fun q => q.1 != 32) |>.map sgD) = (signsOf t).map sgD := by
      unfold signsOf
      rw [List.take_of_length_le (by simp)]
    rw [e] at S
    refine ⟨_, rfl, p, _, dx, _, rfl, S.getO (.inl (.tail _ (.head _))), c_Reader T, n_Reader_signs T, by show 0 < 1000; decide, ?_⟩
    have S2 := S.put (o' := .ins (cR K) dx (putF "signs" (.ref l) [])) (.there .here)
    refine ⟨_, rfl, _, rfl, by rw [sg_len]; exact Nat.le_trans ht (by decide), _, rfl, p, _, dx, _, rfl, S2.getO (.inl (.head _)), c_Reader T, n_Reader_size T, by show 1 < 1000; decide, ?_⟩
    have S3 := S2.put (o' := .ins (cR K) dx (putF "size" (.int ((sg t).length : Int)) (putF "signs" (.ref l) []))) .here
    refine ⟨_, rfl, p, _, dx, _, rfl, S3.getO (.inl (.head _)), c_Reader T, n_Reader_at T, by show 2 < 1000; decide, ?_⟩
    have S4 := S3.put (o' := .ins (cR K) dx (putF "at" (.int 0) (putF "size" (.int ((sg t).length : Int)) (putF "signs" (.ref l) [])))) .here
    refine ⟨_, rfl, p, _, dx, _, rfl, S4.getO (.inl (.head _)), c_Reader T, n_Reader_deep T, by show 3 < 1000; decide, ?_⟩
    have S5 := S4.put (o' := .ins (cR K) dx (putF "deep" (.int 0) (putF "at" (.int 0) (putF "size" (.int ((sg t).length : Int)) (putF "signs" (.ref l) []))))) .here
    have eo : HO.ins (cR K) dx (putF "deep" (.int 0) (putF "at" (.int 0) (putF "size" (.int ((sg t).length : Int)) (putF "signs" (.ref l) [])))) = .ins (cR K) dx (rf l t.length 0 0) := by
      rw [sg_len]
      rfl
    refine ⟨_, rfl, p, _, dx, _, _, rfl, S5.getO (.inl (.head _)), c_Reader T, n_Reader_signs T, rfl, l, rfl, ?_⟩
    obtain ⟨xs, g1, -⟩ := S5.getL (.inl (.tail _ (.head _)))
    refine ⟨⟨xs, SqL.of g1⟩, ?_⟩
    clear g1 xs
    have lenS : ∀ {H' : Hp} {o : HO}, SH K H [p] [pt p o, ls K l ((signsOf t).map sgD)] [] H' → ∃ xs, H' l = some (.lst xs) ∧ RDs K H' ((signsOf t).map sgD) xs := fun S => S.getL (.inl (.tail _ (.head _)))
    obtain ⟨ys, g1, g2⟩ := lenS S5
    have keep : ∀ {H' : Hp} {o : HO}, SH K H [p] [pt p o, ls K l ((signsOf t).map sgD)] [] H' → ∀ {ws}, H' l = some (.lst ws) → RDs K H' ((signsOf t).map sgD) ws := fun S ws h => by
      obtain ⟨zs, z1, z2⟩ := lenS S
      rw [h] at z1
      cases z1
      exact z2
    refine for_it (walk_list (xs := ys)) (fun i σ H' => (H' l = some (.lst ys) ∧ ∃ o, o = HO.ins (cR K) dx (rf l t.length 0 0) ∧ SH K H [p] [pt p o, ls K l ((signsOf t).map sgD)] [] H') ∧ (∀ q ∈ (signsOf t).take i, okSg q.1 = true) ∧ ∃ x1 x2 x3 x4, σ = [some (.ref p), x1, x2, x3, x4])
      ⟨⟨g1, _, eo, S5⟩, by simp, _, _, _, _, rfl⟩ (fun i σ H' _ h => SqL.of h.1.1) ?_ ?_
    · rintro i x σ H1 H2 hi ⟨⟨hl2, o, rfl, S⟩, hok, x1, x2, x3, x4, rfl⟩ ⟨rfl, hx⟩
      have W : Went K H p dx l t.length 0 0 H2 := ⟨S.ex, S.tx, S.getO (.inl (.head _))⟩
      obtain ⟨d0, h1, h2⟩ := (keep S hl2).getV hx
      rw [List.getElem?_map] at h1
      cases hq : (signsOf t)[i]? with
      | none => rw [hq] at h1; cases h1
      | some q =>
        rw [hq] at h1
        obtain rfl : sgD q = d0 := Option.some.inj h1
        obtain ⟨a, ys, rfl, h3, h4⟩ := h2.ofTup
        obtain ⟨v1, w1, rfl, q1, q2⟩ := h4.ofCons
        obtain ⟨v2, w2, rfl, q3, q4⟩ := q2.ofCons
        obtain rfl := q1.ofStr
        obtain rfl := q3.ofInt
        obtain rfl := q4.ofNil
        refine ⟨a, _, rfl, h3, rfl, _, _, rfl, _, _, rfl, rfl, ?_⟩
        refine ⟨_, rfl, _, _, rfl, rfl, by decide, _, _, rfl, rfl, by decide, q.1, _, rfl, rfl, _, rfl, ?_⟩
        rw [allow_mem]
        cases ho : okSg q.1 with
        | true =>
          refine iteF ⟨⟨hl2, _, rfl, S⟩, ?_, _, _, _, _, rfl⟩
          intro z hz
          rw [take_snoc hq] at hz
          rcases List.mem_append.mp hz with hz | hz
          · exact hok z hz
          · have : z = q := by simpa using hz
            rw [this]
            exact ho
        | false =>
          refine iteT ⟨_, rfl, ?_⟩
          have f := fl_later (kb q.2 (bad_some hok hq ho)) W
          exact mkx2 (x_Flaw T).1 (n_Flaw_place T) (n_Flaw_message T) fun d' H' e1 e2 e3 => f d' H' e1.b e2 e3
    · rintro σ H1 ⟨⟨hl2, o, rfl, S⟩, hok, -⟩
      have W : Went K H p dx l t.length 0 0 H1 := ⟨S.ex, S.tx, S.getO (.inl (.head _))⟩
      have hn : ys.length = (signsOf t).length := by rw [g2.len, List.length_map]
      rw [hn, List.take_length] at hok
      exact kg (bad_none hok) l _ hl W ⟨ys, hl2, keep S hl2⟩
end
end K02
namespace Sl
open PySem PySem.Spec
open PyProof.Rows L2
/-- the type of a tuple that is read -/
theorem tyT {K : PySem.W.Frag} {H : Hp} {a : Addr} {xs : List V} (h : SqT K H a xs) : TyX K H (.ref a) (.type "tuple") := by
  rcases h with (h | ⟨o, h⟩) | ⟨o, its, n, h, hc, _⟩
  · exact .base (.tup h)
  · exact .fTuple h
  · exact .kTuple h hc
end Sl
namespace K02
open PySem PySem.Spec
open PyProof.Rows L2 Sl Ps
section
variable {P : Program} {w : World} {K : PySem.W.Frag} {mg : Str → Option Value} {base : Heap} {H H1 H2 : Hp} {p dx l : Addr} {n i j d : Nat} {ss : Sg} {E : XK} {Q : VK}
/-- an argument is refused -/
abbrev Bd (K : PySem.W.Frag) (H : Hp) (E : XK) (nm : Str) : Prop := ∀ d H', Ex H H' → H d = none → H' d = some (.xd [("name", .str nm)]) → E (.ref (cB K)) (some d) H'
def spNeed (K : PySem.W.Frag) : Sp := fun vs H Q E => ∃ (b : Bool) (nm : Str), vs = [.bl b, .str nm] ∧ (b = true → Q .non H) ∧ (b = false → Bd K H E nm)
theorem ok_need (T : Tx K mg) : Has P w K mg base 3 (a_need K) p_need (spNeed K) := by
  refine has_of (f_need T) (z_need T) (b_need T) (fun vs H Q E h => by obtain ⟨_, _, rfl, _⟩ := h; rfl) (fun cdv A outer s H vs Q E hr h => ?_)
  obtain ⟨b, nm, rfl, k1, k2⟩ := h
  have h_BadArgument_init := ok_Badinit (P := P) (w := w) (base := base) T
  refine ⟨_, (pss_one (ps_if (pt_not (pt_val (pv 0))) (pss_one (praise h_BadArgument_init rfl tk_of (x_BadArgument T).1 (xi_BadArgument T).1 (xi_BadArgument T).2 (hr.mono (by omega)) (g_BadArgument T) (pa_cons (pv 1) pa_nil))) pss_nil)), ?_⟩
  refine ⟨_, rfl, _, rfl, ?_⟩
  cases b with
  | true => exact k1 rfl
  | false => exact ⟨_, rfl, mkx1 (x_BadArgument T).1 (n_BadArgument_name T) (k2 rfl)⟩
/-- what is looked at: a text within the line, none, a number -/
inductive Arg0 : V → Bool → Prop where
  | non : Arg0 .non false
  | int (i : Int) : Arg0 (.int i) false
  | str (z : Str) (h : z.length ≤ sizeLine) : Arg0 (.str z) (decide ((z.length : Int) ≤ 200))
def spIsText : Sp := fun vs H Q _ => ∃ (x : V) (b : Bool), vs = [x] ∧ Arg0 x b ∧ Q (.bl b) H
theorem ok_isText (T : Tx K mg) : Has P w K mg base 1 (a_is_text K) p_is_text spIsText := by
  refine has_of (f_is_text T) (z_is_text T) (b_is_text T) (fun vs H Q E h => by obtain ⟨_, _, rfl, _⟩ := h; rfl) (fun cdv A outer s H vs Q E hr h => ?_)
  obtain ⟨x, b, rfl, a, k⟩ := h
  refine ⟨_, (pss_one (ps_ret (pe_and (pe_callB (isiK K) (by rfl) (l_isinstance T) (by decide +kernel) (pa_cons (pv 0) (pa_cons (pe_bltn (v := .ty "str") (u := .type "str") rfl (l_str T) (by decide +kernel) rfl) pa_nil))) (pe_one (pe_cmpR oLeI (pe_callB call_len_str (by rfl) (l_len T) (by decide +kernel) (pa_cons (pv 0) pa_nil)) (pgi (i_MOST_TEXT T)) (nomark _)))))), ?_⟩
  cases a with
  | non => exact ⟨_, rfl, _, _, _, _, false, rfl, .ty _, .base .non, kit_ty (by decide +kernel), _, rfl, k⟩
  | int i => exact ⟨_, rfl, _, _, _, _, false, rfl, .ty _, .base (.int i), kit_ty (by decide +kernel), _, rfl, k⟩
  | str z hz => exact ⟨_, rfl, _, _, _, _, true, rfl, .ty _, .base (.str z), kit_ty (by decide +kernel), _, rfl, _, rfl, z, rfl, hz, _, _, rfl, rfl, k⟩
theorem went_ex (a : Went K H p dx l n i d H1) (h : H p = none) : Ex H1 H2 → Ex H H2 := fun e b o q => e b o (a.1 b o (by simpa using ne_of_none q h) q)
/-- the ends of the whole reading -/
def spTree (K : PySem.W.Frag) : Sp := fun vs H Q E => ∃ (t : List Nat), vs = [.str (sg t)] ∧ t.length ≤ 200 ∧ match treeOf t with
  | .error e => Fl K [] H E e.1 e.2
  | .ok d => ∀ v H', Ex H H' → RD K H' d v → Q v H'
theorem ok_treeOf (T : Tx K mg) : Has P w K mg base 92 (a_tree_of K) p_tree_of (spTree K) := by
  refine has_of (f_tree_of T) (z_tree_of T) (b_tree_of T) (fun vs H Q E h => by obtain ⟨_, rfl, _⟩ := h; rfl) (fun cdv A outer s H vs Q E hr h => ?_)
  obtain ⟨t, rfl, ht, k⟩ := h
  have h_Reader_init := ok_init (P := P) (w := w) (base := base) T
  have h_Reader_nest := ok_nestAt (P := P) (w := w) (base := base) T 20 0 rfl
  have h_Reader_sign := ok_sign (P := P) (w := w) (base := base) T
  have h_Reader_refuse := ok_refuse (P := P) (w := w) (base := base) T
  refine ⟨_, (pss_cons (ps_set (i := 1) (z_tree_of T).nd rfl (Or.inl rfl) (pmake h_Reader_init (k_Reader T) (hr.mono (by omega)) (g_Reader T) px_of (pa_cons (pv 0) pa_nil)))
  (pss_cons (ps_set (i := 2) (z_tree_of T).nd rfl (Or.inl rfl) (pmeth0 h_Reader_nest (c_Reader T) (m_Reader_nest T) (hr.mono (by omega)) px_of (pv 1)))
  (pss_cons (ps_if (pt_cmpR op_ne (pmeth0 h_Reader_sign (c_Reader T) (m_Reader_sign T) (hr.mono (by omega)) passL (pv 1)) pe_str (nomark _)) (pss_one (ps_expr (pmeth h_Reader_refuse (c_Reader T) (m_Reader_refuse T) (hr.mono (by omega)) px_of (pv 1) (pa_cons pe_str pa_nil)))) pss_nil)
  (pss_one (ps_ret (pv 2)))))), ?_⟩
  refine ⟨_, rfl, fun p dx hp hd hne => ?_⟩
  have n1 : upd (upd H dx (.own p)) p (.ins (cR K) dx []) p = some (.ins (cR K) dx []) := upd_same
  have e1 : Ex H (upd (upd H dx (.own p)) p (.ins (cR K) dx [])) := fun b o e => by
    rw [upd_ne (ne_of_none e hp), upd_ne (ne_of_none e hd)]
    exact e
  have fl0 : ∀ {pl : Nat} {m : Str}, Fl K [] H E pl m → Fl K [p] (upd (upd H dx (.own p)) p (.ins (cR K) dx [])) E pl m := fun {pl m} f d' H' e nn x => by
    refine f d' H' (fun b o _ q => e b o (by simpa using ne_of_none q hp) (e1 b o q)) ?_ x
    cases q : H d' with
    | none => rfl
    | some o => rw [e1 d' o q] at nn; cases nn
  unfold treeOf at k
  refine ⟨p, dx, t, rfl, n1, ht, fun pl hb => ?_, fun hb l H1 hl W hs => ⟨rfl, ?_⟩⟩
  · rw [hb] at k
    exact fl0 k
  · rw [hb] at k
    have W0 : ExB [p] H H1 := fun b o nb q => W.1 b o nb (e1 b o q)
    obtain ⟨r, h1, h2⟩ := (enough (signsOf t) t.length (fuel t)).1 0 0 (by have := len_signs t; unfold fuel; omega)
    rw [h1] at k
    refine ⟨_, rfl, p, dx, _, rfl, W.2.2, rfl, p, dx, l, t.length, 0, signsOf t, fuel t, r, rfl, W.2.2, hs, h1, ?_⟩
    cases r with
    | bad pl m => exact fl_later (d := 0) (fl0 k) W
    | ok d j =>
      intro v H2 W2 rv
      have W3 := went_trans W W2
      refine ⟨_, rfl, p, dx, _, rfl, W3.2.2, rfl, p, dx, l, t.length, j, 0, signsOf t, rfl, W3.2.2, sgs_went hs W2 W.2.2 (fun _ z => by cases z), rfl, _, rfl, ?_⟩
      cases hc : cAt (signsOf t) j with
      | none =>
        have es : sgAt (signsOf t) j = ⟨#[]⟩ := by unfold sgAt; rw [hc]
        rw [es, decide_eq_true (show V.str ⟨#[]⟩ = V.str "" by rfl)]
        have k : ∀ v H', Ex H H' → RD K H' d v → Q v H' := by simpa [hc] using k
        exact ⟨_, rfl, k _ _ (fun b o q => W3.1 b o (by simpa using ne_of_none q hp) (e1 b o q)) rv⟩
      | some c =>
        have es : sgAt (signsOf t) j = ⟨#[c]⟩ := by unfold sgAt; rw [hc]
        rw [es, decide_eq_false sg_nonil]
        have k : Fl K [] H E (pAt (signsOf t) t.length j) "expected the end" := by simpa [hc] using k
        exact ⟨_, rfl, p, dx, _, rfl, W3.2.2, rfl, p, dx, l, t.length, j, 0, signsOf t, _, rfl, W3.2.2, sgs_went hs W2 W.2.2 (fun _ z => by cases z), fl_nil (fl_later (d := 0) (fl0 k) W3)⟩
/-- the first flaw as data -/
def flD : Option (Nat × Str) → D
  | none => .non
  | some e => .tup [.int (e.1 : Int), .str e.2]
def flOf (t : List Nat) : Option (Nat × Str) := match treeOf t with
  | .ok _ => none
  | .error e => some e
def spFlaw (K : PySem.W.Frag) : Sp := fun vs H Q E => ∃ (x : V) (b : Bool), vs = [x] ∧ Arg0 x b ∧ (b = false → Bd K H E "text") ∧
  (b = true → ∃ t, x = .str (sg t) ∧ t.length ≤ 200 ∧ ∀ v H', Ex H H' → RD K H' (flD (flOf t)) v → Q v H')
theorem body_flaw (T : Tx K mg) (cdv : Value) (A : Around) (outer : List Env) (s : Shared) (H : Hp) (vs : List V) (Q : VK) (E : XK) (hr : Room 92 (A.deeper (envOfC "flaw" (defScope s_flaw) s.heap.objs.size (a_flaw K) cdv))) (h : spFlaw K vs H Q E) :
    ∃ t, PSs (cxOf (L2.CX P w) P w K mg base n_flaw "flaw" (defScope s_flaw) (a_flaw K) cdv A outer s H E) (defBody s_flaw) t ∧ t { nx := fun _ H' => Q .non H', rt := Q } (L2.start n_flaw vs) H := by
  obtain ⟨x, b, rfl, ha, k1, k2⟩ := h
  have h_need := ok_need (P := P) (w := w) (base := base) T
  have h_is_text := ok_isText (P := P) (w := w) (base := base) T
  have h_tree_of := ok_treeOf (P := P) (w := w) (base := base) T
  refine ⟨_, (pss_cons (ps_expr (pcallX h_need (hr.mono (by omega)) (g_need T) px_of (pa_cons (pcall h_is_text (hr.mono (by omega)) (g_is_text T) (pa_cons (pv 0) pa_nil)) (pa_cons pe_str pa_nil))))
    (pss_cons (ps_try_as (i := 1) (tb := fun W => tDrop (tCallS (spTree K) (WE W) (tCons (tVar 0) tNil)))
        (ts := fun a cls d => tRet (tTup (tCons (tXf a cls d (cF K) "place" (tVar 1)) (tCons (tXf a cls d (cF K) "message" (tVar 1)) tNil)))) (Wout := fun _ _ _ _ => False)
        rfl rfl (z_flaw T).nd rfl rfl ⟨rfl, by decide, Or.inl (g_Flaw T)⟩ takes0
        (fun W pn xe tk _ => pss_one (ps_expr (by exact (pcallS h_tree_of hr (g_tree_of T) (fun σ => passAt tk σ) (by exact (pa_cons (pv 0) pa_nil))))))
        (fun a oe cls d pn hz hf => pss_one (ps_ret (pe_tup (pa_cons (pe_xf (xf_Flaw T) (n_Flaw_place T) hz hf (pv 1)) (pa_cons (pe_xf (xf_Flaw T) (n_Flaw_message T) hz hf (pv 1)) pa_nil))))))
    (pss_one (ps_ret pe_non)))), ?_⟩
  refine ⟨_, rfl, _, _, rfl, ha, _, _, rfl, fun hb => ?_, k1⟩
  obtain ⟨t, rfl, ht, k⟩ := k2 hb
  refine ⟨_, rfl, t, rfl, ht, ?_⟩
  unfold flOf at k
  cases hq : treeOf t with
  | error e =>
    rw [hq] at k
    intro d H' ex hd hx
    refine ⟨true, (x_Flaw T).2, fun _ a ha => ?_, fun q => by cases q⟩
    refine ⟨_, rfl, rfl, rfl, d, _, _, rfl, hx, rfl, _, rfl, rfl, rfl, d, _, _, rfl, hx, rfl, two_sz _ _, fun q hq => ?_⟩
    have ex' : Ex H H' := fun b o z => ex b o (by simp) z
    exact k _ _ (ex'.trans (ex_new hq)) (.tup (.inl (.inl upd_same)) (.cons (.int _) (.cons (.str _) .nil)))
  | ok d =>
    rw [hq] at k
    intro v H' ex rv
    exact k _ _ ex .non
theorem len_flaw (vs : List V) (H : Hp) (Q : VK) (E : XK) (h : spFlaw K vs H Q E) : vs.length = p_flaw.length := by
  obtain ⟨_, _, rfl, _⟩ := h
  rfl
theorem ok_flaw (T : Tx K mg) : Has P w K mg base 93 (a_flaw K) p_flaw (spFlaw K) := has_of (f_flaw T) (z_flaw T) (b_flaw T) len_flaw (body_flaw T)
end
end K02
namespace Ps
open PySem L2 Sl
inductive Tr where
  | maze (c : Nat) | beside (a b : Tr) | over (n : Nat) (a b : Tr) | glue (i j : Nat) (a : Tr) | hide (i : Nat) (a : Tr)
def Tr.d : Tr → D
  | .maze c => .tup [.str "maze", .str ⟨#[c]⟩]
  | .beside a b => .tup [.str "beside", a.d, b.d]
  | .over n a b => .tup [.str "over", .int (n : Int), a.d, b.d]
  | .glue i j a => .tup [.str "glue", .int (i : Int), .int (j : Int), a.d]
  | .hide i a => .tup [.str "hide", .int (i : Int), a.d]
def Tr.size : Tr → Nat
  | .maze _ => 1
  | .beside a b => a.size + b.size + 1
  | .over _ a b => a.size + b.size + 1
  | .glue _ _ a => a.size + 1
  | .hide _ a => a.size + 1
def Tr.good : Tr → Prop
  | .maze c => isLt c = true
  | .beside a b => a.good ∧ b.good
  | .over n a b => n < 10 ∧ a.good ∧ b.good
  | .glue i j a => i < 10 ∧ j < 10 ∧ a.good
  | .hide i a => i < 10 ∧ a.good
/-- a tree's text stands from s to i -/
def Spn (ss : Sg) (t : D) (s i : Nat) : Prop := ∃ r : Tr, t = r.d ∧ r.good ∧ r.size + s ≤ i ∧ i ≤ ss.length
theorem cAt_lt {ss : Sg} {i c : Nat} (h : cAt ss i = some c) : i < ss.length := by
  rcases Nat.lt_or_ge i ss.length with q | q
  · exact q
  · unfold cAt at h
    rw [List.getElem?_eq_none q] at h
    cases h
theorem dgV_lt {ss : Sg} {i v : Nat} (h : dgV ss i = some v) : v < 10 := by
  unfold dgV at h
  cases q : cAt ss i with
  | none => rw [q] at h; cases h
  | some c =>
    rw [q] at h
    cases q2 : isDg c with
    | false => simp [q2] at h
    | true =>
      simp only [q2, if_true] at h
      have := of_decide_eq_true q2
      cases h
      omega
theorem trees (ss : Sg) (n : Nat) : ∀ f : Nat,
    (∀ d i t j, nestP ss n f d i = some (.ok t j) → Spn ss t i j) ∧
    (∀ d t i s u j, Spn ss t s i → nestL ss n f d t i = some (.ok u j) → Spn ss u s j) ∧
    (∀ d i t j, itemP ss n f d i = some (.ok t j) → Spn ss t i j) ∧
    (∀ d t i s u j, Spn ss t s i → itemL ss n f d t i = some (.ok u j) → Spn ss u s j) ∧
    (∀ d i t j, atomP ss n f d i = some (.ok t j) → Spn ss t i j) ∧
    (∀ d t i s u j, Spn ss t s i → atomL ss n f d t i = some (.ok u j) → Spn ss u s j) ∧
    (∀ d i t j, groundP ss n f d i = some (.ok t j) → Spn ss t i j) := by
  intro f
  induction f with
  | zero => refine ⟨?_, ?_, ?_, ?_, ?_, ?_, ?_⟩ <;> intros <;> simp_all [nestP, nestL, itemP, itemL, atomP, atomL, groundP]
  | succ f ih =>
    obtain ⟨hN, hNL, hI, hIL, hA, hAL, hG⟩ := ih
    refine ⟨?_, ?_, ?_, ?_, ?_, ?_, ?_⟩
    · intro d i t j h
      simp only [nestP] at h
      cases q : itemP ss n f d i with
      | none => rw [q] at h; cases h
      | some r =>
        rw [q] at h
        cases r with
        | bad p m => cases h
        | ok t1 j1 => exact hNL d t1 j1 i t j (hI d i t1 j1 q) h
    · intro d t i s u j ht h
      simp only [nestL] at h
      by_cases c : cAt ss i = some 43
      · rw [if_pos c] at h
        cases q : itemP ss n f d (i + 1) with
        | none => rw [q] at h; cases h
        | some r =>
          rw [q] at h
          cases r with
          | bad p m => cases h
          | ok t1 j1 =>
            refine hNL d _ j1 s u j ?_ h
            obtain ⟨r1, e1, g1, z1, l1⟩ := ht
            obtain ⟨r2, e2, g2, z2, l2⟩ := hI d (i + 1) t1 j1 q
            exact ⟨.beside r1 r2, by rw [e1, e2]; rfl, ⟨g1, g2⟩, by show r1.size + r2.size + 1 + s ≤ j1; omega, l2⟩
      · rw [if_neg c] at h
        cases h
        exact ht
    · intro d i t j h
      simp only [itemP] at h
      cases q : atomP ss n f d i with
      | none => rw [q] at h; cases h
      | some r =>
        rw [q] at h
        cases r with
        | bad p m => cases h
        | ok t1 j1 => exact hIL d t1 j1 i t j (hA d i t1 j1 q) h
    · intro d t i s u j ht h
      simp only [itemL] at h
      by_cases c : cAt ss i = some 47
      · rw [if_pos c] at h
        cases q0 : dgV ss (i + 1) with
        | none => rw [q0] at h; cases h
        | some v =>
          rw [q0] at h
          simp only [] at h
          cases q : atomP ss n f d (i + 2) with
          | none => rw [q] at h; cases h
          | some r =>
            rw [q] at h
            cases r with
            | bad p m => cases h
            | ok t1 j1 =>
              refine hIL d _ j1 s u j ?_ h
              obtain ⟨r1, e1, g1, z1, l1⟩ := ht
              obtain ⟨r2, e2, g2, z2, l2⟩ := hA d (i + 2) t1 j1 q
              exact ⟨.over v r1 r2, by rw [e1, e2]; rfl, ⟨dgV_lt q0, g1, g2⟩, by show r1.size + r2.size + 1 + s ≤ j1; omega, l2⟩
      · rw [if_neg c] at h
        cases h
        exact ht
    · intro d i t j h
      simp only [atomP] at h
      cases q : groundP ss n f d i with
      | none => rw [q] at h; cases h
      | some r =>
        rw [q] at h
        cases r with
        | bad p m => cases h
        | ok t1 j1 => exact hAL d t1 j1 i t j (hG d i t1 j1 q) h
    · intro d t i s u j ht h
      simp only [atomL] at h
      by_cases c : cAt ss i = some 91
      · rw [if_pos c] at h
        cases q0 : dgV ss (i + 1) with
        | none => rw [q0] at h; cases h
        | some v =>
          rw [q0] at h
          simp only [] at h
          by_cases c2 : cAt ss (i + 2) = some 61
          · rw [if_pos c2] at h
            cases q1 : dgV ss (i + 3) with
            | none => rw [q1] at h; cases h
            | some x =>
              rw [q1] at h
              simp only [] at h
              by_cases c3 : cAt ss (i + 4) = some 93
              · rw [if_pos c3] at h
                refine hAL d _ (i + 5) s u j ?_ h
                obtain ⟨r1, e1, g1, z1, l1⟩ := ht
                exact ⟨.glue v x r1, by rw [e1]; rfl, ⟨dgV_lt q0, dgV_lt q1, g1⟩, by show r1.size + 1 + s ≤ i + 5; omega, by have := cAt_lt c3; omega⟩
              · rw [if_neg c3] at h; cases h
          · rw [if_neg c2] at h
            by_cases c3 : cAt ss (i + 2) = some 93
            · rw [if_pos c3] at h
              refine hAL d _ (i + 3) s u j ?_ h
              obtain ⟨r1, e1, g1, z1, l1⟩ := ht
              exact ⟨.hide v r1, by rw [e1]; rfl, ⟨dgV_lt q0, g1⟩, by show r1.size + 1 + s ≤ i + 3; omega, by have := cAt_lt c3; omega⟩
            · rw [if_neg c3] at h; cases h
      · rw [if_neg c] at h
        cases h
        exact ht
    · intro d i t j h
      simp only [groundP] at h
      by_cases c : cAt ss i = some 40
      · rw [if_pos c] at h
        by_cases d20 : d = 20
        · rw [if_pos d20] at h; cases h
        · rw [if_neg d20] at h
          cases q : nestP ss n f (d + 1) (i + 1) with
          | none => rw [q] at h; cases h
          | some r =>
            rw [q] at h
            cases r with
            | bad p m => cases h
            | ok t1 j1 =>
              simp only [] at h
              by_cases c2 : cAt ss j1 = some 41
              · rw [if_pos c2] at h
                cases h
                obtain ⟨r1, e1, g1, z1, l1⟩ := hN (d + 1) (i + 1) t j1 q
                exact ⟨r1, e1, g1, by omega, by have := cAt_lt c2; omega⟩
              · rw [if_neg c2] at h; cases h
      · rw [if_neg c] at h
        cases q : cAt ss i with
        | none => rw [q] at h; cases h
        | some a =>
          rw [q] at h
          simp only [] at h
          cases hl : isLt a with
          | true =>
            simp only [hl, if_true] at h
            cases h
            exact ⟨.maze a, rfl, hl, by show 1 + i ≤ i + 1; omega, by have := cAt_lt q; omega⟩
          | false => simp [hl] at h
end Ps
namespace K02
open PySem PySem.Spec
open PyProof.Rows L2 Sl Ps
section
variable {P : Program} {w : World} {K : PySem.W.Frag} {mg : Str → Option Value} {base : Heap} {H H1 H2 : Hp} {E : XK} {Q : VK}
def spWithin : Sp := fun vs H Q _ => ∃ (z : Str) (b : Bool), vs = [.str z, .bl b] ∧ z.length ≤ 10000 ∧ ∀ y : Str, y.length ≤ z.length + 2 → Q (.str y) H
theorem len1 : ("(" : Str).length = 1 := by decide +kernel
theorem len2 : (")" : Str).length = 1 := by decide +kernel
theorem app_len (a b : Str) : (a ++ b).length = a.length + b.length := by
  show (a.cps ++ b.cps).size = _
  rw [Array.size_append]
  rfl
theorem sz10 {n : Nat} (h : n ≤ 100000) : n ≤ sizeLine := Nat.le_trans h (by decide)
theorem ok_within (T : Tx K mg) : Has P w K mg base 1 (a_within_parentheses K) p_within_parentheses spWithin := by
  refine has_of (f_within_parentheses T) (z_within_parentheses T) (b_within_parentheses T) (fun vs H Q E h => by obtain ⟨_, _, rfl, _⟩ := h; rfl) (fun cdv A outer s H vs Q E hr h => ?_)
  obtain ⟨z, b, rfl, hz, k⟩ := h
  refine ⟨_, (pss_one (ps_ret (pe_ifExp (pt_val (pv 1)) (pe_op oAddS (pe_op oAddS pe_str (pv 0)) pe_str) (pv 0)))), ?_⟩
  refine ⟨_, rfl, _, rfl, ?_⟩
  cases b with
  | false => exact ⟨_, rfl, k _ (by omega)⟩
  | true =>
    refine ⟨_, rfl, _, _, rfl, rfl, by rw [len1]; exact sz10 (by omega), _, _, rfl, rfl, ?_, k _ ?_⟩
    · rw [app_len, len1, len2]; exact sz10 (by omega)
    · rw [app_len, app_len, len1, len2]; omega
theorem dgs : ∀ v : Nat, v < 10 → (Str.ofString (toString (v : Int))).length = 1
  | 0, _ => by decide +kernel
  | 1, _ => by decide +kernel
  | 2, _ => by decide +kernel
  | 3, _ => by decide +kernel
  | 4, _ => by decide +kernel
  | 5, _ => by decide +kernel
  | 6, _ => by decide +kernel
  | 7, _ => by decide +kernel
  | 8, _ => by decide +kernel
  | 9, _ => by decide +kernel
  | n + 10, h => by omega
theorem small_log {v : Nat} (h : v < 10) : (v : Int).natAbs.log2 < 1920 := by
  have e : (v : Int).natAbs = v := by omega
  rw [e]
  exact Nat.lt_of_le_of_lt (Nat.log2_le_self v) (by omega)
def spPlain (K : PySem.W.Frag) (n : Nat) : Sp := fun vs H Q _ => ∃ (v : V) (r : Tr), vs = [v] ∧ RD K H r.d v ∧ r.good ∧ r.size ≤ n ∧ r.size ≤ 200 ∧ ∀ (z : Str) H', Ex H H' → z.length ≤ 12 * r.size → Q (.str z) H'
theorem slots4 {K : PySem.W.Frag} {H : Hp} {a b c : D} {v : V} (h : RD K H (.tup [a, b, c]) v) : ∃ p x y z, v = .ref p ∧ SqT K H p [x, y, z] ∧ RD K H a x ∧ RD K H b y ∧ RD K H c z := by
  obtain ⟨p, xs, rfl, h1, h2⟩ := h.ofTup
  obtain ⟨x, _, rfl, r1, h2⟩ := h2.ofCons
  obtain ⟨y, _, rfl, r2, h2⟩ := h2.ofCons
  obtain ⟨z, _, rfl, r3, h2⟩ := h2.ofCons
  obtain rfl := h2.ofNil
  exact ⟨p, x, y, z, rfl, h1, r1, r2, r3⟩
theorem slots5 {K : PySem.W.Frag} {H : Hp} {a b c d : D} {v : V} (h : RD K H (.tup [a, b, c, d]) v) : ∃ p x y z u, v = .ref p ∧ SqT K H p [x, y, z, u] ∧ RD K H a x ∧ RD K H b y ∧ RD K H c z ∧ RD K H d u := by
  obtain ⟨p, xs, rfl, h1, h2⟩ := h.ofTup
  obtain ⟨x, _, rfl, r1, h2⟩ := h2.ofCons
  obtain ⟨y, _, rfl, r2, h2⟩ := h2.ofCons
  obtain ⟨z, _, rfl, r3, h2⟩ := h2.ofCons
  obtain ⟨u, _, rfl, r4, h2⟩ := h2.ofCons
  obtain rfl := h2.ofNil
  exact ⟨p, x, y, z, u, rfl, h1, r1, r2, r3, r4⟩
def trWord : Tr → Str
  | .maze _ => "maze"
  | .beside _ _ => "beside"
  | .over _ _ _ => "over"
  | .glue _ _ _ => "glue"
  | .hide _ _ => "hide"
/-- a tree's word stands first -/
theorem word_at {K : PySem.W.Frag} {H : Hp} {v : V} : ∀ {r : Tr}, RD K H r.d v → ∃ p xs, v = .ref p ∧ SqT K H p (.str (trWord r) :: xs) := by
  intro r h
  cases r with
  | maze c => obtain ⟨p, xs, rfl, h1, h2⟩ := RD.ofTup h; obtain ⟨x, _, rfl, r1, _⟩ := h2.ofCons; obtain rfl := r1.ofStr; exact ⟨p, _, rfl, h1⟩
  | beside a b => obtain ⟨p, xs, rfl, h1, h2⟩ := RD.ofTup h; obtain ⟨x, _, rfl, r1, _⟩ := h2.ofCons; obtain rfl := r1.ofStr; exact ⟨p, _, rfl, h1⟩
  | over n a b => obtain ⟨p, xs, rfl, h1, h2⟩ := RD.ofTup h; obtain ⟨x, _, rfl, r1, _⟩ := h2.ofCons; obtain rfl := r1.ofStr; exact ⟨p, _, rfl, h1⟩
  | glue i j a => obtain ⟨p, xs, rfl, h1, h2⟩ := RD.ofTup h; obtain ⟨x, _, rfl, r1, _⟩ := h2.ofCons; obtain rfl := r1.ofStr; exact ⟨p, _, rfl, h1⟩
  | hide i a => obtain ⟨p, xs, rfl, h1, h2⟩ := RD.ofTup h; obtain ⟨x, _, rfl, r1, _⟩ := h2.ofCons; obtain rfl := r1.ofStr; exact ⟨p, _, rfl, h1⟩
theorem lenc (c : Str) (h : c.length = 1 := by decide +kernel) : c.length = 1 := h
theorem ok_plain (T : Tx K mg) : ∀ n : Nat, Has P w K mg base (n + 2) (a_plain K) p_plain (spPlain K n)
  | 0 => by
    obtain ⟨fd, F⟩ := f_plain T
    have no : ∀ {vs H Q E}, spPlain K 0 vs H Q E → False := fun ⟨v, r, _, _, _, h, _⟩ => by cases r <;> simp [Tr.size] at h
    exact ⟨⟨fd, ⟨fun vs H Q E h => (no h).elim, fun A outer s H args us vs Q E _ _ _ _ h => (no h).elim⟩, F.bindsN (b_plain T)⟩, F.kp⟩
  | n + 1 => by
    have h_plain := ok_plain T n
    have h_within_parentheses := ok_within (P := P) (w := w) (base := base) T
    refine has_of (f_plain T) (z_plain T) (b_plain T) (fun vs H Q E h => by obtain ⟨_, _, rfl, _⟩ := h; rfl) (fun cdv A outer s H vs Q E hr h => ?_)
    obtain ⟨v, r, rfl, rv, hg, hn, h200, k⟩ := h
    refine ⟨_, (pss_cons (ps_set (i := 1) (z_plain T).nd rfl (Or.inl rfl) (pe_ix (ixT K) (pv 0) pe_int (fun _ _ => rfl)))
  (pss_cons (ps_if (pt_cmpR op_eq (pv 1) pe_str (nomark _)) (pss_one (ps_ret (pe_ix (ixT K) (pv 0) pe_int (fun _ _ => rfl)))) pss_nil)
  (pss_cons (ps_if (pt_cmpR op_eq (pv 1) pe_str (nomark _)) (pss_one (ps_ret (pe_op oAddS (pe_op oAddS (pcall h_plain (hr.mono (by omega)) (g_plain T) (pa_cons (pe_ix (ixT K) (pv 0) pe_int (fun _ _ => rfl)) pa_nil)) pe_str) (pcall h_within_parentheses (hr.mono (by omega)) (g_within_parentheses T) (pa_cons (pcall h_plain (hr.mono (by omega)) (g_plain T) (pa_cons (pe_ix (ixT K) (pv 0) pe_int (fun _ _ => rfl)) pa_nil)) (pa_cons (pe_cmpR op_eq (pe_ix (ixT K) (pe_ix (ixT K) (pv 0) pe_int (fun _ _ => rfl)) pe_int (fun _ _ => rfl)) pe_str (nomark _)) pa_nil)))))) pss_nil)
  (pss_cons (ps_if (pt_cmpR op_eq (pv 1) pe_str (nomark _)) (pss_cons (ps_set (i := 2) (z_plain T).nd rfl (Or.inl rfl) (pcall h_within_parentheses (hr.mono (by omega)) (g_within_parentheses T) (pa_cons (pcall h_plain (hr.mono (by omega)) (g_plain T) (pa_cons (pe_ix (ixT K) (pv 0) pe_int (fun _ _ => rfl)) pa_nil)) (pa_cons (pe_cmpR op_eq (pe_ix (ixT K) (pe_ix (ixT K) (pv 0) pe_int (fun _ _ => rfl)) pe_int (fun _ _ => rfl)) pe_str (nomark _)) pa_nil))))
  (pss_one (ps_ret (pe_op oAddS (pe_op oAddS (pe_op oAddS (pv 2) pe_str) (pe_callTy call_str_int (by rfl) (l_str T) (by decide +kernel) (pa_cons (pe_ix (ixT K) (pv 0) pe_int (fun _ _ => rfl)) pa_nil))) (pcall h_within_parentheses (hr.mono (by omega)) (g_within_parentheses T) (pa_cons (pcall h_plain (hr.mono (by omega)) (g_plain T) (pa_cons (pe_ix (ixT K) (pv 0) pe_int (fun _ _ => rfl)) pa_nil)) (pa_cons (pe_cmpR (inK K) (pe_ix (ixT K) (pe_ix (ixT K) (pv 0) pe_int (fun _ _ => rfl)) pe_int (fun _ _ => rfl)) (pe_tup (pa_cons pe_str (pa_cons pe_str pa_nil))) rfl) pa_nil))))))) pss_nil)
  (pss_cons (ps_set (i := 3) (z_plain T).nd rfl (Or.inl rfl) (pcall h_within_parentheses (hr.mono (by omega)) (g_within_parentheses T) (pa_cons (pcall h_plain (hr.mono (by omega)) (g_plain T) (pa_cons (pe_ix (ixT K) (pv 0) (pe_un un_neg pe_int) (fun _ _ => rfl)) pa_nil)) (pa_cons (pe_cmpR (inK K) (pe_ix (ixT K) (pe_ix (ixT K) (pv 0) (pe_un un_neg pe_int) (fun _ _ => rfl)) pe_int (fun _ _ => rfl)) (pe_tup (pa_cons pe_str (pa_cons pe_str pa_nil))) rfl) pa_nil))))
  (pss_one (ps_ret (pe_op oAddS (pe_op oAddS (pe_op oAddS (pe_op oAddS (pv 3) pe_str) (pe_callTy call_str_int (by rfl) (l_str T) (by decide +kernel) (pa_cons (pe_ix (ixT K) (pv 0) pe_int (fun _ _ => rfl)) pa_nil))) (pe_ifExp (pt_cmpR op_eq (pv 1) pe_str (nomark _)) (pe_op oAddS pe_str (pe_callTy call_str_int (by rfl) (l_str T) (by decide +kernel) (pa_cons (pe_ix (ixT K) (pv 0) pe_int (fun _ _ => rfl)) pa_nil))) pe_str)) pe_str)))))))), ?_⟩
    cases r with
    | maze c =>
      obtain ⟨p, xs, rfl, h1, g2⟩ := RD.ofTup rv
      obtain ⟨x, _, rfl, r1, g3⟩ := g2.ofCons
      obtain ⟨y, _, rfl, r2, g4⟩ := g3.ofCons
      obtain rfl := r1.ofStr
      obtain rfl := r2.ofStr
      obtain rfl := g4.ofNil
      refine ⟨_, rfl, p, _, _, _, rfl, rfl, h1, rfl, _, rfl, rfl, _, rfl, ?_⟩
      rw [decide_eq_true (show V.str "maze" = V.str "maze" from rfl)]
      exact ⟨_, rfl, p, _, _, _, rfl, rfl, h1, rfl, k _ _ (Ex.refl H) (by show 1 ≤ 12; decide)⟩
    | beside a b =>
      obtain ⟨ga, gb⟩ := hg
      have hsz : a.size + b.size + 1 ≤ n + 1 := hn
      have hs2 : a.size + b.size + 1 ≤ 200 := h200
      obtain ⟨p, x, y, z, rfl, h1, r1, r2, r3⟩ := slots4 rv
      obtain rfl := r1.ofStr
      refine ⟨_, rfl, p, _, _, _, rfl, rfl, h1, rfl, _, rfl, rfl, _, rfl, ?_⟩
      rw [decide_eq_false (show ¬ V.str "beside" = V.str "maze" by decide +kernel)]
      refine ⟨_, rfl, rfl, _, rfl, ?_⟩
      rw [decide_eq_true (show V.str "beside" = V.str "beside" from rfl)]
      refine ⟨_, rfl, p, _, _, _, rfl, rfl, h1, rfl, y, a, rfl, r2, ga, by omega, by omega, fun za H3 e3 l3 => ?_⟩
      refine ⟨_, _, rfl, rfl, by rw [lenc "+"]; exact sz10 (by omega), ?_⟩
      obtain ⟨q, ys, rfl, hq⟩ := word_at r3
      refine ⟨_, rfl, p, _, _, _, rfl, rfl, e3.t.sq h1, rfl, .ref q, b, rfl, r3.mono e3.t, gb, by omega, by omega, fun zb H4 e4 l4 => ?_⟩
      have e34 := e3.trans e4
      refine ⟨_, rfl, p, _, _, _, rfl, rfl, e34.t.sq h1, rfl, q, _, _, _, rfl, rfl, e34.t.sq hq, at_of (j := 0) rfl rfl, rfl, zb, _, rfl, by omega, fun zc lc => ?_⟩
      refine ⟨_, _, rfl, rfl, ?_, k _ _ e34 ?_⟩
      · rw [app_len, lenc "+"]; exact sz10 (by omega)
      · rw [app_len, app_len, lenc "+"]
        show _ ≤ 12 * (a.size + b.size + 1)
        omega
    | over d a b =>
      obtain ⟨gd, ga, gb⟩ := hg
      have hsz : a.size + b.size + 1 ≤ n + 1 := hn
      have hs2 : a.size + b.size + 1 ≤ 200 := h200
      obtain ⟨p, x, y, z, u, rfl, h1, r1, r2, r3, r4⟩ := slots5 rv
      obtain rfl := r1.ofStr
      obtain rfl := r2.ofInt
      refine ⟨_, rfl, p, _, _, _, rfl, rfl, h1, rfl, _, rfl, rfl, _, rfl, ?_⟩
      rw [decide_eq_false (show ¬ V.str "over" = V.str "maze" by decide +kernel)]
      refine ⟨_, rfl, rfl, _, rfl, ?_⟩
      rw [decide_eq_false (show ¬ V.str "over" = V.str "beside" by decide +kernel)]
      refine ⟨_, rfl, rfl, _, rfl, ?_⟩
      rw [decide_eq_true (show V.str "over" = V.str "over" from rfl)]
      obtain ⟨qa, ya, rfl, hqa⟩ := word_at r3
      obtain ⟨qb, yb, rfl, hqb⟩ := word_at r4
      refine ⟨_, rfl, p, _, _, _, rfl, rfl, h1, rfl, .ref qa, a, rfl, r3, ga, by omega, by omega, fun za H3 e3 l3 => ?_⟩
      refine ⟨_, rfl, p, _, _, _, rfl, rfl, e3.t.sq h1, rfl, qa, _, _, _, rfl, rfl, e3.t.sq hqa, at_of (j := 0) rfl rfl, rfl, za, _, rfl, by omega, fun zc lc => ?_⟩
      refine ⟨_, rfl, _, _, rfl, rfl, by rw [lenc "/"]; exact sz10 (by omega), ?_⟩
      refine ⟨_, rfl, p, _, _, _, rfl, rfl, e3.t.sq h1, rfl, _, rfl, small_log gd, _, _, rfl, rfl, by rw [app_len, lenc "/", dgs d gd]; exact sz10 (by omega), ?_⟩
      refine ⟨_, rfl, p, _, _, _, rfl, rfl, e3.t.sq h1, rfl, .ref qb, b, rfl, r4.mono e3.t, gb, by omega, by omega, fun zb H4 e4 l4 => ?_⟩
      have e34 := e3.trans e4
      refine ⟨_, rfl, p, _, _, _, rfl, rfl, e34.t.sq h1, rfl, qb, _, _, _, rfl, rfl, e34.t.sq hqb, at_of (j := 0) rfl rfl, by show 2 ≤ sizeLine; decide, fun m hm => ?_⟩
      refine ⟨m, _, rfl, .inr (.inl (.inl upd_same)), rfl, rfl, zb, _, rfl, by omega, fun zd ld => ?_⟩
      refine ⟨_, _, rfl, rfl, ?_, k _ _ (e34.trans (ex_new hm)) ?_⟩
      · rw [app_len, app_len, lenc "/", dgs d gd]; exact sz10 (by omega)
      · rw [app_len, app_len, app_len, lenc "/", dgs d gd]
        show _ ≤ 12 * (a.size + b.size + 1)
        omega
    | glue i j a =>
      obtain ⟨gi, gj, ga⟩ := hg
      have hsz : a.size + 1 ≤ n + 1 := hn
      have hs2 : a.size + 1 ≤ 200 := h200
      obtain ⟨p, x, y, z, u, rfl, h1, r1, r2, r3, r4⟩ := slots5 rv
      obtain rfl := r1.ofStr
      obtain rfl := r2.ofInt
      obtain rfl := r3.ofInt
      refine ⟨_, rfl, p, _, _, _, rfl, rfl, h1, rfl, _, rfl, rfl, _, rfl, ?_⟩
      rw [decide_eq_false (show ¬ V.str "glue" = V.str "maze" by decide +kernel)]
      refine ⟨_, rfl, rfl, _, rfl, ?_⟩
      rw [decide_eq_false (show ¬ V.str "glue" = V.str "beside" by decide +kernel)]
      refine ⟨_, rfl, rfl, _, rfl, ?_⟩
      rw [decide_eq_false (show ¬ V.str "glue" = V.str "over" by decide +kernel)]
      obtain ⟨qa, ya, rfl, hqa⟩ := word_at r4
      refine ⟨_, rfl, _, rfl, p, _, _, _, rfl, rfl, h1, rfl, .ref qa, a, rfl, r4, ga, by omega, by omega, fun za H3 e3 l3 => ?_⟩
      refine ⟨_, rfl, _, rfl, p, _, _, _, rfl, rfl, e3.t.sq h1, rfl, qa, _, _, _, rfl, rfl, e3.t.sq hqa, at_of (j := 0) rfl rfl, by show 2 ≤ sizeLine; decide, fun m hm => ?_⟩
      have e4 := e3.trans (ex_new (o := .tup [.str "beside", .str "over"]) hm)
      refine ⟨m, _, rfl, .inr (.inl (.inl upd_same)), rfl, rfl, za, _, rfl, by omega, fun zc lc => ?_⟩
      refine ⟨_, rfl, _, _, rfl, rfl, by rw [lenc "["]; exact sz10 (by omega), ?_⟩
      refine ⟨_, rfl, p, _, _, _, rfl, rfl, e4.t.sq h1, rfl, _, rfl, small_log gi, _, _, rfl, rfl, by rw [app_len, lenc "[", dgs i gi]; exact sz10 (by omega), ?_⟩
      refine ⟨_, rfl, rfl, _, rfl, ?_⟩
      rw [decide_eq_true (show V.str "glue" = V.str "glue" from rfl)]
      refine ⟨_, rfl, p, _, _, _, rfl, rfl, e4.t.sq h1, rfl, _, rfl, small_log gj, _, _, rfl, rfl, by rw [lenc "=", dgs j gj]; exact sz10 (by omega), ?_⟩
      refine ⟨_, _, rfl, rfl, by rw [app_len, app_len, app_len, lenc "[", lenc "=", dgs i gi, dgs j gj]; exact sz10 (by omega), ?_⟩
      refine ⟨_, _, rfl, rfl, by rw [app_len, app_len, app_len, app_len, lenc "[", lenc "=", lenc "]", dgs i gi, dgs j gj]; exact sz10 (by omega), k _ _ e4 ?_⟩
      rw [app_len, app_len, app_len, app_len, app_len, lenc "[", lenc "=", lenc "]", dgs i gi, dgs j gj]
      show _ ≤ 12 * (a.size + 1)
      omega
    | hide i a =>
      obtain ⟨gi, ga⟩ := hg
      have hsz : a.size + 1 ≤ n + 1 := hn
      have hs2 : a.size + 1 ≤ 200 := h200
      obtain ⟨p, x, y, u, rfl, h1, r1, r2, r4⟩ := slots4 rv
      obtain rfl := r1.ofStr
      obtain rfl := r2.ofInt
      refine ⟨_, rfl, p, _, _, _, rfl, rfl, h1, rfl, _, rfl, rfl, _, rfl, ?_⟩
      rw [decide_eq_false (show ¬ V.str "hide" = V.str "maze" by decide +kernel)]
      refine ⟨_, rfl, rfl, _, rfl, ?_⟩
      rw [decide_eq_false (show ¬ V.str "hide" = V.str "beside" by decide +kernel)]
      refine ⟨_, rfl, rfl, _, rfl, ?_⟩
      rw [decide_eq_false (show ¬ V.str "hide" = V.str "over" by decide +kernel)]
      obtain ⟨qa, ya, rfl, hqa⟩ := word_at r4
      refine ⟨_, rfl, _, rfl, p, _, _, _, rfl, rfl, h1, rfl, .ref qa, a, rfl, r4, ga, by omega, by omega, fun za H3 e3 l3 => ?_⟩
      refine ⟨_, rfl, _, rfl, p, _, _, _, rfl, rfl, e3.t.sq h1, rfl, qa, _, _, _, rfl, rfl, e3.t.sq hqa, at_of (j := 0) rfl rfl, by show 2 ≤ sizeLine; decide, fun m hm => ?_⟩
      have e4 := e3.trans (ex_new (o := .tup [.str "beside", .str "over"]) hm)
      refine ⟨m, _, rfl, .inr (.inl (.inl upd_same)), rfl, rfl, za, _, rfl, by omega, fun zc lc => ?_⟩
      refine ⟨_, rfl, _, _, rfl, rfl, by rw [lenc "["]; exact sz10 (by omega), ?_⟩
      refine ⟨_, rfl, p, _, _, _, rfl, rfl, e4.t.sq h1, rfl, _, rfl, small_log gi, _, _, rfl, rfl, by rw [app_len, lenc "[", dgs i gi]; exact sz10 (by omega), ?_⟩
      refine ⟨_, rfl, rfl, _, rfl, ?_⟩
      rw [decide_eq_false (show ¬ V.str "hide" = V.str "glue" by decide +kernel)]
      have l0 : ("" : Str).length = 0 := by decide +kernel
      refine ⟨_, _, rfl, rfl, by rw [app_len, app_len, lenc "[", dgs i gi, l0]; exact sz10 (by omega), ?_⟩
      refine ⟨_, _, rfl, rfl, by rw [app_len, app_len, app_len, lenc "[", lenc "]", dgs i gi, l0]; exact sz10 (by omega), k _ _ e4 ?_⟩
      rw [app_len, app_len, app_len, app_len, lenc "[", lenc "]", dgs i gi, l0]
      show _ ≤ 12 * (a.size + 1)
      omega
end
end K02
/-! list of a text; a def handed a lambda that tells what was refused. -/
namespace Sl
open PySem PySem.Spec
open PyProof.Rows L2
def sgV (z : Str) : List V := z.cps.toList.map fun c => V.str ⟨#[c]⟩
theorem call_list_sg {X : Cx} (hc : X.calm = true := by rfl) : CallR X (.type "list") (fun xs H Q => ∃ z, xs = [.str z] ∧ z.length ≤ sizeLine ∧ ∀ l, H l = none → Q (.ref l) (upd H l (.lst (sgV z)))) := by
  intro pins s σ H xs us Q I r h
  obtain ⟨z, rfl, hz, q⟩ := h
  obtain ⟨u, rfl, t, rfl⟩ := vals1 r
  have hs : s.heap.objs.size ≤ s.heap.objs.size := Nat.le_refl _
  refine call_list_str (I.ok.hd hc) z t (fun h' tk acc c' kp e it => ?_) hz
  refine ⟨.ref s.heap.objs.size, _, I.laid (t' := tk) kp hs (show ObjOk X.prog X.w _ h' _ (.lst (sgV z)) from ⟨?_, acc.toList, c', ?_, ?_⟩), rfl, q _ (I.hok.fresh hs)⟩
  · show (z.cps.toList.map _).length ≤ _
    rw [List.length_map]
    exact hz
  · refine vals_of_idx _ _ ?_ fun j u hu => ?_
    · rw [Array.length_toList, it.1]
      show _ = (z.cps.toList.map _).length
      rw [List.length_map, Array.length_toList]
    · obtain ⟨c, t', e1, rfl⟩ := it.2 j u (by simpa using hu)
      refine ⟨.str ⟨#[c]⟩, ?_, t', rfl⟩
      show (z.cps.toList.map _)[j]? = _
      rw [List.getElem?_map, Array.getElem?_toList, e1] <;> rfl
  · rw [Array.toArray_toList]
    exact e
/-- f(k = e), k the one parameter -/
theorem kw1 {K : PySem.W.Frag} {x qual pn : Str} {params : Arguments} {body : List Stmt} {scope : Scope} {f : Addr} {fd : FuncData} (F : FunD K x qual params body scope [] [] f fd)
    (h : ∀ (kV doc pm : Value) (an : Option Addr) (cdv ct u : Value), bindArgs (PySem.W.fnOf x qual params body scope .none kV doc pm an cdv ct) ⟨[], [(pn, u)]⟩ = pure [(pn, u)]) : KBn K fd [pn] 0 [pn] (fun _ ws => ws) (fun _ zs => zs) := by
  obtain ⟨oc, od, dV, kV, doc, pm, an, cdv, ct, osl, rfl, lk, hcd, hD, hK⟩ := F.ex
  rcases hD with ⟨_, rfl⟩ | ⟨e, _⟩
  · refine ⟨fun s us ws X h1 h2 => ?_, fun _ r => r⟩
    match us, ws, h1, h2 with
    | [], [u], _, _ => exact .of_eq (h kV doc pm an cdv ct u)
  · exact absurd rfl e
theorem pcallK1 {X : Cx} {k : Nat} {f : Addr} {fd : FuncData} {sp : Sp} {E : XK} {x pn : Str} {p pos kpos : Pos} {e : Expr} {te : TE} (F : FnOk X.prog X.w X.K X.mg X.base (L2.CX X.prog X.w) k f fd [pn] sp) (hb : KBn X.K fd [pn] 0 [pn] (fun _ ws => ws) (fun _ zs => zs)) (kp : PySem.W.keepIn X.K (.ref f) = true)
    (hr : Room k X.A) (hm : X.mg x = some (.ref f)) (hx : Passes (L2.CX X.prog X.w) X E) (he : PE X e te) (hg : Gl X x := by rfl) (hdb : (x == ("__debug__" : Str)) = false := by decide) : PE X (.Call (.Name x p) [] [⟨some pn, e, kpos⟩] pos) (tCall sp [] E (tCons te tNil)) := by
  refine ⟨fun pins s σ H Q I h => ?_⟩
  refine wpAny_Call_Name_kw (ld_glob I hg hm ?_ hdb)
  refine PySem.W.callWith_KW0 (h₀ := X.base) I.ok.mod.kin kp (by rfl) ?_ (by rfl)
  refine thn ((pk_cons he pk_nil).run pos pins s σ H _ I h) fun ws s2 ⟨zs, H2, I2, rz, q2⟩ => ⟨I2.kIn, ?_⟩
  have hl : zs.length = 1 := by
    have q3 : sp (zs ++ []) H2 Q E := q2
    rw [List.append_nil] at q3
    exact F.len _ _ _ _ q3
  have q3 : sp zs H2 Q E := by
    have q3 : sp (zs ++ []) H2 Q E := q2
    rwa [List.append_nil] at q3
  exact run_fnN (us := []) (vs := []) F hr hb hx I2 .nil rz rfl hl q3
theorem tkl {X : Cx} {A : Around} {outer : List Env} {s : Shared} {H : Hp} {E : XK} {scope : Scope} {f c' : Addr} : Takes (LamX.lamCx X A outer s H E scope f c') (fun cls d _ H => E cls d H) := takes_of rfl rfl rfl rfl
theorem pxl {X : Cx} {A : Around} {outer : List Env} {s : Shared} {H : Hp} {E : XK} {scope : Scope} {f c' : Addr} : Passes (L2.CX X.prog X.w) (LamX.lamCx X A outer s H E scope f c') E := passes_call tkl fun _ _ _ _ h => h
/-- told: try: a() / except x as n: return n.f; then return "" -/
def TTname (K : PySem.W.Frag) (CS : Addr) (fl : Str) : (XK → Hp → VK → Prop) → Hp → VK → Prop := fun tl H Q =>
  tl (fun cls d H' => cls = .ref CS ∧ ∃ dx nm, d = some dx ∧ H' dx = some (.xd [(fl, .str nm)]) ∧ Q (.str nm) H') H (fun _ H' => Q (.str "") H')
end Sl
namespace LamX
open PySem PySem.Spec
open PyProof.Rows L2 Sl
section
variable {X : Cx}
theorem takesLen {W : WX} (t : Takes X W) : Takes X (fun cls d σ H => σ.length = X.N.length → W cls d σ H) := fun u s' ⟨a, B, sI, pins, σ, H, cls, d, e, I, nb, up, sky, na, os, ag, w⟩ =>
  t u s' ⟨a, B, sI, pins, σ, H, cls, d, e, I, nb, up, sky, na, os, ag, w I.len⟩
theorem named_gives {x a e n fl q : Str} {sg : Scope} {g CS : Addr} {cdg : Value} {j : Nat} {p1 p2 p3 p4 p5 p6 p7 p8 p9 p10 p11 : Pos} (hge : sg.names.lookup e = some .globalImplicit) (hme : X.mg e = some (.ref CS)) (hde : (e == ("__debug__" : Str)) = false)
    (nd : [a, n].Nodup) (hln : sg.names.lookup n = some .local) (hx : XfC X.K CS) (hf : PySem.W.findIn X.K (.ref CS) fl = some none) (hm : PySem.W.exmOne X.K (.ref CS) (.ref CS) = some true)
    (hd : (n == ("__debug__" : Str)) = false) (hcd : (n == ("__classdict__" : Str)) = false) :
    GivesTo X [a, n] x sg g cdg [.Try [.Expr (.Call (.Name a p1) [] [] p2) p3] [.ExceptHandler (some (.Name e p4)) (some n) [.Return (some (.Attribute (.Name n p5) fl p6)) p7] p8] [] [] p9, .Return (some (.Constant (.str "") j p10)) p11] a q (TTname X.K CS fl) := by
  intro f c' s H Q tl act hc h
  have hgl : Gl (cxOf C8.CX0 X.prog X.w X.K X.mg X.base [a, n] x sg g cdg X.A X.stack s H C8.E0).nox e := hge
  refine ⟨_, pss_cons (ps_try_as (X := (cxOf C8.CX0 X.prog X.w X.K X.mg X.base [a, n] x sg g cdg X.A X.stack s H C8.E0).nox) (c := .ref CS) (i := 1)
      (tb := fun W D σ H => ∃ Ech : XK, (∀ cls d σ' H', σ'.length = 2 → Ech cls d H' → W cls d σ' H') ∧ σ[0]? = some (some (.ref f)) ∧ H c' = some (CodeO c' q) ∧ tl Ech H fun _ H' => D.nx σ H')
      (ts := fun a cls d => tRet (tXf a cls d CS fl (tVar 1)))
      rfl rfl nd rfl hln ⟨hgl, hde, .inl hme⟩ takes0 (fun W pn xe tk _ => ?_) (fun a oe cls d pn hz hf' => pss_one (ps_ret (pe_xf hx hf hz hf' (pe_var (i := 1) rfl (.inl hln) hd hcd))))) (pss_one (ps_ret pe_str)), ?_⟩
  · refine ⟨fun pins s' σ H' D I h' => ?_⟩
    obtain ⟨Ech, hW, h1, h2, h3⟩ := h'
    have hp := act _ pn xe Ech p1 p2 (takesLen tk) (fun cls d σ' H' e l => hW cls d σ' H' l e)
    have hq := pss_one (ps_expr (pos := p3) hp)
    exact hq.run pins s' σ H' D I ⟨h1, h2, h3⟩
  · refine ⟨fun cls d H' => cls = .ref CS ∧ ∃ dx nm, d = some dx ∧ H' dx = some (.xd [(fl, .str nm)]) ∧ Q (.str nm) H', fun cls d σ' H' hl hh => ?_, rfl, hc, h⟩
    obtain ⟨rfl, dx, nm, rfl, h1, h2⟩ := hh
    refine ⟨true, hm, fun _ a ha => ?_, fun z => by cases z⟩
    exact ⟨_, by rw [List.getElem?_set_self (by omega)], rfl, rfl, dx, _, _, rfl, h1, by simp [List.lookup], h2⟩
/-- the lambda's body x(y), y a captured name -/
theorem lam_call1 {A : Around} {outer : List Env} {s : Shared} {H : Hp} {E : XK} {sc : Scope} {f c' g : Addr} {k i : Nat} {ps : List Str} {sp : Sp} {x y : Str} {p q pos : Pos} (h : Has X.prog X.w X.K X.mg X.base k g ps sp)
    (hr : Room k (A.deeper (lamEnv X sc s.heap.objs.size f c'))) (hm : X.mg x = some (.ref g)) (hN : X.N[i]? = some y) (hv : Vis sc y) (hgl : sc.names.lookup x = some .globalImplicit) (hdb : (x == ("__debug__" : Str)) = false) (hd : (y == ("__debug__" : Str)) = false) (hcd : (y == ("__classdict__" : Str)) = false) :
    PE (lamCx X A outer s H E sc f c') (.Call (.Name x p) [.Name y q] [] pos) (tCall sp [] E (tCons (tVar i) tNil)) :=
  pcallX (X := lamCx X A outer s H E sc f c') h hr hm (pxl (X := X) (A := A) (outer := outer) (s := s) (H := H) (E := E) (scope := sc) (f := f) (c' := c')) (pa_cons (pe_var (X := lamCx X A outer s H E sc f c') hN hv hd hcd) pa_nil) hgl hdb
end
end LamX
namespace Sl
open PySem PySem.Spec
open PyProof.Rows L2
/-- the script, apart from the row -/
def Scr (K : PySem.W.Frag) (r c : Addr) (xs : List V) (H : Hp) : Prop := (r ≠ c ∧ SqL K H c xs) ∨ ∀ H', SqL K H' c xs
/-- the law's row: the script and its place -/
def Rw (K : PySem.W.Frag) (ns : List Int) (r c : Addr) (H : Hp) : Prop := Scr K r c (ns.map V.int) H ∧ ∃ i x g : Int, H r = some (.lst [.ref c, .int i, .int x, .int g]) ∧ 0 ≤ i
section
variable {K : PySem.W.Frag} {ns : List Int} {r c : Addr} {H H' : Hp} {o : HO} {xs : List V}
theorem exb1 : ExB [r] H (upd H r o) := fun a u n e => by
  rw [upd_ne (by simpa using n)]
  exact e
theorem sqL_b (e : ExB [r] H H') (n : c ≠ r) (h : SqL K H c xs) : SqL K H' c xs := by
  rcases h with (h | ⟨o, h⟩) | h
  · exact .inl (.inl (e _ _ (by simpa using n) h))
  · exact .inl (.inr ⟨o, e _ _ (by simpa using n) h⟩)
  · exact .inr h
theorem Scr.at (h : Scr K r c xs H) : SqL K H c xs := h.elim (·.2) (· H)
theorem Scr.b (h : Scr K r c xs H) (e : ExB [r] H H') : Scr K r c xs H' := h.imp (fun z => ⟨z.1, sqL_b e z.1.symm z.2⟩) id
theorem Scr.new (h : SqL K H c xs) (hr : H r = none) : Scr K r c xs (upd H r o) := by
  rcases h with (h | ⟨o, h⟩) | h
  · exact .inl ⟨(ne_of_none h hr).symm, .inl (.inl (by rw [upd_ne (ne_of_none h hr)]; exact h))⟩
  · exact .inl ⟨(ne_of_none h hr).symm, .inl (.inr ⟨o, by rw [upd_ne (ne_of_none h hr)]; exact h⟩)⟩
  · exact .inr fun _ => .inr h
theorem Rw.upd (q : Scr K r c (ns.map V.int) H) (e : ExB [r] H H') {i x g : Int} (hr : H' r = some (.lst [.ref c, .int i, .int x, .int g])) (hi : 0 ≤ i) : Rw K ns r c H' :=
  ⟨q.b e, i, x, g, hr, hi⟩
theorem Rw.ex (e : Ex H H') (h : Rw K ns r c H) : Rw K ns r c H' := by
  obtain ⟨h2, i, x, g, h3, h4⟩ := h
  exact ⟨h2.b e.b, i, x, g, e _ _ h3, h4⟩
def spTaken (K : PySem.W.Frag) : Sp := fun vs H Q _ => ∃ (r c : Addr) (ns : List Int) (m : Int), vs = [.ref r, .int m] ∧ 0 < m ∧ m < 1073741824 ∧ Rw K ns r c H ∧
  ∀ v H', 0 ≤ v → v < m → ExB [r] H H' → Rw K ns r c H' → Q (.int v) H'
def spPick (K : PySem.W.Frag) : Sp := fun vs H Q _ => ∃ (r c l : Addr) (ns : List Int) (xs : List V), vs = [.ref r, .ref l] ∧ l ≠ r ∧ SqL K H l xs ∧ 0 < xs.length ∧ xs.length < 1000000 ∧ Rw K ns r c H ∧
  ∀ v H', v ∈ xs → ExB [r] H H' → Rw K ns r c H' → Q v H'
end
end Sl
namespace K02
open PySem PySem.Spec
open PyProof.Rows L2 Sl
section
variable {P : Program} {w : World} {K : PySem.W.Frag} {mg : Str → Option Value} {base : Heap} {H H1 H2 : Hp} {E : XK} {Q : VK}
theorem ok_taken (T : Tx K mg) : Has P w K mg base 1 (a__law_taken K) p__law_taken (spTaken K) := by
  refine has_of (f__law_taken T) (z__law_taken T) (b__law_taken T) (fun vs H Q E h => by obtain ⟨_, _, _, _, rfl, _⟩ := h; rfl) (fun cdv A outer s H vs Q E hr h => ?_)
  obtain ⟨r, c, ns, m, rfl, hm, hm2, ⟨hs, i, x, g, hr0, hi⟩, k⟩ := h
  refine ⟨_, (pss_cons (ps_if (pt_cmpR oGtI (pe_ix (ixL K) (pv 0) pe_int (fun _ _ => rfl)) pe_int (nomark _)) (pss_cons (ps_set (i := 2) (z__law_taken T).nd rfl (Or.inl rfl) (pe_op oModI (pe_callTy call_int1 (by rfl) (l_int T) (by decide +kernel) (pa_cons (pe_ix (ixL K) (pv 0) pe_int (fun _ _ => rfl)) pa_nil)) (pv 1)))
  (pss_cons (ps_asg (pe_op oDivI (pe_ix (ixL K) (pv 0) pe_int (fun _ _ => rfl)) (pv 1)) (pg_sub (pv 0) pe_int set_list))
  (pss_one (ps_ret (pv 2))))) pss_nil)
  (pss_cons (ps_asg (pe_op oAddI (pe_ix (ixL K) (pv 0) pe_int (fun _ _ => rfl)) pe_int) (pg_sub (pv 0) pe_int set_list))
  (pss_cons (ps_if (pt_cmpR oGtI (pe_ix (ixL K) (pv 0) pe_int (fun _ _ => rfl)) (pe_callB (lenK K) (by rfl) (l_len T) (by decide +kernel) (pa_cons (pe_ix (ixL K) (pv 0) pe_int (fun _ _ => rfl)) pa_nil)) (nomark _)) (pss_cons (ps_asg (pe_op oModI (pe_callTy call_int1 (by rfl) (l_int T) (by decide +kernel) (pa_cons (pe_op oAddI (pe_op oMulI (pe_ix (ixL K) (pv 0) pe_int (fun _ _ => rfl)) pe_int) pe_int) pa_nil)) pe_int) (pg_sub (pv 0) pe_int set_list))
  (pss_one (ps_ret (pe_op oModI (pe_callTy call_int1 (by rfl) (l_int T) (by decide +kernel) (pa_cons (pe_op oDivI (pe_ix (ixL K) (pv 0) pe_int (fun _ _ => rfl)) pe_int) pa_nil)) (pv 1))))) pss_nil)
  (pss_cons (ps_set (i := 3) (z__law_taken T).nd rfl (Or.inl rfl) (pe_ix (ixL K) (pe_ix (ixL K) (pv 0) pe_int (fun _ _ => rfl)) (pe_op oSubI (pe_ix (ixL K) (pv 0) pe_int (fun _ _ => rfl)) pe_int) (fun _ _ => rfl)))
  (pss_cons (ps_asg (pe_op oModI (pe_callTy call_int1 (by rfl) (l_int T) (by decide +kernel) (pa_cons (pe_op oAddI (pe_op oAddI (pe_op oMulI (pe_ix (ixL K) (pv 0) pe_int (fun _ _ => rfl)) pe_int) (pe_callTy call_int1 (by rfl) (l_int T) (by decide +kernel) (pa_cons (pv 3) pa_nil))) pe_int) pa_nil)) pe_int) (pg_sub (pv 0) pe_int set_list))
  (pss_cons (ps_if (pt_cmpR oGeI (pv 3) (pe_op oPowI pe_int pe_int) (nomark _)) (pss_one (ps_asg (pe_op oDivI (pe_callTy call_int1 (by rfl) (l_int T) (by decide +kernel) (pa_cons (pe_op oModI (pe_callTy call_int1 (by rfl) (l_int T) (by decide +kernel) (pa_cons (pv 3) pa_nil)) (pe_op oPowI pe_int pe_int)) pa_nil)) (pv 1)) (pg_sub (pv 0) pe_int set_list))) pss_nil)
  (pss_one (ps_ret (pe_op oModI (pe_callTy call_int1 (by rfl) (l_int T) (by decide +kernel) (pa_cons (pv 3) pa_nil)) (pv 1)))))))))), ?_⟩
  have fin : ∀ {t v : Int} {H' : Hp} {i x g : Int}, v = t % m → ExB [r] H H' → H' r = some (.lst [.ref c, .int i, .int x, .int g]) → 0 ≤ i → Q (.int v) H' := fun {t v H' i x g} e1 e2 e3 e4 => by
    subst e1
    exact k _ _ (Int.emod_nonneg _ (by omega)) (Int.emod_lt_of_pos _ hm) e2 (.upd hs e2 e3 e4)
  refine ⟨_, rfl, r, _, 3, .int g, rfl, rfl, .inl (.inl hr0), rfl, g, 0, rfl, rfl, _, rfl, ?_⟩
  by_cases hg : 0 < g
  · rw [decide_eq_true hg]
    refine ⟨_, rfl, r, _, 3, .int g, rfl, rfl, .inl (.inl hr0), rfl, .inl ⟨g, rfl, _, rfl, g, m, rfl, rfl, hm, ?_⟩⟩
    refine ⟨_, rfl, r, _, 3, .int g, rfl, rfl, .inl (.inl hr0), rfl, _, rfl, g, m, rfl, rfl, ⟨hm, hm2⟩, ?_⟩
    exact ⟨_, rfl, r, _, 3, 3, rfl, rfl, hr0, rfl, _, rfl, fin rfl exb1 upd_same hi⟩
  · rw [decide_eq_false hg]
    refine ⟨_, rfl, r, _, 1, .int i, rfl, rfl, .inl (.inl hr0), rfl, i, 1, rfl, rfl, _, rfl, r, _, 1, 1, rfl, rfl, hr0, rfl, ?_⟩
    have q1 : upd H r (.lst [.ref c, .int (i + 1), .int x, .int g]) r = some (.lst [.ref c, .int (i + 1), .int x, .int g]) := upd_same
    have e1 : ExB [r] H (upd H r (.lst [.ref c, .int (i + 1), .int x, .int g])) := exb1
    have s1 := (hs.b e1).at
    refine ⟨_, rfl, r, _, 1, .int (i + 1), rfl, rfl, .inl (.inl q1), rfl, _, rfl, r, _, 0, .ref c, rfl, rfl, .inl (.inl q1), rfl, c, _, rfl, .inl s1, _, _, rfl, rfl, _, rfl, ?_⟩
    by_cases hl : ((ns.map V.int).length : Int) < i + 1
    · rw [decide_eq_true hl]
      refine ⟨_, rfl, r, _, 2, .int x, rfl, rfl, .inl (.inl q1), rfl, x, 48271, rfl, rfl, .inr ⟨by decide, by decide⟩, _, _, rfl, rfl, .inl ⟨_, rfl, _, _, rfl, rfl, by decide, _, rfl, r, _, 2, 2, rfl, rfl, q1, rfl, ?_⟩⟩
      refine ⟨_, rfl, r, _, 2, _, rfl, rfl, .inl (.inl upd_same), rfl, _, _, rfl, rfl, ⟨by decide, by decide⟩, .inl ⟨_, rfl, _, rfl, _, m, rfl, rfl, hm, ?_⟩⟩
      exact fin rfl (e1.trans exb1) upd_same (by omega)
    · rw [decide_eq_false hl]
      have hi2 : i.toNat < (ns.map V.int).length := by omega
      have hn2 : i.toNat < ns.length := by simpa using hi2
      have hat : atI (ns.map V.int) (i + 1 - 1) = some (.int ns[i.toNat]) := at_of (j := i.toNat) (by omega) (by rw [List.getElem?_map, List.getElem?_eq_getElem hn2] <;> rfl)
      generalize ns[i.toNat] = d at hat
      refine ⟨_, rfl, r, _, 0, .ref c, rfl, rfl, .inl (.inl q1), rfl, _, rfl, r, _, 1, .int (i + 1), rfl, rfl, .inl (.inl q1), rfl, _, 1, rfl, rfl, c, _, _, _, rfl, rfl, s1, hat, ?_⟩
      refine ⟨_, rfl, r, _, 2, .int x, rfl, rfl, .inl (.inl q1), rfl, x, 48271, rfl, rfl, .inr ⟨by decide, by decide⟩, _, rfl, .inl ⟨d, rfl, _, _, rfl, rfl, _, _, rfl, rfl, .inl ⟨_, rfl, _, _, rfl, rfl, by decide, _, rfl, r, _, 2, 2, rfl, rfl, q1, rfl, ?_⟩⟩⟩
      refine ⟨_, rfl, _, _, rfl, rfl, ⟨by decide, by decide, by decide⟩, d, _, rfl, rfl, _, rfl, ?_⟩
      by_cases hd : (10 : Int) ^ (18 : Int).toNat ≤ d
      · rw [decide_eq_true hd]
        refine ⟨_, rfl, .inl ⟨d, rfl, _, _, rfl, rfl, ⟨by decide, by decide, by decide⟩, d, _, rfl, rfl, Int.pow_pos (by decide), .inl ⟨_, rfl, _, rfl, _, m, rfl, rfl, ⟨hm, hm2⟩, _, rfl, r, _, 3, 3, rfl, rfl, upd_same, rfl, ?_⟩⟩⟩
        exact ⟨_, rfl, .inl ⟨d, rfl, _, rfl, d, m, rfl, rfl, hm, fin rfl ((e1.trans exb1).trans exb1) upd_same (by omega)⟩⟩
      · rw [decide_eq_false hd]
        exact ⟨_, rfl, .inl ⟨d, rfl, _, rfl, d, m, rfl, rfl, hm, fin rfl (e1.trans exb1) upd_same (by omega)⟩⟩
theorem ok_pick (T : Tx K mg) : Has P w K mg base 2 (a__law_pick K) p__law_pick (spPick K) := by
  refine has_of (f__law_pick T) (z__law_pick T) (b__law_pick T) (fun vs H Q E h => by obtain ⟨_, _, _, _, _, rfl, _⟩ := h; rfl) (fun cdv A outer s H vs Q E hr h => ?_)
  obtain ⟨r, c, l, ns, xs, rfl, hl, hx, h0, h1, hrw, k⟩ := h
  have h__law_taken := ok_taken (P := P) (w := w) (base := base) T
  refine ⟨_, (pss_one (ps_ret (pe_ix (ixL K) (pv 1) (pcall h__law_taken (hr.mono (by omega)) (g__law_taken T) (pa_cons (pv 0) (pa_cons (pe_callB (lenK K) (by rfl) (l_len T) (by decide +kernel) (pa_cons (pv 1) pa_nil)) pa_nil))) (fun _ _ => rfl)))), ?_⟩
  refine ⟨_, rfl, _, rfl, _, rfl, l, xs, rfl, .inl hx, r, c, ns, _, rfl, by omega, by omega, hrw, fun v H' v0 v1 e q => ?_⟩
  have hv : v.toNat < xs.length := by omega
  refine ⟨l, xs, v, xs[v.toNat], rfl, rfl, sqL_b e hl hx, at_of (j := v.toNat) (by omega) (List.getElem?_eq_getElem hv), k _ _ (List.getElem_mem hv) e q⟩
end
end K02
namespace K02
open PySem PySem.Spec
open PyProof.Rows L2 Sl Ps
section
variable {P : Program} {w : World} {K : PySem.W.Frag} {mg : Str → Option Value} {base : Heap} {H H1 H2 : Hp} {E : XK} {Q : VK}
def spNone : Sp := fun vs H Q _ => ∃ t, vs = [.str (sg t)] ∧ t.length ≤ 200 ∧ ∀ v H', Ex H H' → decide (v = .non) = (flOf t).isSome → Q v H'
theorem ifB {A B : Prop} {b : Bool} (h1 : A) (h2 : B) : if b = true then A else B := by
  cases b with
  | true => exact iteT h1
  | false => exact iteF h2
theorem arg_sg {t : List Nat} (ht : t.length ≤ 200) : Arg0 (.str (sg t)) true := by
  have h := Arg0.str (sg t) (by rw [sg_len]; exact Nat.le_trans ht (by decide))
  rwa [decide_eq_true (by rw [sg_len]; omega)] at h
theorem tree_tr {t : List Nat} {d : D} (h : treeOf t = .ok d) : ∃ r : Tr, d = r.d ∧ r.good ∧ r.size ≤ t.length := by
  unfold treeOf at h
  split at h
  · cases h
  · split at h
    · cases h
    · rename_i d' j hq
      split at h
      · cases h
        obtain ⟨r, e, g, z, l⟩ := (trees _ _ _).1 _ _ _ _ hq
        have := len_signs t
        exact ⟨r, e, g, by omega⟩
      · cases h
    · cases h
theorem ok_plainText (T : Tx K mg) : Has P w K mg base 204 (a_plain_text K) p_plain_text spNone := by
  refine has_of (f_plain_text T) (z_plain_text T) (b_plain_text T) (fun vs H Q E h => by obtain ⟨_, rfl, _⟩ := h; rfl) (fun cdv A outer s H vs Q E hr h => ?_)
  obtain ⟨t, rfl, ht, k⟩ := h
  have h_need := ok_need (P := P) (w := w) (base := base) T
  have h_is_text := ok_isText (P := P) (w := w) (base := base) T
  have h_flaw := ok_flaw (P := P) (w := w) (base := base) T
  have h_tree_of := ok_treeOf (P := P) (w := w) (base := base) T
  have h_plain := ok_plain (P := P) (w := w) (base := base) T 200
  refine ⟨_, (pss_cons (ps_expr (pcall h_need (hr.mono (by omega)) (g_need T) (pa_cons (pcall h_is_text (hr.mono (by omega)) (g_is_text T) (pa_cons (pv 0) pa_nil)) (pa_cons pe_str pa_nil))))
  (pss_one (ps_ret (pe_ifExp (pt_cmpR oNoNo (pcall h_flaw (hr.mono (by omega)) (g_flaw T) (pa_cons (pv 0) pa_nil)) pe_non (nomark _)) pe_non (pcall h_plain (hr.mono (by omega)) (g_plain T) (pa_cons (pcall h_tree_of (hr.mono (by omega)) (g_tree_of T) (pa_cons (pv 0) pa_nil)) pa_nil)))))), ?_⟩
  refine ⟨_, rfl, _, _, rfl, arg_sg ht, true, _, rfl, fun _ => ?_, fun z => by cases z⟩
  refine ⟨_, rfl, _, _, rfl, arg_sg ht, fun z => (by cases z), fun _ => ⟨t, rfl, ht, fun v H1 e1 rv => ?_⟩⟩
  refine ⟨rfl, _, rfl, ?_⟩
  unfold flOf at rv k
  cases hq : treeOf t with
  | error e =>
    rw [hq] at rv k
    obtain ⟨p, xs, rfl, _⟩ := rv.ofTup
    exact k _ _ e1 rfl
  | ok d =>
    rw [hq] at rv k
    obtain rfl := rv.ofNon
    refine ⟨_, rfl, t, rfl, ht, ?_⟩
    rw [hq]
    intro v H2 e2 rv
    obtain ⟨r, rfl, g, z⟩ := tree_tr hq
    exact ⟨v, r, rfl, rv, g, by omega, by omega, fun zz H3 e3 _ => k _ _ ((e1.trans e2).trans e3) rfl⟩
theorem ok_letters (T : Tx K mg) : Has P w K mg base 95 (a_letters K) p_letters spNone := by
  refine has_of (f_letters T) (z_letters T) (b_letters T) (fun vs H Q E h => by obtain ⟨_, rfl, _⟩ := h; rfl) (fun cdv A outer s H vs Q E hr h => ?_)
  obtain ⟨t, rfl, ht, k⟩ := h
  have h_need := ok_need (P := P) (w := w) (base := base) T
  have h_is_text := ok_isText (P := P) (w := w) (base := base) T
  have h_flaw := ok_flaw (P := P) (w := w) (base := base) T
  refine ⟨_, (pss_cons (ps_expr (pcall h_need (hr.mono (by omega)) (g_need T) (pa_cons (pcall h_is_text (hr.mono (by omega)) (g_is_text T) (pa_cons (pv 0) pa_nil)) (pa_cons pe_str pa_nil))))
  (pss_one (ps_ret (pe_ifExp (pt_cmpR oNoNo (pcall h_flaw (hr.mono (by omega)) (g_flaw T) (pa_cons (pv 0) pa_nil)) pe_non (nomark _)) pe_non (pe_callTy (tupleK K) (by rfl) (l_tuple T) (by decide +kernel) (pa_cons (pe_lc (own := [("sign", 1)]) rfl (z_letters T).nd (pi_str (pv 0)) (blkOk_by (N := n_letters) (sc := defScope s_letters) (by decide +kernel)) (fun _ _ _ _ _ => by exact (pg_name (i := 1) (z_letters T).nd rfl (Or.inl rfl))) (fun _ _ _ _ _ => by exact (pts_one (pt_cmpR oInSg (pv 1) (pgs (i_LETTERS T)) rfl))) (fun _ _ _ _ _ => by exact (pv 1))) pa_nil)))))), ?_⟩
  refine ⟨_, rfl, _, _, rfl, arg_sg ht, true, _, rfl, fun _ => ?_, fun z => by cases z⟩
  refine ⟨_, rfl, _, _, rfl, arg_sg ht, fun z => (by cases z), fun _ => ⟨t, rfl, ht, fun v H1 e1 rv => ?_⟩⟩
  refine ⟨rfl, _, rfl, ?_⟩
  unfold flOf at rv k
  cases hq : treeOf t with
  | error e =>
    rw [hq] at rv k
    obtain ⟨p, xs, rfl, _⟩ := rv.ofTup
    exact k _ _ e1 rfl
  | ok d =>
    rw [hq] at rv k
    obtain rfl := rv.ofNon
    refine ⟨_, rfl, _, rfl, fun l hl => lc_it walk_str (fun i H' => Ex H1 H' ∧ ∃ xs, H' l = some (.lst xs) ∧ xs.length ≤ i) ?_ (fun _ _ _ _ => trivial) ?_ ?_⟩
    · exact ⟨ex_new hl, [], upd_same, Nat.le_refl _⟩
    · rintro i x H2 H3 hi ⟨e2, xs, hx, hn⟩ ⟨rfl, c, hc, rfl⟩
      refine ⟨rfl, _, rfl, _, _, rfl, rfl, _, rfl, ?_⟩
      have hi2 : i < (sg t).cps.size := hi
      have hsz : (sg t).cps.size = t.length := by simp
      refine ifB ?_ ?_
      · refine ⟨_, rfl, xs, hx, ?_, ?_, xs ++ [_], upd_same, ?_⟩
        · exact Nat.lt_of_le_of_lt hn (Nat.lt_of_lt_of_le (by omega) (show 200 ≤ sizeLine by decide))
        · exact fun b o q => by
            by_cases hb : b = l
            · subst hb
              rw [hl] at q; cases q
            · rw [upd_ne hb]; exact e2 b o q
        · rw [List.length_append]; simp; omega
      · exact ⟨e2, xs, hx, by omega⟩
    · rintro H2 ⟨e2, xs, hx, hn⟩
      exact ⟨l, xs, rfl, .inl ⟨.inl (.inl hx), fun q hq => k _ _ ((e1.trans e2).trans (ex_new hq)) rfl⟩⟩
end
end K02
namespace Sl
open PySem PySem.Spec
open PyProof.Rows L2
/-- data of few floors -/
def okD : Nat → D → Prop
  | 0, _ => False
  | n + 1, .tup ds => ds.length ≤ 1000000 ∧ ∀ d ∈ ds, okD n d
  | _ + 1, _ => True
/-- the same data is alike -/
def spAlike (K : PySem.W.Frag) (n : Nat) : Sp := fun vs H Q _ => ∃ (d : D) (v u : V), vs = [v, u] ∧ okD n d ∧ RD K H d v ∧ RD K H d u ∧ ∀ H', Ex H H' → Q (.bl true) H'
theorem vdec (v : V) : V.bl (decide (v = v)) = .bl true := by rw [decide_eq_true rfl]
theorem kdec {Q : VK} {H : Hp} (v : V) (h : Q (.bl true) H) : Q (.bl (decide (v = v))) H := by
  rw [decide_eq_true rfl]
  exact h
theorem ndec {v u : V} (h : v ≠ u) : V.bl (decide (v = u)) = .bl false := by rw [decide_eq_false h]
theorem ndecN {v u : V} (h : v = u) : V.bl (!decide (v = u)) = .bl false := by rw [decide_eq_true h] <;> rfl
end Sl
namespace K02
open PySem PySem.Spec
open PyProof.Rows L2 Sl
section
variable {P : Program} {w : World} {K : PySem.W.Frag} {mg : Str → Option Value} {base : Heap} {H H1 H2 : Hp} {E : XK} {Q : VK}
theorem ok_alike (T : Tx K mg) : ∀ n : Nat, Has P w K mg base (n + 1) (a__law_alike K) p__law_alike (spAlike K n)
  | 0 => by
    obtain ⟨fd, F⟩ := f__law_alike T
    have no : ∀ {vs H Q E}, spAlike K 0 vs H Q E → False := fun ⟨d, v, u, _, h, _⟩ => h
    exact ⟨⟨fd, ⟨fun vs H Q E h => (no h).elim, fun A outer s H args us vs Q E _ _ _ _ h => (no h).elim⟩, F.bindsN (b__law_alike T)⟩, F.kp⟩
  | n + 1 => by
    have h__law_alike := ok_alike T n
    refine has_of (f__law_alike T) (z__law_alike T) (b__law_alike T) (fun vs H Q E h => by obtain ⟨_, _, _, rfl, _⟩ := h; rfl) (fun cdv A outer s H vs Q E hr h => ?_)
    obtain ⟨d, v, u, rfl, hd, rv, ru, k⟩ := h
    refine ⟨_, (pss_cons (ps_if (pt_val (pe_callB (isiK K) (by rfl) (l_isinstance T) (by decide +kernel) (pa_cons (pv 1) (pa_cons (pe_bltn (v := .ty "tuple") (u := .type "tuple") rfl (l_tuple T) (by decide +kernel) rfl) pa_nil)))) (pss_cons (ps_if (PW.pt (pw_or (pt_not (pt_val (pe_callB (isiK K) (by rfl) (l_isinstance T) (by decide +kernel) (pa_cons (pv 0) (pa_cons (pe_bltn (v := .ty "tuple") (u := .type "tuple") rfl (l_tuple T) (by decide +kernel) rfl) pa_nil))))) (pw_or1 (pt_cmpR op_ne (pe_callB (lenK K) (by rfl) (l_len T) (by decide +kernel) (pa_cons (pv 0) pa_nil)) (pe_callB (lenK K) (by rfl) (l_len T) (by decide +kernel) (pa_cons (pv 1) pa_nil)) (nomark _))))) (pss_one (ps_ret pe_bl)) pss_nil)
  (pss_one (ps_ret (pe_cmpR (eqDK K hr.units) (pe_lc (own := [("at", 2)]) rfl (z__law_alike T).nd (pi_range1 (by rfl) (l_range T) (pa_cons (pe_callB (lenK K) (by rfl) (l_len T) (by decide +kernel) (pa_cons (pv 1) pa_nil)) pa_nil)) (blkOk_by (N := n__law_alike) (sc := defScope s__law_alike) (by decide +kernel)) (fun _ _ _ _ _ => by exact (pg_name (i := 2) (z__law_alike T).nd rfl (Or.inl rfl))) (fun _ _ _ _ _ => by exact (pts_one (pt_not (pt_val (pcall h__law_alike (hr.mono (by omega)) (g__law_alike T) (pa_cons (pe_ix (ixT K) (pv 0) (pv 2) (fun _ _ => rfl)) (pa_cons (pe_ix (ixT K) (pv 1) (pv 2) (fun _ _ => rfl)) pa_nil))))))) (fun _ _ _ _ _ => by exact (pv 2))) (pe_lst pa_nil) (nomark _))))) pss_nil)
  (pss_cons (ps_if (PW.pt (pw_or (pt_cmpR oIsNo (pv 1) pe_non (nomark _)) (pw_or1 (pt_val (pe_callB (isiK K) (by rfl) (l_isinstance T) (by decide +kernel) (pa_cons (pv 1) (pa_cons (pe_bltn (v := .ty "str") (u := .type "str") rfl (l_str T) (by decide +kernel) rfl) pa_nil))))))) (pss_one (ps_ret (pe_and (pe_cmpR op_eq (pv 0) (pv 1) (nomark _)) (pe_one (pe_cmpR op_eq (pe_callB (isiK K) (by rfl) (l_isinstance T) (by decide +kernel) (pa_cons (pv 0) (pa_cons (pe_bltn (v := .ty "str") (u := .type "str") rfl (l_str T) (by decide +kernel) rfl) pa_nil))) (pe_callB (isiK K) (by rfl) (l_isinstance T) (by decide +kernel) (pa_cons (pv 1) (pa_cons (pe_bltn (v := .ty "str") (u := .type "str") rfl (l_str T) (by decide +kernel) rfl) pa_nil))) (nomark _)))))) pss_nil)
  (pss_one (ps_ret (pe_and (pe_callB (isiK K) (by rfl) (l_isinstance T) (by decide +kernel) (pa_cons (pv 0) (pa_cons (pe_bltn (v := .ty "int") (u := .type "int") rfl (l_int T) (by decide +kernel) rfl) pa_nil))) (pe_and (pe_cmpR op_eq (pe_callB (isiK K) (by rfl) (l_isinstance T) (by decide +kernel) (pa_cons (pv 0) (pa_cons (pe_bltn (v := .ty "bool") (u := .type "bool") rfl (l_bool T) (by decide +kernel) rfl) pa_nil))) (pe_callB (isiK K) (by rfl) (l_isinstance T) (by decide +kernel) (pa_cons (pv 1) (pa_cons (pe_bltn (v := .ty "bool") (u := .type "bool") rfl (l_bool T) (by decide +kernel) rfl) pa_nil))) (nomark _)) (pe_one (pe_cmpR op_eq (pv 0) (pv 1) (nomark _))))))))), ?_⟩
    cases d with
    | non =>
      obtain rfl := rv.ofNon
      obtain rfl := ru.ofNon
      refine ⟨_, rfl, _, _, _, _, false, rfl, .ty _, .base .non, kit_ty (by decide +kernel), _, rfl, ?_⟩
      refine ⟨_, rfl, rfl, true, vdec _, ?_⟩
      exact ⟨_, rfl, _, rfl, rfl, true, vdec _, _, rfl, _, _, _, _, false, rfl, .ty _, .base .non, kit_ty (by decide +kernel), _, rfl, _, _, _, _, false, rfl, .ty _, .base .non, kit_ty (by decide +kernel), rfl, kdec _ (k H (Ex.refl H))⟩
    | bl b =>
      obtain rfl := rv.ofBl
      obtain rfl := ru.ofBl
      refine ⟨_, rfl, _, _, _, _, false, rfl, .ty _, .base (.bl _), kit_ty (by decide +kernel), _, rfl, ?_⟩
      refine ⟨_, rfl, rfl, false, ndec (fun z => by cases z), _, rfl, _, _, _, _, false, rfl, .ty _, .base (.bl _), kit_ty (by decide +kernel), _, rfl, ?_⟩
      exact ⟨_, rfl, _, _, _, _, true, rfl, .ty _, .base (.bl _), kit_ty (by decide +kernel), _, rfl, _, rfl, _, _, _, _, true, rfl, .ty _, .base (.bl _), kit_ty (by decide +kernel), _, rfl, _, _, _, _, true, rfl, .ty _, .base (.bl _), kit_ty (by decide +kernel), rfl, true, vdec _, _, rfl, _, rfl, rfl, kdec _ (k H (Ex.refl H))⟩
    | int i =>
      obtain rfl := rv.ofInt
      obtain rfl := ru.ofInt
      refine ⟨_, rfl, _, _, _, _, false, rfl, .ty _, .base (.int _), kit_ty (by decide +kernel), _, rfl, ?_⟩
      refine ⟨_, rfl, rfl, false, ndec (fun z => by cases z), _, rfl, _, _, _, _, false, rfl, .ty _, .base (.int _), kit_ty (by decide +kernel), _, rfl, ?_⟩
      exact ⟨_, rfl, _, _, _, _, true, rfl, .ty _, .base (.int _), kit_ty (by decide +kernel), _, rfl, _, rfl, _, _, _, _, false, rfl, .ty _, .base (.int _), kit_ty (by decide +kernel), _, rfl, _, _, _, _, false, rfl, .ty _, .base (.int _), kit_ty (by decide +kernel), rfl, true, vdec _, _, rfl, _, rfl, rfl, kdec _ (k H (Ex.refl H))⟩
    | str z =>
      obtain rfl := rv.ofStr
      obtain rfl := ru.ofStr
      refine ⟨_, rfl, _, _, _, _, false, rfl, .ty _, .base (.str _), kit_ty (by decide +kernel), _, rfl, ?_⟩
      refine ⟨_, rfl, rfl, false, ndec (fun z => by cases z), _, rfl, _, _, _, _, true, rfl, .ty _, .base (.str _), kit_ty (by decide +kernel), _, rfl, ?_⟩
      exact ⟨_, rfl, _, rfl, rfl, true, vdec _, _, rfl, _, _, _, _, true, rfl, .ty _, .base (.str _), kit_ty (by decide +kernel), _, rfl, _, _, _, _, true, rfl, .ty _, .base (.str _), kit_ty (by decide +kernel), rfl, kdec _ (k H (Ex.refl H))⟩
    | tup ds =>
      obtain ⟨p, xs, rfl, hp, rxs⟩ := rv.ofTup
      obtain ⟨q, ys, rfl, hq, rys⟩ := ru.ofTup
      obtain ⟨hln, hds⟩ := hd
      have l1 := rxs.len
      have l2 := rys.len
      refine ⟨_, rfl, _, _, _, _, true, rfl, .ty _, tyT hq, kit_ty (by decide +kernel), _, rfl, ?_⟩
      refine ⟨_, rfl, _, _, _, _, true, rfl, .ty _, tyT hp, kit_ty (by decide +kernel), _, rfl, ?_⟩
      refine ⟨_, rfl, p, xs, rfl, .inr hp, _, rfl, q, ys, rfl, .inr hq, rfl, false, ndecN (by rw [l1, l2]), ?_⟩
      refine ⟨_, rfl, q, ys, rfl, .inr hq, _, rfl, by omega, by omega, fun l hl => lc_it (walk_range (lo := 0) (n := ys.length)) (fun i H' => Ex H H' ∧ H' l = some (.lst [])) ?_ (fun _ _ _ _ => trivial) ?_ ?_⟩
      · exact ⟨ex_new hl, upd_same⟩
      · rintro i x H2 H3 hi ⟨e, hx⟩ ⟨rfl, rfl⟩
        have i1 : i < xs.length := by omega
        have i3 : i < ds.length := by omega
        have z : (0 : Int) + (i : Nat) = ((i : Nat) : Int) := by omega
        refine ⟨rfl, _, rfl, _, rfl, p, xs, _, xs[i], rfl, rfl, e.t.sq hp, at_of (j := i) z (List.getElem?_eq_getElem i1), _, rfl, _, rfl, q, ys, _, ys[i], rfl, rfl, e.t.sq hq, at_of (j := i) z (List.getElem?_eq_getElem hi), ?_⟩
        obtain ⟨d1, g1, g2⟩ := rxs.getV (List.getElem?_eq_getElem i1)
        obtain ⟨d2, g3, g4⟩ := rys.getV (List.getElem?_eq_getElem hi)
        rw [g1] at g3
        cases g3
        refine ⟨d1, _, _, rfl, hds d1 (List.mem_of_getElem? g1), g2.mono e.t, g4.mono e.t, fun H4 e4 => ⟨true, rfl, ?_⟩⟩
        exact ⟨e.trans e4, e4 _ _ hx⟩
      · rintro H2 ⟨e, hx⟩
        refine ⟨by show 0 ≤ sizeLine; decide, fun m hm => ⟨.list [], .list [], .lst (.inl (.inl (ex_new hm _ _ hx))) .nil, .lst (.inl (.inl upd_same)) .nil, by decide, by decide, ?_⟩⟩
        exact k _ (e.trans (ex_new hm))
end
end K02
namespace Sl
open PySem PySem.Spec
open PyProof.Rows L2
theorem hand {te : TE} {σ : L2.St} {H : Hp} {R : VK} (G : VK) (h1 : ∀ R' : VK, (∀ v H', G v H' → R' v H') → te σ H R') (h2 : ∀ v H', G v H' → R v H') : te σ H R := h1 R h2
theorem handT {tt : TT} {σ : L2.St} {H : Hp} {R : Bool → Hp → Prop} (G : Bool → Hp → Prop) (h1 : ∀ R' : Bool → Hp → Prop, (∀ v H', G v H' → R' v H') → tt σ H R') (h2 : ∀ v H', G v H' → R v H') : tt σ H R := h1 R h2
theorem mem_sgV {z : Str} {v : V} (h : v ∈ sgV z) : ∃ c, v = .str ⟨#[c]⟩ := by
  obtain ⟨c, _, rfl⟩ := List.mem_map.mp h
  exact ⟨c, rfl⟩
def spRight (K : PySem.W.Frag) (n : Nat) : Sp := fun vs H Q _ => ∃ (r c : Addr) (ns : List Int) (d : Nat), vs = [.ref r, .int (d : Int)] ∧ d < n ∧ d ≤ 3 ∧ Rw K ns r c H ∧
  ∀ z H', z.length ≤ 11 + 12 * d → ExB [r] H H' → Rw K ns r c H' → Q (.str z) H'
def spText (K : PySem.W.Frag) : Sp := fun vs H Q _ => ∃ (r c : Addr) (ns : List Int), vs = [.ref r] ∧ Rw K ns r c H ∧
  ∀ z H', z.length ≤ 200 → ExB [r] H H' → Rw K ns r c H' → Q (.str z) H'
theorem rw_there {K : PySem.W.Frag} {ns : List Int} {r c : Addr} {H : Hp} (h : Rw K ns r c H) : ∃ o, H r = some o := by
  obtain ⟨_, i, x, g, h, _⟩ := h
  exact ⟨_, h⟩
end Sl
namespace K02
open PySem PySem.Spec
open PyProof.Rows L2 Sl Ps
section
variable {P : Program} {w : World} {K : PySem.W.Frag} {mg : Str → Option Value} {base : Heap} {H H1 H2 : Hp} {E : XK} {Q : VK}
/-- a sign is picked of a list that was just made -/
theorem pick_sg {ns : List Int} {r c l : Addr} {xs : List V} (hrw : Rw K ns r c H) (hl : H l = none) (h0 : 0 < xs.length) (h1 : xs.length < 1000000)
    (k : ∀ v H', v ∈ xs → ExB [r] H H' → Rw K ns r c H' → Q v H') : spPick K [.ref r, .ref l] (upd H l (.lst xs)) Q E := by
  obtain ⟨o, ho⟩ := rw_there hrw
  exact ⟨r, c, l, ns, xs, rfl, (ne_of_none ho hl).symm, .inl (.inl upd_same), h0, h1, hrw.ex (ex_new hl), fun v H' hv e q => k v H' hv ((ex_new hl).b.trans e) q⟩
theorem ifBH {A B : Prop} {b : Bool} (h1 : b = true → A) (h2 : b = false → B) : if b = true then A else B := by
  cases b with
  | true => exact iteT (h1 rfl)
  | false => exact iteF (h2 rfl)
theorem sgl (c : Nat) : Str.length ⟨#[c]⟩ = 1 := rfl
theorem lab : (sgV "abcdef").length = 6 := by decide +kernel
theorem le60 {n : Nat} (h : n ≤ 1000) : n ≤ sizeLine := Nat.le_trans h (by decide)
theorem ok_right (T : Tx K mg) : ∀ n : Nat, Has P w K mg base (n + 3) (a__law_right K) p__law_right (spRight K n)
  | 0 => by
    obtain ⟨fd, F⟩ := f__law_right T
    have no : ∀ {vs H Q E}, spRight K 0 vs H Q E → False := fun ⟨r, c, ns, d, _, h, _⟩ => Nat.not_lt_zero _ h
    exact ⟨⟨fd, ⟨fun vs H Q E h => (no h).elim, fun A outer s H args us vs Q E _ _ _ _ h => (no h).elim⟩, F.bindsN (b__law_right T)⟩, F.kp⟩
  | n + 1 => by
    have h__law_right := ok_right T n
    have h__law_taken := ok_taken (P := P) (w := w) (base := base) T
    have h__law_pick := ok_pick (P := P) (w := w) (base := base) T
    refine has_of (f__law_right T) (z__law_right T) (b__law_right T) (fun vs H Q E h => by obtain ⟨_, _, _, _, rfl, _⟩ := h; rfl) (fun cdv A outer s H vs Q E hr h => ?_)
    obtain ⟨r, c, ns, d, rfl, hd, hd3, hrw, k⟩ := h
    refine ⟨_, (pss_cons (ps_set (i := 2) (z__law_right T).nd rfl (Or.inl rfl) (pe_ifExp (PW.pt (pw_or (pt_cmpR op_eq (pv 1) pe_int (nomark _)) (pw_or1 (pt_cmpR oGtI (pcall h__law_taken (hr.mono (by omega)) (g__law_taken T) (pa_cons (pv 0) (pa_cons pe_int pa_nil))) pe_int (nomark _))))) (pcall h__law_pick (hr.mono (by omega)) (g__law_pick T) (pa_cons (pv 0) (pa_cons (pe_callTy call_list_sg (by rfl) (l_list T) (by decide +kernel) (pa_cons pe_str pa_nil)) pa_nil))) (pe_op oAddS (pe_op oAddS pe_str (pcall h__law_right (hr.mono (by omega)) (g__law_right T) (pa_cons (pv 0) (pa_cons (pe_op oSubI (pv 1) pe_int) pa_nil)))) pe_str)))
  (pss_cons (ps_for (passes_of rfl) rfl (pi_range1 (by rfl) (l_range T) (pa_cons (pcall h__law_taken (hr.mono (by omega)) (g__law_taken T) (pa_cons (pv 0) (pa_cons pe_int pa_nil))) pa_nil)) (pg_name (i := 3) (z__law_right T).nd rfl (Or.inl rfl)) (pss_cons (ps_set (i := 4) (z__law_right T).nd rfl (Or.inl rfl) (pe_callTy call_str_int (by rfl) (l_str T) (by decide +kernel) (pa_cons (pcall h__law_taken (hr.mono (by omega)) (g__law_taken T) (pa_cons (pv 0) (pa_cons pe_int pa_nil))) pa_nil)))
  (pss_cons (ps_set (i := 5) (z__law_right T).nd rfl (Or.inl rfl) (pcall h__law_taken (hr.mono (by omega)) (g__law_taken T) (pa_cons (pv 0) (pa_cons pe_int pa_nil))))
  (pss_one (ps_if (pt_cmpR op_eq (pv 5) pe_int (nomark _)) (pss_one (ps_set (i := 2) (z__law_right T).nd rfl (Or.inl rfl) (pe_op oAddS (pe_op oAddS (pe_op oAddS (pv 2) pe_str) (pv 4)) pe_str))) (pss_one (ps_if (pt_cmpR op_eq (pv 5) pe_int (nomark _)) (pss_one (ps_set (i := 2) (z__law_right T).nd rfl (Or.inl rfl) (pe_op oAddS (pe_op oAddS (pe_op oAddS (pe_op oAddS (pe_op oAddS (pv 2) pe_str) (pv 4)) pe_str) (pe_callTy call_str_int (by rfl) (l_str T) (by decide +kernel) (pa_cons (pcall h__law_taken (hr.mono (by omega)) (g__law_taken T) (pa_cons (pv 0) (pa_cons pe_int pa_nil))) pa_nil))) pe_str))) (pss_one (ps_if (pt_cmpR op_eq (pv 5) pe_int (nomark _)) (pss_one (ps_set (i := 2) (z__law_right T).nd rfl (Or.inl rfl) (pe_op oAddS (pe_op oAddS (pv 2) pe_str) (pcall h__law_pick (hr.mono (by omega)) (g__law_pick T) (pa_cons (pv 0) (pa_cons (pe_callTy call_list_sg (by rfl) (l_list T) (by decide +kernel) (pa_cons pe_str pa_nil)) pa_nil)))))) (pss_one (ps_set (i := 2) (z__law_right T).nd rfl (Or.inl rfl) (pe_op oAddS (pe_op oAddS (pe_op oAddS (pv 2) pe_str) (pv 4)) (pcall h__law_pick (hr.mono (by omega)) (g__law_pick T) (pa_cons (pv 0) (pa_cons (pe_callTy call_list_sg (by rfl) (l_list T) (by decide +kernel) (pa_cons pe_str pa_nil)) pa_nil)))))))))))))))
  (pss_one (ps_ret (pv 2))))), ?_⟩
    refine hand (te := tIf _ _ _) (G := fun v H1 => ∃ z : Str, v = .str z ∧ z.length ≤ 1 + 12 * d ∧ ExB [r] H H1 ∧ Rw K ns r c H1) (fun R kk => ?_) (fun v H1 g => ?_)
    · refine handT (tt := tOr _ _) (G := fun b H1 => ExB [r] H H1 ∧ Rw K ns r c H1 ∧ (b = false → d ≠ 0)) (fun R kk => ?_) (fun b H1 g => ?_)
      · refine ⟨_, rfl, rfl, _, rfl, ?_⟩
        by_cases h0 : d = 0
        · subst h0
          rw [decide_eq_true (show V.int ((0 : Nat) : Int) = V.int 0 from rfl)]
          exact kk _ _ ⟨ExB.refl _ _, hrw, fun z => by cases z⟩
        · rw [decide_eq_false (fun z => h0 (by have := V.int.inj z; omega))]
          exact ⟨_, rfl, r, c, ns, _, rfl, by decide, by decide, hrw, fun v H1 v0 v1 e q => ⟨_, _, rfl, rfl, _, rfl, kk _ _ ⟨e, q, fun _ => h0⟩⟩⟩
      · obtain ⟨e, q, hb⟩ := g
        refine ifBH (fun _ => ?_) (fun hf => ?_)
        · refine ⟨_, rfl, _, rfl, le60 (by decide +kernel), fun l hl => pick_sg (E := E0) q hl (by rw [lab]; decide) (by rw [lab]; decide) (fun v H2 hv e2 q2 => ?_)⟩
          obtain ⟨x, rfl⟩ := mem_sgV hv
          exact kk _ _ ⟨_, rfl, by rw [sgl]; omega, e.trans e2, q2⟩
        · have hd0 := hb hf
          refine ⟨_, rfl, _, rfl, _, _, rfl, rfl, r, c, ns, d - 1, by rw [show ((d : Nat) : Int) - 1 = ((d - 1 : Nat) : Int) by omega] <;> rfl, by omega, by omega, q, fun z H2 hz e2 q2 => ?_⟩
          refine ⟨_, _, rfl, rfl, (by simp only [app_len, lenc "[", lenc "]", lenc "=", lenc "+", lenc "/", lenc "(", lenc ")"]; exact le60 (by omega)), _, _, rfl, rfl, (by simp only [app_len, lenc "[", lenc "]", lenc "=", lenc "+", lenc "/", lenc "(", lenc ")"]; exact le60 (by omega)), kk _ _ ⟨_, rfl, ?_, e.trans e2, q2⟩⟩
          simp only [app_len, lenc "[", lenc "]", lenc "=", lenc "+", lenc "/", lenc "(", lenc ")"]
          omega
    · obtain ⟨z, rfl, hz, e1, q1⟩ := g
      refine ⟨_, rfl, r, c, ns, _, rfl, by decide, by decide, q1, fun m H2 m0 m1 e2 q2 => ⟨m, rfl, by omega, by omega, for_it (walk_range (lo := 0) (n := m.toNat)) (fun i σ H' => ∃ (z : Str) (a b x : Option V), σ = [some (.ref r), some (.int (d : Int)), some (.str z), a, b, x] ∧ z.length ≤ 1 + 12 * d + 5 * i ∧ ExB [r] H H' ∧ Rw K ns r c H') ?_ (fun _ _ _ _ _ => trivial) ?_ ?_⟩⟩
      · exact ⟨z, none, none, none, rfl, by omega, e1.trans e2, q2⟩
      · rintro i x σ H3 H4 hi ⟨z, a, b, y, rfl, hz, e3, q3⟩ ⟨rfl, rfl⟩
        refine ⟨_, rfl, r, c, ns, _, rfl, by decide, by decide, q3, fun v H5 v0 v1 e5 q5 => ?_⟩
        obtain ⟨n, rfl⟩ := Int.eq_ofNat_of_zero_le v0
        have hn : n < 10 := by omega
        refine ⟨_, rfl, small_log hn, ?_⟩
        refine ⟨_, rfl, r, c, ns, _, rfl, by decide, by decide, q5, fun kd H6 _ _ e6 q6 => ?_⟩
        have e36 := (e3.trans e5).trans e6
        refine ⟨_, rfl, rfl, _, rfl, ifB ?_ ?_⟩
        · refine ⟨_, rfl, _, _, rfl, rfl, (by simp only [app_len, lenc "[", lenc "]", lenc "=", lenc "+", lenc "/", lenc "(", lenc ")", dgs n hn]; exact le60 (by omega)), _, rfl, _, _, rfl, rfl, (by simp only [app_len, lenc "[", lenc "]", lenc "=", lenc "+", lenc "/", lenc "(", lenc ")", dgs n hn]; exact le60 (by omega)), _, _, rfl, rfl, (by simp only [app_len, lenc "[", lenc "]", lenc "=", lenc "+", lenc "/", lenc "(", lenc ")", dgs n hn]; exact le60 (by omega)), ?_⟩
          refine ⟨_, _, _, _, rfl, ?_, e36, q6⟩
          simp only [app_len, lenc "[", lenc "]", lenc "=", lenc "+", lenc "/", lenc "(", lenc ")", dgs n hn]
          omega
        · refine ⟨_, rfl, rfl, _, rfl, ifB ?_ ?_⟩
          · refine ⟨_, rfl, _, _, rfl, rfl, (by simp only [app_len, lenc "[", lenc "]", lenc "=", lenc "+", lenc "/", lenc "(", lenc ")", dgs n hn]; exact le60 (by omega)), _, rfl, _, _, rfl, rfl, (by simp only [app_len, lenc "[", lenc "]", lenc "=", lenc "+", lenc "/", lenc "(", lenc ")", dgs n hn]; exact le60 (by omega)), _, _, rfl, rfl, (by simp only [app_len, lenc "[", lenc "]", lenc "=", lenc "+", lenc "/", lenc "(", lenc ")", dgs n hn]; exact le60 (by omega)), ?_⟩
            refine ⟨_, rfl, r, c, ns, _, rfl, by decide, by decide, q6, fun v H7 v0 v1 e7 q7 => ?_⟩
            obtain ⟨n2, rfl⟩ := Int.eq_ofNat_of_zero_le v0
            have hn2 : n2 < 10 := by omega
            refine ⟨_, rfl, small_log hn2, _, _, rfl, rfl, (by simp only [app_len, lenc "[", lenc "]", lenc "=", lenc "+", lenc "/", lenc "(", lenc ")", dgs n hn, dgs n2 hn2]; exact le60 (by omega)), _, _, rfl, rfl, (by simp only [app_len, lenc "[", lenc "]", lenc "=", lenc "+", lenc "/", lenc "(", lenc ")", dgs n hn, dgs n2 hn2]; exact le60 (by omega)), ?_⟩
            refine ⟨_, _, _, _, rfl, ?_, e36.trans e7, q7⟩
            simp only [app_len, lenc "[", lenc "]", lenc "=", lenc "+", lenc "/", lenc "(", lenc ")", dgs n hn, dgs n2 hn2]
            omega
          · refine ⟨_, rfl, rfl, _, rfl, ifB ?_ ?_⟩
            · refine ⟨_, rfl, _, _, rfl, rfl, (by simp only [app_len, lenc "[", lenc "]", lenc "=", lenc "+", lenc "/", lenc "(", lenc ")", dgs n hn]; exact le60 (by omega)), _, rfl, _, rfl, le60 (by decide +kernel), fun l hl => pick_sg (E := E0) q6 hl (by rw [lab]; decide) (by rw [lab]; decide) (fun v H7 hv e7 q7 => ?_)⟩
              obtain ⟨x, rfl⟩ := mem_sgV hv
              refine ⟨_, _, rfl, rfl, (by simp only [app_len, lenc "[", lenc "]", lenc "=", lenc "+", lenc "/", lenc "(", lenc ")", dgs n hn, sgl]; exact le60 (by omega)), ?_⟩
              refine ⟨_, _, _, _, rfl, ?_, e36.trans e7, q7⟩
              simp only [app_len, lenc "[", lenc "]", lenc "=", lenc "+", lenc "/", lenc "(", lenc ")", dgs n hn, sgl]
              omega
            · refine ⟨_, rfl, _, _, rfl, rfl, (by simp only [app_len, lenc "[", lenc "]", lenc "=", lenc "+", lenc "/", lenc "(", lenc ")", dgs n hn]; exact le60 (by omega)), _, rfl, _, _, rfl, rfl, (by simp only [app_len, lenc "[", lenc "]", lenc "=", lenc "+", lenc "/", lenc "(", lenc ")", dgs n hn]; exact le60 (by omega)), _, rfl, _, rfl, le60 (by decide +kernel), fun l hl => pick_sg (E := E0) q6 hl (by rw [lab]; decide) (by rw [lab]; decide) (fun v H7 hv e7 q7 => ?_)⟩
              obtain ⟨x, rfl⟩ := mem_sgV hv
              refine ⟨_, _, rfl, rfl, (by simp only [app_len, lenc "[", lenc "]", lenc "=", lenc "+", lenc "/", lenc "(", lenc ")", dgs n hn, sgl]; exact le60 (by omega)), ?_⟩
              refine ⟨_, _, _, _, rfl, ?_, e36.trans e7, q7⟩
              simp only [app_len, lenc "[", lenc "]", lenc "=", lenc "+", lenc "/", lenc "(", lenc ")", dgs n hn, sgl]
              omega
      · rintro σ H3 ⟨z, a, b, y, rfl, hz, e3, q3⟩
        exact ⟨_, rfl, k _ _ (by omega) e3 q3⟩
end
end K02
namespace K02
open PySem PySem.Spec
open PyProof.Rows L2 Sl Ps
section
variable {P : Program} {w : World} {K : PySem.W.Frag} {mg : Str → Option Value} {base : Heap} {H H1 H2 : Hp} {E : XK} {Q : VK}
theorem rep_len (z : Str) (k : Nat) : Str.length ⟨((List.replicate k z.cps.toList).flatten).toArray⟩ = k * z.length := by
  show (((List.replicate k z.cps.toList).flatten).toArray).size = _
  rw [List.size_toArray, List.length_flatten, List.map_replicate, List.sum_replicate_nat, Array.length_toList]
  rfl
def sgns : List Str := ["", " ", "a", "g", "A", "+", "/", "(", ")", "[", "]", "=", "1", "-", ".", "\n"]
theorem sgns_len : ∀ z ∈ sgns, z.length ≤ 1 := by decide +kernel
theorem mem_sgns {v : V} (h : v ∈ sgns.map V.str) : ∃ z : Str, v = .str z ∧ z.length ≤ 1 := by
  obtain ⟨z, hz, rfl⟩ := List.mem_map.mp h
  exact ⟨z, rfl, sgns_len z hz⟩
theorem ok_text (T : Tx K mg) : Has P w K mg base 8 (a__law_text K) p__law_text (spText K) := by
  have h__law_right := ok_right (P := P) (w := w) (base := base) T 4
  have h__law_taken := ok_taken (P := P) (w := w) (base := base) T
  have h__law_pick := ok_pick (P := P) (w := w) (base := base) T
  refine has_of (f__law_text T) (z__law_text T) (b__law_text T) (fun vs H Q E h => by obtain ⟨_, _, _, rfl, _⟩ := h; rfl) (fun cdv A outer s H vs Q E hr h => ?_)
  obtain ⟨r, c, ns, rfl, hrw, k⟩ := h
  refine ⟨_, (pss_cons (ps_if (pt_cmpR op_eq (pcall h__law_taken (hr.mono (by omega)) (g__law_taken T) (pa_cons (pv 0) (pa_cons pe_int pa_nil))) pe_int (nomark _)) (pss_cons (ps_set (i := 1) (z__law_text T).nd rfl (Or.inl rfl) (pe_op oAddI pe_int (pcall h__law_taken (hr.mono (by omega)) (g__law_taken T) (pa_cons (pv 0) (pa_cons pe_int pa_nil)))))
  (pss_one (ps_ret (pe_op oAddS (pe_op oAddS (pe_op oRepS pe_str (pv 1)) pe_str) (pe_op oRepS pe_str (pe_op oSubI (pv 1) (pcall h__law_pick (hr.mono (by omega)) (g__law_pick T) (pa_cons (pv 0) (pa_cons (pe_lst (pa_cons pe_int (pa_cons pe_int (pa_cons pe_int pa_nil)))) pa_nil))))))))) pss_nil)
  (pss_cons (ps_set (i := 2) (z__law_text T).nd rfl (Or.inl rfl) (pcall h__law_right (hr.mono (by omega)) (g__law_right T) (pa_cons (pv 0) (pa_cons pe_int pa_nil))))
  (pss_cons (ps_for (passes_of rfl) rfl (pi_range1 (by rfl) (l_range T) (pa_cons (pcall h__law_taken (hr.mono (by omega)) (g__law_taken T) (pa_cons (pv 0) (pa_cons pe_int pa_nil))) pa_nil)) (pg_name (i := 3) (z__law_text T).nd rfl (Or.inl rfl)) (pss_cons (ps_set (i := 4) (z__law_text T).nd rfl (Or.inl rfl) (pcall h__law_taken (hr.mono (by omega)) (g__law_taken T) (pa_cons (pv 0) (pa_cons (pe_op oAddI (pe_callB call_len_str (by rfl) (l_len T) (by decide +kernel) (pa_cons (pv 2) pa_nil)) pe_int) pa_nil))))
  (pss_cons (ps_set (i := 5) (z__law_text T).nd rfl (Or.inl rfl) (pcall h__law_pick (hr.mono (by omega)) (g__law_pick T) (pa_cons (pv 0) (pa_cons (pe_lst (pa_cons pe_str (pa_cons pe_str (pa_cons pe_str (pa_cons pe_str (pa_cons pe_str (pa_cons pe_str (pa_cons pe_str (pa_cons pe_str (pa_cons pe_str (pa_cons pe_str (pa_cons pe_str (pa_cons pe_str (pa_cons pe_str (pa_cons pe_str (pa_cons pe_str (pa_cons pe_str pa_nil))))))))))))))))) pa_nil))))
  (pss_one (ps_set (i := 2) (z__law_text T).nd rfl (Or.inl rfl) (pe_op oAddS (pe_op oAddS (pe_slice sl_str (pv 2) po_none (po_some (pv 4))) (pv 5)) (pe_slice sl_str (pv 2) (po_some (pe_op oAddI (pv 4) (pcall h__law_taken (hr.mono (by omega)) (g__law_taken T) (pa_cons (pv 0) (pa_cons pe_int pa_nil))))) po_none)))))))
  (pss_one (ps_ret (pv 2)))))), ?_⟩
  refine ⟨_, rfl, r, c, ns, _, rfl, by decide, by decide, hrw, fun v H1 v0 v1 e1 q1 => ?_⟩
  refine ⟨rfl, _, rfl, ifB ?_ ?_⟩
  · refine ⟨_, rfl, r, c, ns, _, rfl, by decide, by decide, q1, fun m H2 m0 m1 e2 q2 => ?_⟩
    refine ⟨_, _, rfl, rfl, ?_⟩
    refine ⟨_, rfl, _, _, rfl, rfl, by omega, by omega, by rw [lenc "("]; decide, by rw [lenc "("]; decide, ?_⟩
    refine ⟨_, _, rfl, rfl, by simp only [rep_len, lenc "[", lenc "]", lenc "=", lenc "+", lenc "/", lenc "(", lenc ")", lenc "a"]; exact le60 (by omega), ?_⟩
    refine ⟨_, rfl, _, rfl, by decide, fun l hl => pick_sg (E := E0) q2 hl (by decide) (by decide) (fun v H3 hv e3 q3 => ?_)⟩
    have hv2 : ∃ t : Int, v = .int t ∧ 0 ≤ t ∧ t ≤ 1 := by
      simp only [List.mem_cons, List.not_mem_nil, or_false] at hv
      rcases hv with rfl | rfl | rfl
      · exact ⟨0, rfl, by decide, by decide⟩
      · exact ⟨0, rfl, by decide, by decide⟩
      · exact ⟨1, rfl, by decide, by decide⟩
    obtain ⟨t, rfl, t0, t1⟩ := hv2
    refine ⟨_, _, rfl, rfl, _, _, rfl, rfl, by omega, by omega, by rw [lenc ")"]; decide, by rw [lenc ")"]; decide, ?_⟩
    refine ⟨_, _, rfl, rfl, by simp only [app_len, rep_len, lenc "[", lenc "]", lenc "=", lenc "+", lenc "/", lenc "(", lenc ")", lenc "a"]; exact le60 (by omega), k _ _ ?_ ((e1.trans e2).trans e3) q3⟩
    simp only [app_len, rep_len, lenc "[", lenc "]", lenc "=", lenc "+", lenc "/", lenc "(", lenc ")", lenc "a"]
    omega
  · refine ⟨_, rfl, r, c, ns, 3, rfl, by decide, by decide, q1, fun z H2 hz e2 q2 => ?_⟩
    refine ⟨_, rfl, r, c, ns, _, rfl, by decide, by decide, q2, fun m H3 m0 m1 e3 q3 => ⟨m, rfl, by omega, by omega, for_it (walk_range (lo := 0) (n := m.toNat)) (fun i σ H' => ∃ (z : Str) (a b x y : Option V), σ = [some (.ref r), x, some (.str z), y, a, b] ∧ z.length + 1 ≤ 48 * 2 ^ i ∧ ExB [r] H H' ∧ Rw K ns r c H') ?_ (fun _ _ _ _ _ => trivial) ?_ ?_⟩⟩
    · exact ⟨z, none, none, none, none, rfl, by omega, (e1.trans e2).trans e3, q3⟩
    · rintro i x σ H4 H5 hi ⟨z, a, b, y, u, rfl, hz, e4, q4⟩ ⟨rfl, rfl⟩
      have i1 : i ≤ 1 := by omega
      have hz2 : z.length ≤ 95 ∧ (z.length + 1) * 2 ≤ 48 * 2 ^ (i + 1) := by
        rw [Nat.pow_succ]
        refine ⟨?_, by omega⟩
        have : i = 0 ∨ i = 1 := by omega
        rcases this with rfl | rfl <;> omega
      refine ⟨_, rfl, _, rfl, _, rfl, le60 (by omega), _, _, rfl, rfl, r, c, ns, _, rfl, by omega, by omega, q4, fun at0 H5 _ _ e5 q5 => ?_⟩
      refine ⟨_, rfl, by decide, fun l hl => pick_sg (E := E0) (xs := sgns.map V.str) q5 hl (by decide) (by decide) (fun v H6 hv e6 q6 => ?_)⟩
      obtain ⟨g, rfl, hg⟩ := mem_sgns hv
      refine ⟨_, rfl, _, rfl, _, rfl, z, rfl, le60 (by omega), _, rfl, _, _, rfl, rfl, ?_, ?_⟩
      · have := cutS_length z none (some at0)
        exact le60 (by omega)
      · refine ⟨_, rfl, _, rfl, _, rfl, r, c, ns, _, rfl, by decide, by decide, q6, fun t H7 _ _ e7 q7 => ?_⟩
        have l1 := cutS_length z none (some at0)
        have l2 := cutS_length z (some (at0 + t)) none
        refine ⟨_, _, rfl, rfl, _, rfl, z, rfl, le60 (by omega), _, _, rfl, rfl, by rw [app_len]; exact le60 (by omega), ?_⟩
        refine ⟨_, _, _, _, _, rfl, ?_, ((e4.trans e5).trans e6).trans e7, q7⟩
        rw [app_len, app_len]
        omega
    · rintro σ H4 ⟨z, a, b, y, u, rfl, hz, e4, q4⟩
      refine ⟨_, rfl, k _ _ ?_ e4 q4⟩
      have i1 : m.toNat = 0 ∨ m.toNat = 1 ∨ m.toNat = 2 := by omega
      rcases i1 with h | h | h <;> rw [h] at hz <;> omega
end
end K02
namespace Ps
open PySem L2 Sl
def Wt.word : Wt → Str
  | .ground => "ground" | .many => "many" | .first => "first" | .second => "second" | .equal => "equal" | .close => "close" | .behind => "behind"
/-- a sign compared -/
theorem sgE {c : Nat} {s : Str} (k : Nat) (h : s = ⟨#[k]⟩ := by decide +kernel) : V.bl (decide (V.str ⟨#[c]⟩ = V.str s)) = V.bl (decide (c = k)) := by
  subst h
  by_cases e : c = k
  · subst e
    rw [decide_eq_true rfl, decide_eq_true rfl]
  · rw [decide_eq_false e, decide_eq_false]
    intro z
    have z2 : #[c] = (#[k] : Array Nat) := congrArg Str.cps (V.str.inj z)
    exact e (by simpa using z2)
theorem sgN {c : Nat} {s : Str} (k : Nat) (h : s = ⟨#[k]⟩ := by decide +kernel) : V.bl (!decide (V.str ⟨#[c]⟩ = V.str s)) = V.bl (!decide (c = k)) := by
  have := V.bl.inj (sgE (c := c) k h)
  rw [this]
theorem dg_list : ("0123456789" : Str).cps.toList = [48, 49, 50, 51, 52, 53, 54, 55, 56, 57] := by decide +kernel
theorem dg_mem (c : Nat) : decide (c ∈ ("0123456789" : Str).cps.toList) = isDg c := by
  rw [dg_list]
  unfold isDg
  rw [Bool.eq_iff_iff]
  simp only [decide_eq_true_eq, List.mem_cons, List.not_mem_nil, or_false]
  omega
theorem lt_list : ("abcdef" : Str).cps.toList = [97, 98, 99, 100, 101, 102] := by decide +kernel
theorem lt_mem (c : Nat) : decide (c ∈ ("abcdef" : Str).cps.toList) = isLt c := by
  rw [lt_list]
  unfold isLt
  rw [Bool.eq_iff_iff]
  simp only [decide_eq_true_eq, List.mem_cons, List.not_mem_nil, or_false]
  omega
theorem op_list : ("+/[" : Str).cps.toList = [43, 47, 91] := by decide +kernel
theorem op_mem (c : Nat) : decide (c ∈ ("+/[" : Str).cps.toList) = decide (c = 43 ∨ c = 47 ∨ c = 91) := by
  rw [op_list]
  rw [Bool.eq_iff_iff]
  simp only [decide_eq_true_eq, List.mem_cons, List.not_mem_nil, or_false]
theorem all_list : ("abcdef0123456789+/()[]= " : Str).cps.toList = [97, 98, 99, 100, 101, 102, 48, 49, 50, 51, 52, 53, 54, 55, 56, 57, 43, 47, 40, 41, 91, 93, 61, 32] := by decide +kernel
theorem all_mem (c : Nat) : decide (c ∈ ("abcdef0123456789+/()[]= " : Str).cps.toList) = (okSg c || c == 32) := by
  rw [all_list]
  unfold okSg isLt isDg
  rw [Bool.eq_iff_iff]
  simp only [Bool.or_eq_true, decide_eq_true_eq, beq_iff_eq, List.mem_cons, List.not_mem_nil, or_false]
  omega
theorem find_at {α : Type} {l : List α} {p : α → Bool} {i : Nat} {q : α} (h : ∀ q ∈ l.take i, p q = false) (e : l[i]? = some q) (hq : p q = true) : l.find? p = some q := by
  obtain ⟨hi, e2⟩ := List.getElem?_eq_some_iff.mp e
  have e3 : l = l.take i ++ q :: l.drop (i + 1) := by
    rw [← e2, ← List.drop_eq_getElem_cons hi, List.take_append_drop]
  rw [e3, List.find?_append, List.find?_eq_none.mpr (fun p hp => by simp [h p hp])]
  simp [List.find?_cons, hq]
theorem int_eq {d : Nat} (k : Nat) : V.bl (decide (V.int (d : Int) = V.int (k : Int))) = V.bl (decide (d = k)) := by
  by_cases e : d = k
  · subst e
    rw [decide_eq_true rfl, decide_eq_true rfl]
  · rw [decide_eq_false e, decide_eq_false]
    intro z
    have := V.int.inj z
    omega
theorem pos_eq {d : Nat} : V.bl (decide ((0 : Int) < (d : Int))) = V.bl (decide (0 < d)) := by
  by_cases e : 0 < d
  · rw [decide_eq_true e, decide_eq_true (by omega)]
  · rw [decide_eq_false e, decide_eq_false (by omega)]
theorem ex_new2 {H : Hp} {p : Addr} {a b : HO} (h : H p = none) : Ex H (upd (upd H p a) p b) := fun x o e => by
  rw [upd_ne (ne_of_none e h), upd_ne (ne_of_none e h)]
  exact e
end Ps
namespace K02
open PySem PySem.Spec
open PyProof.Rows L2 Sl Ps
section
variable {P : Program} {w : World} {K : PySem.W.Frag} {mg : Str → Option Value} {base : Heap} {H H1 H2 : Hp} {E : XK} {Q : VK}
def spLawFlaw (K : PySem.W.Frag) : Sp := fun vs H Q _ => ∃ t, vs = [.str (sg t)] ∧ t.length ≤ 200 ∧ ∀ v H', Ex H H' → RD K H' (flD (lawFlaw t)) v → Q v H'
theorem ok_lawFlaw (T : Tx K mg) : Has P w K mg base 1 (a__law_flaw K) p__law_flaw (spLawFlaw K) := by
  refine has_of (f__law_flaw T) (z__law_flaw T) (b__law_flaw T) (fun vs H Q E h => by obtain ⟨_, rfl, _⟩ := h; rfl) (fun cdv A outer s H vs Q E hr h => ?_)
  obtain ⟨t, rfl, ht, k⟩ := h
  refine ⟨_, (pss_cons (ps_for (passes_of rfl) rfl (pi_enumS (by rfl) (l_enumerate T) (pa_cons (pv 0) pa_nil)) (tupK K (n := 2) (pgs_cons (pg_name (i := 1) (z__law_flaw T).nd rfl (Or.inl rfl)) (pgs_cons (pg_name (i := 2) (z__law_flaw T).nd rfl (Or.inl rfl)) pgs_nil))) (pss_one (ps_if (pt_cmpR oNiSg (pv 2) pe_str rfl) (pss_one (ps_ret (pe_tup (pa_cons (pv 1) (pa_cons pe_str pa_nil))))) pss_nil)))
  (pss_cons (ps_asg (pe_tup (pa_cons pe_str (pa_cons pe_int pa_nil))) (tupK K (n := 2) (pgs_cons (pg_name (i := 3) (z__law_flaw T).nd rfl (Or.inl rfl)) (pgs_cons (pg_name (i := 4) (z__law_flaw T).nd rfl (Or.inl rfl)) pgs_nil))))
  (pss_cons (ps_for (passes_of rfl) rfl (pi_enumS (by rfl) (l_enumerate T) (pa_cons (pe_op oAddS (pv 0) pe_str) pa_nil)) (tupK K (n := 2) (pgs_cons (pg_name (i := 1) (z__law_flaw T).nd rfl (Or.inl rfl)) (pgs_cons (pg_name (i := 2) (z__law_flaw T).nd rfl (Or.inl rfl)) pgs_nil))) (pss_cons (ps_if (pt_cmpR op_eq (pv 2) pe_str (nomark _)) (pss_one ps_continue) pss_nil)
  (pss_cons (ps_set (i := 5) (z__law_flaw T).nd rfl (Or.inl rfl) (pe_cmpR oInSg (pv 2) pe_str rfl))
  (pss_one (ps_if (pt_cmpR op_eq (pv 3) pe_str (nomark _)) (pss_cons (ps_if (PW.pt (pw_and (pt_cmpR op_eq (pv 2) pe_str (nomark _)) (pw_and1 (pt_cmpR op_eq (pv 4) pe_int (nomark _))))) (pss_one (ps_ret (pe_tup (pa_cons (pv 1) (pa_cons pe_str pa_nil))))) pss_nil)
  (pss_cons (ps_if (PW.pt (pw_and (pt_cmpR op_ne (pv 2) pe_str (nomark _)) (pw_and1 (PW.pt (pw_or (pt_cmpR op_eq (pv 2) pe_str (nomark _)) (pw_or1 (pt_cmpR oNiSg (pv 2) pe_str rfl))))))) (pss_one (ps_ret (pe_tup (pa_cons (pv 1) (pa_cons pe_str pa_nil))))) pss_nil)
  (pss_one (ps_asg (pe_ifExp (pt_cmpR op_eq (pv 2) pe_str (nomark _)) (pe_tup (pa_cons (pe_op oAddI (pv 4) pe_int) (pa_cons pe_str pa_nil))) (pe_tup (pa_cons (pv 4) (pa_cons pe_str pa_nil)))) (tupK K (n := 2) (pgs_cons (pg_name (i := 4) (z__law_flaw T).nd rfl (Or.inl rfl)) (pgs_cons (pg_name (i := 3) (z__law_flaw T).nd rfl (Or.inl rfl)) pgs_nil))))))) (pss_one (ps_if (pt_cmpR (inK K) (pv 3) (pe_tup (pa_cons pe_str (pa_cons pe_str (pa_cons pe_str pa_nil)))) rfl) (pss_cons (ps_if (pt_not (pt_val (pv 5))) (pss_one (ps_ret (pe_tup (pa_cons (pv 1) (pa_cons pe_str pa_nil))))) pss_nil)
  (pss_one (ps_set (i := 3) (z__law_flaw T).nd rfl (Or.inl rfl) (pe_dget (hu_of hr) (pe_disp (pps_cons pe_str pe_str (pps_cons pe_str pe_str (pps_cons pe_str pe_str pps_nil))) (by rfl) (by rfl) (fun z => by cases z) (by decide)) (pv 3) (fun _ _ => rfl))))) (pss_one (ps_if (pt_cmpR (inK K) (pv 3) (pe_tup (pa_cons pe_str (pa_cons pe_str pa_nil))) rfl) (pss_cons (ps_if (PW.pt (pw_and (pt_cmpR op_ne (pv 2) pe_str (nomark _)) (pw_and1 (PW.pt (pw_or (pt_cmpR op_eq (pv 3) pe_str (nomark _)) (pw_or1 (pt_cmpR op_ne (pv 2) pe_str (nomark _)))))))) (pss_one (ps_ret (pe_tup (pa_cons (pv 1) (pa_cons (pe_ifExp (pt_cmpR op_eq (pv 3) pe_str (nomark _)) pe_str pe_str) pa_nil))))) pss_nil)
  (pss_one (ps_set (i := 3) (z__law_flaw T).nd rfl (Or.inl rfl) (pe_ifExp (pt_cmpR op_eq (pv 2) pe_str (nomark _)) pe_str pe_str)))) (pss_one (ps_if (PW.pt (pw_and (pt_cmpR oInSg (pv 2) pe_str rfl) (pw_and1 (pt_cmpR op_ne (pv 2) pe_str (nomark _))))) (pss_one (ps_set (i := 3) (z__law_flaw T).nd rfl (Or.inl rfl) (pe_dget (hu_of hr) (pe_disp (pps_cons pe_str pe_str (pps_cons pe_str pe_str (pps_cons pe_str pe_str pps_nil))) (by rfl) (by rfl) (fun z => by cases z) (by decide)) (pv 2) (fun _ _ => rfl)))) (pss_one (ps_if (pt_cmpR oGtI (pv 4) pe_int (nomark _)) (pss_cons (ps_if (pt_cmpR op_ne (pv 2) pe_str (nomark _)) (pss_one (ps_ret (pe_tup (pa_cons (pv 1) (pa_cons pe_str pa_nil))))) pss_nil)
  (pss_one (ps_set (i := 4) (z__law_flaw T).nd rfl (Or.inl rfl) (pe_op oSubI (pv 4) pe_int)))) (pss_one (ps_if (pt_cmpR op_ne (pv 2) pe_str (nomark _)) (pss_one (ps_ret (pe_tup (pa_cons (pv 1) (pa_cons pe_str pa_nil))))) pss_nil)))))))))))))))
  (pss_one (ps_ret pe_non))))), ?_⟩
  have hsz : (sg t).cps.size = t.length := by simp
  refine ⟨_, rfl, _, rfl, for_it walk_P (fun i σ H' => Ex H H' ∧ (∃ a b, σ = [some (.str (sg t)), a, b, none, none, none]) ∧ ∀ q ∈ t.zipIdx.take i, (!(okSg q.1 || q.1 == 32)) = false) ?_ (fun _ _ _ _ _ => trivial) ?_ ?_⟩
  · exact ⟨Ex.refl H, ⟨none, none, rfl⟩, by simp⟩
  · rintro i x σ H1 H2 hi ⟨e1, ⟨a, b, rfl⟩, hq⟩ ⟨q, x', rfl, hn, rfl, c, hc, rfl⟩
    have e2 := e1.trans (ex_new (o := .tup [.int (i : Nat), .str ⟨#[c]⟩]) hn)
    have hz := zip_at hc
    refine ⟨q, _, rfl, .inl (.inl upd_same), rfl, _, _, rfl, _, _, rfl, rfl, ?_⟩
    refine ⟨_, rfl, _, _, rfl, rfl, !(okSg c || c == 32), congrArg (fun b => V.bl (!b)) (all_mem c), ?_⟩
    refine ifBH (fun hb => ?_) (fun hb => ?_)
    · refine ⟨_, rfl, two_sz _ _, fun p hp => k _ _ (e2.trans (ex_new hp)) ?_⟩
      have hL : lawFlaw t = some (i, ("this sign cannot stand here" : Str)) := by
        unfold lawFlaw
        rw [find_at hq hz hb] <;> rfl
      rw [hL]
      exact .tup (.inl (.inl upd_same)) (.cons (.int _) (.cons (.str _) .nil))
    · refine ⟨e2, ⟨_, _, rfl⟩, fun q hq2 => ?_⟩
      rw [take_snoc hz] at hq2
      rcases List.mem_append.mp hq2 with z | z
      · exact hq q z
      · obtain rfl := List.mem_singleton.mp z
        exact hb
  · rintro σ H1 ⟨e1, ⟨a, b, rfl⟩, hq⟩
    have hL : lawFlaw t = runW .ground 0 (t ++ [36]).zipIdx := by
      unfold lawFlaw
      have : t.zipIdx.find? (fun p => !(okSg p.1 || p.1 == 32)) = none := List.find?_eq_none.mpr fun q hq2 => by
        have := hq q (by rw [List.take_of_length_le (by simp)]; exact hq2)
        rw [this]
        decide
      rw [this] <;> rfl
    rw [hL] at k
    have es : sg t ++ ("$" : Str) = sg (t ++ [36]) := sg_app t [36]
    generalize hu : t ++ [36] = u at k es
    have hul : u.length ≤ 201 := by rw [← hu, List.length_append]; simp; omega
    refine ⟨two_sz _ _, fun p0 hp0 => ⟨p0, _, rfl, .inl (.inl upd_same), rfl, _, _, rfl, _, _, rfl, rfl, ?_⟩⟩
    refine ⟨_, rfl, _, _, rfl, rfl, by rw [sg_len]; exact le60 (by rw [lenc "$"]; omega), _, rfl, ?_⟩
    rw [es]
    have e10 := e1.trans (ex_new (o := .tup [.str "ground", .int 0]) hp0)
    refine for_it walk_P (fun i σ H' => Ex H H' ∧ ∃ (a b g : Option V) (st : Wt) (d : Nat), σ = [some (.str (sg t)), a, b, some (.str st.word), some (.int (d : Int)), g] ∧ runW .ground 0 u.zipIdx = runW st d (u.zipIdx.drop i)) ?_ (fun _ _ _ _ _ => trivial) ?_ ?_
    · exact ⟨e10, a, b, none, .ground, 0, rfl, rfl⟩
    · rintro i x σ H2 H3 hi ⟨e2, a, b, g, st, d, rfl, hrun⟩ ⟨q, x', rfl, hn, rfl, c, hc, rfl⟩
      have hz := zip_at hc
      have e3 := e2.trans (ex_new (o := .tup [.int (i : Nat), .str ⟨#[c]⟩]) hn)
      refine ⟨q, _, rfl, .inl (.inl upd_same), rfl, _, _, rfl, _, _, rfl, rfl, ?_⟩
      generalize upd H2 q (.tup [.int (i : Nat), .str ⟨#[c]⟩]) = H4 at e3 ⊢
      have hdrop : u.zipIdx.drop i = (c, i) :: u.zipIdx.drop (i + 1) := by
        obtain ⟨hi2, e4⟩ := List.getElem?_eq_some_iff.mp hz
        rw [← e4, ← List.drop_eq_getElem_cons hi2]
      have hgo : ∀ st' d', c ≠ 32 → stepW st d c = .inr (st', d') → runW .ground 0 u.zipIdx = runW st' d' (u.zipIdx.drop (i + 1)) := fun st' d' h1 h2 => by
        rw [hrun, hdrop]
        simp only [runW, if_neg h1, h2]
      have hret : ∀ (m : Str) (H5 : Hp) (p : Addr), c ≠ 32 → stepW st d c = .inl m → Ex H4 H5 → H5 p = none → Q (.ref p) (upd H5 p (.tup [.int (i : Nat), .str m])) := fun m H5 p h1 h2 e5 hp => by
        have hL2 : runW .ground 0 u.zipIdx = some (i, m) := by
          rw [hrun, hdrop]
          simp only [runW, if_neg h1, h2]
        rw [hL2] at k
        exact k _ _ ((e3.trans e5).trans (ex_new hp)) (.tup (.inl (.inl upd_same)) (.cons (.int _) (.cons (.str _) .nil)))
      refine ⟨_, rfl, rfl, decide (c = 32), sgE 32, ifBH (fun hb => ?_) (fun hb => ?_)⟩
      · refine ⟨e3, _, _, _, st, d, rfl, ?_⟩
        rw [hrun, hdrop]
        simp only [runW, if_pos (of_decide_eq_true hb)]
      have c32 : c ≠ 32 := of_decide_eq_false hb
      refine ⟨_, rfl, _, _, rfl, rfl, ?_⟩
      cases st with
      | ground =>
        refine ⟨_, rfl, rfl, true, vdec _, ?_⟩
        refine ⟨_, rfl, rfl, decide (c = 40), sgE 40, ?_⟩
        by_cases h40 : c = 40
        · rw [decide_eq_true h40]
          refine ⟨_, rfl, rfl, decide (d = 20), int_eq 20, ?_⟩
          by_cases hd20 : d = 20
          · rw [decide_eq_true hd20]
            exact ⟨_, rfl, two_sz _ _, fun p hp => hret _ _ p c32 (by simp [stepW, h40, hd20]) (Ex.refl _) hp⟩
          · rw [decide_eq_false hd20]
            refine ⟨_, rfl, rfl, !decide (c = 40), sgN 40, ?_⟩
            rw [decide_eq_true h40]
            refine ⟨_, rfl, rfl, decide (c = 40), sgE 40, ?_⟩
            rw [decide_eq_true h40]
            refine ⟨_, rfl, _, _, rfl, rfl, two_sz _ _, fun p hp => ⟨p, _, rfl, .inl (.inl upd_same), rfl, _, _, rfl, _, _, rfl, rfl, ?_⟩⟩
            exact ⟨e3.trans (ex_new hp), _, _, _, .ground, d + 1, rfl, hgo _ _ c32 (by simp [stepW, h40, hd20])⟩
        · rw [decide_eq_false h40]
          refine ⟨_, rfl, rfl, !decide (c = 40), sgN 40, ?_⟩
          rw [decide_eq_false h40]
          refine ⟨_, rfl, rfl, decide (c = 36), sgE 36, ?_⟩
          by_cases h36 : c = 36
          · rw [decide_eq_true h36]
            exact ⟨_, rfl, two_sz _ _, fun p hp => hret _ _ p c32 (by simp [stepW, h36]) (Ex.refl _) hp⟩
          · rw [decide_eq_false h36]
            refine ⟨_, rfl, _, _, rfl, rfl, !isLt c, congrArg (fun b => V.bl (!b)) (lt_mem c), ?_⟩
            cases hl : isLt c with
            | false => exact ⟨_, rfl, two_sz _ _, fun p hp => hret _ _ p c32 (by simp [stepW, h40, hl]) (Ex.refl _) hp⟩
            | true =>
              refine ⟨_, rfl, rfl, decide (c = 40), sgE 40, ?_⟩
              rw [decide_eq_false h40]
              refine ⟨_, rfl, two_sz _ _, fun p hp => ⟨p, _, rfl, .inl (.inl upd_same), rfl, _, _, rfl, _, _, rfl, rfl, ?_⟩⟩
              exact ⟨e3.trans (ex_new hp), _, _, _, .behind, d, rfl, hgo _ _ c32 (by simp [stepW, h40, h36, hl])⟩
      | many =>
        refine ⟨_, rfl, rfl, false, ndec (by decide +kernel), ?_⟩
        refine ⟨_, rfl, three_sz _ _ _, fun p1 hp1 => ⟨p1, _, rfl, .inr (.inl (.inl upd_same)), rfl, rfl, true, congrArg V.bl (by decide +kernel), ?_⟩⟩
        have e4 := ex_new (o := .tup [.str "many", .str "first", .str "second"]) hp1
        refine ⟨_, rfl, isDg c, congrArg V.bl (dg_mem c), ?_⟩
        cases hg : isDg c with
        | false => exact ⟨_, rfl, two_sz _ _, fun p hp => hret _ _ p c32 (by simp [stepW, hg]) e4 hp⟩
        | true =>
          refine fun p2 hp2 => ⟨upd_same, [(.inr "many", .str "ground"), (.inr "first", .str "equal"), (.inr "second", .str "close")], rfl, by decide, _, rfl, p2, .str "ground", rfl, .inl ⟨_, .inr "many", .inl upd_same, rfl, by decide +kernel⟩, ?_⟩
          exact ⟨(e3.trans e4).trans (ex_new2 hp2), _, _, _, .ground, d, rfl, hgo _ _ c32 (by simp [stepW, hg])⟩
      | first =>
        refine ⟨_, rfl, rfl, false, ndec (by decide +kernel), ?_⟩
        refine ⟨_, rfl, three_sz _ _ _, fun p1 hp1 => ⟨p1, _, rfl, .inr (.inl (.inl upd_same)), rfl, rfl, true, congrArg V.bl (by decide +kernel), ?_⟩⟩
        have e4 := ex_new (o := .tup [.str "many", .str "first", .str "second"]) hp1
        refine ⟨_, rfl, isDg c, congrArg V.bl (dg_mem c), ?_⟩
        cases hg : isDg c with
        | false => exact ⟨_, rfl, two_sz _ _, fun p hp => hret _ _ p c32 (by simp [stepW, hg]) e4 hp⟩
        | true =>
          refine fun p2 hp2 => ⟨upd_same, [(.inr "many", .str "ground"), (.inr "first", .str "equal"), (.inr "second", .str "close")], rfl, by decide, _, rfl, p2, .str "equal", rfl, .inl ⟨_, .inr "first", .inl upd_same, rfl, by decide +kernel⟩, ?_⟩
          exact ⟨(e3.trans e4).trans (ex_new2 hp2), _, _, _, .equal, d, rfl, hgo _ _ c32 (by simp [stepW, hg])⟩
      | second =>
        refine ⟨_, rfl, rfl, false, ndec (by decide +kernel), ?_⟩
        refine ⟨_, rfl, three_sz _ _ _, fun p1 hp1 => ⟨p1, _, rfl, .inr (.inl (.inl upd_same)), rfl, rfl, true, congrArg V.bl (by decide +kernel), ?_⟩⟩
        have e4 := ex_new (o := .tup [.str "many", .str "first", .str "second"]) hp1
        refine ⟨_, rfl, isDg c, congrArg V.bl (dg_mem c), ?_⟩
        cases hg : isDg c with
        | false => exact ⟨_, rfl, two_sz _ _, fun p hp => hret _ _ p c32 (by simp [stepW, hg]) e4 hp⟩
        | true =>
          refine fun p2 hp2 => ⟨upd_same, [(.inr "many", .str "ground"), (.inr "first", .str "equal"), (.inr "second", .str "close")], rfl, by decide, _, rfl, p2, .str "close", rfl, .inl ⟨_, .inr "second", .inl upd_same, rfl, by decide +kernel⟩, ?_⟩
          exact ⟨(e3.trans e4).trans (ex_new2 hp2), _, _, _, .close, d, rfl, hgo _ _ c32 (by simp [stepW, hg])⟩
      | equal =>
        refine ⟨_, rfl, rfl, false, ndec (by decide +kernel), ?_⟩
        refine ⟨_, rfl, three_sz _ _ _, fun p1 hp1 => ⟨p1, _, rfl, .inr (.inl (.inl upd_same)), rfl, rfl, false, congrArg V.bl (by decide +kernel), ?_⟩⟩
        have e4 := ex_new (o := .tup [.str "many", .str "first", .str "second"]) hp1
        refine ⟨_, rfl, two_sz _ _, fun p2 hp2 => ⟨p2, _, rfl, .inr (.inl (.inl upd_same)), rfl, rfl, true, congrArg V.bl (by decide +kernel), ?_⟩⟩
        have e5 := e4.trans (ex_new (o := .tup [.str "equal", .str "close"]) hp2)
        refine ⟨_, rfl, rfl, !decide (c = 93), sgN 93, ?_⟩
        by_cases h93 : c = 93
        · rw [decide_eq_true h93]
          refine ⟨_, rfl, rfl, decide (c = 61), sgE 61, ?_⟩
          rw [decide_eq_false (show ¬ c = 61 by omega)]
          exact ⟨e3.trans e5, _, _, _, .behind, d, rfl, hgo _ _ c32 (by simp [stepW, h93])⟩
        · rw [decide_eq_false h93]
          refine ⟨_, rfl, rfl, false, ndec (by decide +kernel), ?_⟩
          refine ⟨_, rfl, rfl, !decide (c = 61), sgN 61, ?_⟩
          by_cases h61 : c = 61
          · rw [decide_eq_true h61]
            refine ⟨_, rfl, rfl, decide (c = 61), sgE 61, ?_⟩
            rw [decide_eq_true h61]
            exact ⟨e3.trans e5, _, _, _, .second, d, rfl, hgo _ _ c32 (by simp [stepW, h61])⟩
          · rw [decide_eq_false h61]
            exact ⟨_, rfl, _, rfl, rfl, false, ndec (by decide +kernel), two_sz _ _, fun p hp => hret _ _ p c32 (by simp [stepW, h93, h61]) e5 hp⟩
      | close =>
        refine ⟨_, rfl, rfl, false, ndec (by decide +kernel), ?_⟩
        refine ⟨_, rfl, three_sz _ _ _, fun p1 hp1 => ⟨p1, _, rfl, .inr (.inl (.inl upd_same)), rfl, rfl, false, congrArg V.bl (by decide +kernel), ?_⟩⟩
        have e4 := ex_new (o := .tup [.str "many", .str "first", .str "second"]) hp1
        refine ⟨_, rfl, two_sz _ _, fun p2 hp2 => ⟨p2, _, rfl, .inr (.inl (.inl upd_same)), rfl, rfl, true, congrArg V.bl (by decide +kernel), ?_⟩⟩
        have e5 := e4.trans (ex_new (o := .tup [.str "equal", .str "close"]) hp2)
        refine ⟨_, rfl, rfl, !decide (c = 93), sgN 93, ?_⟩
        by_cases h93 : c = 93
        · rw [decide_eq_true h93]
          refine ⟨_, rfl, rfl, decide (c = 61), sgE 61, ?_⟩
          rw [decide_eq_false (show ¬ c = 61 by omega)]
          exact ⟨e3.trans e5, _, _, _, .behind, d, rfl, hgo _ _ c32 (by simp [stepW, h93])⟩
        · rw [decide_eq_false h93]
          refine ⟨_, rfl, rfl, true, vdec _, ?_⟩
          exact ⟨_, rfl, _, rfl, rfl, true, vdec _, two_sz _ _, fun p hp => hret _ _ p c32 (by simp [stepW, h93]) e5 hp⟩
      | behind =>
        refine ⟨_, rfl, rfl, false, ndec (by decide +kernel), ?_⟩
        refine ⟨_, rfl, three_sz _ _ _, fun p1 hp1 => ⟨p1, _, rfl, .inr (.inl (.inl upd_same)), rfl, rfl, false, congrArg V.bl (by decide +kernel), ?_⟩⟩
        have e4 := ex_new (o := .tup [.str "many", .str "first", .str "second"]) hp1
        refine ⟨_, rfl, two_sz _ _, fun p2 hp2 => ⟨p2, _, rfl, .inr (.inl (.inl upd_same)), rfl, rfl, false, congrArg V.bl (by decide +kernel), ?_⟩⟩
        have e5 := e4.trans (ex_new (o := .tup [.str "equal", .str "close"]) hp2)
        refine ⟨_, rfl, _, _, rfl, rfl, decide (c = 43 ∨ c = 47 ∨ c = 91), congrArg V.bl (op_mem c), ?_⟩
        by_cases ho : c = 43 ∨ c = 47 ∨ c = 91
        · rw [decide_eq_true ho]
          refine ⟨_, rfl, rfl, !decide (c = 36), sgN 36, ?_⟩
          rw [decide_eq_false (show ¬ c = 36 by omega)]
          rcases ho with rfl | rfl | rfl
          · refine fun p3 hp3 => ⟨upd_same, [(.inr "+", .str "ground"), (.inr "/", .str "many"), (.inr "[", .str "first")], rfl, by decide, _, rfl, p3, .str "ground", rfl, .inl ⟨_, .inr "+", .inl upd_same, by decide +kernel, by decide +kernel⟩, ?_⟩
            exact ⟨(e3.trans e5).trans (ex_new2 hp3), _, _, _, .ground, d, rfl, hgo _ _ c32 (by simp [stepW])⟩
          · refine fun p3 hp3 => ⟨upd_same, [(.inr "+", .str "ground"), (.inr "/", .str "many"), (.inr "[", .str "first")], rfl, by decide, _, rfl, p3, .str "many", rfl, .inl ⟨_, .inr "/", .inl upd_same, by decide +kernel, by decide +kernel⟩, ?_⟩
            exact ⟨(e3.trans e5).trans (ex_new2 hp3), _, _, _, .many, d, rfl, hgo _ _ c32 (by simp [stepW])⟩
          · refine fun p3 hp3 => ⟨upd_same, [(.inr "+", .str "ground"), (.inr "/", .str "many"), (.inr "[", .str "first")], rfl, by decide, _, rfl, p3, .str "first", rfl, .inl ⟨_, .inr "[", .inl upd_same, by decide +kernel, by decide +kernel⟩, ?_⟩
            exact ⟨(e3.trans e5).trans (ex_new2 hp3), _, _, _, .first, d, rfl, hgo _ _ c32 (by simp [stepW])⟩
        · rw [decide_eq_false ho]
          refine ⟨_, rfl, _, _, rfl, rfl, decide (0 < d), pos_eq, ?_⟩
          by_cases h0 : 0 < d
          · rw [decide_eq_true h0]
            refine ⟨_, rfl, rfl, !decide (c = 41), sgN 41, ?_⟩
            by_cases h41 : c = 41
            · rw [decide_eq_true h41]
              obtain ⟨d', rfl⟩ : ∃ d', d = d' + 1 := ⟨d - 1, by omega⟩
              refine ⟨_, rfl, _, _, rfl, rfl, ?_⟩
              rw [show ((d' + 1 : Nat) : Int) - 1 = (d' : Int) by omega]
              exact ⟨e3.trans e5, _, _, _, .behind, d', rfl, hgo _ _ c32 (by simp [stepW, h41])⟩
            · rw [decide_eq_false h41]
              exact ⟨_, rfl, two_sz _ _, fun p hp => hret _ _ p c32 (by simp [stepW, ho, h0, h41]) e5 hp⟩
          · rw [decide_eq_false h0]
            refine ⟨_, rfl, rfl, !decide (c = 36), sgN 36, ?_⟩
            by_cases h36 : c = 36
            · rw [decide_eq_true h36]
              exact ⟨e3.trans e5, _, _, _, .behind, d, rfl, hgo _ _ c32 (by simp [stepW, h36, h0])⟩
            · rw [decide_eq_false h36]
              exact ⟨_, rfl, two_sz _ _, fun p hp => hret _ _ p c32 (by simp [stepW, ho, h0, h36]) e5 hp⟩
    · rintro σ H2 ⟨e2, a, b, g, st, d, rfl, hrun⟩
      have hL2 : runW .ground 0 u.zipIdx = none := by
        rw [hrun, List.drop_of_length_le (by simp)]
        cases st <;> rfl
      rw [hL2] at k
      exact k _ _ e2 .non
end
end K02
namespace K02
open PySem PySem.Spec
open PyProof.Rows L2 Sl Ps
/-- the law's table of code objects -/
abbrev tbL (K : PySem.W.Frag) : Addr := (He.cT K ("law", none)).2
abbrev lamN : Str := (envOfC "law" (defScope s_law) 0 0 .none).qual ++ "<lambda>"
abbrev TbL (K : PySem.W.Frag) : List (Addr × Str) := [(tbL K, lamN)]
def spLaw (K : PySem.W.Frag) : Sp := fun vs H Q _ => ∃ (c : Addr) (ns : List Int), vs = [.ref c] ∧ SqL K H c (ns.map V.int) ∧ LamX.Tabs (TbL K) H ∧ ∀ H', Q (.bl true) H'
section
variable {P : Program} {w : World} {K : PySem.W.Frag} {mg : Str → Option Value} {base : Heap} {H H1 H2 : Hp} {E : XK} {Q : VK} {ns : List Int} {r c : Addr}
theorem tabs_b {T : List (Addr × Str)} {xs : List V} (h : LamX.Tabs T H) (hr : H r = some (.lst xs)) (e : ExB [r] H H1) : LamX.Tabs T H1 := by
  intro p hp
  obtain ⟨ps, h1, h2, h3⟩ := h p hp
  refine ⟨ps, e _ _ (by simpa using ne_of h1 hr (by intro z; cases z)) h1, h2, fun pos cv hc => ?_⟩
  obtain ⟨x, e1, e2⟩ := h3 pos cv hc
  exact ⟨x, e1, e _ _ (by simpa using ne_of e2 hr (by intro z; unfold LamX.CodeO at z; cases z)) e2⟩
theorem tabs_rw {T : List (Addr × Str)} (h : LamX.Tabs T H) (q : Rw K ns r c H) (e : ExB [r] H H1) : LamX.Tabs T H1 := by
  obtain ⟨_, i, x, g, hr, _⟩ := q
  exact tabs_b h hr e
theorem rw_n (q : Rw K ns r c H) (e : LamX.ExtN H H1) : Rw K ns r c H1 := by
  obtain ⟨h2, i, x, g, h3, h4⟩ := q
  refine ⟨h2.imp (fun z => ⟨z.1, ?_⟩) id, i, x, g, e _ _ h3 (by intro ps z; cases z), h4⟩
  rcases z.2 with (h | ⟨o, h⟩) | h
  · exact .inl (.inl (e _ _ h (by intro ps z; cases z)))
  · exact .inl (.inr ⟨o, e _ _ h (by intro ps z; cases z)⟩)
  · exact .inr h
theorem due_some {x : Option (Nat × Str)} {v : V} (h : RD K H (flD x) v) : (!decide (v = .non)) = x.isSome := by
  cases x with
  | none => obtain rfl := h.ofNon; rfl
  | some e => obtain ⟨a, xs, rfl, _⟩ := RD.ofTup h; rfl
theorem ok_flD (x : Option (Nat × Str)) : okD 2 (flD x) := by
  cases x with
  | none => trivial
  | some e => exact ⟨by show 2 ≤ 1000000; decide, fun d hd => by
      simp only [List.mem_cons, List.not_mem_nil, or_false] at hd
      rcases hd with rfl | rfl <;> trivial⟩
theorem flOf_law (t : List Nat) : lawFlaw t = flOf t := law_flaw t
theorem mem_bad {v : V} {z : Str} (hz : z.length = 201) (h : v ∈ [V.non, V.int 3, V.str z]) : Arg0 v false := by
  simp only [List.mem_cons, List.not_mem_nil, or_false] at h
  rcases h with rfl | rfl | rfl
  · exact .non
  · exact .int 3
  · have := Arg0.str z (by rw [hz]; decide)
    rwa [decide_eq_false (by rw [hz]; decide)] at this
theorem gvRef (T : Tx K mg) {X : Cx} {g : Addr} {cdg : Value} {q : Str} (hK : X.K = K) (hm : X.mg = mg) : LamX.GivesTo X n__law_refused "_law_refused" (defScope s__law_refused) g cdg (defBody s__law_refused) "call" q (TTname K (He.ga K "BadArgument") "name") := by
  subst hK
  subst hm
  exact LamX.named_gives (X := X) (x := "_law_refused") (a := "call") (e := "BadArgument") (n := "e") (fl := "name") (q := q) (sg := defScope s__law_refused) (g := g) (cdg := cdg) rfl (g_BadArgument T) (by decide) (by decide) rfl (xf_BadArgument T) (n_BadArgument_name T) (x_BadArgument T).2 (by decide) (by decide)
theorem law_of (T : Tx K mg) : ∃ fd, (∀ (s : Shared) (u : Value), BindsTo s fd ⟨[u], []⟩ [("script", u)]) ∧ ∀ (P : Program) (w : World) (base : Heap), LamX.TabB base mg (He.cT K ("law", none)).1 (He.cT K ("law", none)).2 →
    FnOk P w K mg base (L2.CX P w) 206 (a_law K) fd ["script"] (spLaw K) := by
  obtain ⟨fd, F⟩ := f_law T
  refine ⟨fd, fun s u => F.bindsA (b_law T) s [u] rfl, fun P w base TB => ?_⟩
  obtain ⟨oc, od, dV, kV, doc, pm, an, cdv, ct, osl, rfl, lk, hcd, hD, hK⟩ := F.ex
  obtain ⟨cc, rfl⟩ := He.codeIn_ref hcd
  have ec : He.codeOf K ("law", none) = cc := He.codeOf_eq lk rfl
  have TB2 : LamX.TabB base mg cc (tbL K) := by
    have e1 : (He.cT K ("law", none)).1 = cc := ec
    rw [e1] at TB
    exact TB
  obtain ⟨fdF, FF⟩ := f_flaw T
  have FL := FF.ok (P := P) (w := w) (mg := mg) (base := base) (CX := L2.CX P w) (z_flaw T) len_flaw (body_flaw T)
  have KW := kw1 (pn := "text") FF (fun _ _ _ _ _ _ _ => rfl)
  have KP := FF.kp
  obtain ⟨fdR, FR⟩ := f__law_refused T
  have bR := FR.bindsN (b__law_refused T)
  have kR := FR.kp
  obtain ⟨oc2, od2, dV2, kV2, doc2, pm2, an2, cdv2, ct2, osl2, rfl, lk2, hcd2, hD2, hK2⟩ := FR.ex
  have h_flaw := ok_flaw (P := P) (w := w) (base := base) T
  have h_plain_text := ok_plainText (P := P) (w := w) (base := base) T
  have h_letters := ok_letters (P := P) (w := w) (base := base) T
  have h__law_text := ok_text (P := P) (w := w) (base := base) T
  have h__law_flaw := ok_lawFlaw (P := P) (w := w) (base := base) T
  have h__law_alike := ok_alike (P := P) (w := w) (base := base) T 2
  have h__law_pick := ok_pick (P := P) (w := w) (base := base) T
  refine fn_of lk hcd (z_law T) (fun vs H Q E h => by obtain ⟨_, _, rfl, _⟩ := h; rfl) (fun A outer s H vs Q E hr h => ?_)
  obtain ⟨c, ns, rfl, hs, htb, k⟩ := h
  refine ⟨_, (pss_cons (ps_set (i := 1) (z_law T).nd rfl (Or.inl rfl) (pe_lst (pa_cons (pv 0) (pa_cons pe_int (pa_cons pe_int (pa_cons pe_int pa_nil))))))
  (pss_cons (ps_for (passes_of rfl) rfl (pi_range1 (by rfl) (l_range T) (pa_cons pe_int pa_nil)) (pg_name (i := 2) (z_law T).nd rfl (Or.inl rfl)) (pss_cons (ps_set (i := 3) (z_law T).nd rfl (Or.inl rfl) (pcall h__law_text (hr.mono (by omega)) (g__law_text T) (pa_cons (pv 1) pa_nil)))
  (pss_cons (ps_set (i := 4) (z_law T).nd rfl (Or.inl rfl) (pcall h__law_flaw (hr.mono (by omega)) (g__law_flaw T) (pa_cons (pv 3) pa_nil)))
  (pss_cons (ps_if (pt_not (pt_val (pcall h__law_alike (hr.mono (by omega)) (g__law_alike T) (pa_cons (pcallK1 FL KW KP (hr.mono (by omega)) (g_flaw T) passL (pv 3)) (pa_cons (pv 4) pa_nil))))) (pss_one (ps_ret pe_bl)) pss_nil)
  (pss_cons (ps_if (PW.pt (pw_or (pt_cmpR op_ne (pe_cmpR oIsNo (pcall h_plain_text (hr.mono (by omega)) (g_plain_text T) (pa_cons (pv 3) pa_nil)) pe_non (nomark _)) (pe_cmpR oNoNo (pv 4) pe_non (nomark _)) (nomark _)) (pw_or1 (pt_cmpR op_ne (pe_cmpR oIsNo (pcall h_letters (hr.mono (by omega)) (g_letters T) (pa_cons (pv 3) pa_nil)) pe_non (nomark _)) (pe_cmpR oNoNo (pv 4) pe_non (nomark _)) (nomark _))))) (pss_one (ps_ret pe_bl)) pss_nil)
  (pss_cons (ps_set (i := 5) (z_law T).nd rfl (Or.inr rfl) (pcall h__law_pick (hr.mono (by omega)) (g__law_pick T) (pa_cons (pv 1) (pa_cons (pe_lst (pa_cons pe_non (pa_cons pe_int (pa_cons (pe_op oAddS pe_str (pe_op oRepS pe_str pe_int)) pa_nil)))) pa_nil))))
  (pss_one (ps_if (pt_cmpR op_ne (LamX.pe_lamcall (X := cxOf (L2.CX P w) P w K mg base n_law "law" (defScope s_law) (a_law K) (.ref cc) A outer s H E) (T := TbL K) (TT := TTname K (He.ga K "BadArgument") "name") (k := 93) (t := fun E => tCall (spFlaw K) [] E (tCons (tVar 5) tNil)) rfl (g__law_refused T) kR lk2 hcd2 bR (z__law_refused T) rfl (Or.inl rfl) (gvRef T rfl rfl) TB2 rfl (List.mem_singleton.mpr rfl) (fun p hp _ => congrArg Prod.snd (List.mem_singleton.mp hp)) (hr.mono (by omega)) (show LamX.LamS (defScope s_law) _ from LamX.lamS_by (by decide +kernel)) rfl (fun _ _ _ _ _ => rfl) (fun A outer s H E f c hr2 => by exact LamX.lam_call1 h_flaw hr2 (g_flaw T) rfl (Or.inr (Or.inr rfl)) rfl (by decide) (by decide) (by decide))) pe_str (nomark _)) (pss_one (ps_ret pe_bl)) pss_nil))))))))
  (pss_one (ps_ret pe_bl)))), ?_⟩
  refine ⟨_, rfl, by show 4 ≤ sizeLine; decide, fun r hr0 => ?_⟩
  refine ⟨80, rfl, by decide, by decide, for_it (walk_range (lo := 0) (n := 80)) (fun i σ H' => Rw K ns r c H' ∧ LamX.Tabs (TbL K) H' ∧ ∃ x2 x3 x4 x5 : Option V, σ = [some (.ref c), some (.ref r), x2, x3, x4, x5]) ?_ (fun _ _ _ _ _ => trivial) ?_ ?_⟩
  · exact ⟨⟨Scr.new hs hr0, 0, 71233, 0, upd_same, by decide⟩, fun p hp => (htb p hp).ext (ex_new hr0), none, none, none, none, rfl⟩
  · rintro i x σ H1 H1' hi ⟨q, tb, x2, x3, x4, x5, rfl⟩ ⟨rfl, rfl⟩
    refine ⟨_, rfl, r, c, ns, rfl, q, fun z H2 hz e2 q2 => ?_⟩
    have tb2 := tabs_rw tb q e2
    obtain ⟨t, rfl⟩ : ∃ t, z = sg t := ⟨z.cps.toList, by simp⟩
    have ht : t.length ≤ 200 := by rwa [sg_len] at hz
    refine ⟨_, rfl, t, rfl, ht, fun due H3 e3 rd => ?_⟩
    rw [flOf_law] at rd
    refine ⟨_, rfl, _, true, rfl, arg_sg ht, fun z => (by cases z), fun _ => ⟨t, rfl, ht, fun fv H4 e4 rf => ?_⟩⟩
    refine ⟨_, rfl, flD (flOf t), _, _, rfl, ok_flD _, rf, rd.mono e4.t, fun H5 e5 => ⟨true, rfl, ?_⟩⟩
    refine ⟨_, rfl, t, rfl, ht, fun v H6 e6 hv => ?_⟩
    refine ⟨rfl, _, rfl, rfl, rfl, false, ndecN (by rw [hv, due_some rd]), ?_⟩
    refine ⟨_, rfl, t, rfl, ht, fun v H7 e7 hv => ?_⟩
    refine ⟨rfl, _, rfl, rfl, rfl, false, ndecN (by rw [hv, due_some rd]), ?_⟩
    have e37 := ((((e3.trans e4).trans e5).trans e6).trans e7)
    have q7 := q2.ex e37
    have tb7 : LamX.Tabs (TbL K) H7 := fun p hp => (tb2 p hp).ext e37
    refine ⟨_, rfl, _, _, rfl, rfl, by decide, by decide, by decide +kernel, by decide +kernel, _, _, rfl, rfl, by rw [rep_len]; decide +kernel, by decide, fun l hl => pick_sg (E := E0) q7 hl (by decide) (by decide) (fun v H8 hv e8 q8 => ?_)⟩
    have ha := mem_bad (by rw [app_len, rep_len]; decide +kernel) hv
    have tb8 := tabs_rw tb7 q7 e8
    refine ⟨tb8, fun H9 eN tb9 => ?_⟩
    refine ⟨_, rfl, _, false, rfl, ha, fun _ d H10 e10 hd hx => ⟨rfl, d, "text", rfl, hx, ?_⟩, fun z => (by cases z)⟩
    refine ⟨rfl, false, ndecN rfl, ?_⟩
    exact ⟨(rw_n q8 eN).ex e10, fun p hp => (tb9 p hp).ext e10, _, _, _, _, rfl⟩
  · rintro σ H1 ⟨q, tb, x2, x3, x4, x5, rfl⟩
    exact k _
end
end K02
namespace K02
open PySem PySem.Spec
open PyProof.Rows L2 Sl
theorem cx_no {P : Program} (w : World) (H : Hp) (s : Shared) (e : Value) (s' : Shared) (h : L2.CX P w [] H s (fun _ _ _ => False) e s') : False := by
  obtain ⟨_, _, _, _, _, _, _, _, _, _, _, _, z⟩ := h
  exact z
theorem at_law {P : Program} (w : World) (mg : Str → Option Value) (fa : Addr) (h : Heap) (Y : hk.says w h) (G : h.Ns mainGlobals mg) (hm : mg "law" = some (.ref fa)) (hP : P = (PySem.Challenge.rw_mazesums_k02_whole_flaws_of_nests).prog) :
    ∃ K : PySem.W.Frag, K.In h ∧ LamX.LawAtS PySem.Challenge.rw_mazesums_k02_whole_flaws_of_nests w K (L2.CX P w) 206 63 "script" mg fa h := by
  subst hP
  obtain ⟨K, KX, c⟩ := Y
  have T : Tx K mg := ⟨c.t.d, c.more, h, KX, G⟩
  have e := hm.symm.trans (g_law T)
  cases e
  obtain ⟨fd, hb, hF⟩ := law_of T
  refine ⟨K, KX, fd, [He.cT K ("law", none)], spLaw K, fun p hp => ?_, fun p hp => ?_, fun p hp => ?_, hb, fun H a ns _ _ hT hS => ⟨a, ns, rfl, hS, fun p hp => ?_, fun _ => rfl⟩, fun base _ _ hTB => hF _ w base (hTB _ (List.mem_singleton.mpr rfl))⟩
  · rw [List.mem_singleton.mp hp]
    exact c.empty ("law", none) (List.mem_singleton.mpr rfl)
  · rw [List.mem_singleton.mp hp]
    exact c.out ("law", none) (List.mem_singleton.mpr rfl)
  · rw [List.mem_singleton.mp hp]
    exact PySem.W.codeHd_of_K KX (c.hd ("law", none) (List.mem_singleton.mpr rfl))
  · rw [List.mem_singleton.mp hp]
    exact .nil (hT _ (List.mem_singleton.mpr rfl))
end K02
open PySem PySem.W
open PySem.Calls
open PyProof.Rows
theorem PySem.Challenge.cw_mazesums_k02_whole_flaws_of_nests_holds : PySem.Challenge.rw_mazesums_k02_whole_flaws_of_nests.Holds := by
  w_on; o_law
  refine HandSHeadRun.head_any (r := OpenLaw.row PySem.Challenge.rw_mazesums_k02_whole_flaws_of_nests) (q := view (OpenLaw.row PySem.Challenge.rw_mazesums_k02_whole_flaws_of_nests).prog [26]) (H := K02.hk) (ob := K02.ob) (M := 20000) (loose := K02.loose) (d := HandSHeadRun.topDef (OpenLaw.row PySem.Challenge.rw_mazesums_k02_whole_flaws_of_nests).prog 26) (kwd := []) K02.ob_eq
    (by kernel_rfl) (fun s => by kernel_rfl) K02.run (by kernel_rfl) (by kernel_rfl) (by kernel_rfl) (by rfl) (by first | assumption | decide +kernel) (by decide +kernel) ⟨rfl, rfl, rfl, rfl, rfl, by decide +kernel⟩ ?hw ?hc
  case hw => w_witness2
  case hc =>
    refine LamX.walk_ofTsE (l := PySem.Challenge.rw_mazesums_k02_whole_flaws_of_nests) (n := 63) (k := 206) (x := "script") (CX := fun w => L2.CX (PySem.Challenge.rw_mazesums_k02_whole_flaws_of_nests).prog w) rfl (by decide) (by kernel_rfl) ⟨rfl, by decide, by decide⟩ ?F K02.cx_no
    intro w mg fa h Y G hmg0
    refine K02.at_law w mg fa h Y G ?_ rfl
    have e : (HandSHeadRun.topDef (OpenLaw.row PySem.Challenge.rw_mazesums_k02_whole_flaws_of_nests).prog 26).name = ("law" : PySem.Str) := by kernel_rfl
    rw [← e]
    exact hmg0
