import PyProof.Rows.All
import Wide.All
import OpenK.AllK
import Wide.FinOn
import KE.KStateDown
import HandS.ForMost
import HandS.Defaults
import HandS.Head0
import HandS.Head1
import HandS.Head2
import HandS.HeadEnd
import HandS.HeadHook1
import HandS.HeadHook2
import HandS.Flow
import HandS.Style
import HandS.Wide
import HandS.Zip
import HandS.TupAny
import HandS.Conv
import HandS.More
import HandS.IsInst
import HandS.SortKw
import HandS.SetKeys
import HandS.Strs
import HandS.Codes
import PyProof.ReprRoads
import PyProof.StrOps2
import HandS.FStrTup
import HandS.Ends
import PySem.Challenge.RW_swapstride_k27_whole_makes_let_by
-- part SwTxt
set_option Elab.async false
set_option linter.all false
set_option maxRecDepth 100000
set_option maxHeartbeats 4000000
namespace Sw
open PySem PySem.Spec PyProof.Rows L2
def topS (i : Nat) : Stmt := PySem.Challenge.pw_swapstride_k27_whole_makes_let_by.main.body.getD i (.Pass ⟨0, 0, 0, 0⟩)
abbrev s_kind_told : Stmt := topS 12
abbrev s_sort_of : Stmt := topS 13
abbrev s_parts_of : Stmt := topS 14
abbrev s_size_of : Stmt := topS 15
abbrev s_look_parts : Stmt := topS 16
abbrev s_look_kinds : Stmt := topS 17
abbrev s_named : Stmt := topS 19
abbrev s_hand_of : Stmt := topS 20
abbrev s_channel_of : Stmt := topS 21
abbrev s_ways_of : Stmt := topS 22
abbrev s_mark_row : Stmt := topS 23
abbrev s_need_kind_27 : Stmt := topS 27
abbrev s_need_sort : Stmt := topS 29
abbrev s_named_sort : Stmt := topS 30
abbrev s_part_kind : Stmt := topS 31
abbrev s_kind_of_rec : Stmt := topS 32
abbrev s_kind_of_get : Stmt := topS 33
abbrev s_kind_of_tag : Stmt := topS 34
abbrev s_kind_of_arm : Stmt := topS 35
abbrev s_kind_of_case : Stmt := topS 36
abbrev s_kind_of_two : Stmt := topS 37
abbrev s_kind_of_if : Stmt := topS 38
abbrev s_kind_of_box : Stmt := topS 39
abbrev s_kind_of : Stmt := topS 40
abbrev s_need_unlike : Stmt := topS 43
abbrev s_need_kind_44 : Stmt := topS 44
abbrev s_need_same : Stmt := topS 46
abbrev s_look_channels : Stmt := topS 47
abbrev s_own_channel : Stmt := topS 48
abbrev s_box_kind : Stmt := topS 49
abbrev s_look_row : Stmt := topS 50
abbrev s_look_hand : Stmt := topS 51
abbrev s_look : Stmt := topS 52
abbrev s_law_feed : Stmt := topS 54
abbrev s_law_take : Stmt := topS 55
abbrev s_law_names : Stmt := topS 56
abbrev s_law_number : Stmt := topS 57
abbrev s_law_sort_of : Stmt := topS 58
abbrev s_law_size : Stmt := topS 59
abbrev s_law_small : Stmt := topS 60
abbrev s_law_parts : Stmt := topS 61
abbrev s_law_kinds : Stmt := topS 62
abbrev s_law_boxed : Stmt := topS 63
abbrev s_law_arms : Stmt := topS 64
abbrev s_law_whole_term : Stmt := topS 65
abbrev s_law_term : Stmt := topS 66
abbrev s_law_new_term : Stmt := topS 67
abbrev s_law_any_kind : Stmt := topS 68
abbrev s_law_channels : Stmt := topS 69
abbrev s_law_boxes : Stmt := topS 70
abbrev s_law_deal : Stmt := topS 71
abbrev s_law_rows : Stmt := topS 72
abbrev s_law_make : Stmt := topS 73
abbrev s_law_hands : Stmt := topS 74
abbrev s_law_found : Stmt := topS 75
abbrev s_law_wide : Stmt := topS 76
abbrev s_law : Stmt := topS 77

def fn : List He.DefD := [
  ⟨("kind_told", none), "kind_told", "kind_told", defArgs s_kind_told, defBody s_kind_told, defScope s_kind_told, [], []⟩,
  ⟨("sort_of", none), "sort_of", "sort_of", defArgs s_sort_of, defBody s_sort_of, defScope s_sort_of, [], []⟩,
  ⟨("parts_of", none), "parts_of", "parts_of", defArgs s_parts_of, defBody s_parts_of, defScope s_parts_of, [], []⟩,
  ⟨("size_of", none), "size_of", "size_of", defArgs s_size_of, defBody s_size_of, defScope s_size_of, [], []⟩,
  ⟨("look_parts", none), "look_parts", "look_parts", defArgs s_look_parts, defBody s_look_parts, defScope s_look_parts, [], []⟩,
  ⟨("look_kinds", none), "look_kinds", "look_kinds", defArgs s_look_kinds, defBody s_look_kinds, defScope s_look_kinds, [], []⟩,
  ⟨("named", none), "named", "named", defArgs s_named, defBody s_named, defScope s_named, [], []⟩,
  ⟨("hand_of", none), "hand_of", "hand_of", defArgs s_hand_of, defBody s_hand_of, defScope s_hand_of, [], []⟩,
  ⟨("channel_of", none), "channel_of", "channel_of", defArgs s_channel_of, defBody s_channel_of, defScope s_channel_of, [], []⟩,
  ⟨("ways_of", none), "ways_of", "ways_of", defArgs s_ways_of, defBody s_ways_of, defScope s_ways_of, [], []⟩,
  ⟨("mark_row", none), "mark_row", "mark_row", defArgs s_mark_row, defBody s_mark_row, defScope s_mark_row, [], []⟩,
  ⟨("need_kind_terms", none), "need_kind", "need_kind", defArgs s_need_kind_27, defBody s_need_kind_27, defScope s_need_kind_27, [], []⟩,
  ⟨("need_sort", none), "need_sort", "need_sort", defArgs s_need_sort, defBody s_need_sort, defScope s_need_sort, [], []⟩,
  ⟨("named_sort", none), "named_sort", "named_sort", defArgs s_named_sort, defBody s_named_sort, defScope s_named_sort, [], []⟩,
  ⟨("part_kind", none), "part_kind", "part_kind", defArgs s_part_kind, defBody s_part_kind, defScope s_part_kind, [], []⟩,
  ⟨("kind_of_rec", none), "kind_of_rec", "kind_of_rec", defArgs s_kind_of_rec, defBody s_kind_of_rec, defScope s_kind_of_rec, [], []⟩,
  ⟨("kind_of_get", none), "kind_of_get", "kind_of_get", defArgs s_kind_of_get, defBody s_kind_of_get, defScope s_kind_of_get, [], []⟩,
  ⟨("kind_of_tag", none), "kind_of_tag", "kind_of_tag", defArgs s_kind_of_tag, defBody s_kind_of_tag, defScope s_kind_of_tag, [], []⟩,
  ⟨("kind_of_arm", none), "kind_of_arm", "kind_of_arm", defArgs s_kind_of_arm, defBody s_kind_of_arm, defScope s_kind_of_arm, [], []⟩,
  ⟨("kind_of_case", none), "kind_of_case", "kind_of_case", defArgs s_kind_of_case, defBody s_kind_of_case, defScope s_kind_of_case, [], []⟩,
  ⟨("kind_of_two", none), "kind_of_two", "kind_of_two", defArgs s_kind_of_two, defBody s_kind_of_two, defScope s_kind_of_two, [], []⟩,
  ⟨("kind_of_if", none), "kind_of_if", "kind_of_if", defArgs s_kind_of_if, defBody s_kind_of_if, defScope s_kind_of_if, [], []⟩,
  ⟨("kind_of_box", none), "kind_of_box", "kind_of_box", defArgs s_kind_of_box, defBody s_kind_of_box, defScope s_kind_of_box, [], []⟩,
  ⟨("kind_of", none), "kind_of", "kind_of", defArgs s_kind_of, defBody s_kind_of, defScope s_kind_of, [], []⟩,
  ⟨("need_unlike", none), "need_unlike", "need_unlike", defArgs s_need_unlike, defBody s_need_unlike, defScope s_need_unlike, [], []⟩,
  ⟨("need_kind_looker", none), "need_kind", "need_kind", defArgs s_need_kind_44, defBody s_need_kind_44, defScope s_need_kind_44, [], []⟩,
  ⟨("need_same", none), "need_same", "need_same", defArgs s_need_same, defBody s_need_same, defScope s_need_same, [], []⟩,
  ⟨("look_channels", none), "look_channels", "look_channels", defArgs s_look_channels, defBody s_look_channels, defScope s_look_channels, [], []⟩,
  ⟨("own_channel", none), "own_channel", "own_channel", defArgs s_own_channel, defBody s_own_channel, defScope s_own_channel, [], []⟩,
  ⟨("box_kind", none), "box_kind", "box_kind", defArgs s_box_kind, defBody s_box_kind, defScope s_box_kind, [], []⟩,
  ⟨("look_row", none), "look_row", "look_row", defArgs s_look_row, defBody s_look_row, defScope s_look_row, [], []⟩,
  ⟨("look_hand", none), "look_hand", "look_hand", defArgs s_look_hand, defBody s_look_hand, defScope s_look_hand, [], []⟩,
  ⟨("look", none), "look", "look", defArgs s_look, defBody s_look, defScope s_look, [], []⟩,
  ⟨("_law_feed", none), "_law_feed", "_law_feed", defArgs s_law_feed, defBody s_law_feed, defScope s_law_feed, [], []⟩,
  ⟨("_law_take", none), "_law_take", "_law_take", defArgs s_law_take, defBody s_law_take, defScope s_law_take, [], []⟩,
  ⟨("_law_names", none), "_law_names", "_law_names", defArgs s_law_names, defBody s_law_names, defScope s_law_names, [], []⟩,
  ⟨("_law_number", none), "_law_number", "_law_number", defArgs s_law_number, defBody s_law_number, defScope s_law_number, [], []⟩,
  ⟨("_law_sort_of", none), "_law_sort_of", "_law_sort_of", defArgs s_law_sort_of, defBody s_law_sort_of, defScope s_law_sort_of, [], []⟩,
  ⟨("_law_size", none), "_law_size", "_law_size", defArgs s_law_size, defBody s_law_size, defScope s_law_size, [], []⟩,
  ⟨("_law_small", none), "_law_small", "_law_small", defArgs s_law_small, defBody s_law_small, defScope s_law_small, [], []⟩,
  ⟨("_law_parts", none), "_law_parts", "_law_parts", defArgs s_law_parts, defBody s_law_parts, defScope s_law_parts, [], []⟩,
  ⟨("_law_kinds", none), "_law_kinds", "_law_kinds", defArgs s_law_kinds, defBody s_law_kinds, defScope s_law_kinds, [], []⟩,
  ⟨("_law_boxed", none), "_law_boxed", "_law_boxed", defArgs s_law_boxed, defBody s_law_boxed, defScope s_law_boxed, [], []⟩,
  ⟨("_law_arms", none), "_law_arms", "_law_arms", defArgs s_law_arms, defBody s_law_arms, defScope s_law_arms, [], []⟩,
  ⟨("_law_whole_term", none), "_law_whole_term", "_law_whole_term", defArgs s_law_whole_term, defBody s_law_whole_term, defScope s_law_whole_term, [], []⟩,
  ⟨("_law_term", none), "_law_term", "_law_term", defArgs s_law_term, defBody s_law_term, defScope s_law_term, [], []⟩,
  ⟨("_law_new_term", none), "_law_new_term", "_law_new_term", defArgs s_law_new_term, defBody s_law_new_term, defScope s_law_new_term, [], []⟩,
  ⟨("_law_any_kind", none), "_law_any_kind", "_law_any_kind", defArgs s_law_any_kind, defBody s_law_any_kind, defScope s_law_any_kind, [], []⟩,
  ⟨("_law_channels", none), "_law_channels", "_law_channels", defArgs s_law_channels, defBody s_law_channels, defScope s_law_channels, [], []⟩,
  ⟨("_law_boxes", none), "_law_boxes", "_law_boxes", defArgs s_law_boxes, defBody s_law_boxes, defScope s_law_boxes, [], []⟩,
  ⟨("_law_deal", none), "_law_deal", "_law_deal", defArgs s_law_deal, defBody s_law_deal, defScope s_law_deal, [], []⟩,
  ⟨("_law_rows", none), "_law_rows", "_law_rows", defArgs s_law_rows, defBody s_law_rows, defScope s_law_rows, [], []⟩,
  ⟨("_law_make", none), "_law_make", "_law_make", defArgs s_law_make, defBody s_law_make, defScope s_law_make, [], []⟩,
  ⟨("_law_hands", none), "_law_hands", "_law_hands", defArgs s_law_hands, defBody s_law_hands, defScope s_law_hands, [], []⟩,
  ⟨("_law_found", none), "_law_found", "_law_found", defArgs s_law_found, defBody s_law_found, defScope s_law_found, [], []⟩,
  ⟨("_law_wide", none), "_law_wide", "_law_wide", defArgs s_law_wide, defBody s_law_wide, defScope s_law_wide, [], []⟩,
  ⟨("law", none), "law", "law", defArgs s_law, defBody s_law, defScope s_law, [], []⟩]
def fa : List He.Fa := [.glo "_law_any_kind",
  .glo "_law_arms",
  .glo "_law_boxed",
  .glo "_law_boxes",
  .glo "_law_channels",
  .glo "_law_deal",
  .glo "_law_feed",
  .glo "_law_found",
  .glo "_law_hands",
  .glo "_law_kinds",
  .glo "_law_make",
  .glo "_law_names",
  .glo "_law_new_term",
  .glo "_law_number",
  .glo "_law_parts",
  .glo "_law_rows",
  .glo "_law_size",
  .glo "_law_small",
  .glo "_law_sort_of",
  .glo "_law_take",
  .glo "_law_term",
  .glo "_law_whole_term",
  .glo "_law_wide",
  .glo "box_kind",
  .glo "channel_of",
  .glo "hand_of",
  .glo "kind_of",
  .glo "kind_of_arm",
  .glo "kind_of_box",
  .glo "kind_of_case",
  .glo "kind_of_get",
  .glo "kind_of_if",
  .glo "kind_of_rec",
  .glo "kind_of_tag",
  .glo "kind_of_two",
  .glo "kind_told",
  .glo "law",
  .glo "look",
  .glo "look_channels",
  .glo "look_hand",
  .glo "look_kinds",
  .glo "look_parts",
  .glo "look_row",
  .glo "mark_row",
  .glo "named",
  .glo "named_sort",
  .glo "need_kind",
  .glo "need_kind_looker",
  .glo "need_kind_terms",
  .glo "need_same",
  .glo "need_sort",
  .glo "need_unlike",
  .glo "own_channel",
  .glo "part_kind",
  .glo "parts_of",
  .glo "size_of",
  .glo "sort_of",
  .glo "ways_of",
  .free "bool",
  .free "dict",
  .free "enumerate",
  .free "int",
  .free "isinstance",
  .free "len",
  .free "list",
  .free "max",
  .free "min",
  .free "range",
  .free "repr",
  .free "set",
  .free "sum",
  .free "tuple",
  .free "zip",
  .int "WIDE" 4294967296,
  .int "MOST_SIZE" 30,
  .str "NUM_terms" "num",
  .str "NUM_looker" "num"]
def loose0 : List Str := ["SwapError", "Twice", "NoName", "NoCount", "WrongKind", "Lacks", "NotOwn", "Falls", "TooBig", "MOST_SIZE", "kind_told", "sort_of", "parts_of", "size_of", "look_parts", "look_kinds", "named", "hand_of", "channel_of", "ways_of", "mark_row", "WIDE", "NUM_terms", "need_kind", "need_kind_terms", "need_sort", "named_sort", "part_kind", "kind_of_rec", "kind_of_get"]
def loose1 : List Str := ["kind_of_tag", "kind_of_arm", "kind_of_case", "kind_of_two", "kind_of_if", "kind_of_box", "kind_of", "NUM_looker", "need_unlike", "need_kind_looker", "need_same", "look_channels", "own_channel", "box_kind", "look_row", "look_hand", "look", "_law_feed", "_law_take", "_law_names", "_law_number", "_law_sort_of", "_law_size", "_law_small", "_law_parts", "_law_kinds", "_law_boxed", "_law_arms", "_law_whole_term", "_law_term"]
def loose2 : List Str := ["_law_new_term", "_law_any_kind", "_law_channels", "_law_boxes", "_law_deal", "_law_rows", "_law_make", "_law_hands", "_law_found", "_law_wide"]
def looseAll : List Str := loose0 ++ loose1 ++ loose2

end Sw

-- part SwHd
set_option Elab.async false
set_option linter.all false
set_option maxRecDepth 100000
set_option maxHeartbeats 0
namespace Sw
open PySem PySem.Spec PyProof.Rows L2
abbrev R : PySem.W.OpenRow := PySem.W.OpenLaw.row PySem.Challenge.rw_swapstride_k27_whole_makes_let_by
abbrev hk : PySem.W.Hook := He.hookD 4 fa fn
def ob (s : PySem.W.SharedT) : He.AlD := He.obsDG 4 fa fn (HandSHeadRun.getT s)
theorem ob_eq (s : PySem.W.SharedT) : ob s = hk.obs s.abs := He.obsDG_eq (HandSHeadRun.getT_eq s)
theorem run (w : World) : HandSHeadRun.RunEq R (PySem.W.view R.prog [77]) hk ob 6000 looseAll w := by
  intro os
  kernel_rfl
end Sw

-- part SwRules
set_option Elab.async false
set_option linter.all false
set_option maxRecDepth 100000
set_option maxHeartbeats 4000000
/-! ## enumerate over a tuple, at the library's level -/
namespace SwL
open PySem
open PySem.Sem (wp)
open AutoSeq1 (wpAny_loadPart')
/-- the iterator of a tuple, as it is laid -/
abbrev tupIt (l : Addr) : Obj := { cls := .type "tuple_iterator", data := .fields #[.ref l, .int 0 0] }
abbrev enumOb (it : Addr) : Obj := { cls := .type "enumerate", data := .fields #[.none, .bool false, .ref it, rawInt 0, .none, .none] }
theorem enumT_new (l : Addr) (items : Array Value) :
    Meets (Builtin.«enumerate.__new__» ⟨[.type "enumerate", .ref l], []⟩) (fun _ R s => s.heap.IsTuple l items ∧
      R (.ok (.ret (.ref (s.heap.push (tupIt l)).objs.size))) { s with heap := (s.heap.push (tupIt l)).push (enumOb s.heap.objs.size) }) :=
  .of_wp fun prog w A R s h => by
    obtain ⟨hp, g, d, tk, os⟩ := s
    obtain ⟨hl, h⟩ := h
    have hsub := sub_enumerate
    have hT : Heap.IsTuple (Shared.heap ⟨hp, g, d, tk, os⟩) l items := hl
    obtain ⟨ol, hol, hcl, nl, hdl⟩ := id hl
    wp_walk using wpAny_loadPart' hol
    refine wpAny_stack_any fun st => wpAny_pure ?_
    split
    · rename_i c _ _ _ _ _
      cases (c == Value.type "enumerate") <;>
      · wp_walk using wpAny_loadPart' hol, wpAny_pyIter_tuple hT
        exact ⟨_, rfl, h⟩
    · wp_walk using wpAny_loadPart' hol, wpAny_pyIter_tuple hT
      exact ⟨_, rfl, h⟩
section
variable {prog : Program} {w : World} {A : Around} {E : Value → Shared → Prop} {s : Shared}
theorem call_enumT {l : Addr} {items : Array Value} {Q : Value → Shared → Prop} (hL : s.heap.IsTuple l items)
    (h : ∀ h', IsEnum h' (s.heap.objs.size + 1) s.heap.objs.size 0 .none → h'.IsTupleIter s.heap.objs.size l 0 → (∀ b o, s.heap.get? b = some o → h'.get? b = some o) → Q (.ref (s.heap.objs.size + 1)) { s with heap := h' }) :
    wpAny (model prog w) A (call (.type "enumerate") [.ref l]) Q E s := by
  have hz : (s.heap.push (tupIt l)).objs.size = s.heap.objs.size + 1 := Heap.size_push ..
  have he : IsEnum ((s.heap.push (tupIt l)).push (enumOb s.heap.objs.size)) (s.heap.objs.size + 1) s.heap.objs.size 0 .none := by
    have q := Heap.get?_push_size (s.heap.push (tupIt l)) (o := enumOb s.heap.objs.size) rfl
    rw [hz] at q
    exact q
  refine callType_new F.called_enumerate (by decide) (F.typeCall_enumerate_1 _) (F.newCall_enumerate_1 _) (fun ob => F.args_object_init_2 ob _) F.entry_enumerate_new (enumT_new l items) ⟨hL, ?_⟩
  show _ ∧ _
  rw [hz]
  exact ⟨⟨_, he, rfl⟩, h _ he ⟨_, Heap.get?_push_of_some _ (Heap.get?_push_size _ rfl), rfl, rfl⟩ fun b o x => Heap.get?_push_of_some _ (Heap.get?_push_of_some _ x)⟩
/-- the enumerate's own fields: two stores behind one another, all else stays -/
theorem enumT_next {e it l : Addr} {i : Nat} {items : Array Value} {x old : Value} {Q : Value → Shared → Prop} (he : IsEnum s.heap e it i old) (hit : s.heap.IsTupleIter it l i) (hl : s.heap.IsTuple l items) (hx : items[i]? = some x) (hne : e ≠ it)
    (hQ : ∀ h', IsEnumOut h' e it ((i : Int) + 1) x s.heap.objs.size → h'.IsTupleIter it l (i + 1) → h'.get? s.heap.objs.size = some { cls := .type "tuple", data := .seq #[.int i s.toks, x] } →
      (∀ b o, b ≠ e → b ≠ it → s.heap.get? b = some o → h'.get? b = some o) → Q (.ref s.heap.objs.size) { s with heap := h', toks := s.toks + 1 }) :
    wpAny (model prog w) A (Builtin.«enumerate.__next__» ⟨[.ref e], []⟩) (fun fin s' => ∃ v, fin = .done (.ret v) ∧ Q v s') E s := by
  obtain ⟨hp, g, d, tk, os⟩ := s
  have hel : e < hp.objs.size := Heap.lt_size he
  show wpAny _ _ (field (.ref e) 2 >>= _) _ _ _
  refine wpAny_bind (wpAny_field he rfl (x := .ref it) rfl (wpAny_bind (RZ.nextOf_tuple_item hit hl hx fun k1 i1 (c1 : Heap.SameBut it hp k1) => ?_)))
  have e1 : IsEnum k1 e it i old := (c1.2 e hne).trans he
  show wpAny _ _ (field (.ref e) 3 >>= _) _ _ ⟨k1, g, d, tk, os⟩
  refine wpAny_bind (wpAny_field e1 rfl (x := rawInt i) rfl ?_)
  show wpAny _ _ (field (.ref e) 4 >>= _) _ _ ⟨k1, g, d, tk, os⟩
  refine wpAny_bind (wpAny_field e1 rfl (x := .none) rfl ?_)
  show wpAny _ _ (mkInt i >>= _) _ _ ⟨k1, g, d, tk, os⟩
  refine wpAny_bind (wpAny_mkInt ?_)
  show wpAny _ _ (setField (.ref e) 3 (rawInt ((i : Int) + 1)) >>= _) _ _ ⟨k1, g, d, tk + 1, os⟩
  refine wpAny_bind (wpAny_setField_rec e1 (by simp) fun k2 (e2 : IsEnum k2 e it ((i : Int) + 1) old) (c2 : Heap.SameBut e k1 k2) => ?_)
  show wpAny _ _ (setField (.ref e) 4 .none >>= _) _ _ ⟨k2, g, d, tk + 1, os⟩
  refine wpAny_bind (wpAny_setField_rec e2 (by simp) fun k3 (e3 : IsEnum k3 e it ((i : Int) + 1) old) (c3 : Heap.SameBut e k2 k3) => ?_)
  show wpAny _ _ (newTuple [.int i tk, x] >>= _) _ _ ⟨k3, g, d, tk + 1, os⟩
  refine wpAny_bind (wpAny_newTuple ?_)
  have hsz : k3.objs.size = hp.objs.size := by rw [c3.1, c2.1, c1.1]
  have old3 : ∀ b o, b ≠ e → b ≠ it → hp.get? b = some o → k3.get? b = some o := fun b o q1 q2 q => c3.extBut b o q1 (c2.extBut b o q1 (c1.extBut b o q2 q))
  have i3 : k3.IsTupleIter it l (i + 1) := (i1.extBut c2.extBut (Ne.symm hne)).extBut c3.extBut (Ne.symm hne)
  generalize hk4 : k3.push { cls := .type "tuple", data := .seq #[.int i tk, x] } = k4
  have up : ∀ b o, k3.get? b = some o → k4.get? b = some o := fun b o q => by rw [← hk4]; exact Heap.get?_push_of_some _ q
  have t4 : k4.get? hp.objs.size = some { cls := .type "tuple", data := .seq #[.int i tk, x] } := by rw [← hk4, ← hsz]; exact Heap.get?_push_size _ rfl
  have e4 : IsEnum k4 e it ((i : Int) + 1) old := up _ _ e3
  show wpAny _ _ (Builtin.SmallTypes.ownedTupleIsFree (.ref e) >>= _) _ _ ⟨k4, g, d, tk + 1, os⟩
  rw [hsz]
  refine wpAny_bind ?_
  unfold Builtin.SmallTypes.ownedTupleIsFree
  refine wpAny_bind (wpAny_field e4 rfl (x := .none) rfl (wpAny_pure ?_))
  simp only [if_true]
  refine wpAny_bind (wpAny_rule (wpAny_bind (wpAny_field e4 rfl (x := old) rfl ?_)))
  refine wpAny_bind (wpAny_setField_rec e4 (by simp) fun k5 (e5 : IsEnum k5 e it ((i : Int) + 1) x) (c5 : Heap.SameBut e k4 k5) => ?_)
  show wpAny _ _ (Builtin.SmallTypes.ownedTupleHandOut (.ref e) (.ref hp.objs.size) >>= _) _ _ ⟨k5, g, d, tk + 1, os⟩
  refine wpAny_bind ?_
  unfold Builtin.SmallTypes.ownedTupleHandOut
  refine wpAny_bind (wpAny_setField_rec e5 (by simp) fun k6 (e6 : IsEnumOut k6 e it ((i : Int) + 1) x hp.objs.size) (c6 : Heap.SameBut e k5 k6) => ?_)
  refine wpAny_setField_rec e6 (by simp) fun k7 (e7 : IsEnumOut k7 e it ((i : Int) + 1) x hp.objs.size) (c7 : Heap.SameBut e k6 k7) => ?_
  have up7 : ∀ b o, b ≠ e → k4.get? b = some o → k7.get? b = some o := fun b o q1 q => c7.extBut b o q1 (c6.extBut b o q1 (c5.extBut b o q1 q))
  exact wpAny_bind (wpAny_letGo (wpAny_pure ⟨_, rfl, hQ k7 e7 (i3.at fun o q => up7 it o (Ne.symm hne) (up it o q)) (up7 _ _ (Nat.ne_of_gt hel) t4) fun b o q1 q2 q => up7 b o q1 (up b o (old3 b o q1 q2 q))⟩))
theorem pyNext_enumT {e it l : Addr} {i : Nat} {items : Array Value} {x old : Value} {Q : Option Value → Shared → Prop} (he : IsEnum s.heap e it i old) (hit : s.heap.IsTupleIter it l i) (hl : s.heap.IsTuple l items) (hx : items[i]? = some x) (hne : e ≠ it)
    (hQ : ∀ h', IsEnumOut h' e it ((i : Int) + 1) x s.heap.objs.size → h'.IsTupleIter it l (i + 1) → h'.get? s.heap.objs.size = some { cls := .type "tuple", data := .seq #[.int i s.toks, x] } →
      (∀ b o, b ≠ e → b ≠ it → s.heap.get? b = some o → h'.get? b = some o) → Q (some (.ref s.heap.objs.size)) { s with heap := h', toks := s.toks + 1 }) :
    wpAny (model prog w) A (pyNext (.ref e)) Q E s := by
  have hT : s.TypeIs (.ref e) "enumerate" := ⟨_, he, rfl⟩
  unfold pyNext
  refine wpAny_bind (wpAny_attempt (wpAny_callSpecial?_slot (name := Str.ofString "__next__") hT F.slot_enumerate_next (wpAny_call_entry F.slot_enumerate_next hT F.entry_enumerate_next ?_ (F.args_enumerate_next_1 _))))
  exact enumT_next he hit hl hx hne fun h' a b c k => wpAny_pure (hQ h' a b c k)
theorem pyNext_enumT_end {e it l : Addr} {i : Nat} {items : Array Value} {old : Value} {Q : Option Value → Shared → Prop} (hh : A.handled = none) (he : IsEnum s.heap e it i old) (hit : s.heap.IsTupleIter it l i) (hl : s.heap.IsTuple l items) (hx : items[i]? = none)
    (hQ : ∀ h', Heap.ExtBut it s.heap h' → Q none { s with heap := h' }) : wpAny (model prog w) A (pyNext (.ref e)) Q E s := by
  have hT : s.TypeIs (.ref e) "enumerate" := ⟨_, he, rfl⟩
  unfold pyNext
  refine wpAny_bind (wpAny_attempt (wpAny_callSpecial?_slot (name := Str.ofString "__next__") hT F.slot_enumerate_next (wpAny_call_entry F.slot_enumerate_next hT F.entry_enumerate_next ?_ (F.args_enumerate_next_1 _))))
  show wpAny _ _ (field (.ref e) 2 >>= _) _ _ _
  refine wpAny_bind (wpAny_field he rfl (x := .ref it) rfl (wpAny_bind (RZ.nextOf_tuple_end hh hit hl hx fun h' z k1 ⟨o, ho, hc⟩ => ?_)))
  exact wpAny_bind (wpAny_isInstance (T := "StopIteration") (b := true) ⟨o, ho, hc⟩ isSubtype_stop (wpAny_pure (hQ _ k1)))
end
/-! ## max(xs, default=d), set(xs) of unlike texts: at the library's level -/
section
variable {prog : Program} {w : World} {A : Around} {R : Result → Shared → Prop} {I : Addr} {fp wr : List Addr} {n : Nat} {P : Nat → Value → Prop} {St : Nat → Heap → Prop}
/-- the loop of max behind its first item, whatever keywords it bears -/
theorem maxLoop (W : Walks prog w A.in1 I fp wr n P St) (bt : Nat → Nat → Bool) (hcmp : CmpOf prog w A.in1 .Gt P bt) (S : Addr) (hSf : S ∉ fp) (kw : List (Str × Value)) :
    ∀ (k j : Nat) (s : Shared) (vb : Value) (c : Nat), n - (j + 1) = k → j + 1 ≤ n → St (j + 1) s.heap → P (argBest bt j) vb → s.heap.get? S = some { cls := .type "list", dict := none, data := .seq #[vb, vb] c, slots := #[] } →
    (∀ v h' tk, P (argBest bt (n - 1)) v → (∀ b o, b ∉ wr → b ≠ S → s.heap.get? b = some o → h'.get? b = some o) → R (.ok (.ret v)) { s with heap := h', toks := tk }) →
    codeAny (model prog w) A (.builtin "max.loop" ⟨[.ref I, .none, .ref S], kw⟩) R s := by
  have hSw : S ∉ wr := fun h => hSf (W.sub _ h)
  have nm : (toString "max" ++ toString ".loop" : String) = "max.loop" := by decide
  intro k
  induction k with
  | zero =>
    intro j s vb c hk hj hst hPb hS hR
    have hin : j + 1 = n := by omega
    refine codeAny_builtin F.entry_max_loop ?_
    rw [Around.under_plainId F.plain_max_loop _]
    show wpAny _ A.in1 (seqItems? (.ref S) >>= _) _ _ s
    refine wpAny_bind (wpAny_seqItems hS rfl ?_)
    show wpAny _ A.in1 (tryCatch (pyNext (.ref I)) _ >>= _) _ _ s
    refine wpAny_bind (wpAny_tryCatch (W.done s _ _ (hin ▸ hst) fun h' tk hk' => ?_))
    show wpAny _ A.in1 (updateSeq S (fun _ => #[]) >>= _) _ _ _
    refine wpAny_bind (wpAny_updateSeq (hk' S _ hSw hS) rfl (wpAny_bind (wpAny_letGo (wpAny_pure ?_))))
    exact hR vb _ tk (by rw [← hin]; exact hPb) fun b o q1 q2 e => (Heap.get?_update_other _ _ (Ne.symm q2)).trans (hk' b o q1 e)
  | succ k ih =>
    intro j s vb c hk hj hst hPb hS hR
    have hlt : j + 1 < n := by omega
    refine codeAny_builtin F.entry_max_loop ?_
    rw [Around.under_plainId F.plain_max_loop _]
    show wpAny _ A.in1 (seqItems? (.ref S) >>= _) _ _ s
    refine wpAny_bind (wpAny_seqItems hS rfl ?_)
    show wpAny _ A.in1 (tryCatch (pyNext (.ref I)) _ >>= _) _ _ s
    refine wpAny_bind (wpAny_tryCatch (W.item (j + 1) s _ _ hlt hst fun v h' tk hP hst' hk' => ?_))
    have hS' := hk' S _ hSw hS
    show wpAny _ A.in1 (tryCatch (holding [v, v] (richCompare .Gt v vb >>= _)) _ >>= _) _ _ _
    refine wpAny_bind (wpAny_tryCatch (wpAny_holding (wpAny_bind (hcmp (j + 1) (argBest bt j) v vb _ _ _ hP hPb ?_))))
    refine wpAny_bind (wpAny_holding (wpAny_truthy_bool (wpAny_bind (wpAny_letGo (wpAny_pure ?_)))))
    cases hb : bt (j + 1) (argBest bt j) with
    | true =>
      simp only [if_true]
      refine wpAny_bind (wpAny_updateSeq hS' rfl (wpAny_bind (wpAny_letGo ?_)))
      rw [nm]
      have nf : ∀ b ∈ fp, S ≠ b := fun b hb q => hSf (by rw [q]; exact hb)
      refine wpAny_pure ⟨plainId_quiet F.plain_max_loop _, ih (j + 1) _ v _ (by omega) hlt (W.frame _ _ _ hst' fun b q o e => (Heap.get?_update_other _ _ (nf b q)).trans e) (by simp only [argBest, hb, if_true]; exact hP) (Heap.get?_update_self _ hS' rfl) fun v2 h2 tk2 hP2 hk2 => ?_⟩
      exact hR v2 h2 tk2 hP2 fun b o q1 q2 e => hk2 b o q1 q2 ((Heap.get?_update_other _ _ (Ne.symm q2)).trans (hk' b o q1 e))
    | false =>
      simp only [Bool.false_eq_true, if_false]
      refine wpAny_bind (wpAny_letGo ?_)
      rw [nm]
      refine wpAny_pure ⟨plainId_quiet F.plain_max_loop _, ih (j + 1) _ vb c (by omega) hlt hst' (by simp only [argBest, hb, Bool.false_eq_true, if_false]; exact hPb) hS' fun v2 h2 tk2 hP2 hk2 => ?_⟩
      exact hR v2 h2 tk2 hP2 fun b o q1 q2 e => hk2 b o q1 q2 (hk' b o q1 e)
theorem maxFirst (W : Walks prog w A.in1 I fp wr n P St) (bt : Nat → Nat → Bool) (hcmp : CmpOf prog w A.in1 .Gt P bt) (S : Addr) (hSf : S ∉ fp) (kw : List (Str × Value)) (hn : 0 < n) {s : Shared} {c : Nat} (hst : St 0 s.heap)
    (hS : s.heap.get? S = some { cls := .type "list", dict := none, data := .seq #[] c, slots := #[] })
    (hR : ∀ v h' tk, P (argBest bt (n - 1)) v → (∀ b o, b ∉ wr → b ≠ S → s.heap.get? b = some o → h'.get? b = some o) → R (.ok (.ret v)) { s with heap := h', toks := tk }) :
    codeAny (model prog w) A (.builtin "max.loop" ⟨[.ref I, .none, .ref S], kw⟩) R s := by
  have hSw : S ∉ wr := fun h => hSf (W.sub _ h)
  have nm : (toString "max" ++ toString ".loop" : String) = "max.loop" := by decide
  refine codeAny_builtin F.entry_max_loop ?_
  rw [Around.under_plainId F.plain_max_loop _]
  show wpAny _ A.in1 (seqItems? (.ref S) >>= _) _ _ s
  refine wpAny_bind (wpAny_seqItems hS rfl ?_)
  show wpAny _ A.in1 (tryCatch (pyNext (.ref I)) _ >>= _) _ _ s
  refine wpAny_bind (wpAny_tryCatch (W.item 0 s _ _ hn hst fun v h' tk hP hst' hk' => ?_))
  have hS' := hk' S _ hSw hS
  show wpAny _ A.in1 (updateSeq S (fun _ => #[v, v]) >>= _) _ _ _
  refine wpAny_bind (wpAny_updateSeq hS' rfl ?_)
  rw [nm]
  have nf : ∀ b ∈ fp, S ≠ b := fun b hb q => hSf (by rw [q]; exact hb)
  refine wpAny_pure ⟨plainId_quiet F.plain_max_loop _, maxLoop W bt hcmp S hSf kw _ 0 _ v _ rfl hn (W.frame _ _ _ hst' fun b q o e => (Heap.get?_update_other _ _ (nf b q)).trans e) hP (Heap.get?_update_self _ hS' rfl) fun v2 h2 tk2 hP2 hk2 => ?_⟩
  exact hR v2 h2 tk2 hP2 fun b o q1 q2 e => hk2 b o q1 q2 ((Heap.get?_update_other _ _ (Ne.symm q2)).trans (hk' b o q1 e))
end
section
variable {prog : Program} {w : World} {A : Around} {E : Value → Shared → Prop} {s : Shared}
theorem args_maxD (a d : Value) : argsOk "max" ⟨[a], [(Str.ofString "default", d)]⟩ := by
  unfold argsOk
  kernel_rfl
theorem max_default {l : Addr} {xs : Array (Int × Tok)} {d : Value} {Q : Value → Shared → Prop} (hh : A.handled = none) (hl : s.heap.IsList l (intItems xs)) (hne : 0 < xs.size)
    (h : ∀ v h' tk, (intItems xs)[argBest (fun i j => decide (numAt xs i > numAt xs j)) (xs.size - 1)]? = some v → (∀ b o, s.heap.get? b = some o → h'.get? b = some o) → Q v { s with heap := h', toks := tk }) :
    wpAny (model prog w) A (call (.builtin "max") [.ref l] [(Str.ofString "default", d)]) Q E s := by
  have nm : (toString "max" ++ toString ".loop" : String) = "max.loop" := by decide
  refine wpAny_call (codeAny_call_builtin F.plain_max F.entry_max ?_)
  simp only [checkBuiltinCall, F.kind_max]
  have main : wpAny (model prog w) A.in1 (Builtin.«max» ⟨[.ref l], [(Str.ofString "default", d)]⟩) (fun fin s' => match fin with
      | .done f => (match (Except.ok f : Result) with | .ok (.ret v) => Q v s' | .ok _ => False | .error e => E e s')
      | .again c' => c'.quiet = true ∧ codeAny (model prog w) A c' (fun r s' => match r with | .ok (.ret v) => Q v s' | .ok _ => False | .error e => E e s') s') E s := by
    show wpAny _ A.in1 (Builtin.Builtins.bindParams "max" ["key", "default"] 0 ⟨[], [(Str.ofString "default", d)]⟩ >>= _) _ _ s
    refine wpAny_bind (wpAny_of_eq (show Builtin.Builtins.bindParams "max" ["key", "default"] 0 ⟨[], [(Str.ofString "default", d)]⟩ = pure [none, some d] from rfl) ?_)
    refine wpAny_bind (wpAny_pure (wpAny_bind (iter_intList hl fun s2 e st hfp hlI => ?_)))
    subst e
    refine wpAny_bind (wpAny_newObj_type ?_)
    rw [nm]
    have W := Walks.list (prog := prog) (w := w) (A := A.in1) hh s.heap.objs.size l hlI (intItems xs)
    refine wpAny_pure ⟨plainId_quiet F.plain_max_loop _, maxFirst W _ (CmpOf.ints_gt (numAt xs) fun _ _ => intItems_at) _ (fun hm => Nat.lt_irrefl _ (hfp _ hm)) _ (by simpa [intItems] using hne) (W.frame _ _ _ st fun b _ o e => Heap.get?_push_of_some _ e) (Heap.get?_push_size _ rfl) fun v h' tk hP hk => ?_⟩
    exact h v h' tk (by simpa [intItems] using hP) (old_kept fun b o q e => hk b o q (Nat.ne_of_lt (Heap.lt_size e)) (Heap.get?_push_of_some _ e))
  cases hsig : Manifest.signature? "max" with
  | none => exact wpAny_pure main
  | some sig =>
    have ha := args_maxD (.ref l) d
    simp only [argsOk, hsig] at ha
    have hb : Bind.checkArgs "max" sig ⟨[.ref l], [(Str.ofString "default", d)]⟩ = pure () := ha
    show wpAny _ A.in1 (Bind.checkArgs "max" sig ⟨[.ref l], [(Str.ofString "default", d)]⟩) _ _ s
    rw [hb]
    exact wpAny_pure main
end
section
variable {prog : Program} {w : World} {A : Around} {R : Result → Shared → Prop} {I : Addr} {fp wr : List Addr} {G : Array GenState → Array GenState → Prop} {n : Nat} {P : Nat → Value → Prop} {St : Nat → Shared → Prop}
theorem any_take (xs : List Str) (i : Nat) (z : Str) (hz : xs[i]? = some z) (k : Str) : ((xs.take i).any (· == k) || decide (k = z)) = (xs.take (i + 1)).any (· == k) := by
  rw [List.take_add_one, hz, List.any_append]
  by_cases e : k = z
  · subst e
    simp
  · have : (z == k) = false := by simpa [beq_iff_eq] using fun q : z = k => e q.symm
    simp [e, this]
theorem any_not (xs : List Str) (hnd : xs.Nodup) (i : Nat) (z : Str) (hz : xs[i]? = some z) : (xs.take i).any (· == z) = false := by
  cases hb : (xs.take i).any (· == z) with
  | false => rfl
  | true =>
    obtain ⟨y, hy, ey⟩ := List.any_eq_true.mp hb
    rw [eq_of_beq ey] at hy
    obtain ⟨j, hj⟩ := List.mem_iff_getElem?.mp hy
    rw [List.getElem?_take] at hj
    by_cases hji : j < i
    · rw [if_pos hji] at hj
      exact absurd (L2.nd_ix hnd hj hz) (by omega)
    · rw [if_neg hji] at hj
      cases hj
/-- the loop of set(..) over unlike texts -/
theorem setLoop (W : WalksS prog w A.in1 I fp wr G n P St) (S : Addr) (hSf : S ∉ fp) (xs : List Str) (hnd : xs.Nodup) (hsz : xs.length = n) (hb : n + 1 < scanBound) (hval : ∀ i v, P i v → ∃ t z, xs[i]? = some z ∧ v = .str z t) :
    ∀ (k i : Nat) (s : Shared), n - i = k → i ≤ n → St i s → s.heap.SetOf (PySem.strKind prog w) S (fun k' => (xs.take i).any (· == k')) i →
      (∀ s', Moved (S :: wr) G s s' → s'.heap.SetOf (PySem.strKind prog w) S (fun k' => (xs.take n).any (· == k')) n → R (.ok (.ret .none)) s') →
      codeAny (model prog w) A (.builtin "set.update.loop" ⟨[.ref S, .ref I], []⟩) R s := by
  have hSw : S ∉ wr := fun h => hSf (W.sub _ h)
  have hsub : ∀ b ∈ wr, b ∈ S :: wr := fun b q => List.mem_cons_of_mem _ q
  have ent := PyProof.Rows.F.entry_set_update_loop
  have pl := PyProof.Rows.F.plain_set_update_loop
  intro k
  induction k with
  | zero =>
    intro i s hk hi hst hS hR
    obtain rfl : i = n := by omega
    refine codeAny_builtin ent ?_
    rw [Around.under_plainId pl _]
    show wpAny _ A.in1 (pyNext (.ref I) >>= _) _ _ s
    refine wpAny_bind (W.done s _ _ hst fun s' hm => ?_)
    obtain ⟨o, es, ep, t, ho, rest⟩ := hS
    exact wpAny_pure (hR s' (hm.mono hsub) ⟨o, es, ep, t, hm.heap S _ hSw ho, rest⟩)
  | succ k ih =>
    intro i s hk hi hst hS hR
    have hlt : i < n := by omega
    refine codeAny_builtin ent ?_
    rw [Around.under_plainId pl _]
    show wpAny _ A.in1 (pyNext (.ref I) >>= _) _ _ s
    refine wpAny_bind (W.item i s _ _ hlt hst fun v s' hP hst' hm => ?_)
    obtain ⟨t, z, hz, rfl⟩ := hval i v hP
    have hS' : s'.heap.SetOf (PySem.strKind prog w) S (fun k' => (xs.take i).any (· == k')) i := by
      obtain ⟨o, es, ep, tb, ho, rest⟩ := hS
      exact ⟨o, es, ep, tb, hm.heap S _ hSw ho, rest⟩
    show wpAny _ A.in1 (holding [Value.str z t] (setAdd S (.str z t)) >>= _) _ _ s'
    refine wpAny_bind (wpAny_holding ?_)
    unfold setAdd
    refine wpAny_holding (wpAny_bind ((PySem.strKind prog w).pyHash (k := z) (strKind_is _ _ _ _) ?_))
    refine wpAny_setAddHashed_of (knd := PySem.strKind prog w) (s := { s' with toks := s'.toks + 1 }) (strKind_is _ _ _ _) rfl hS' (by omega) fun h' hsb hS2 => ?_
    have hSi : h'.SetOf (PySem.strKind prog w) S (fun k' => (xs.take (i + 1)).any (· == k')) (i + 1) := PyProof.Rows.SetOf_congr hS2 (any_take xs i z hz) (by rw [any_not xs hnd i z hz]; rfl)
    have nf : ∀ b, b ∈ fp → b ≠ S := fun b q e => hSf (by rw [← e]; exact q)
    refine wpAny_pure ⟨plainId_quiet pl _, ih (i + 1) _ (by omega) hlt (W.frame _ s' _ _ hst' (Nat.le_succ _) fun b q o e => (hsb.2 b (nf b q)).trans e) hSi fun s2 hm2 hS2 => ?_⟩
    exact hR s2 (Moved.trans W.gtrans ((hm.mono hsub).then_heap (Nat.le_succ _) fun b o q e => (hsb.2 b fun z => q (by rw [z]; exact List.mem_cons_self)).trans e) hm2) hS2
end
section
variable {prog : Program} {w : World} {A : Around} {E : Value → Shared → Prop} {s : Shared}
abbrev setOb (led : Bool) : Obj := { cls := .type "set", dict := none, data := .set #[] 0 (.fresh 0 0 led) }
/-- set(l) of a list of unlike texts: each is in, as many as they are -/
theorem set_list {l : Addr} {items : Array Value} {xs : List Str} {Q : Value → Shared → Prop} (hh : A.handled = none) (hl : s.heap.IsList l items) (hi : ∀ (i : Nat) (v : Value), items[i]? = some v → ∃ t z, xs[i]? = some z ∧ v = .str z t)
    (hlen : xs.length = items.size) (hnd : xs.Nodup) (hb : xs.length + 1 < scanBound)
    (h : ∀ (h' : Heap) (tk : Nat), h'.SetOf (PySem.strKind prog w) s.heap.objs.size (fun k' => (xs.take xs.length).any (· == k')) xs.length → (∀ b o, b < s.heap.objs.size → s.heap.get? b = some o → h'.get? b = some o) → Q (.ref s.heap.objs.size) { s with heap := h', toks := tk }) :
    wpAny (model prog w) A (call (.type "set") [.ref l]) Q E s := by
  obtain ⟨c, tl, hmro⟩ := F.called_set.mro
  have hmade := F.called_set.made
  have hsub := F.called_set.sub
  have h1 := F.called_set.notType
  have h2 := F.called_set.canCreate
  have hct := F.typeCall_set_1 (.ref l)
  refine wpAny_call (codeAny_of_tree ?_)
  show wpAny _ _ (callAny (.type "set") _) _ _ _
  refine wpAny_pure ⟨Code.quiet_builtin _ (by decide +kernel), codeAny_builtin F.entry_type_call ?_⟩
  rw [Around.under_plain (weight_type_call_type "set" [.ref l] []) rfl]
  repeat (any_goals (first | assumption | wp_step))
  refine codeAny_mono (code_set_new_1 (.ref l) (E := E) (Q₁ := fun ob s1 => ∃ led : Bool, ob = .ref s.heap.objs.size ∧ s1 = { s with heap := s.heap.push (setOb led) }) fun led => ⟨led, rfl, rfl⟩) fun r s1 hr => ?_
  cases r with
  | error e => exact hr
  | ok fl =>
    cases fl with
    | ret ob =>
      obtain ⟨led, rfl, rfl⟩ := hr
      have hS : (s.heap.push (setOb led)).get? s.heap.objs.size = some (setOb led) := Heap.get?_push_size _ rfl
      have hT : Shared.TypeIs { s with heap := s.heap.push (setOb led) } (.ref s.heap.objs.size) "set" := ⟨_, hS, rfl⟩
      have hli := F.called_set.init.lookup
      have hbi := F.called_set.init.bind (.ref s.heap.objs.size)
      repeat (any_goals (first | assumption | wp_step))
      refine codeAny_mono (codeAny_call_builtin (R := wants (fun r s2 => r = .none ∧ ∃ h' tk, s2 = { s with heap := h', toks := tk } ∧ h'.SetOf (PySem.strKind prog w) s.heap.objs.size (fun k' => (xs.take xs.length).any (· == k')) xs.length ∧
          (∀ b o, b < s.heap.objs.size → s.heap.get? b = some o → h'.get? b = some o)) E) F.called_set.init.plain F.entry_set_init (check_set_init_1 hT ?_)) fun r2 s2 hr2 => ?_
      · obtain ⟨⟨ocls, odict, odata, oslots⟩, hol, hcl, nl, hdl⟩ := id hl
        have hcl : ocls = .type "list" := hcl
        have hdl : odata = .seq items nl := hdl
        subst hcl hdl
        have hol' : (s.heap.push (setOb led)).get? l = some { cls := .type "list", dict := odict, data := .seq items nl, slots := oslots } := Heap.get?_push_of_some _ hol
        have hsls := F.sub_list_set
        have hslf := F.sub_list_frozenset
        have hne : (Value.type "list" == Value.type "dict") = false := by decide
        have hl1 : (s.heap.push (setOb led)).IsList l items := ⟨_, hol', rfl, nl, rfl⟩
        unfold Builtin.«set.__init__» noKeywords Builtin.Frozenset.updateFrom
        generalize hPI : pyIter = PI
        wp_walk
        subst hPI
        refine wpAny_pyIter_list hl1 (wpAny_bind (wpAny_runValue ?_))
        have hlS : l < s.heap.objs.size := Heap.lt_size hol
        have hz : (s.heap.push (setOb led)).objs.size = s.heap.objs.size + 1 := Heap.size_push ..
        have hneI : l ≠ (s.heap.push (setOb led)).objs.size := by rw [hz]; exact Nat.ne_of_lt (Nat.lt_succ_of_lt hlS)
        have hSf : s.heap.objs.size ∉ [(s.heap.push (setOb led)).objs.size, l] := by
          rw [hz]
          intro q
          rcases List.mem_cons.mp q with q | q
          · exact absurd q (Nat.ne_of_lt (Nat.lt_succ_self _))
          · exact absurd (List.mem_singleton.mp q) (Nat.ne_of_gt hlS)
        have hh3 : A.in1.in1.in1.handled = none := by simp [hh]
        refine setLoop ((Walks.list hh3 _ l hneI items).toS) s.heap.objs.size hSf xs hnd hlen (by rw [← hlen]; exact hb) hi (items.size - 0) 0 _ (by omega) (Nat.zero_le _) ⟨⟨_, Heap.get?_push_size _ rfl, rfl, rfl⟩, (hl1.push _)⟩ ?start ?fin
        case start =>
          exact PyProof.Rows.SetOf_congr ((PyProof.Rows.setObjOf_fresh (knd := PySem.strKind prog w) led).setOf (Heap.get?_push_of_some _ hS) (by unfold scanBound; omega)) (fun _ => rfl) rfl
        case fin =>
          rintro ⟨k1, g1, d1, tk1, os1⟩ hm hS'
          obtain rfl : g1 = s.gens := hm.gens
          obtain rfl : d1 = s.drawn := hm.drawn
          obtain rfl : os1 = s.os := hm.os
          rw [← hlen] at hS'
          show wpAny _ _ _ _ _ _
          refine wpAny_pure ?_
          show wpAny _ _ (ret Value.none) _ _ _
          refine wpAny_pure ⟨rfl, k1, tk1, rfl, hS', fun b o q e => hm.heap b o (fun m => ?_) (Heap.get?_push_of_some _ (Heap.get?_push_of_some _ e))⟩
          rcases List.mem_cons.mp m with m | m
          · exact absurd m (Nat.ne_of_lt q)
          · exact absurd (List.mem_singleton.mp m) (by rw [hz]; exact Nat.ne_of_lt (Nat.lt_succ_of_lt q))
      · cases r2 with
        | error e => exact hr2
        | ok fl2 =>
          cases fl2 with
          | ret r =>
            obtain ⟨rfl, h', tk, rfl, hS', hk'⟩ := hr2
            repeat (any_goals (first | assumption | wp_step))
            exact h _ _ hS' hk'
          | _ => exact hr2.elim
    | _ => exact hr.elim
end
end SwL
namespace Sw
open PySem PySem.Spec PyProof.Rows L2

/-! ## rules that the layer lacks -/
section
variable {X : Cx}
/-- z * k of a text, k nought or one -/
def rRepS : R2 := fun x y H Q => ∃ (z : Str) (k : Int), x = .str z ∧ y = .int k ∧ ((k = 0 ∧ Q (.str Str.empty) H) ∨ (k = 1 ∧ Q (.str z) H))
theorem op_repS : OpR X (binaryOp .Mult) rRepS := by
  intro pins s σ H x y v u Q I rx ry h
  obtain ⟨z, k, rfl, rfl, h⟩ := h
  obtain ⟨t, rfl⟩ := rx
  obtain ⟨t2, rfl⟩ := ry
  rcases h with ⟨rfl, q⟩ | ⟨rfl, q⟩
  · exact P.mul_str_none (by decide) (by decide) ⟨.str Str.empty, H, I.tok _, ⟨_, rfl⟩, q⟩
  · refine P.mul_str (by decide) (fun _ h => absurd h (by simp)) (fun _ h => absurd h (by simp)) ?_
    rw [if_neg (by decide), if_pos (by simp)]
    exact ⟨.str z, H, I, ⟨_, rfl⟩, q⟩

/-- repr(x) of data, no repr being under way -/
def rRepr (K : PySem.W.Frag) : List V → Hp → VK → Prop := fun xs H Q => ∃ (a : Addr) (d : PyData), xs = [.ref a] ∧ Dp K H (.ref a) d ∧ d.showable = true ∧ d.hasDict = false ∧ d.depth ≤ 62 ∧ d.shown.length ≤ sizeLine ∧ Q (.str d.shown) H
theorem call_reprD (hg : X.A.guards = some []) (hu : X.A.units + 64 < cLine) : CallR X (.builtin "repr") (rRepr X.K) := by
  intro pins s σ H xs us Q I r h
  obtain ⟨a, d, rfl, hd, h1, h2, h3, h4, q⟩ := h
  rw [Vals.ref1 r]
  obtain ⟨as, hr⟩ := Dp.reads I d _ (Value.ref a) hd rfl
  refine repr_of_reads' (s := s) hr h1 (fun e => ?_) hg (by omega) (fun _ _ e => e) (fun h' u tk hk => ⟨.str d.shown, H, I.kept hk, ⟨_, rfl⟩, q⟩) h4
  rw [h2] at e
  cases e
end
/-! ## for i, x in enumerate(t), t a tuple -/
/-- the tuple at a as it stands at each turn, number and item in a new pair -/
def IteT (K : PySem.W.Frag) (a : Addr) : It :=
  ⟨fun i H => ∃ (xs : List V) (x : V), SqT K H a xs ∧ xs[i]? = some x, fun i H v H' => ∃ T x, v = .ref T ∧ H T = none ∧ H' = upd H T (.tup [.int (i : Nat), x]) ∧ ∀ xs, SqT K H a xs → xs[i]? = some x,
    fun i H => ∃ xs : List V, SqT K H a xs ∧ xs.length ≤ i⟩
theorem turn_enumT {P : Program} {w : World} {K : PySem.W.Frag} {elts : List Expr} {kk : Nat} {tpos : Pos} (a e it : Addr) :
    Turn P w K (.Tuple elts kk tpos) (IteT K a) [e, it] e (fun i h => (∃ old, IsEnum h e it ((i : Nat) : Int) old) ∧ h.IsTupleIter it a i ∧ e ≠ it) where
  mem := by simp
  obj := fun i h st b hb => by
    obtain ⟨⟨old, he⟩, ⟨o, ho, hc, hd⟩, _⟩ := st
    rcases (show b = e ∨ b = it by simpa using hb) with z | z <;> rw [z]
    · exact ⟨_, he, fun v q => nomatch q⟩
    · exact ⟨o, ho, fun v q => by rw [hd] at q; cases q⟩
  keep := fun i h h' st k => ⟨let ⟨old, he⟩ := st.1; ⟨old, k e (by simp) _ he⟩, st.2.1.at fun o q => k it (by simp) o q, st.2.2⟩
  item := by
    intro X hP hw hK hc i pins s σ H E I hf st hg
    subst hP hw hK
    obtain ⟨⟨old, he⟩, hit, hne⟩ := st
    obtain ⟨xs, x, hq, hx⟩ := hg
    obtain ⟨its, rv, p, hz⟩ := I.tuple hq
    obtain ⟨u, hu, ru⟩ := rv.get hx
    have hel : e < s.heap.objs.size := Heap.lt_size he
    have hil : it < s.heap.objs.size := by obtain ⟨_, q, _⟩ := hit; exact Heap.lt_size q
    refine SwL.pyNext_enumT he hit (show s.heap.IsTuple a its.toArray from p) (x := u) (by simpa using hu) hne fun h' ho hit' hT hk => ?_
    refine ⟨_, rfl, wpAny_letOwnedTupleGo_enum (s := { s with heap := h', toks := s.toks + 1 }) ho fun h2 he2 sb => ?_⟩
    have hT2 : h2.get? s.heap.objs.size = some { cls := .type "tuple", data := .seq #[.int i s.toks, u] } := (sb.2 _ (Nat.ne_of_gt hel)).trans hT
    have new : ObjOk X.prog X.w (upd H s.heap.objs.size (.tup [.int (i : Nat), x])) h2 s.heap.objs.size (.tup [.int (i : Nat), x]) := ⟨by show 2 ≤ sizeLine; decide, [.int i s.toks, u], .cons ⟨_, rfl⟩ (.cons ru .nil), _, hT2, rfl, _, rfl⟩
    have I1 : Inv X pins σ (upd H s.heap.objs.size (.tup [.int (i : Nat), x])) { s with heap := h2, toks := s.toks + 1 } :=
      I.turnedNew (ch := [e, it]) (fun b ob hb q => (sb.2 b fun z => hb (by simp [z])).trans (hk b ob (fun z => hb (by simp [z])) (fun z => hb (by simp [z])) q)) hf (Nat.le_refl _) new
    refine ⟨.ref s.heap.objs.size, _, I1, rfl, ⟨_, x, rfl, I.hok.fresh (Nat.le_refl _), rfl, fun ys hy => by rw [I.tuple_inj hy hq]; exact hx⟩, ⟨⟨u, ?_⟩, hit'.at fun o q => (sb.2 it (Ne.symm hne)).trans q, hne⟩, fun b hb => ?_⟩
    · rw [show ((i + 1 : Nat) : Int) = (i : Int) + 1 by omega]
      exact he2
    · have hlt : b < s.heap.objs.size := by
        rcases (show b = e ∨ b = it by simpa using hb) with z | z <;> rw [z] <;> assumption
      rw [upd_ne (Nat.ne_of_lt hlt)]
      exact (hf b hb).1
  done := by
    intro X hP hw hK hc i pins s σ H E I hf st hg
    subst hP hw hK
    obtain ⟨⟨old, he⟩, hit, hne⟩ := st
    obtain ⟨xs, hq, hx⟩ := hg
    obtain ⟨its, rv, p, hz⟩ := I.tuple hq
    obtain ⟨f0, f1, f2, f3, f4, f5⟩ := hf it (by simp)
    have hl := rv.length
    exact SwL.pyNext_enumT_end (I.ok.hd hc) he hit (show s.heap.IsTuple a its.toArray from p) (by simp; omega) fun h' eb => ⟨rfl, I.turned (t' := s.toks) (fun b o hb q => eb b o hb q) f0 f1 f3 f4 f5⟩
  self := fun A i s Q E st h => let ⟨_, he⟩ := st.1; wpAny_pyIter_enum he h
def iEnumT (K : PySem.W.Frag) (ta : TA) : TI := fun σ H R => ta σ H fun vs H1 => ∃ a xs, vs = [.ref a] ∧ SqT K H1 a xs ∧ R (IteT K a) H1
theorem pi_enumT {X : Cx} {e : Expr} {ta : TA} {p pos tpos : Pos} {elts : List Expr} {kk : Nat} (hg : Gl X "enumerate") (hm : X.mg "enumerate" = none) (ha : PA X [e] ta) (hs : starEach [e] X.env = [(false, eval e X.env)] := by rfl) :
    PI X (.Tuple elts kk tpos) (.Call (.Name "enumerate" p) [e] [] pos) (iEnumT X.K ta) := by
  refine ⟨fun pins s σ H R I h => ?_⟩
  refine Call_ (ld_blt I hg hm boot_enumerate (PyProof.Rows.callWith_type1 (thn (ha.run pos pins s σ H _ I h) fun us s1 ⟨vs, H1, I1, r1, q1⟩ => ?_) hs rfl))
  obtain ⟨a, xs, rfl, hq, q⟩ := q1
  rw [Vals.ref1 r1]
  obtain ⟨its, rv, p1, hz⟩ := I1.tuple hq
  refine SwL.call_enumT (show s1.heap.IsTuple a its.toArray from p1) fun h' he hit hk => wpAny_pyIter_enum he ?_
  have I2 : Inv X pins σ H1 { s1 with heap := h' } := I1.kept (t' := s1.toks) hk
  refine ⟨s1.heap.objs.size + 1, [s1.heap.objs.size + 1, s1.heap.objs.size], _, _, H1, rfl, I2, turn_enumT a (s1.heap.objs.size + 1) s1.heap.objs.size, ⟨⟨.none, he⟩, hit, Nat.succ_ne_self _⟩, fun b hb => ?_, q⟩
  have hle : s1.heap.objs.size ≤ b := by
    rcases (show b = s1.heap.objs.size + 1 ∨ b = s1.heap.objs.size by simpa using hb) with z | z <;> rw [z]
    · exact Nat.le_succ _
    · exact Nat.le_refl _
  exact I1.fpOk hle (I1.hok.fresh hle)
/-! ## max(xs, default=0), len(set(xs)) as terms -/
section
variable {X : Cx}
def rMaxD (K : PySem.W.Frag) : List V → List V → Hp → VK → Prop := fun vs zs H Q => (∃ d : Int, zs = [.int d]) ∧ rMax K vs H Q
theorem cr_maxD (hc : X.calm = true) : CallRK X (.builtin "max") [Str.ofString "default"] (rMaxD X.K) := by
  intro pins s σ H vs zs us ws Q I r rz h
  obtain ⟨⟨d, rfl⟩, a, ns, rfl, hs, hne, q⟩ := h
  obtain ⟨its, rv, hl, _⟩ := I.list hs
  rw [Vals.ref1 r]
  obtain ⟨u, rfl, _⟩ := vals1 rz
  have hi := rv.ints
  obtain ⟨xs, e⟩ := hi.allInts.items
  have hn : numsOf (intItems xs).toList = ns := by
    rw [← e]
    exact hi.numsOf
  rw [nums_intItems] at hn
  subst hn
  have hl2 := hl.isList
  rw [e] at hl2
  refine SwL.max_default (I.ok.hd hc) hl2 (by simpa using hne) fun v h' tk hv hk => ?_
  obtain ⟨t, rfl⟩ := intItems_at hv
  obtain ⟨h1, h2⟩ := argBest_gt (numAt xs) (xs.size - 1)
  have hne' : 0 < xs.size := by simpa using hne
  refine ⟨.int _, H, I.kept hk, ⟨_, rfl⟩, q _ ?_ fun y hy => ?_⟩
  · rw [numAt_eq]
    exact PySem.getD_mem (by rw [List.length_map, Array.length_toList]; omega)
  · obtain ⟨j, hj, rfl⟩ := mem_getD hy
    rw [List.length_map, Array.length_toList] at hj
    rw [← numAt_eq]
    exact h2 j (by omega)
/-- len(set(xs)) of a list of unlike texts -/
def tLenSetS (K : PySem.W.Frag) (ta : TE) : TE := fun σ H Q => ta σ H fun x H1 => ∃ (l : Addr) (zs : List Str), x = .ref l ∧ SqL K H1 l (zs.map V.str) ∧ zs.Nodup ∧ zs.length ≤ 4000 ∧ Q (.int (zs.length : Nat)) H1
theorem vals_at : ∀ {zs : List Str} {us : List Value}, Vals (zs.map V.str) us → ∀ (i : Nat) (v : Value), us[i]? = some v → ∃ t z, zs[i]? = some z ∧ v = .str z t
  | [], _, .nil, i, v, h => by simp at h
  | z :: zs, _, .cons r t, 0, v, h => by
    obtain ⟨k, rfl⟩ := r
    have e : Value.str z k = v := by simpa using h
    exact ⟨k, z, rfl, e.symm⟩
  | z :: zs, _, .cons r t, i + 1, v, h => by
    obtain ⟨k, y, h1, h2⟩ := vals_at t i v (by simpa using h)
    exact ⟨k, y, by simpa using h1, h2⟩
theorem pe_lenSetS {a : Expr} {ta : TE} {p p2 q pos : Pos} (hg : Gl X "len") (hm : X.mg "len" = none) (hg2 : Gl X "set") (hm2 : X.mg "set" = none) (ha : PE X a ta) (hc : X.calm = true := by rfl)
    (na : starEach [a] X.env = (false, eval a X.env) :: starEach [] X.env := by rfl) : PE X (.Call (.Name "len" p) [.Call (.Name "set" p2) [a] [] q] [] pos) (tLenSetS X.K ta) := by
  refine ⟨fun pins s σ H Q I h => Call_ (ld_blt I hg hm boot_len ?_)⟩
  refine PyProof.Rows.callWith_builtin1 (PyProof.Rows.args_cons (Call_ (ld_blt I hg2 hm2 boot_set ?_)) rfl) rfl rfl
  refine PyProof.Rows.callWith_type1 (PyProof.Rows.args_cons (thn (ha.run pins s σ H _ I h) fun v s1 ⟨x, H1, I1, r1, q1⟩ => PyProof.Rows.args_nil ?_) na) na rfl
  obtain ⟨l, zs, rfl, hq, hnd, hl, q1⟩ := q1
  cases r1
  obtain ⟨its, r, pl, hz⟩ := I1.list hq
  have hlen : zs.length = its.toArray.size := by rw [List.size_toArray, ← r.length, List.length_map]
  refine SwL.set_list (I1.ok.hd hc) pl.isList (fun i v hv => vals_at r i v (by simpa using hv)) hlen hnd (by unfold scanBound; omega) fun h' tk hS hk => PyProof.Rows.args_nil ?_
  obtain ⟨o, es, ep, t, ho, hex, hd, _, _, _, hf, hn⟩ := hS
  have I2 : Inv X pins σ H1 { s1 with heap := h', toks := tk } := I1.kept fun b o e => hk b o (Heap.lt_size e) e
  exact call_len_set ho hex hd hf (by rw [hn]; omega) ⟨.int zs.length, H1, I2.tok _, ⟨_, by rw [hn]⟩, q1⟩
end
end Sw

-- part SwBase
set_option Elab.async false
set_option linter.all false
set_option maxRecDepth 100000
set_option maxHeartbeats 4000000
namespace Sw
open PySem PySem.Spec PyProof.Rows L2

/-! ## the text behind the top -/
abbrev FnP (K : PySem.W.Frag) (x : Str) (st : Stmt) (f : Addr) (fd : FuncData) : Prop := FunD K x x (defArgs st) (defBody st) (defScope st) [] [] f fd
/-- a name of the top that holds a def that keeps a promise, by at most level k -/
structure Cal (P : Program) (w : World) (K : PySem.W.Frag) (mg : Str → Option Value) (base : Heap) (k : Nat) (x : Str) (sp : Sp) : Prop where
  ex : ∃ (f : Addr) (fd : FuncData) (ps : List Str), FnOk P w K mg base CX0 k f fd ps sp ∧ mg x = some (.ref f) ∧ PySem.W.keepIn K (.ref f) = true ∧ Binds K fd ps []
structure Txt (K : PySem.W.Frag) (mg : Str → Option Value) : Prop where
  says : He.SaysD fa fn K
  at_ : ∃ h : Heap, K.In h ∧ h.Ns mainGlobals mg
section
variable {P : Program} {w : World} {K : PySem.W.Frag} {mg : Str → Option Value} {base : Heap}
theorem Cal.mono {j k : Nat} {x : Str} {sp : Sp} (c : Cal P w K mg base j x sp) (h : j ≤ k) : Cal P w K mg base k x sp := by
  obtain ⟨f, fd, ps, F, r⟩ := c.ex
  exact ⟨f, fd, ps, F.mono h, r⟩
theorem Cal.imp {k : Nat} {x : Str} {sp sp' : Sp} (c : Cal P w K mg base k x sp) (h : ∀ vs H Q E, sp' vs H Q E → sp vs H Q E) : Cal P w K mg base k x sp' := by
  obtain ⟨f, fd, ps, F, r⟩ := c.ex
  exact ⟨f, fd, ps, F.imp h, r⟩
theorem pe_c {X : Cx} {k : Nat} {x : Str} {sp : Sp} {p pos : Pos} {e : Expr} {es : List Expr} {t : TA} (c : Cal X.prog X.w X.K X.mg X.base k x sp) (hr : Room k X.A) (hg : Gl X x) (ha : PA X (e :: es) t) (hdb : (x == ("__debug__" : Str)) = false := by decide)
    (he : starEach (e :: es) X.env = (false, eval e X.env) :: starEach es X.env := by rfl) (hpl : (backTo pos (starEach es X.env)).any (·.1) = false := by rfl) : PE X (.Call (.Name x p) (e :: es) [] pos) (tCall sp [] E0 t) := by
  obtain ⟨f, fd, ps, F, hm, hk, hb⟩ := c.ex
  exact pe_call F hr hg hm hk hb .nil pass0 ha hdb he hpl
theorem pe_gi {X : Cx} {x : Str} {i : Int} {pos : Pos} (h : ∃ t, X.mg x = some (.int i t)) (hg : Gl X x) (hd : (x == ("__debug__" : Str)) = false := by decide) : PE X (.Name x pos) (tC (.int i)) := by
  obtain ⟨t, h⟩ := h
  exact pe_glob hg h ⟨t, rfl⟩ hd
theorem pe_gs {X : Cx} {x z : Str} {pos : Pos} (h : ∃ t, X.mg x = some (.str z t)) (hg : Gl X x) (hd : (x == ("__debug__" : Str)) = false := by decide) : PE X (.Name x pos) (tC (.str z)) := by
  obtain ⟨t, h⟩ := h
  exact pe_glob hg h ⟨t, rfl⟩ hd
end
/-! ### promises by the number of parameters -/
section
variable {P : Program} {w : World} {K : PySem.W.Frag} {mg : Str → Option Value} {base : Heap}
def S1 (Pr : V → Hp → VK → Prop) : Sp := fun vs H Q _ => match vs with
  | [a1] => Pr a1 H Q
  | _ => False
theorem FnP.ok1 {x : Str} {st : Stmt} {f : Addr} {fd : FuncData} {N : List Str} {p1 : Str} {k : Nat} {Pr : V → Hp → VK → Prop} (F : FnP K x st f fd) (S : FnScope N [p1] (defScope st))
    (hb : ∀ (cdv : Value) (A : Around) (outer : List Env) (s : Shared) (H : Hp) (a1 : V) (Q : VK) (E : XK), Room k (A.deeper (envOfC x (defScope st) s.heap.objs.size f cdv)) → Pr a1 H Q →
      ∃ t, PSs (cxOf CX0 P w K mg base N x (defScope st) f cdv A outer s H E).nox (defBody st) t ∧ t { nx := fun _ H' => Q .non H', rt := Q } (start N [a1]) H) : FnOk P w K mg base CX0 (k + 1) f fd [p1] (S1 Pr) := by
  refine FunD.ok F S (fun vs H Q E h => ?_) (fun cdv A outer s H vs Q E hr h => ?_)
  · match vs, h with
    | [_], _ => rfl
  · match vs, h with
    | [a1], h =>
      obtain ⟨t, h1, h2⟩ := hb cdv A outer s H a1 Q E hr h
      exact ⟨t, h1.nox, h2⟩
def S2 (Pr : V → V → Hp → VK → Prop) : Sp := fun vs H Q _ => match vs with
  | [a1, a2] => Pr a1 a2 H Q
  | _ => False
theorem FnP.ok2 {x : Str} {st : Stmt} {f : Addr} {fd : FuncData} {N : List Str} {p1 p2 : Str} {k : Nat} {Pr : V → V → Hp → VK → Prop} (F : FnP K x st f fd) (S : FnScope N [p1, p2] (defScope st))
    (hb : ∀ (cdv : Value) (A : Around) (outer : List Env) (s : Shared) (H : Hp) (a1 a2 : V) (Q : VK) (E : XK), Room k (A.deeper (envOfC x (defScope st) s.heap.objs.size f cdv)) → Pr a1 a2 H Q →
      ∃ t, PSs (cxOf CX0 P w K mg base N x (defScope st) f cdv A outer s H E).nox (defBody st) t ∧ t { nx := fun _ H' => Q .non H', rt := Q } (start N [a1, a2]) H) : FnOk P w K mg base CX0 (k + 1) f fd [p1, p2] (S2 Pr) := by
  refine FunD.ok F S (fun vs H Q E h => ?_) (fun cdv A outer s H vs Q E hr h => ?_)
  · match vs, h with
    | [_, _], _ => rfl
  · match vs, h with
    | [a1, a2], h =>
      obtain ⟨t, h1, h2⟩ := hb cdv A outer s H a1 a2 Q E hr h
      exact ⟨t, h1.nox, h2⟩
def S3 (Pr : V → V → V → Hp → VK → Prop) : Sp := fun vs H Q _ => match vs with
  | [a1, a2, a3] => Pr a1 a2 a3 H Q
  | _ => False
theorem FnP.ok3 {x : Str} {st : Stmt} {f : Addr} {fd : FuncData} {N : List Str} {p1 p2 p3 : Str} {k : Nat} {Pr : V → V → V → Hp → VK → Prop} (F : FnP K x st f fd) (S : FnScope N [p1, p2, p3] (defScope st))
    (hb : ∀ (cdv : Value) (A : Around) (outer : List Env) (s : Shared) (H : Hp) (a1 a2 a3 : V) (Q : VK) (E : XK), Room k (A.deeper (envOfC x (defScope st) s.heap.objs.size f cdv)) → Pr a1 a2 a3 H Q →
      ∃ t, PSs (cxOf CX0 P w K mg base N x (defScope st) f cdv A outer s H E).nox (defBody st) t ∧ t { nx := fun _ H' => Q .non H', rt := Q } (start N [a1, a2, a3]) H) : FnOk P w K mg base CX0 (k + 1) f fd [p1, p2, p3] (S3 Pr) := by
  refine FunD.ok F S (fun vs H Q E h => ?_) (fun cdv A outer s H vs Q E hr h => ?_)
  · match vs, h with
    | [_, _, _], _ => rfl
  · match vs, h with
    | [a1, a2, a3], h =>
      obtain ⟨t, h1, h2⟩ := hb cdv A outer s H a1 a2 a3 Q E hr h
      exact ⟨t, h1.nox, h2⟩
def S4 (Pr : V → V → V → V → Hp → VK → Prop) : Sp := fun vs H Q _ => match vs with
  | [a1, a2, a3, a4] => Pr a1 a2 a3 a4 H Q
  | _ => False
theorem FnP.ok4 {x : Str} {st : Stmt} {f : Addr} {fd : FuncData} {N : List Str} {p1 p2 p3 p4 : Str} {k : Nat} {Pr : V → V → V → V → Hp → VK → Prop} (F : FnP K x st f fd) (S : FnScope N [p1, p2, p3, p4] (defScope st))
    (hb : ∀ (cdv : Value) (A : Around) (outer : List Env) (s : Shared) (H : Hp) (a1 a2 a3 a4 : V) (Q : VK) (E : XK), Room k (A.deeper (envOfC x (defScope st) s.heap.objs.size f cdv)) → Pr a1 a2 a3 a4 H Q →
      ∃ t, PSs (cxOf CX0 P w K mg base N x (defScope st) f cdv A outer s H E).nox (defBody st) t ∧ t { nx := fun _ H' => Q .non H', rt := Q } (start N [a1, a2, a3, a4]) H) : FnOk P w K mg base CX0 (k + 1) f fd [p1, p2, p3, p4] (S4 Pr) := by
  refine FunD.ok F S (fun vs H Q E h => ?_) (fun cdv A outer s H vs Q E hr h => ?_)
  · match vs, h with
    | [_, _, _, _], _ => rfl
  · match vs, h with
    | [a1, a2, a3, a4], h =>
      obtain ⟨t, h1, h2⟩ := hb cdv A outer s H a1 a2 a3 a4 Q E hr h
      exact ⟨t, h1.nox, h2⟩
def S5 (Pr : V → V → V → V → V → Hp → VK → Prop) : Sp := fun vs H Q _ => match vs with
  | [a1, a2, a3, a4, a5] => Pr a1 a2 a3 a4 a5 H Q
  | _ => False
theorem FnP.ok5 {x : Str} {st : Stmt} {f : Addr} {fd : FuncData} {N : List Str} {p1 p2 p3 p4 p5 : Str} {k : Nat} {Pr : V → V → V → V → V → Hp → VK → Prop} (F : FnP K x st f fd) (S : FnScope N [p1, p2, p3, p4, p5] (defScope st))
    (hb : ∀ (cdv : Value) (A : Around) (outer : List Env) (s : Shared) (H : Hp) (a1 a2 a3 a4 a5 : V) (Q : VK) (E : XK), Room k (A.deeper (envOfC x (defScope st) s.heap.objs.size f cdv)) → Pr a1 a2 a3 a4 a5 H Q →
      ∃ t, PSs (cxOf CX0 P w K mg base N x (defScope st) f cdv A outer s H E).nox (defBody st) t ∧ t { nx := fun _ H' => Q .non H', rt := Q } (start N [a1, a2, a3, a4, a5]) H) : FnOk P w K mg base CX0 (k + 1) f fd [p1, p2, p3, p4, p5] (S5 Pr) := by
  refine FunD.ok F S (fun vs H Q E h => ?_) (fun cdv A outer s H vs Q E hr h => ?_)
  · match vs, h with
    | [_, _, _, _, _], _ => rfl
  · match vs, h with
    | [a1, a2, a3, a4, a5], h =>
      obtain ⟨t, h1, h2⟩ := hb cdv A outer s H a1 a2 a3 a4 a5 Q E hr h
      exact ⟨t, h1.nox, h2⟩
def S6 (Pr : V → V → V → V → V → V → Hp → VK → Prop) : Sp := fun vs H Q _ => match vs with
  | [a1, a2, a3, a4, a5, a6] => Pr a1 a2 a3 a4 a5 a6 H Q
  | _ => False
theorem FnP.ok6 {x : Str} {st : Stmt} {f : Addr} {fd : FuncData} {N : List Str} {p1 p2 p3 p4 p5 p6 : Str} {k : Nat} {Pr : V → V → V → V → V → V → Hp → VK → Prop} (F : FnP K x st f fd) (S : FnScope N [p1, p2, p3, p4, p5, p6] (defScope st))
    (hb : ∀ (cdv : Value) (A : Around) (outer : List Env) (s : Shared) (H : Hp) (a1 a2 a3 a4 a5 a6 : V) (Q : VK) (E : XK), Room k (A.deeper (envOfC x (defScope st) s.heap.objs.size f cdv)) → Pr a1 a2 a3 a4 a5 a6 H Q →
      ∃ t, PSs (cxOf CX0 P w K mg base N x (defScope st) f cdv A outer s H E).nox (defBody st) t ∧ t { nx := fun _ H' => Q .non H', rt := Q } (start N [a1, a2, a3, a4, a5, a6]) H) : FnOk P w K mg base CX0 (k + 1) f fd [p1, p2, p3, p4, p5, p6] (S6 Pr) := by
  refine FunD.ok F S (fun vs H Q E h => ?_) (fun cdv A outer s H vs Q E hr h => ?_)
  · match vs, h with
    | [_, _, _, _, _, _], _ => rfl
  · match vs, h with
    | [a1, a2, a3, a4, a5, a6], h =>
      obtain ⟨t, h1, h2⟩ := hb cdv A outer s H a1 a2 a3 a4 a5 a6 Q E hr h
      exact ⟨t, h1.nox, h2⟩
def S7 (Pr : V → V → V → V → V → V → V → Hp → VK → Prop) : Sp := fun vs H Q _ => match vs with
  | [a1, a2, a3, a4, a5, a6, a7] => Pr a1 a2 a3 a4 a5 a6 a7 H Q
  | _ => False
theorem FnP.ok7 {x : Str} {st : Stmt} {f : Addr} {fd : FuncData} {N : List Str} {p1 p2 p3 p4 p5 p6 p7 : Str} {k : Nat} {Pr : V → V → V → V → V → V → V → Hp → VK → Prop} (F : FnP K x st f fd) (S : FnScope N [p1, p2, p3, p4, p5, p6, p7] (defScope st))
    (hb : ∀ (cdv : Value) (A : Around) (outer : List Env) (s : Shared) (H : Hp) (a1 a2 a3 a4 a5 a6 a7 : V) (Q : VK) (E : XK), Room k (A.deeper (envOfC x (defScope st) s.heap.objs.size f cdv)) → Pr a1 a2 a3 a4 a5 a6 a7 H Q →
      ∃ t, PSs (cxOf CX0 P w K mg base N x (defScope st) f cdv A outer s H E).nox (defBody st) t ∧ t { nx := fun _ H' => Q .non H', rt := Q } (start N [a1, a2, a3, a4, a5, a6, a7]) H) : FnOk P w K mg base CX0 (k + 1) f fd [p1, p2, p3, p4, p5, p6, p7] (S7 Pr) := by
  refine FunD.ok F S (fun vs H Q E h => ?_) (fun cdv A outer s H vs Q E hr h => ?_)
  · match vs, h with
    | [_, _, _, _, _, _, _], _ => rfl
  · match vs, h with
    | [a1, a2, a3, a4, a5, a6, a7], h =>
      obtain ⟨t, h1, h2⟩ := hb cdv A outer s H a1 a2 a3 a4 a5 a6 a7 Q E hr h
      exact ⟨t, h1.nox, h2⟩
end
/-! ### the built-ins' names, the constants, the defs -/
section
variable {P : Program} {w : World} {K : PySem.W.Frag} {mg : Str → Option Value} {base : Heap}
theorem Txt.z_bool (T : Txt K mg) : mg "bool" = none := by
  obtain ⟨h, X, G⟩ := T.at_
  exact He.free_ok X G (T.says.fact 58 (f := .free "bool") rfl)
theorem Txt.z_dict (T : Txt K mg) : mg "dict" = none := by
  obtain ⟨h, X, G⟩ := T.at_
  exact He.free_ok X G (T.says.fact 59 (f := .free "dict") rfl)
theorem Txt.z_enumerate (T : Txt K mg) : mg "enumerate" = none := by
  obtain ⟨h, X, G⟩ := T.at_
  exact He.free_ok X G (T.says.fact 60 (f := .free "enumerate") rfl)
theorem Txt.z_int (T : Txt K mg) : mg "int" = none := by
  obtain ⟨h, X, G⟩ := T.at_
  exact He.free_ok X G (T.says.fact 61 (f := .free "int") rfl)
theorem Txt.z_isinstance (T : Txt K mg) : mg "isinstance" = none := by
  obtain ⟨h, X, G⟩ := T.at_
  exact He.free_ok X G (T.says.fact 62 (f := .free "isinstance") rfl)
theorem Txt.z_len (T : Txt K mg) : mg "len" = none := by
  obtain ⟨h, X, G⟩ := T.at_
  exact He.free_ok X G (T.says.fact 63 (f := .free "len") rfl)
theorem Txt.z_list (T : Txt K mg) : mg "list" = none := by
  obtain ⟨h, X, G⟩ := T.at_
  exact He.free_ok X G (T.says.fact 64 (f := .free "list") rfl)
theorem Txt.z_max (T : Txt K mg) : mg "max" = none := by
  obtain ⟨h, X, G⟩ := T.at_
  exact He.free_ok X G (T.says.fact 65 (f := .free "max") rfl)
theorem Txt.z_min (T : Txt K mg) : mg "min" = none := by
  obtain ⟨h, X, G⟩ := T.at_
  exact He.free_ok X G (T.says.fact 66 (f := .free "min") rfl)
theorem Txt.z_range (T : Txt K mg) : mg "range" = none := by
  obtain ⟨h, X, G⟩ := T.at_
  exact He.free_ok X G (T.says.fact 67 (f := .free "range") rfl)
theorem Txt.z_repr (T : Txt K mg) : mg "repr" = none := by
  obtain ⟨h, X, G⟩ := T.at_
  exact He.free_ok X G (T.says.fact 68 (f := .free "repr") rfl)
theorem Txt.z_set (T : Txt K mg) : mg "set" = none := by
  obtain ⟨h, X, G⟩ := T.at_
  exact He.free_ok X G (T.says.fact 69 (f := .free "set") rfl)
theorem Txt.z_sum (T : Txt K mg) : mg "sum" = none := by
  obtain ⟨h, X, G⟩ := T.at_
  exact He.free_ok X G (T.says.fact 70 (f := .free "sum") rfl)
theorem Txt.z_tuple (T : Txt K mg) : mg "tuple" = none := by
  obtain ⟨h, X, G⟩ := T.at_
  exact He.free_ok X G (T.says.fact 71 (f := .free "tuple") rfl)
theorem Txt.z_zip (T : Txt K mg) : mg "zip" = none := by
  obtain ⟨h, X, G⟩ := T.at_
  exact He.free_ok X G (T.says.fact 72 (f := .free "zip") rfl)
theorem Txt.k_WIDE (T : Txt K mg) : ∃ t, mg "WIDE" = some (.int 4294967296 t) := by
  obtain ⟨h, X, G⟩ := T.at_
  exact He.int_ok X G (T.says.fact 73 (f := .int "WIDE" 4294967296) rfl)
theorem Txt.k_MOST_SIZE (T : Txt K mg) : ∃ t, mg "MOST_SIZE" = some (.int 30 t) := by
  obtain ⟨h, X, G⟩ := T.at_
  exact He.int_ok X G (T.says.fact 74 (f := .int "MOST_SIZE" 30) rfl)
theorem Txt.k_NUM_terms (T : Txt K mg) : ∃ t, mg "NUM_terms" = some (.str "num" t) := by
  obtain ⟨h, X, G⟩ := T.at_
  exact He.str_ok X G (T.says.fact 75 (f := .str "NUM_terms" "num") rfl)
theorem Txt.k_NUM_looker (T : Txt K mg) : ∃ t, mg "NUM_looker" = some (.str "num" t) := by
  obtain ⟨h, X, G⟩ := T.at_
  exact He.str_ok X G (T.says.fact 76 (f := .str "NUM_looker" "num") rfl)
theorem Txt.c_kind_told (T : Txt K mg) {k : Nat} {sp : Sp} (h : ∀ fd : FuncData, FnP K "kind_told" s_kind_told (He.ga K "kind_told") fd → FnOk P w K mg base CX0 k (He.ga K "kind_told") fd ["kinds", "name"] sp) : Cal P w K mg base k "kind_told" sp := by
  obtain ⟨h0, X, G⟩ := T.at_
  obtain ⟨fd, F⟩ := T.says.def_ 0 rfl
  exact ⟨_, fd, _, h fd F, He.glo_ok X G (T.says.fact 35 (f := .glo "kind_told") rfl), F.kp, F.bindsN fun _ _ _ _ _ _ us hl => match us, hl with | [_, _], _ => rfl⟩
theorem Txt.c_sort_of (T : Txt K mg) {k : Nat} {sp : Sp} (h : ∀ fd : FuncData, FnP K "sort_of" s_sort_of (He.ga K "sort_of") fd → FnOk P w K mg base CX0 k (He.ga K "sort_of") fd ["kinds", "name"] sp) : Cal P w K mg base k "sort_of" sp := by
  obtain ⟨h0, X, G⟩ := T.at_
  obtain ⟨fd, F⟩ := T.says.def_ 1 rfl
  exact ⟨_, fd, _, h fd F, He.glo_ok X G (T.says.fact 56 (f := .glo "sort_of") rfl), F.kp, F.bindsN fun _ _ _ _ _ _ us hl => match us, hl with | [_, _], _ => rfl⟩
theorem Txt.c_parts_of (T : Txt K mg) {k : Nat} {sp : Sp} (h : ∀ fd : FuncData, FnP K "parts_of" s_parts_of (He.ga K "parts_of") fd → FnOk P w K mg base CX0 k (He.ga K "parts_of") fd ["kinds", "name"] sp) : Cal P w K mg base k "parts_of" sp := by
  obtain ⟨h0, X, G⟩ := T.at_
  obtain ⟨fd, F⟩ := T.says.def_ 2 rfl
  exact ⟨_, fd, _, h fd F, He.glo_ok X G (T.says.fact 54 (f := .glo "parts_of") rfl), F.kp, F.bindsN fun _ _ _ _ _ _ us hl => match us, hl with | [_, _], _ => rfl⟩
theorem Txt.c_size_of (T : Txt K mg) {k : Nat} {sp : Sp} (h : ∀ fd : FuncData, FnP K "size_of" s_size_of (He.ga K "size_of") fd → FnOk P w K mg base CX0 k (He.ga K "size_of") fd ["kinds", "kind"] sp) : Cal P w K mg base k "size_of" sp := by
  obtain ⟨h0, X, G⟩ := T.at_
  obtain ⟨fd, F⟩ := T.says.def_ 3 rfl
  exact ⟨_, fd, _, h fd F, He.glo_ok X G (T.says.fact 55 (f := .glo "size_of") rfl), F.kp, F.bindsN fun _ _ _ _ _ _ us hl => match us, hl with | [_, _], _ => rfl⟩
theorem Txt.c_look_parts (T : Txt K mg) {k : Nat} {sp : Sp} (h : ∀ fd : FuncData, FnP K "look_parts" s_look_parts (He.ga K "look_parts") fd → FnOk P w K mg base CX0 k (He.ga K "look_parts") fd ["ahead", "told"] sp) : Cal P w K mg base k "look_parts" sp := by
  obtain ⟨h0, X, G⟩ := T.at_
  obtain ⟨fd, F⟩ := T.says.def_ 4 rfl
  exact ⟨_, fd, _, h fd F, He.glo_ok X G (T.says.fact 41 (f := .glo "look_parts") rfl), F.kp, F.bindsN fun _ _ _ _ _ _ us hl => match us, hl with | [_, _], _ => rfl⟩
theorem Txt.c_look_kinds (T : Txt K mg) {k : Nat} {sp : Sp} (h : ∀ fd : FuncData, FnP K "look_kinds" s_look_kinds (He.ga K "look_kinds") fd → FnOk P w K mg base CX0 k (He.ga K "look_kinds") fd ["kinds"] sp) : Cal P w K mg base k "look_kinds" sp := by
  obtain ⟨h0, X, G⟩ := T.at_
  obtain ⟨fd, F⟩ := T.says.def_ 5 rfl
  exact ⟨_, fd, _, h fd F, He.glo_ok X G (T.says.fact 40 (f := .glo "look_kinds") rfl), F.kp, F.bindsN fun _ _ _ _ _ _ us hl => match us, hl with | [_], _ => rfl⟩
theorem Txt.c_named (T : Txt K mg) {k : Nat} {sp : Sp} (h : ∀ fd : FuncData, FnP K "named" s_named (He.ga K "named") fd → FnOk P w K mg base CX0 k (He.ga K "named") fd ["some", "name"] sp) : Cal P w K mg base k "named" sp := by
  obtain ⟨h0, X, G⟩ := T.at_
  obtain ⟨fd, F⟩ := T.says.def_ 6 rfl
  exact ⟨_, fd, _, h fd F, He.glo_ok X G (T.says.fact 44 (f := .glo "named") rfl), F.kp, F.bindsN fun _ _ _ _ _ _ us hl => match us, hl with | [_, _], _ => rfl⟩
theorem Txt.c_hand_of (T : Txt K mg) {k : Nat} {sp : Sp} (h : ∀ fd : FuncData, FnP K "hand_of" s_hand_of (He.ga K "hand_of") fd → FnOk P w K mg base CX0 k (He.ga K "hand_of") fd ["make", "h"] sp) : Cal P w K mg base k "hand_of" sp := by
  obtain ⟨h0, X, G⟩ := T.at_
  obtain ⟨fd, F⟩ := T.says.def_ 7 rfl
  exact ⟨_, fd, _, h fd F, He.glo_ok X G (T.says.fact 25 (f := .glo "hand_of") rfl), F.kp, F.bindsN fun _ _ _ _ _ _ us hl => match us, hl with | [_, _], _ => rfl⟩
theorem Txt.c_channel_of (T : Txt K mg) {k : Nat} {sp : Sp} (h : ∀ fd : FuncData, FnP K "channel_of" s_channel_of (He.ga K "channel_of") fd → FnOk P w K mg base CX0 k (He.ga K "channel_of") fd ["make", "c"] sp) : Cal P w K mg base k "channel_of" sp := by
  obtain ⟨h0, X, G⟩ := T.at_
  obtain ⟨fd, F⟩ := T.says.def_ 8 rfl
  exact ⟨_, fd, _, h fd F, He.glo_ok X G (T.says.fact 24 (f := .glo "channel_of") rfl), F.kp, F.bindsN fun _ _ _ _ _ _ us hl => match us, hl with | [_, _], _ => rfl⟩
theorem Txt.c_ways_of (T : Txt K mg) {k : Nat} {sp : Sp} (h : ∀ fd : FuncData, FnP K "ways_of" s_ways_of (He.ga K "ways_of") fd → FnOk P w K mg base CX0 k (He.ga K "ways_of") fd ["rows"] sp) : Cal P w K mg base k "ways_of" sp := by
  obtain ⟨h0, X, G⟩ := T.at_
  obtain ⟨fd, F⟩ := T.says.def_ 9 rfl
  exact ⟨_, fd, _, h fd F, He.glo_ok X G (T.says.fact 57 (f := .glo "ways_of") rfl), F.kp, F.bindsN fun _ _ _ _ _ _ us hl => match us, hl with | [_], _ => rfl⟩
theorem Txt.c_mark_row (T : Txt K mg) {k : Nat} {sp : Sp} (h : ∀ fd : FuncData, FnP K "mark_row" s_mark_row (He.ga K "mark_row") fd → FnOk P w K mg base CX0 k (He.ga K "mark_row") fd ["make", "h", "l"] sp) : Cal P w K mg base k "mark_row" sp := by
  obtain ⟨h0, X, G⟩ := T.at_
  obtain ⟨fd, F⟩ := T.says.def_ 10 rfl
  exact ⟨_, fd, _, h fd F, He.glo_ok X G (T.says.fact 43 (f := .glo "mark_row") rfl), F.kp, F.bindsN fun _ _ _ _ _ _ us hl => match us, hl with | [_, _, _], _ => rfl⟩
theorem Txt.c_need_kind_27 (T : Txt K mg) {k : Nat} {sp : Sp} (h : ∀ fd : FuncData, FnP K "need_kind" s_need_kind_27 (He.ga K "need_kind_terms") fd → FnOk P w K mg base CX0 k (He.ga K "need_kind_terms") fd ["kind", "due"] sp) : Cal P w K mg base k "need_kind_terms" sp := by
  obtain ⟨h0, X, G⟩ := T.at_
  obtain ⟨fd, F⟩ := T.says.def_ 11 rfl
  exact ⟨_, fd, _, h fd F, He.glo_ok X G (T.says.fact 48 (f := .glo "need_kind_terms") rfl), F.kp, F.bindsN fun _ _ _ _ _ _ us hl => match us, hl with | [_, _], _ => rfl⟩
theorem Txt.c_need_sort (T : Txt K mg) {k : Nat} {sp : Sp} (h : ∀ fd : FuncData, FnP K "need_sort" s_need_sort (He.ga K "need_sort") fd → FnOk P w K mg base CX0 k (He.ga K "need_sort") fd ["kinds", "kind", "sort"] sp) : Cal P w K mg base k "need_sort" sp := by
  obtain ⟨h0, X, G⟩ := T.at_
  obtain ⟨fd, F⟩ := T.says.def_ 12 rfl
  exact ⟨_, fd, _, h fd F, He.glo_ok X G (T.says.fact 50 (f := .glo "need_sort") rfl), F.kp, F.bindsN fun _ _ _ _ _ _ us hl => match us, hl with | [_, _, _], _ => rfl⟩
theorem Txt.c_named_sort (T : Txt K mg) {k : Nat} {sp : Sp} (h : ∀ fd : FuncData, FnP K "named_sort" s_named_sort (He.ga K "named_sort") fd → FnOk P w K mg base CX0 k (He.ga K "named_sort") fd ["kinds", "kind", "sort"] sp) : Cal P w K mg base k "named_sort" sp := by
  obtain ⟨h0, X, G⟩ := T.at_
  obtain ⟨fd, F⟩ := T.says.def_ 13 rfl
  exact ⟨_, fd, _, h fd F, He.glo_ok X G (T.says.fact 45 (f := .glo "named_sort") rfl), F.kp, F.bindsN fun _ _ _ _ _ _ us hl => match us, hl with | [_, _, _], _ => rfl⟩
theorem Txt.c_part_kind (T : Txt K mg) {k : Nat} {sp : Sp} (h : ∀ fd : FuncData, FnP K "part_kind" s_part_kind (He.ga K "part_kind") fd → FnOk P w K mg base CX0 k (He.ga K "part_kind") fd ["parts", "name"] sp) : Cal P w K mg base k "part_kind" sp := by
  obtain ⟨h0, X, G⟩ := T.at_
  obtain ⟨fd, F⟩ := T.says.def_ 14 rfl
  exact ⟨_, fd, _, h fd F, He.glo_ok X G (T.says.fact 53 (f := .glo "part_kind") rfl), F.kp, F.bindsN fun _ _ _ _ _ _ us hl => match us, hl with | [_, _], _ => rfl⟩
theorem Txt.c_kind_of_rec (T : Txt K mg) {k : Nat} {sp : Sp} (h : ∀ fd : FuncData, FnP K "kind_of_rec" s_kind_of_rec (He.ga K "kind_of_rec") fd → FnOk P w K mg base CX0 k (He.ga K "kind_of_rec") fd ["kinds", "term", "boxes"] sp) : Cal P w K mg base k "kind_of_rec" sp := by
  obtain ⟨h0, X, G⟩ := T.at_
  obtain ⟨fd, F⟩ := T.says.def_ 15 rfl
  exact ⟨_, fd, _, h fd F, He.glo_ok X G (T.says.fact 32 (f := .glo "kind_of_rec") rfl), F.kp, F.bindsN fun _ _ _ _ _ _ us hl => match us, hl with | [_, _, _], _ => rfl⟩
theorem Txt.c_kind_of_get (T : Txt K mg) {k : Nat} {sp : Sp} (h : ∀ fd : FuncData, FnP K "kind_of_get" s_kind_of_get (He.ga K "kind_of_get") fd → FnOk P w K mg base CX0 k (He.ga K "kind_of_get") fd ["kinds", "term", "boxes"] sp) : Cal P w K mg base k "kind_of_get" sp := by
  obtain ⟨h0, X, G⟩ := T.at_
  obtain ⟨fd, F⟩ := T.says.def_ 16 rfl
  exact ⟨_, fd, _, h fd F, He.glo_ok X G (T.says.fact 30 (f := .glo "kind_of_get") rfl), F.kp, F.bindsN fun _ _ _ _ _ _ us hl => match us, hl with | [_, _, _], _ => rfl⟩
theorem Txt.c_kind_of_tag (T : Txt K mg) {k : Nat} {sp : Sp} (h : ∀ fd : FuncData, FnP K "kind_of_tag" s_kind_of_tag (He.ga K "kind_of_tag") fd → FnOk P w K mg base CX0 k (He.ga K "kind_of_tag") fd ["kinds", "term", "boxes"] sp) : Cal P w K mg base k "kind_of_tag" sp := by
  obtain ⟨h0, X, G⟩ := T.at_
  obtain ⟨fd, F⟩ := T.says.def_ 17 rfl
  exact ⟨_, fd, _, h fd F, He.glo_ok X G (T.says.fact 33 (f := .glo "kind_of_tag") rfl), F.kp, F.bindsN fun _ _ _ _ _ _ us hl => match us, hl with | [_, _, _], _ => rfl⟩
theorem Txt.c_kind_of_arm (T : Txt K mg) {k : Nat} {sp : Sp} (h : ∀ fd : FuncData, FnP K "kind_of_arm" s_kind_of_arm (He.ga K "kind_of_arm") fd → FnOk P w K mg base CX0 k (He.ga K "kind_of_arm") fd ["kinds", "parts", "arm", "boxes"] sp) : Cal P w K mg base k "kind_of_arm" sp := by
  obtain ⟨h0, X, G⟩ := T.at_
  obtain ⟨fd, F⟩ := T.says.def_ 18 rfl
  exact ⟨_, fd, _, h fd F, He.glo_ok X G (T.says.fact 27 (f := .glo "kind_of_arm") rfl), F.kp, F.bindsN fun _ _ _ _ _ _ us hl => match us, hl with | [_, _, _, _], _ => rfl⟩
theorem Txt.c_kind_of_case (T : Txt K mg) {k : Nat} {sp : Sp} (h : ∀ fd : FuncData, FnP K "kind_of_case" s_kind_of_case (He.ga K "kind_of_case") fd → FnOk P w K mg base CX0 k (He.ga K "kind_of_case") fd ["kinds", "term", "boxes"] sp) : Cal P w K mg base k "kind_of_case" sp := by
  obtain ⟨h0, X, G⟩ := T.at_
  obtain ⟨fd, F⟩ := T.says.def_ 19 rfl
  exact ⟨_, fd, _, h fd F, He.glo_ok X G (T.says.fact 29 (f := .glo "kind_of_case") rfl), F.kp, F.bindsN fun _ _ _ _ _ _ us hl => match us, hl with | [_, _, _], _ => rfl⟩
theorem Txt.c_kind_of_two (T : Txt K mg) {k : Nat} {sp : Sp} (h : ∀ fd : FuncData, FnP K "kind_of_two" s_kind_of_two (He.ga K "kind_of_two") fd → FnOk P w K mg base CX0 k (He.ga K "kind_of_two") fd ["kinds", "term", "boxes"] sp) : Cal P w K mg base k "kind_of_two" sp := by
  obtain ⟨h0, X, G⟩ := T.at_
  obtain ⟨fd, F⟩ := T.says.def_ 20 rfl
  exact ⟨_, fd, _, h fd F, He.glo_ok X G (T.says.fact 34 (f := .glo "kind_of_two") rfl), F.kp, F.bindsN fun _ _ _ _ _ _ us hl => match us, hl with | [_, _, _], _ => rfl⟩
theorem Txt.c_kind_of_if (T : Txt K mg) {k : Nat} {sp : Sp} (h : ∀ fd : FuncData, FnP K "kind_of_if" s_kind_of_if (He.ga K "kind_of_if") fd → FnOk P w K mg base CX0 k (He.ga K "kind_of_if") fd ["kinds", "term", "boxes"] sp) : Cal P w K mg base k "kind_of_if" sp := by
  obtain ⟨h0, X, G⟩ := T.at_
  obtain ⟨fd, F⟩ := T.says.def_ 21 rfl
  exact ⟨_, fd, _, h fd F, He.glo_ok X G (T.says.fact 31 (f := .glo "kind_of_if") rfl), F.kp, F.bindsN fun _ _ _ _ _ _ us hl => match us, hl with | [_, _, _], _ => rfl⟩
theorem Txt.c_kind_of_box (T : Txt K mg) {k : Nat} {sp : Sp} (h : ∀ fd : FuncData, FnP K "kind_of_box" s_kind_of_box (He.ga K "kind_of_box") fd → FnOk P w K mg base CX0 k (He.ga K "kind_of_box") fd ["term", "boxes"] sp) : Cal P w K mg base k "kind_of_box" sp := by
  obtain ⟨h0, X, G⟩ := T.at_
  obtain ⟨fd, F⟩ := T.says.def_ 22 rfl
  exact ⟨_, fd, _, h fd F, He.glo_ok X G (T.says.fact 28 (f := .glo "kind_of_box") rfl), F.kp, F.bindsN fun _ _ _ _ _ _ us hl => match us, hl with | [_, _], _ => rfl⟩
theorem Txt.c_kind_of (T : Txt K mg) {k : Nat} {sp : Sp} (h : ∀ fd : FuncData, FnP K "kind_of" s_kind_of (He.ga K "kind_of") fd → FnOk P w K mg base CX0 k (He.ga K "kind_of") fd ["kinds", "term", "boxes"] sp) : Cal P w K mg base k "kind_of" sp := by
  obtain ⟨h0, X, G⟩ := T.at_
  obtain ⟨fd, F⟩ := T.says.def_ 23 rfl
  exact ⟨_, fd, _, h fd F, He.glo_ok X G (T.says.fact 26 (f := .glo "kind_of") rfl), F.kp, F.bindsN fun _ _ _ _ _ _ us hl => match us, hl with | [_, _, _], _ => rfl⟩
theorem Txt.c_need_unlike (T : Txt K mg) {k : Nat} {sp : Sp} (h : ∀ fd : FuncData, FnP K "need_unlike" s_need_unlike (He.ga K "need_unlike") fd → FnOk P w K mg base CX0 k (He.ga K "need_unlike") fd ["names"] sp) : Cal P w K mg base k "need_unlike" sp := by
  obtain ⟨h0, X, G⟩ := T.at_
  obtain ⟨fd, F⟩ := T.says.def_ 24 rfl
  exact ⟨_, fd, _, h fd F, He.glo_ok X G (T.says.fact 51 (f := .glo "need_unlike") rfl), F.kp, F.bindsN fun _ _ _ _ _ _ us hl => match us, hl with | [_], _ => rfl⟩
theorem Txt.c_need_kind_44 (T : Txt K mg) {k : Nat} {sp : Sp} (h : ∀ fd : FuncData, FnP K "need_kind" s_need_kind_44 (He.ga K "need_kind_looker") fd → FnOk P w K mg base CX0 k (He.ga K "need_kind_looker") fd ["kinds", "kind"] sp) : Cal P w K mg base k "need_kind_looker" sp := by
  obtain ⟨h0, X, G⟩ := T.at_
  obtain ⟨fd, F⟩ := T.says.def_ 25 rfl
  exact ⟨_, fd, _, h fd F, He.glo_ok X G (T.says.fact 47 (f := .glo "need_kind_looker") rfl), F.kp, F.bindsN fun _ _ _ _ _ _ us hl => match us, hl with | [_, _], _ => rfl⟩
theorem Txt.c_need_same (T : Txt K mg) {k : Nat} {sp : Sp} (h : ∀ fd : FuncData, FnP K "need_same" s_need_same (He.ga K "need_same") fd → FnOk P w K mg base CX0 k (He.ga K "need_same") fd ["kind", "due"] sp) : Cal P w K mg base k "need_same" sp := by
  obtain ⟨h0, X, G⟩ := T.at_
  obtain ⟨fd, F⟩ := T.says.def_ 26 rfl
  exact ⟨_, fd, _, h fd F, He.glo_ok X G (T.says.fact 49 (f := .glo "need_same") rfl), F.kp, F.bindsN fun _ _ _ _ _ _ us hl => match us, hl with | [_, _], _ => rfl⟩
theorem Txt.c_look_channels (T : Txt K mg) {k : Nat} {sp : Sp} (h : ∀ fd : FuncData, FnP K "look_channels" s_look_channels (He.ga K "look_channels") fd → FnOk P w K mg base CX0 k (He.ga K "look_channels") fd ["make"] sp) : Cal P w K mg base k "look_channels" sp := by
  obtain ⟨h0, X, G⟩ := T.at_
  obtain ⟨fd, F⟩ := T.says.def_ 27 rfl
  exact ⟨_, fd, _, h fd F, He.glo_ok X G (T.says.fact 38 (f := .glo "look_channels") rfl), F.kp, F.bindsN fun _ _ _ _ _ _ us hl => match us, hl with | [_], _ => rfl⟩
theorem Txt.c_own_channel (T : Txt K mg) {k : Nat} {sp : Sp} (h : ∀ fd : FuncData, FnP K "own_channel" s_own_channel (He.ga K "own_channel") fd → FnOk P w K mg base CX0 k (He.ga K "own_channel") fd ["make", "c", "side", "h"] sp) : Cal P w K mg base k "own_channel" sp := by
  obtain ⟨h0, X, G⟩ := T.at_
  obtain ⟨fd, F⟩ := T.says.def_ 28 rfl
  exact ⟨_, fd, _, h fd F, He.glo_ok X G (T.says.fact 52 (f := .glo "own_channel") rfl), F.kp, F.bindsN fun _ _ _ _ _ _ us hl => match us, hl with | [_, _, _, _], _ => rfl⟩
theorem Txt.c_box_kind (T : Txt K mg) {k : Nat} {sp : Sp} (h : ∀ fd : FuncData, FnP K "box_kind" s_box_kind (He.ga K "box_kind") fd → FnOk P w K mg base CX0 k (He.ga K "box_kind") fd ["boxes", "x"] sp) : Cal P w K mg base k "box_kind" sp := by
  obtain ⟨h0, X, G⟩ := T.at_
  obtain ⟨fd, F⟩ := T.says.def_ 29 rfl
  exact ⟨_, fd, _, h fd F, He.glo_ok X G (T.says.fact 23 (f := .glo "box_kind") rfl), F.kp, F.bindsN fun _ _ _ _ _ _ us hl => match us, hl with | [_, _], _ => rfl⟩
theorem Txt.c_look_row (T : Txt K mg) {k : Nat} {sp : Sp} (h : ∀ fd : FuncData, FnP K "look_row" s_look_row (He.ga K "look_row") fd → FnOk P w K mg base CX0 k (He.ga K "look_row") fd ["make", "h", "boxes", "row"] sp) : Cal P w K mg base k "look_row" sp := by
  obtain ⟨h0, X, G⟩ := T.at_
  obtain ⟨fd, F⟩ := T.says.def_ 30 rfl
  exact ⟨_, fd, _, h fd F, He.glo_ok X G (T.says.fact 42 (f := .glo "look_row") rfl), F.kp, F.bindsN fun _ _ _ _ _ _ us hl => match us, hl with | [_, _, _, _], _ => rfl⟩
theorem Txt.c_look_hand (T : Txt K mg) {k : Nat} {sp : Sp} (h : ∀ fd : FuncData, FnP K "look_hand" s_look_hand (He.ga K "look_hand") fd → FnOk P w K mg base CX0 k (He.ga K "look_hand") fd ["make", "hand"] sp) : Cal P w K mg base k "look_hand" sp := by
  obtain ⟨h0, X, G⟩ := T.at_
  obtain ⟨fd, F⟩ := T.says.def_ 31 rfl
  exact ⟨_, fd, _, h fd F, He.glo_ok X G (T.says.fact 39 (f := .glo "look_hand") rfl), F.kp, F.bindsN fun _ _ _ _ _ _ us hl => match us, hl with | [_, _], _ => rfl⟩
theorem Txt.c_look (T : Txt K mg) {k : Nat} {sp : Sp} (h : ∀ fd : FuncData, FnP K "look" s_look (He.ga K "look") fd → FnOk P w K mg base CX0 k (He.ga K "look") fd ["make"] sp) : Cal P w K mg base k "look" sp := by
  obtain ⟨h0, X, G⟩ := T.at_
  obtain ⟨fd, F⟩ := T.says.def_ 32 rfl
  exact ⟨_, fd, _, h fd F, He.glo_ok X G (T.says.fact 37 (f := .glo "look") rfl), F.kp, F.bindsN fun _ _ _ _ _ _ us hl => match us, hl with | [_], _ => rfl⟩
theorem Txt.c_law_feed (T : Txt K mg) {k : Nat} {sp : Sp} (h : ∀ fd : FuncData, FnP K "_law_feed" s_law_feed (He.ga K "_law_feed") fd → FnOk P w K mg base CX0 k (He.ga K "_law_feed") fd ["_law_script", "_law_k"] sp) : Cal P w K mg base k "_law_feed" sp := by
  obtain ⟨h0, X, G⟩ := T.at_
  obtain ⟨fd, F⟩ := T.says.def_ 33 rfl
  exact ⟨_, fd, _, h fd F, He.glo_ok X G (T.says.fact 6 (f := .glo "_law_feed") rfl), F.kp, F.bindsN fun _ _ _ _ _ _ us hl => match us, hl with | [_, _], _ => rfl⟩
theorem Txt.c_law_take (T : Txt K mg) {k : Nat} {sp : Sp} (h : ∀ fd : FuncData, FnP K "_law_take" s_law_take (He.ga K "_law_take") fd → FnOk P w K mg base CX0 k (He.ga K "_law_take") fd ["_law_feed_here", "_law_many"] sp) : Cal P w K mg base k "_law_take" sp := by
  obtain ⟨h0, X, G⟩ := T.at_
  obtain ⟨fd, F⟩ := T.says.def_ 34 rfl
  exact ⟨_, fd, _, h fd F, He.glo_ok X G (T.says.fact 19 (f := .glo "_law_take") rfl), F.kp, F.bindsN fun _ _ _ _ _ _ us hl => match us, hl with | [_, _], _ => rfl⟩
theorem Txt.c_law_names (T : Txt K mg) {k : Nat} {sp : Sp} (h : ∀ fd : FuncData, FnP K "_law_names" s_law_names (He.ga K "_law_names") fd → FnOk P w K mg base CX0 k (He.ga K "_law_names") fd ["_law_cell", "_law_many"] sp) : Cal P w K mg base k "_law_names" sp := by
  obtain ⟨h0, X, G⟩ := T.at_
  obtain ⟨fd, F⟩ := T.says.def_ 35 rfl
  exact ⟨_, fd, _, h fd F, He.glo_ok X G (T.says.fact 11 (f := .glo "_law_names") rfl), F.kp, F.bindsN fun _ _ _ _ _ _ us hl => match us, hl with | [_, _], _ => rfl⟩
theorem Txt.c_law_number (T : Txt K mg) {k : Nat} {sp : Sp} (h : ∀ fd : FuncData, FnP K "_law_number" s_law_number (He.ga K "_law_number") fd → FnOk P w K mg base CX0 k (He.ga K "_law_number") fd ["_law_feed_here"] sp) : Cal P w K mg base k "_law_number" sp := by
  obtain ⟨h0, X, G⟩ := T.at_
  obtain ⟨fd, F⟩ := T.says.def_ 36 rfl
  exact ⟨_, fd, _, h fd F, He.glo_ok X G (T.says.fact 13 (f := .glo "_law_number") rfl), F.kp, F.bindsN fun _ _ _ _ _ _ us hl => match us, hl with | [_], _ => rfl⟩
theorem Txt.c_law_sort_of (T : Txt K mg) {k : Nat} {sp : Sp} (h : ∀ fd : FuncData, FnP K "_law_sort_of" s_law_sort_of (He.ga K "_law_sort_of") fd → FnOk P w K mg base CX0 k (He.ga K "_law_sort_of") fd ["_law_kinds_here", "_law_kind"] sp) : Cal P w K mg base k "_law_sort_of" sp := by
  obtain ⟨h0, X, G⟩ := T.at_
  obtain ⟨fd, F⟩ := T.says.def_ 37 rfl
  exact ⟨_, fd, _, h fd F, He.glo_ok X G (T.says.fact 18 (f := .glo "_law_sort_of") rfl), F.kp, F.bindsN fun _ _ _ _ _ _ us hl => match us, hl with | [_, _], _ => rfl⟩
theorem Txt.c_law_size (T : Txt K mg) {k : Nat} {sp : Sp} (h : ∀ fd : FuncData, FnP K "_law_size" s_law_size (He.ga K "_law_size") fd → FnOk P w K mg base CX0 k (He.ga K "_law_size") fd ["_law_kinds_here", "_law_kind"] sp) : Cal P w K mg base k "_law_size" sp := by
  obtain ⟨h0, X, G⟩ := T.at_
  obtain ⟨fd, F⟩ := T.says.def_ 38 rfl
  exact ⟨_, fd, _, h fd F, He.glo_ok X G (T.says.fact 16 (f := .glo "_law_size") rfl), F.kp, F.bindsN fun _ _ _ _ _ _ us hl => match us, hl with | [_, _], _ => rfl⟩
theorem Txt.c_law_small (T : Txt K mg) {k : Nat} {sp : Sp} (h : ∀ fd : FuncData, FnP K "_law_small" s_law_small (He.ga K "_law_small") fd → FnOk P w K mg base CX0 k (He.ga K "_law_small") fd ["_law_kinds_here", "_law_kind"] sp) : Cal P w K mg base k "_law_small" sp := by
  obtain ⟨h0, X, G⟩ := T.at_
  obtain ⟨fd, F⟩ := T.says.def_ 39 rfl
  exact ⟨_, fd, _, h fd F, He.glo_ok X G (T.says.fact 17 (f := .glo "_law_small") rfl), F.kp, F.bindsN fun _ _ _ _ _ _ us hl => match us, hl with | [_, _], _ => rfl⟩
theorem Txt.c_law_parts (T : Txt K mg) {k : Nat} {sp : Sp} (h : ∀ fd : FuncData, FnP K "_law_parts" s_law_parts (He.ga K "_law_parts") fd → FnOk P w K mg base CX0 k (He.ga K "_law_parts") fd ["_law_feed_here", "_law_kinds_here", "_law_sort", "_law_names_here"] sp) : Cal P w K mg base k "_law_parts" sp := by
  obtain ⟨h0, X, G⟩ := T.at_
  obtain ⟨fd, F⟩ := T.says.def_ 40 rfl
  exact ⟨_, fd, _, h fd F, He.glo_ok X G (T.says.fact 14 (f := .glo "_law_parts") rfl), F.kp, F.bindsN fun _ _ _ _ _ _ us hl => match us, hl with | [_, _, _, _], _ => rfl⟩
theorem Txt.c_law_kinds (T : Txt K mg) {k : Nat} {sp : Sp} (h : ∀ fd : FuncData, FnP K "_law_kinds" s_law_kinds (He.ga K "_law_kinds") fd → FnOk P w K mg base CX0 k (He.ga K "_law_kinds") fd ["_law_feed_here", "_law_names_here"] sp) : Cal P w K mg base k "_law_kinds" sp := by
  obtain ⟨h0, X, G⟩ := T.at_
  obtain ⟨fd, F⟩ := T.says.def_ 41 rfl
  exact ⟨_, fd, _, h fd F, He.glo_ok X G (T.says.fact 9 (f := .glo "_law_kinds") rfl), F.kp, F.bindsN fun _ _ _ _ _ _ us hl => match us, hl with | [_, _], _ => rfl⟩
theorem Txt.c_law_boxed (T : Txt K mg) {k : Nat} {sp : Sp} (h : ∀ fd : FuncData, FnP K "_law_boxed" s_law_boxed (He.ga K "_law_boxed") fd → FnOk P w K mg base CX0 k (He.ga K "_law_boxed") fd ["_law_feed_here", "_law_some"] sp) : Cal P w K mg base k "_law_boxed" sp := by
  obtain ⟨h0, X, G⟩ := T.at_
  obtain ⟨fd, F⟩ := T.says.def_ 42 rfl
  exact ⟨_, fd, _, h fd F, He.glo_ok X G (T.says.fact 2 (f := .glo "_law_boxed") rfl), F.kp, F.bindsN fun _ _ _ _ _ _ us hl => match us, hl with | [_, _], _ => rfl⟩
theorem Txt.c_law_arms (T : Txt K mg) {k : Nat} {sp : Sp} (h : ∀ fd : FuncData, FnP K "_law_arms" s_law_arms (He.ga K "_law_arms") fd → FnOk P w K mg base CX0 k (He.ga K "_law_arms") fd ["_law_feed_here", "_law_kinds_here", "_law_boxes_here", "_law_parts_here", "_law_kind", "_law_room", "_law_deep"] sp) : Cal P w K mg base k "_law_arms" sp := by
  obtain ⟨h0, X, G⟩ := T.at_
  obtain ⟨fd, F⟩ := T.says.def_ 43 rfl
  exact ⟨_, fd, _, h fd F, He.glo_ok X G (T.says.fact 1 (f := .glo "_law_arms") rfl), F.kp, F.bindsN fun _ _ _ _ _ _ us hl => match us, hl with | [_, _, _, _, _, _, _], _ => rfl⟩
theorem Txt.c_law_whole_term (T : Txt K mg) {k : Nat} {sp : Sp} (h : ∀ fd : FuncData, FnP K "_law_whole_term" s_law_whole_term (He.ga K "_law_whole_term") fd → FnOk P w K mg base CX0 k (He.ga K "_law_whole_term") fd ["_law_feed_here", "_law_kinds_here", "_law_boxes_here", "_law_kind", "_law_room", "_law_deep"] sp) : Cal P w K mg base k "_law_whole_term" sp := by
  obtain ⟨h0, X, G⟩ := T.at_
  obtain ⟨fd, F⟩ := T.says.def_ 44 rfl
  exact ⟨_, fd, _, h fd F, He.glo_ok X G (T.says.fact 21 (f := .glo "_law_whole_term") rfl), F.kp, F.bindsN fun _ _ _ _ _ _ us hl => match us, hl with | [_, _, _, _, _, _], _ => rfl⟩
theorem Txt.c_law_term (T : Txt K mg) {k : Nat} {sp : Sp} (h : ∀ fd : FuncData, FnP K "_law_term" s_law_term (He.ga K "_law_term") fd → FnOk P w K mg base CX0 k (He.ga K "_law_term") fd ["_law_feed_here", "_law_kinds_here", "_law_boxes_here", "_law_kind", "_law_room", "_law_deep"] sp) : Cal P w K mg base k "_law_term" sp := by
  obtain ⟨h0, X, G⟩ := T.at_
  obtain ⟨fd, F⟩ := T.says.def_ 45 rfl
  exact ⟨_, fd, _, h fd F, He.glo_ok X G (T.says.fact 20 (f := .glo "_law_term") rfl), F.kp, F.bindsN fun _ _ _ _ _ _ us hl => match us, hl with | [_, _, _, _, _, _], _ => rfl⟩
theorem Txt.c_law_new_term (T : Txt K mg) {k : Nat} {sp : Sp} (h : ∀ fd : FuncData, FnP K "_law_new_term" s_law_new_term (He.ga K "_law_new_term") fd → FnOk P w K mg base CX0 k (He.ga K "_law_new_term") fd ["_law_feed_here", "_law_kinds_here", "_law_boxes_here", "_law_kind"] sp) : Cal P w K mg base k "_law_new_term" sp := by
  obtain ⟨h0, X, G⟩ := T.at_
  obtain ⟨fd, F⟩ := T.says.def_ 46 rfl
  exact ⟨_, fd, _, h fd F, He.glo_ok X G (T.says.fact 12 (f := .glo "_law_new_term") rfl), F.kp, F.bindsN fun _ _ _ _ _ _ us hl => match us, hl with | [_, _, _, _], _ => rfl⟩
theorem Txt.c_law_any_kind (T : Txt K mg) {k : Nat} {sp : Sp} (h : ∀ fd : FuncData, FnP K "_law_any_kind" s_law_any_kind (He.ga K "_law_any_kind") fd → FnOk P w K mg base CX0 k (He.ga K "_law_any_kind") fd ["_law_feed_here", "_law_kinds_here"] sp) : Cal P w K mg base k "_law_any_kind" sp := by
  obtain ⟨h0, X, G⟩ := T.at_
  obtain ⟨fd, F⟩ := T.says.def_ 47 rfl
  exact ⟨_, fd, _, h fd F, He.glo_ok X G (T.says.fact 0 (f := .glo "_law_any_kind") rfl), F.kp, F.bindsN fun _ _ _ _ _ _ us hl => match us, hl with | [_, _], _ => rfl⟩
theorem Txt.c_law_channels (T : Txt K mg) {k : Nat} {sp : Sp} (h : ∀ fd : FuncData, FnP K "_law_channels" s_law_channels (He.ga K "_law_channels") fd → FnOk P w K mg base CX0 k (He.ga K "_law_channels") fd ["_law_feed_here", "_law_kinds_here", "_law_names_here", "_law_hands_here"] sp) : Cal P w K mg base k "_law_channels" sp := by
  obtain ⟨h0, X, G⟩ := T.at_
  obtain ⟨fd, F⟩ := T.says.def_ 48 rfl
  exact ⟨_, fd, _, h fd F, He.glo_ok X G (T.says.fact 4 (f := .glo "_law_channels") rfl), F.kp, F.bindsN fun _ _ _ _ _ _ us hl => match us, hl with | [_, _, _, _], _ => rfl⟩
theorem Txt.c_law_boxes (T : Txt K mg) {k : Nat} {sp : Sp} (h : ∀ fd : FuncData, FnP K "_law_boxes" s_law_boxes (He.ga K "_law_boxes") fd → FnOk P w K mg base CX0 k (He.ga K "_law_boxes") fd ["_law_feed_here", "_law_kinds_here", "_law_channels_here", "_law_h", "_law_names_here"] sp) : Cal P w K mg base k "_law_boxes" sp := by
  obtain ⟨h0, X, G⟩ := T.at_
  obtain ⟨fd, F⟩ := T.says.def_ 49 rfl
  exact ⟨_, fd, _, h fd F, He.glo_ok X G (T.says.fact 3 (f := .glo "_law_boxes") rfl), F.kp, F.bindsN fun _ _ _ _ _ _ us hl => match us, hl with | [_, _, _, _, _], _ => rfl⟩
theorem Txt.c_law_deal (T : Txt K mg) {k : Nat} {sp : Sp} (h : ∀ fd : FuncData, FnP K "_law_deal" s_law_deal (He.ga K "_law_deal") fd → FnOk P w K mg base CX0 k (He.ga K "_law_deal") fd ["_law_feed_here", "_law_kinds_here", "_law_channels_here", "_law_h", "_law_boxes_here", "_law_marks"] sp) : Cal P w K mg base k "_law_deal" sp := by
  obtain ⟨h0, X, G⟩ := T.at_
  obtain ⟨fd, F⟩ := T.says.def_ 50 rfl
  exact ⟨_, fd, _, h fd F, He.glo_ok X G (T.says.fact 5 (f := .glo "_law_deal") rfl), F.kp, F.bindsN fun _ _ _ _ _ _ us hl => match us, hl with | [_, _, _, _, _, _], _ => rfl⟩
theorem Txt.c_law_rows (T : Txt K mg) {k : Nat} {sp : Sp} (h : ∀ fd : FuncData, FnP K "_law_rows" s_law_rows (He.ga K "_law_rows") fd → FnOk P w K mg base CX0 k (He.ga K "_law_rows") fd ["_law_feed_here", "_law_kinds_here", "_law_channels_here", "_law_h", "_law_boxes_here", "_law_names_here"] sp) : Cal P w K mg base k "_law_rows" sp := by
  obtain ⟨h0, X, G⟩ := T.at_
  obtain ⟨fd, F⟩ := T.says.def_ 51 rfl
  exact ⟨_, fd, _, h fd F, He.glo_ok X G (T.says.fact 15 (f := .glo "_law_rows") rfl), F.kp, F.bindsN fun _ _ _ _ _ _ us hl => match us, hl with | [_, _, _, _, _, _], _ => rfl⟩
theorem Txt.c_law_make (T : Txt K mg) {k : Nat} {sp : Sp} (h : ∀ fd : FuncData, FnP K "_law_make" s_law_make (He.ga K "_law_make") fd → FnOk P w K mg base CX0 k (He.ga K "_law_make") fd ["_law_script", "_law_at", "_law_names_here"] sp) : Cal P w K mg base k "_law_make" sp := by
  obtain ⟨h0, X, G⟩ := T.at_
  obtain ⟨fd, F⟩ := T.says.def_ 52 rfl
  exact ⟨_, fd, _, h fd F, He.glo_ok X G (T.says.fact 10 (f := .glo "_law_make") rfl), F.kp, F.bindsN fun _ _ _ _ _ _ us hl => match us, hl with | [_, _, _], _ => rfl⟩
theorem Txt.c_law_hands (T : Txt K mg) {k : Nat} {sp : Sp} (h : ∀ fd : FuncData, FnP K "_law_hands" s_law_hands (He.ga K "_law_hands") fd → FnOk P w K mg base CX0 k (He.ga K "_law_hands") fd ["_law_script", "_law_at", "_law_kinds_here", "_law_channels_here", "_law_many", "_law_names_here"] sp) : Cal P w K mg base k "_law_hands" sp := by
  obtain ⟨h0, X, G⟩ := T.at_
  obtain ⟨fd, F⟩ := T.says.def_ 53 rfl
  exact ⟨_, fd, _, h fd F, He.glo_ok X G (T.says.fact 8 (f := .glo "_law_hands") rfl), F.kp, F.bindsN fun _ _ _ _ _ _ us hl => match us, hl with | [_, _, _, _, _, _], _ => rfl⟩
theorem Txt.c_law_found (T : Txt K mg) {k : Nat} {sp : Sp} (h : ∀ fd : FuncData, FnP K "_law_found" s_law_found (He.ga K "_law_found") fd → FnOk P w K mg base CX0 k (He.ga K "_law_found") fd ["_law_make_here", "_law_names_here"] sp) : Cal P w K mg base k "_law_found" sp := by
  obtain ⟨h0, X, G⟩ := T.at_
  obtain ⟨fd, F⟩ := T.says.def_ 54 rfl
  exact ⟨_, fd, _, h fd F, He.glo_ok X G (T.says.fact 7 (f := .glo "_law_found") rfl), F.kp, F.bindsN fun _ _ _ _ _ _ us hl => match us, hl with | [_, _], _ => rfl⟩
theorem Txt.c_law_wide (T : Txt K mg) {k : Nat} {sp : Sp} (h : ∀ fd : FuncData, FnP K "_law_wide" s_law_wide (He.ga K "_law_wide") fd → FnOk P w K mg base CX0 k (He.ga K "_law_wide") fd ["_law_make_here", "_law_names_here"] sp) : Cal P w K mg base k "_law_wide" sp := by
  obtain ⟨h0, X, G⟩ := T.at_
  obtain ⟨fd, F⟩ := T.says.def_ 55 rfl
  exact ⟨_, fd, _, h fd F, He.glo_ok X G (T.says.fact 22 (f := .glo "_law_wide") rfl), F.kp, F.bindsN fun _ _ _ _ _ _ us hl => match us, hl with | [_, _], _ => rfl⟩
theorem Txt.c_law (T : Txt K mg) {k : Nat} {sp : Sp} (h : ∀ fd : FuncData, FnP K "law" s_law (He.ga K "law") fd → FnOk P w K mg base CX0 k (He.ga K "law") fd ["_law_script"] sp) : Cal P w K mg base k "law" sp := by
  obtain ⟨h0, X, G⟩ := T.at_
  obtain ⟨fd, F⟩ := T.says.def_ 56 rfl
  exact ⟨_, fd, _, h fd F, He.glo_ok X G (T.says.fact 36 (f := .glo "law") rfl), F.kp, F.bindsN fun _ _ _ _ _ _ us hl => match us, hl with | [_], _ => rfl⟩
end
end Sw

-- part SwHeap
set_option Elab.async false
set_option linter.all false
set_option maxRecDepth 100000
set_option maxHeartbeats 4000000
namespace Sw
open PySem PySem.Spec PyProof.Rows L2

/-! ## rules over K by its name, for the inside of a comprehension -/
theorem ix_tupK {X : Cx} (K : PySem.W.Frag) (h : X.K = K := by rfl) : IxR X (rIxT K) := h ▸ ix_tup
theorem ix_listK {X : Cx} (K : PySem.W.Frag) (h : X.K = K := by rfl) : IxR X (rIxL K) := h ▸ ix_list
theorem pg_tupK {X : Cx} {pos : Pos} {es : List Expr} {k : Nat} {t : TGs} {n : Nat} (K : PySem.W.Frag) (hc : X.calm = true) (h : PGs X es t) (hn : (assignEach es X.env).length = n := by rfl) (hst : (assignEach es X.env).findIdx? (·.1) = none := by rfl)
    (hk : X.K = K := by rfl) : PG X (.Tuple es k pos) (gTup K n t) := hk ▸ pg_tup hc h hn hst
/-! ## heaps: all stays but lists at some addresses, and what is new -/
def IsLs (o : HO) : Prop := ∃ xs, o = .lst xs
def Ext (F : List Addr) (H H' : Hp) : Prop := ∀ a o, H a = some o → H' a = some o ∨ (a ∈ F ∧ IsLs o ∧ ∃ ys, H' a = some (.lst ys))
section
variable {F F' : List Addr} {H H1 H2 H' : Hp} {a f p : Addr} {o : HO} {xs ys : List V} {K : PySem.W.Frag}
theorem Ext.refl (F : List Addr) (H : Hp) : Ext F H H := fun _ _ q => .inl q
theorem Ext.trans (e : Ext F H H1) (g : Ext F H1 H2) : Ext F H H2 := fun a o q => by
  rcases e a o q with q1 | ⟨m, i, ys, q1⟩
  · exact g a o q1
  · rcases g a _ q1 with q2 | ⟨_, _, zs, q2⟩
    · exact .inr ⟨m, i, _, q2⟩
    · exact .inr ⟨m, i, zs, q2⟩
theorem Ext.mono (e : Ext F H H') (h : ∀ a ∈ F, a ∈ F') : Ext F' H H' := fun a o q => by
  rcases e a o q with q1 | ⟨m, i, z⟩
  · exact .inl q1
  · exact .inr ⟨h a m, i, z⟩
theorem Ext.nil (e : Ext [] H H') : Ext F H H' := e.mono fun _ q => by cases q
theorem Ext.of (e : Same H H') : Ext F H H' := fun a o q => .inl (e a o q)
theorem Ext.same (e : Ext [] H H') : Same H H' := fun a o q => by
  rcases e a o q with q1 | ⟨m, _⟩
  · exact q1
  · cases m
theorem Ext.new (e : Ext F H H1) (hp : H1 p = none) : Ext F H (upd H1 p o) := fun a u q => by
  rcases e a u q with q1 | ⟨m, i, ys, q1⟩
  · exact .inl (by rw [upd_ne (ne_of_none q1 hp)]; exact q1)
  · exact .inr ⟨m, i, ys, by rw [upd_ne (ne_of_none q1 hp)]; exact q1⟩
/-- what was not there at the start may change -/
theorem Ext.own (e : Ext F H H1) (hp : H p = none) : Ext F H (upd H1 p o) := fun a u q => by
  have n : a ≠ p := ne_of_none q hp
  rcases e a u q with q1 | ⟨m, i, ys, q1⟩
  · exact .inl (by rw [upd_ne n]; exact q1)
  · exact .inr ⟨m, i, ys, by rw [upd_ne n]; exact q1⟩
theorem Ext.put (e : Ext F H H1) (hm : f ∈ F) (hf : H1 f = some (.lst xs)) : Ext F H (upd H1 f (.lst ys)) := fun a u q => by
  by_cases n : a = f
  · subst n
    refine .inr ⟨hm, ?_, ys, upd_same⟩
    rcases e a u q with q1 | ⟨m, i, zs, q1⟩
    · rw [hf] at q1
      cases q1
      exact ⟨_, rfl⟩
    · exact i
  · rcases e a u q with q1 | ⟨m, i, zs, q1⟩
    · exact .inl (by rw [upd_ne n]; exact q1)
    · exact .inr ⟨m, i, zs, by rw [upd_ne n]; exact q1⟩
theorem Ext.free (e : Ext F H H') (h : H' p = none) : H p = none := by
  cases q : H p with
  | none => rfl
  | some o =>
    rcases e p o q with q1 | ⟨_, _, ys, q1⟩ <;> rw [h] at q1 <;> cases q1
theorem Ext.get (e : Ext F H H') (h : a ∉ F) (q : H a = some o) : H' a = some o := by
  rcases e a o q with q1 | ⟨m, _⟩
  · exact q1
  · exact absurd m h
theorem Ext.get1 (e : Ext [f] H H') (h : a ≠ f) (q : H a = some o) : H' a = some o := e.get (by simpa using h) q
theorem Ext.oth (e : Ext F H H') (q : H a = some o) (n : ¬ IsLs o) : H' a = some o := by
  rcases e a o q with q1 | ⟨_, i, _⟩
  · exact q1
  · exact absurd i n
theorem Ext.sqt (e : Ext F H H') (h : SqT K H a xs) : SqT K H' a xs := by
  rcases h with (h | ⟨o, h⟩) | h
  · exact .inl (.inl (e.oth h fun ⟨_, z⟩ => by cases z))
  · exact .inl (.inr ⟨o, e.oth h fun ⟨_, z⟩ => by cases z⟩)
  · exact .inr h
/-- a list of the script's sort (locked), or one that no address of F is -/
theorem Ext.sql (e : Ext F H H') (hn : a ∉ F) (h : SqL K H a xs) : SqL K H' a xs := by
  rcases h with (h | ⟨o, h⟩) | h
  · exact .inl (.inl (e.get hn h))
  · exact .inl (.inr ⟨o, e.get hn h⟩)
  · exact .inr h
end

/-! ## data of ints, texts and tuples that stand at a value -/
mutual
inductive At (K : PySem.W.Frag) (H : Hp) : V → PyData → Prop
  | int (i : Int) : At K H (.int i) (.int i)
  | str (x : Str) : At K H (.str x) (.str x)
  | tup {a : Addr} {xs : List V} {ds : List PyData} : SqT K H a xs → Ats K H xs ds → At K H (.ref a) (.tuple ds)
inductive Ats (K : PySem.W.Frag) (H : Hp) : List V → List PyData → Prop
  | nil : Ats K H [] []
  | cons {v : V} {vs : List V} {d : PyData} {ds : List PyData} : At K H v d → Ats K H vs ds → Ats K H (v :: vs) (d :: ds)
end
section
variable {F : List Addr} {H H' : Hp} {K : PySem.W.Frag}
mutual
theorem At.ext (e : Ext F H H') : ∀ (d : PyData) (v : V), At K H v d → At K H' v d
  | .int _, _, .int i => .int i
  | .str _, _, .str x => .str x
  | .tuple ds, _, .tup h1 h2 => .tup (e.sqt h1) (Ats.ext e ds _ h2)
theorem Ats.ext (e : Ext F H H') : ∀ (ds : List PyData) (vs : List V), Ats K H vs ds → Ats K H' vs ds
  | [], _, .nil => .nil
  | d :: ds, _, .cons h1 h2 => .cons (At.ext e d _ h1) (Ats.ext e ds _ h2)
end
mutual
theorem At.dp : ∀ (d : PyData) (v : V), At K H v d → Dp K H v d
  | .int _, _, .int i => .int i
  | .str _, _, .str x => .str x
  | .tuple ds, _, .tup h1 h2 => .tup h1 (Ats.dp ds _ h2)
theorem Ats.dp : ∀ (ds : List PyData) (vs : List V), Ats K H vs ds → DpAll K H vs ds
  | [], _, .nil => .nil
  | d :: ds, _, .cons h1 h2 => .cons (At.dp d _ h1) (Ats.dp ds _ h2)
end
theorem Ext.at_ (e : Ext F H H') {d : PyData} {v : V} (h : At K H v d) : At K H' v d := At.ext e d v h
theorem Ext.ats (e : Ext F H H') {ds : List PyData} {vs : List V} (h : Ats K H vs ds) : Ats K H' vs ds := Ats.ext e ds vs h
theorem At.toDp {d : PyData} {v : V} (h : At K H v d) : Dp K H v d := At.dp d v h
theorem At.inv_int {v : V} {i : Int} (h : At K H v (.int i)) : v = .int i := by cases h; rfl
theorem At.inv_str {v : V} {x : Str} (h : At K H v (.str x)) : v = .str x := by cases h; rfl
theorem At.inv_tup {v : V} {ds : List PyData} (h : At K H v (.tuple ds)) : ∃ a xs, v = .ref a ∧ SqT K H a xs ∧ Ats K H xs ds := by
  cases h with
  | tup h1 h2 => exact ⟨_, _, rfl, h1, h2⟩
theorem Ats.length : ∀ {vs : List V} {ds : List PyData}, Ats K H vs ds → vs.length = ds.length
  | _, _, .nil => rfl
  | _, _, .cons _ t => congrArg Nat.succ t.length
theorem Ats.get : ∀ {vs : List V} {ds : List PyData}, Ats K H vs ds → ∀ (i : Nat) (v : V), vs[i]? = some v → ∃ d, ds[i]? = some d ∧ At K H v d
  | _, _, .nil, i, v, h => by simp at h
  | _, _, .cons r t, 0, v, h => by
    have e := Option.some.inj h
    subst e
    exact ⟨_, rfl, r⟩
  | _, _, .cons r t, i + 1, v, h => t.get i v h
theorem Ats.get' : ∀ {vs : List V} {ds : List PyData}, Ats K H vs ds → ∀ (i : Nat) (d : PyData), ds[i]? = some d → ∃ v, vs[i]? = some v ∧ At K H v d
  | _, _, .nil, i, v, h => by simp at h
  | _, _, .cons r t, 0, v, h => by
    have e := Option.some.inj h
    subst e
    exact ⟨_, rfl, r⟩
  | _, _, .cons r t, i + 1, v, h => t.get' i v h
theorem Ats.append : ∀ {vs ws : List V} {ds es : List PyData}, Ats K H vs ds → Ats K H ws es → Ats K H (vs ++ ws) (ds ++ es)
  | _, _, _, _, .nil, s => s
  | _, _, _, _, .cons r t, s => .cons r (t.append s)
theorem Ats.snoc {vs : List V} {ds : List PyData} {v : V} {d : PyData} (t : Ats K H vs ds) (r : At K H v d) : Ats K H (vs ++ [v]) (ds ++ [d]) := t.append (.cons r .nil)
theorem Ats.take : ∀ {vs : List V} {ds : List PyData} (n : Nat), Ats K H vs ds → Ats K H (vs.take n) (ds.take n)
  | _, _, 0, _ => .nil
  | _, _, _ + 1, .nil => .nil
  | _, _, n + 1, .cons r t => .cons r (t.take n)
theorem Ats.drop : ∀ {vs : List V} {ds : List PyData} (n : Nat), Ats K H vs ds → Ats K H (vs.drop n) (ds.drop n)
  | _, _, 0, h => h
  | _, _, _ + 1, .nil => .nil
  | _, _, n + 1, .cons r t => t.drop n
theorem Ats.reverse : ∀ {vs : List V} {ds : List PyData}, Ats K H vs ds → Ats K H vs.reverse ds.reverse
  | _, _, .nil => .nil
  | _, _, .cons r t => by
    rw [List.reverse_cons, List.reverse_cons]
    exact t.reverse.snoc r
theorem Ats.strs : ∀ (zs : List Str), Ats K H (zs.map V.str) (zs.map PyData.str)
  | [] => .nil
  | z :: zs => .cons (.str z) (Ats.strs zs)
theorem At.tup1 {v : V} {d1 : PyData} (h : At K H v (.tuple [d1])) : ∃ a x1, v = .ref a ∧ SqT K H a [x1] ∧ At K H x1 d1 := by
  obtain ⟨a, xs, rfl, h1, h2⟩ := h.inv_tup
  cases h2 with
  | cons r1 h2 =>
    cases h2
    exact ⟨a, _, rfl, h1, r1⟩
theorem At.tup2 {v : V} {d1 d2 : PyData} (h : At K H v (.tuple [d1, d2])) : ∃ a x1 x2, v = .ref a ∧ SqT K H a [x1, x2] ∧ At K H x1 d1 ∧ At K H x2 d2 := by
  obtain ⟨a, xs, rfl, h1, h2⟩ := h.inv_tup
  cases h2 with
  | cons r1 h2 =>
    cases h2 with
    | cons r2 h2 =>
      cases h2
      exact ⟨a, _, _, rfl, h1, r1, r2⟩
theorem At.tup3 {v : V} {d1 d2 d3 : PyData} (h : At K H v (.tuple [d1, d2, d3])) : ∃ a x1 x2 x3, v = .ref a ∧ SqT K H a [x1, x2, x3] ∧ At K H x1 d1 ∧ At K H x2 d2 ∧ At K H x3 d3 := by
  obtain ⟨a, xs, rfl, h1, h2⟩ := h.inv_tup
  cases h2 with
  | cons r1 h2 =>
    cases h2 with
    | cons r2 h2 =>
      cases h2 with
      | cons r3 h2 =>
        cases h2
        exact ⟨a, _, _, _, rfl, h1, r1, r2, r3⟩
theorem At.tup4 {v : V} {d1 d2 d3 d4 : PyData} (h : At K H v (.tuple [d1, d2, d3, d4])) : ∃ a x1 x2 x3 x4, v = .ref a ∧ SqT K H a [x1, x2, x3, x4] ∧ At K H x1 d1 ∧ At K H x2 d2 ∧ At K H x3 d3 ∧ At K H x4 d4 := by
  obtain ⟨a, xs, rfl, h1, h2⟩ := h.inv_tup
  cases h2 with
  | cons r1 h2 =>
    cases h2 with
    | cons r2 h2 =>
      cases h2 with
      | cons r3 h2 =>
        cases h2 with
        | cons r4 h2 =>
          cases h2
          exact ⟨a, _, _, _, _, rfl, h1, r1, r2, r3, r4⟩
/-- a tuple just laid -/
theorem At.mk {p : Addr} {xs : List V} {ds : List PyData} (hp : H p = none) (h : Ats K H xs ds) : At K (upd H p (.tup xs)) (.ref p) (.tuple ds) :=
  .tup (.of upd_same) (((Ext.refl [] H).new hp).ats h)
end

/-! ## a feed: a list of two ints, the second one the mixer's -/
def Fd (H : Hp) (f : Addr) : Prop := ∃ c u : Int, H f = some (.lst [.int c, .int u]) ∧ 1 ≤ u ∧ u ≤ 2147483646
section
variable {H : Hp} {f p : Addr} {o : HO}
theorem Fd.new (h : Fd H f) (hp : H p = none) : Fd (upd H p o) f := by
  obtain ⟨c, u, e, b⟩ := h
  exact ⟨c, u, by rw [upd_ne (ne_of_none e hp)]; exact e, b⟩
theorem Fd.oth (h : Fd H f) (hp : f ≠ p) : Fd (upd H p o) f := by
  obtain ⟨c, u, e, b⟩ := h
  exact ⟨c, u, by rw [upd_ne hp]; exact e, b⟩
theorem Fd.ext {H' : Hp} (e : Ext [] H H') (h : Fd H f) : Fd H' f := by
  obtain ⟨c, u, q, b⟩ := h
  exact ⟨c, u, e.same _ _ q, b⟩
theorem Fd.ne (h : Fd H f) (hp : H p = none) : f ≠ p := by
  obtain ⟨c, u, e, b⟩ := h
  exact ne_of_none e hp
end
end Sw

-- part SwA
set_option Elab.async false
set_option linter.all false
set_option maxRecDepth 100000
set_option maxHeartbeats 4000000
namespace Sw
open PySem PySem.Spec PyProof.Rows L2
section
variable {P : Program} {w : World} {K : PySem.W.Frag} {mg : Str → Option Value} {base : Heap}
/-! ## _law_take: the next draw of a feed, below many -/
abbrev N_law_take : List Str := ["_law_feed_here", "_law_many", "_law_digit", "_law_one"]
theorem sc_law_take : FnScope N_law_take ["_law_feed_here", "_law_many"] (defScope s_law_take) := ⟨rfl, rfl, rfl, by decide +kernel, rfl, by decide +kernel, by decide +kernel⟩
-- slots: 0 _law_feed_here, 1 _law_many, 2 _law_digit, 3 _law_one
def prTake : V → V → Hp → VK → Prop := fun a b H Q => ∃ (f : Addr) (n : Int), a = .ref f ∧ b = .int n ∧ 0 < n ∧ n ≤ 4294967296 ∧ Fd H f ∧ ∀ (d : Int) (H' : Hp), 0 ≤ d → d < n → Ext [f] H H' → Fd H' f → Q (.int d) H'
theorem c_law_take (T : Txt K mg) : Cal P w K mg base 1 "_law_take" (S2 prTake) := T.c_law_take fun fd F => F.ok2 sc_law_take fun cdv A outer s H a b Q E hr h => by
  obtain ⟨f, n, rfl, rfl, n0, n1, ⟨c, u, hf, u0, u1⟩, q⟩ := h
  refine ⟨_, (pss_cons (ps_if (pt_cmpR op_gt (pe_ix ix_list (pv 0) pe_int (fun _ _ => rfl)) pe_int (nomark _))
    (pss_cons (ps_set (i := 2) sc_law_take.nd rfl (Or.inl rfl) (pe_op op_mod (pe_ix ix_list (pv 0) pe_int (fun _ _ => rfl)) (pv 1)))
    (pss_cons (ps_asg (pe_op op_fdivW (pe_ix ix_list (pv 0) pe_int (fun _ _ => rfl)) (pv 1)) (pg_sub (pv 0) pe_int set_list))
    (pss_one (ps_ret (pv 2)))))
    pss_nil)
    (pss_cons (ps_set (i := 3) sc_law_take.nd rfl (Or.inl rfl) (pe_op op_mod (pe_op op_mul (pe_ix ix_list (pv 0) pe_int (fun _ _ => rfl)) pe_int) pe_int))
    (pss_cons (ps_asg (pe_op op_add (pe_op op_mod (pe_op op_add (pe_op op_mul (pv 3) pe_int) pe_int) pe_int) pe_int) (pg_sub (pv 0) pe_int set_list))
    (pss_one (ps_ret (pe_op op_mod (pe_op op_fdivW (pe_op op_add (pe_op op_mul (pv 3) pe_int) (pe_ix ix_list (pv 0) pe_int (fun _ _ => rfl))) pe_int) (pv 1))))))), ?_⟩
  have hn : n.natAbs < 2 ^ 40 := by omega
  refine ⟨_, rfl, f, _, _, _, rfl, rfl, .of hf, atI_nat (j := 0) rfl, _, _, rfl, rfl, _, rfl, ?_⟩
  refine ite2 (fun hc => ?_) (fun hc => ?_)
  · refine ⟨_, rfl, f, _, _, _, rfl, rfl, .of hf, atI_nat (j := 0) rfl, _, rfl, _, _, rfl, rfl, n0, ?_⟩
    refine ⟨_, rfl, f, _, _, _, rfl, rfl, .of hf, atI_nat (j := 0) rfl, _, rfl, _, _, rfl, rfl, wide_div n0 hn (by decide) (by decide), ?_⟩
    refine ⟨_, rfl, f, _, _, 0, rfl, rfl, hf, rfl, _, rfl, ?_⟩
    exact q _ _ (Int.emod_nonneg _ (by omega)) (Int.emod_lt_of_pos _ n0) ((Ext.refl _ _).put (by simp) hf) ⟨_, _, upd_same, u0, u1⟩
  · have hm : ∀ i : Int, 0 ≤ i % 2147483647 ∧ i % 2147483647 < 2147483647 := fun i => ⟨Int.emod_nonneg _ (by decide), Int.emod_lt_of_pos _ (by decide)⟩
    refine ⟨_, rfl, f, _, _, _, rfl, rfl, .of hf, atI_nat (j := 1) rfl, _, _, rfl, rfl, .inl (by constructor <;> omega), _, _, rfl, rfl, (show (0 : Int) < 2147483647 by decide), ?_⟩
    have m1 := hm (u * 69621)
    generalize u * 69621 % 2147483647 = o at m1
    refine ⟨_, rfl, _, _, rfl, rfl, .inl (by constructor <;> omega), _, _, rfl, rfl, _, _, rfl, rfl, (show (0 : Int) < 2147483646 by decide), _, _, rfl, rfl, _, rfl, f, _, _, 1, rfl, rfl, hf, rfl, ?_⟩
    have h1 : 0 ≤ (o * 48271 + 30103) % 2147483646 := Int.emod_nonneg _ (by decide)
    have h2 : (o * 48271 + 30103) % 2147483646 < 2147483646 := Int.emod_lt_of_pos _ (by decide)
    generalize (o * 48271 + 30103) % 2147483646 = z at h1 h2
    refine ⟨_, rfl, _, _, rfl, rfl, .inl (by constructor <;> omega), _, rfl, f, _, _, _, rfl, rfl, .of upd_same, atI_nat (j := 1) rfl, _, _, rfl, rfl, _, _, rfl, rfl, wide_div (b := 13) (by decide) (by decide) (by decide) (by decide), _, rfl, _, _, rfl, rfl, n0, ?_⟩
    exact q _ _ (Int.emod_nonneg _ (by omega)) (Int.emod_lt_of_pos _ n0) ((Ext.refl _ _).put (by simp) hf) ⟨_, _, upd_same, by omega, by omega⟩
/-! ## _law_feed: a new feed of a cell -/
abbrev N_law_feed : List Str := ["_law_script", "_law_k", "_law_cell"]
theorem sc_law_feed : FnScope N_law_feed ["_law_script", "_law_k"] (defScope s_law_feed) := ⟨rfl, rfl, rfl, by decide +kernel, rfl, by decide +kernel, by decide +kernel⟩
-- slots: 0 _law_script, 1 _law_k, 2 _law_cell
def prFeed (K : PySem.W.Frag) : V → V → Hp → VK → Prop := fun a b H Q => ∃ (s : Addr) (ns : List Int) (k : Int), a = .ref s ∧ b = .int k ∧ SqL K H s (ns.map V.int) ∧ ns.length ≤ 63 ∧ 0 ≤ k ∧ k ≤ 1000 ∧ ∀ (f : Addr) (H' : Hp), H f = none → Ext [] H H' → Fd H' f → Q (.ref f) H'
theorem feed_at {ns : List Int} {k : Int} (h0 : 0 ≤ k) (h : k < (ns.length : Int)) : ∃ v, atI (ns.map V.int) k = some (.int v) := by
  have e : k = ((k.toNat : Nat) : Int) := by omega
  have hk : k.toNat < ns.length := by omega
  exact ⟨ns[k.toNat], at_of e (by simp [hk])⟩
theorem feed_new {H : Hp} {Q : VK} {p : Addr} (c z : Int) (hp : H p = none) (q : ∀ (f : Addr) (H' : Hp), H f = none → Ext [] H H' → Fd H' f → Q (.ref f) H') : Q (.ref p) (upd H p (.lst [.int c, .int (z % 2147483646 + 1)])) := by
  refine q p _ hp ((Ext.refl _ _).new hp) ⟨_, _, upd_same, ?_, ?_⟩
  · have := Int.emod_nonneg z (show (2147483646 : Int) ≠ 0 by decide)
    omega
  · have := Int.emod_lt_of_pos z (show (0 : Int) < 2147483646 by decide)
    omega
theorem c_law_feed (T : Txt K mg) : Cal P w K mg base 1 "_law_feed" (S2 (prFeed K)) := T.c_law_feed fun fd F => F.ok2 sc_law_feed fun cdv A outer s H a b Q E hr h => by
  obtain ⟨sc, ns, k, rfl, rfl, hs, hl, k0, k1, q⟩ := h
  refine ⟨_, (pss_cons (ps_set (i := 2) sc_law_feed.nd rfl (Or.inl rfl) pe_int)
    (C8.pss_cut (ps_if (pt_cmpR op_lt (pv 1) (pe_callB call_len_seq (by rfl) T.z_len PySem.boot_len (pa_cons (pv 0) pa_nil)) (nomark _))
    (pss_one (ps_set (i := 2) sc_law_feed.nd rfl (Or.inl rfl) (pe_ix ix_list (pv 0) (pv 1) (fun _ _ => rfl))))
    pss_nil)
    (pss_cons (ps_if (PW.pt (pw_and (pt_cmpR op_gt (pe_callB call_len_seq (by rfl) T.z_len PySem.boot_len (pa_cons (pv 0) pa_nil)) pe_int (nomark _)) (pw_and1 (pt_cmpR op_eq (pe_op op_mod (pe_ix ix_list (pv 0) pe_int (fun _ _ => rfl)) pe_int) pe_int (nomark _)))))
    (pss_one (ps_ret (pe_lst (pa_cons (pv 2) (pa_cons (pe_op op_add (pe_op op_mod (pe_op op_add (pe_op op_mul (pe_op op_mod (pv 2) pe_int) pe_int) (pe_op op_mul pe_int (pv 1))) pe_int) pe_int) pa_nil)))))
    pss_nil)
    (C8.pss_cut (ps_if (PW.pt (pw_and (pt_cmpR op_ge (pv 1) (pe_callB call_len_seq (by rfl) T.z_len PySem.boot_len (pa_cons (pv 0) pa_nil)) (nomark _)) (pw_and1 (pt_cmpR op_gt (pe_callB call_len_seq (by rfl) T.z_len PySem.boot_len (pa_cons (pv 0) pa_nil)) pe_int (nomark _)))))
    (pss_one (ps_set (i := 2) sc_law_feed.nd rfl (Or.inl rfl) (pe_op op_add (pe_ix ix_list (pv 0) (pe_op op_mod (pv 1) (pe_callB call_len_seq (by rfl) T.z_len PySem.boot_len (pa_cons (pv 0) pa_nil))) (fun _ _ => rfl)) (pe_op op_mul pe_int (pv 1)))))
    pss_nil)
    (pss_one (ps_ret (pe_lst (pa_cons pe_int (pa_cons (pe_op op_add (pe_op op_mod (pe_op op_add (pe_op op_mul (pe_op op_mod (pv 2) pe_int) pe_int) (pe_op op_mul pe_int (pv 1))) pe_int) pe_int) pa_nil))))))))), ?_⟩
  have hz : (ns.map V.int).length = ns.length := List.length_map _
  have cm : ∀ c : Int, CMul (c % 2147483629) 48271 := fun c => .inl (by
    have := Int.emod_nonneg c (show (2147483629 : Int) ≠ 0 by decide)
    have := Int.emod_lt_of_pos c (show (0 : Int) < 2147483629 by decide)
    constructor <;> omega)
  have ck : CMul 40692 k := .inl (by constructor <;> decide)
  have pm : (0 : Int) < 2147483646 := by decide
  have pn : (0 : Int) < 2147483629 := by decide
  have p2 : (0 : Int) < 2 := by decide
  have two : (2 : Nat) ≤ sizeLine := by decide
  refine ⟨fun σ' H' => H' = H ∧ ∃ c : Int, σ' = [some (.ref sc), some (.int k), some (.int c)], ?_, ?_⟩
  · refine ⟨_, rfl, _, rfl, sc, _, rfl, .inl hs, _, _, rfl, rfl, _, rfl, ite2 (fun hc => ?_) (fun hc => ⟨rfl, 0, rfl⟩)⟩
    rw [hz] at hc
    obtain ⟨v, hv⟩ := feed_at k0 (of_decide_eq_true hc)
    exact ⟨_, rfl, _, rfl, sc, _, _, _, rfl, rfl, hs, hv, rfl, v, rfl⟩
  · rintro σ' H' ⟨rfl, c, rfl⟩
    have odd : ∀ hpos : 0 < ns.length, ∃ v, atI (ns.map V.int) 0 = some (.int v) := fun hpos => feed_at (by decide) (by omega)
    refine ⟨_, rfl, sc, _, rfl, .inl hs, _, _, rfl, rfl, _, rfl, ?_⟩
    refine ite2 (fun hc => ?_) (fun hc => iteF ?_)
    · rw [hz] at hc
      have hpos : 0 < ns.length := by have := of_decide_eq_true hc; omega
      obtain ⟨v, hv⟩ := odd hpos
      refine ⟨_, rfl, sc, _, _, _, rfl, rfl, hs, hv, _, _, rfl, rfl, p2, rfl, _, rfl, ite2 (fun _ => ?_) (fun _ => ?_)⟩
      · exact ⟨_, rfl, _, rfl, _, _, rfl, rfl, pn, _, _, rfl, rfl, cm c, _, rfl, _, _, rfl, rfl, ck, _, _, rfl, rfl, _, _, rfl, rfl, pm, _, _, rfl, rfl, two, fun p hp => feed_new _ _ hp q⟩
      · refine ⟨fun σ' H2 => H2 = H' ∧ ∃ c : Int, σ' = [some (.ref sc), some (.int k), some (.int c)], ?_, ?_⟩
        · refine ⟨_, rfl, _, rfl, sc, _, rfl, .inl hs, _, _, rfl, rfl, _, rfl, ite2 (fun hc2 => ?_) (fun hc2 => iteF ⟨rfl, c, rfl⟩)⟩
          have hm0 : 0 ≤ k % ((ns.map V.int).length : Int) := Int.emod_nonneg _ (by omega)
          have hm1 : k % ((ns.map V.int).length : Int) < ((ns.map V.int).length : Int) := Int.emod_lt_of_pos _ (by omega)
          obtain ⟨v2, hv2⟩ := feed_at (ns := ns) hm0 (by omega)
          refine ⟨_, rfl, sc, _, rfl, .inl hs, _, _, rfl, rfl, _, rfl, ite2 (fun hc3 => ?_) (fun hc3 => ⟨rfl, c, rfl⟩)⟩
          exact ⟨_, rfl, _, rfl, _, rfl, sc, _, rfl, .inl hs, _, _, rfl, rfl, (by show (0 : Int) < ((ns.map V.int).length : Int); omega), sc, _, _, _, rfl, rfl, hs, hv2, _, rfl, _, _, rfl, rfl, .inl (by decide), _, _, rfl, rfl, rfl, _, rfl⟩
        · rintro σ2 H2 ⟨rfl, c2, rfl⟩
          exact ⟨_, rfl, _, _, rfl, rfl, pn, _, _, rfl, rfl, cm c2, _, rfl, _, _, rfl, rfl, ck, _, _, rfl, rfl, _, _, rfl, rfl, pm, _, _, rfl, rfl, two, fun p hp => feed_new _ _ hp q⟩
    · refine ⟨fun σ' H2 => H2 = H' ∧ ∃ c : Int, σ' = [some (.ref sc), some (.int k), some (.int c)], ?_, ?_⟩
      · refine ⟨_, rfl, _, rfl, sc, _, rfl, .inl hs, _, _, rfl, rfl, _, rfl, ite2 (fun hc2 => ?_) (fun hc2 => iteF ⟨rfl, c, rfl⟩)⟩
        exact ⟨_, rfl, sc, _, rfl, .inl hs, _, _, rfl, rfl, _, rfl, ite2 (fun h3 => absurd h3 hc) (fun _ => ⟨rfl, c, rfl⟩)⟩
      · rintro σ2 H2 ⟨rfl, c2, rfl⟩
        exact ⟨_, rfl, _, _, rfl, rfl, pn, _, _, rfl, rfl, cm c2, _, rfl, _, _, rfl, rfl, ck, _, _, rfl, rfl, _, _, rfl, rfl, pm, _, _, rfl, rfl, two, fun p hp => feed_new _ _ hp q⟩
end
end Sw

-- part SwPure
set_option Elab.async false
set_option linter.all false
set_option maxRecDepth 100000
set_option maxHeartbeats 4000000
namespace Sw
open PySem PySem.Spec PyProof.Rows L2

/-! # the plain part: names, kinds, terms, rows, makes -/
/-! ## data that is small: texts of few signs, numbers below 2 ^ 32 -/
def okS (x : Str) : Bool := decide (x.length ≤ 8) && x.cps.all (· < 128)
mutual
def good : PyData → Bool
  | .int i => decide (0 ≤ i ∧ i < 4294967296)
  | .str x => okS x
  | .tuple xs => goods xs
  | _ => false
def goods : List PyData → Bool
  | [] => true
  | x :: xs => good x && goods xs
end
mutual
def wt : PyData → Nat
  | .tuple xs => wts xs + 1
  | _ => 1
def wts : List PyData → Nat
  | [] => 0
  | x :: xs => wt x + wts xs
end
theorem goods_all : ∀ (xs : List PyData), goods xs = true ↔ ∀ x ∈ xs, good x = true
  | [] => by simp [goods]
  | x :: xs => by simp [goods, goods_all xs]
theorem wts_append : ∀ (xs ys : List PyData), wts (xs ++ ys) = wts xs + wts ys
  | [], ys => by simp [wts]
  | x :: xs, ys => by simp [wts, wts_append xs ys]; omega
theorem wts_reverse : ∀ (xs : List PyData), wts xs.reverse = wts xs
  | [] => rfl
  | x :: xs => by rw [List.reverse_cons, wts_append, wts_reverse xs]; simp [wts]; omega
theorem wts_le {b : Nat} : ∀ (xs : List PyData), (∀ x ∈ xs, wt x ≤ b) → wts xs ≤ b * xs.length
  | [], _ => by simp [wts]
  | x :: xs, h => by
    have h1 := h x List.mem_cons_self
    have h2 := wts_le xs fun y hy => h y (List.mem_cons_of_mem _ hy)
    rw [List.length_cons, Nat.mul_succ]
    simp only [wts]
    omega
mutual
theorem good_lay : ∀ d : PyData, good d = true → d.canLay0 = true
  | .int _, _ => by simp only [PyData.canLay0]
  | .str x, h => by
    simp only [good, okS, Bool.and_eq_true] at h
    simp only [PyData.canLay0, PyData.strOk]
    refine Array.all_eq_true.mpr fun i hi => ?_
    have := Array.all_eq_true.mp h.2 i hi
    simp only [decide_eq_true_eq] at this ⊢
    omega
  | .tuple xs, h => by
    simp only [good] at h
    simp only [PyData.canLay0]
    exact goods_lay xs h
  | .none, h => by simp [good] at h
  | .bool _, h => by simp [good] at h
  | .list _, h => by simp [good] at h
  | .dict _, h => by simp [good] at h
theorem goods_lay : ∀ ds : List PyData, goods ds = true → PyData.canLayAll0 ds = true
  | [], _ => by simp only [PyData.canLayAll0]
  | d :: ds, h => by
    simp only [goods, Bool.and_eq_true] at h
    simp only [PyData.canLayAll0, Bool.and_eq_true]
    exact ⟨good_lay d h.1, goods_lay ds h.2⟩
end
theorem log2_small {n : Nat} (h : n < 4294967296) : n.log2 < 1920 := by
  by_cases e : n = 0
  · subst e; decide
  · exact (Nat.log2_lt e).mpr (Nat.lt_of_lt_of_le h (by
      show 2 ^ 32 ≤ 2 ^ 1920
      exact Nat.pow_le_pow_right (by decide) (by decide)))
mutual
theorem good_show : ∀ d : PyData, good d = true → d.showable = true
  | .int i, h => by
    simp only [good, decide_eq_true_eq] at h
    simp only [PyData.showable, decide_eq_true_eq]
    exact log2_small (by omega)
  | .str x, h => by simp only [PyData.showable]
  | .tuple xs, h => by
    simp only [good] at h
    simp only [PyData.showable]
    exact goods_show xs h
  | .none, h => by simp [good] at h
  | .bool _, h => by simp [good] at h
  | .list _, h => by simp [good] at h
  | .dict _, h => by simp [good] at h
theorem goods_show : ∀ ds : List PyData, goods ds = true → PyData.showableAll ds = true
  | [], _ => by simp only [PyData.showableAll]
  | d :: ds, h => by
    simp only [goods, Bool.and_eq_true] at h
    simp only [PyData.showableAll, Bool.and_eq_true]
    exact ⟨good_show d h.1, goods_show ds h.2⟩
end
mutual
theorem good_nodict : ∀ d : PyData, good d = true → d.hasDict = false
  | .int i, h => by simp only [PyData.hasDict]
  | .str x, h => by simp only [PyData.hasDict]
  | .tuple xs, h => by
    simp only [good] at h
    simp only [PyData.hasDict]
    exact goods_nodict xs h
  | .none, h => by simp [good] at h
  | .bool _, h => by simp [good] at h
  | .list _, h => by simp [good] at h
  | .dict _, h => by simp [good] at h
theorem goods_nodict : ∀ ds : List PyData, goods ds = true → PyData.hasDictAll ds = false
  | [], _ => by simp only [PyData.hasDictAll]
  | d :: ds, h => by
    simp only [goods, Bool.and_eq_true] at h
    simp only [PyData.hasDictAll, good_nodict d h.1, goods_nodict ds h.2, Bool.or_self]
end
theorem int_len {i : Int} (h0 : 0 ≤ i) (h : i < 4294967296) : (Str.ofString (toString i)).length ≤ 12 := by
  have e := int_text_length_le10 (a := i) (k := 10) (by decide) (by omega)
  rw [PySem.ofString_length]
  omega
mutual
theorem good_len : ∀ d : PyData, good d = true → d.shown.length + 4 ≤ 100 * wt d
  | .int i, h => by
    simp only [good, decide_eq_true_eq] at h
    have := int_len h.1 h.2
    simp only [PyData.shown, wt]
    omega
  | .str x, h => by
    simp only [good, okS, Bool.and_eq_true, decide_eq_true_eq] at h
    have := StrLaws.reprText_len x fun c hc => by
      obtain ⟨i, hi, e⟩ := Array.mem_iff_getElem.mp (Array.mem_toList_iff.mp hc)
      have := Array.all_eq_true.mp h.2 i hi
      simp only [decide_eq_true_eq] at this
      omega
    simp only [PyData.shown, wt]
    omega
  | .tuple xs, h => by
    simp only [good] at h
    simp only [PyData.shown, wt]
    have h1 := fmt_text (PyData.shownAll xs)
    have h2 := goods_len xs h
    omega
  | .none, h => by simp [good] at h
  | .bool _, h => by simp [good] at h
  | .list _, h => by simp [good] at h
  | .dict _, h => by simp [good] at h
theorem goods_len : ∀ ds : List PyData, goods ds = true → piled (PyData.shownAll ds) ≤ 100 * wts ds
  | [], _ => by simp [PyData.shownAll, piled]
  | d :: ds, h => by
    simp only [goods, Bool.and_eq_true] at h
    have h1 := good_len d h.1
    have h2 := goods_len ds h.2
    simp only [PyData.shownAll, wts, piled_cons]
    omega
end

/-! ## names -/
/-- a name as the law makes them: no three signs without one of q x z v w -/
def NameP (z : Str) : Prop := z.length ≤ 6 ∧ (∀ c ∈ z.cps.toList, c < 128) ∧ (z.length = 3 → ∃ c ∈ z.cps.toList, c ∈ [113, 120, 122, 118, 119])
theorem NameP.okS {z : Str} (h : NameP z) : okS z = true := by
  simp only [Sw.okS, Bool.and_eq_true, decide_eq_true_eq]
  refine ⟨by have := h.1; omega, Array.all_eq_true.mpr fun i hi => ?_⟩
  simp only [decide_eq_true_eq]
  exact h.2.1 _ (Array.mem_toList_iff.mpr (Array.getElem_mem hi))
theorem NameP.ne {z y : Str} (h : NameP z) (h3 : y.length = 3) (hn : ∀ c ∈ y.cps.toList, c ∉ [113, 120, 122, 118, 119]) : z ≠ y := by
  rintro rfl
  obtain ⟨c, h1, h2⟩ := h.2.2 h3
  exact hn c h1 h2
theorem NameP.num {z : Str} (h : NameP z) : z ≠ "num" := h.ne (by decide +kernel) (by decide +kernel)
/-- the box that a case's arms bring at a depth -/
def byN (j : Nat) : Str := ("by" : Str) ++ ⟨#[97 + j]⟩
theorem NameP.by_ {z : Str} (h : NameP z) : z ≠ byN 0 ∧ z ≠ byN 1 ∧ z ≠ byN 2 := ⟨h.ne (by decide +kernel) (by decide +kernel), h.ne (by decide +kernel) (by decide +kernel), h.ne (by decide +kernel) (by decide +kernel)⟩

/-! ## pairs by their first part -/
def lk : List (Str × Str) → Str → Option Str
  | [], _ => none
  | p :: l, x => if p.1 = x then some p.2 else lk l x
theorem lk_mem : ∀ {l : List (Str × Str)} {x k : Str}, lk l x = some k → (x, k) ∈ l
  | [], _, _, h => by cases h
  | p :: l, x, k, h => by
    unfold lk at h
    split at h
    · cases h
      subst_vars
      exact List.mem_cons_self
    · exact List.mem_cons_of_mem _ (lk_mem h)
theorem lk_of : ∀ {l : List (Str × Str)} {x k : Str}, (l.map (·.1)).Nodup → (x, k) ∈ l → lk l x = some k
  | [], _, _, _, h => by cases h
  | p :: l, x, k, hn, h => by
    rw [List.map_cons, List.nodup_cons] at hn
    unfold lk
    rcases List.mem_cons.mp h with e | h
    · rw [← e, if_pos rfl]
    · rw [if_neg fun e => hn.1 (by rw [e]; exact List.mem_map.mpr ⟨_, h, rfl⟩)]
      exact lk_of hn.2 h
theorem lk_none : ∀ {l : List (Str × Str)} {x : Str}, x ∉ l.map (·.1) → lk l x = none
  | [], _, _ => rfl
  | p :: l, x, h => by
    unfold lk
    rw [if_neg fun e => h (by rw [← e]; exact List.mem_cons_self)]
    exact lk_none fun q => h (List.mem_cons_of_mem _ q)

/-! ## kinds, the newest first -/
structure Kd where
  name : Str
  alt : Bool
  parts : List (Str × Str)
def sortS (b : Bool) : Str := if b then "alt" else "rec"
def prD (p : Str × Str) : PyData := .tuple [.str p.1, .str p.2]
def prsD (l : List (Str × Str)) : PyData := .tuple (l.map prD)
def kdD (k : Kd) : PyData := .tuple [.str k.name, .str (sortS k.alt), prsD k.parts]
def findR : List Kd → Str → Option Kd
  | [], _ => none
  | kd :: rs, k => if kd.name = k then some kd else findR rs k
def maxL : List Nat → Nat
  | [] => 0
  | n :: l => max n (maxL l)
def szOf (kd : Kd) (f : Str → Nat) : Nat := if kd.alt then 1 + maxL (kd.parts.map fun p => f p.2) else 1 + (kd.parts.map fun p => f p.2).sum
def smOf (kd : Kd) (f : Str → Nat) : Nat := if kd.alt then 1 + (match kd.parts with
  | [] => 0
  | p :: _ => f p.2) else 1 + (kd.parts.map fun p => f p.2).sum
def szR : List Kd → Str → Nat
  | [], _ => 1
  | kd :: rs, k => if kd.name = k then szOf kd (szR rs) else szR rs k
def smR : List Kd → Str → Nat
  | [], _ => 1
  | kd :: rs, k => if kd.name = k then smOf kd (smR rs) else smR rs k
/-- how many kinds ahead a kind may lean on, and itself -/
def rk : List Kd → Str → Nat
  | [], _ => 0
  | kd :: rs, k => if kd.name = k then rs.length + 1 else rk rs k
/-- num, or the name of a kind -/
def Vk (rs : List Kd) (k : Str) : Prop := k = "num" ∨ ∃ kd ∈ rs, kd.name = k
/-- a new kind over those ahead -/
structure KdOk (rs : List Kd) (kd : Kd) : Prop where
  name : NameP kd.name
  new : ∀ k ∈ rs, k.name ≠ kd.name
  nd : (kd.parts.map (·.1)).Nodup
  pn : ∀ p ∈ kd.parts, NameP p.1
  pk : ∀ p ∈ kd.parts, Vk rs p.2
  few : kd.parts.length ≤ 4
  ne : kd.alt = true → kd.parts ≠ []
  size : szOf kd (szR rs) ≤ 30
def KsOk : List Kd → Prop
  | [] => True
  | kd :: rs => KsOk rs ∧ KdOk rs kd
theorem szOf_congr {kd : Kd} {f g : Str → Nat} (h : ∀ p ∈ kd.parts, f p.2 = g p.2) : szOf kd f = szOf kd g := by
  unfold szOf
  rw [show (kd.parts.map fun p => f p.2) = kd.parts.map fun p => g p.2 from List.map_congr_left h]
theorem smOf_congr {kd : Kd} {f g : Str → Nat} (h : ∀ p ∈ kd.parts, f p.2 = g p.2) : smOf kd f = smOf kd g := by
  unfold smOf
  rw [show (kd.parts.map fun p => f p.2) = kd.parts.map fun p => g p.2 from List.map_congr_left h]
  split
  · cases e : kd.parts with
    | nil => rfl
    | cons p l => exact congrArg (1 + ·) (h p (by rw [e]; exact List.mem_cons_self))
  · rfl
theorem Vk.ne {rs : List Kd} {kd : Kd} (h : KdOk rs kd) {k : Str} (v : Vk rs k) : kd.name ≠ k := by
  rcases v with rfl | ⟨k2, m, rfl⟩
  · exact h.name.num
  · exact fun e => h.new k2 m e.symm
theorem Vk.cons {rs : List Kd} {kd : Kd} {k : Str} (v : Vk rs k) : Vk (kd :: rs) k := by
  rcases v with h | ⟨k2, m, h⟩
  · exact .inl h
  · exact .inr ⟨k2, List.mem_cons_of_mem _ m, h⟩
theorem sz_cons {rs : List Kd} {kd : Kd} (h : KdOk rs kd) {k : Str} (v : Vk rs k) : szR (kd :: rs) k = szR rs k := if_neg (v.ne h)
theorem sm_cons {rs : List Kd} {kd : Kd} (h : KdOk rs kd) {k : Str} (v : Vk rs k) : smR (kd :: rs) k = smR rs k := if_neg (v.ne h)
theorem rk_cons {rs : List Kd} {kd : Kd} (h : KdOk rs kd) {k : Str} (v : Vk rs k) : rk (kd :: rs) k = rk rs k := if_neg (v.ne h)
theorem rk_le : ∀ (rs : List Kd) (k : Str), rk rs k ≤ rs.length
  | [], _ => Nat.le_refl _
  | kd :: rs, k => by
    unfold rk
    split
    · exact Nat.le_refl _
    · exact Nat.le_succ_of_le (rk_le rs k)
theorem find_name : ∀ {rs : List Kd} {k : Str} {kd : Kd}, findR rs k = some kd → kd ∈ rs ∧ kd.name = k
  | [], _, _, h => by cases h
  | k0 :: rs, k, kd, h => by
    unfold findR at h
    split at h
    · cases h
      exact ⟨List.mem_cons_self, by assumption⟩
    · exact ⟨List.mem_cons_of_mem _ (find_name h).1, (find_name h).2⟩
theorem find_none : ∀ {rs : List Kd} {k : Str}, findR rs k = none → ∀ kd ∈ rs, kd.name ≠ k
  | [], _, _, _, h => by cases h
  | k0 :: rs, k, h, kd, m => by
    unfold findR at h
    split at h
    · cases h
    · rcases List.mem_cons.mp m with e | m
      · subst e; assumption
      · exact find_none h kd m
theorem find_num : ∀ {rs : List Kd}, KsOk rs → findR rs "num" = none
  | [], _ => rfl
  | k0 :: rs, h => by
    unfold findR
    rw [if_neg h.2.name.num]
    exact find_num h.1
theorem Vk.none {rs : List Kd} {k : Str} (v : Vk rs k) (h : findR rs k = none) : k = "num" := by
  rcases v with e | ⟨kd, m, e⟩
  · exact e
  · exact absurd e (find_none h kd m)
theorem sz_num : ∀ {rs : List Kd}, KsOk rs → szR rs "num" = 1 ∧ smR rs "num" = 1 ∧ rk rs "num" = 0
  | [], _ => ⟨rfl, rfl, rfl⟩
  | k0 :: rs, h => by
    unfold szR smR rk
    rw [if_neg h.2.name.num, if_neg h.2.name.num, if_neg h.2.name.num]
    exact sz_num h.1
/-- what is known of a kind that is found -/
structure KdAt (rs : List Kd) (k : Str) (kd : Kd) : Prop where
  name : kd.name = k
  nameP : NameP kd.name
  nd : (kd.parts.map (·.1)).Nodup
  pn : ∀ p ∈ kd.parts, NameP p.1
  pk : ∀ p ∈ kd.parts, Vk rs p.2 ∧ rk rs p.2 < rk rs k
  few : kd.parts.length ≤ 4
  ne : kd.alt = true → kd.parts ≠ []
  sz : szR rs k = szOf kd (szR rs)
  sm : smR rs k = smOf kd (smR rs)
  size : szR rs k ≤ 30
theorem kd_at : ∀ {rs : List Kd}, KsOk rs → ∀ {k : Str} {kd : Kd}, findR rs k = some kd → KdAt rs k kd
  | [], _, _, _, h => by cases h
  | k0 :: rs, ok, k, kd, h => by
    unfold findR at h
    split at h
    · rename_i e
      cases h
      have o := ok.2
      have e1 : szR (k0 :: rs) k = szOf k0 (szR rs) := if_pos e
      have e2 : smR (k0 :: rs) k = smOf k0 (smR rs) := if_pos e
      have e3 : rk (k0 :: rs) k = rs.length + 1 := if_pos e
      refine ⟨e, o.name, o.nd, o.pn, fun p hp => ⟨(o.pk p hp).cons, ?_⟩, o.few, o.ne, ?_, ?_, by rw [e1]; exact o.size⟩
      · rw [rk_cons o (o.pk p hp), e3]
        exact Nat.lt_succ_of_le (rk_le _ _)
      · rw [e1]
        exact szOf_congr fun p hp => (sz_cons o (o.pk p hp)).symm
      · rw [e2]
        exact smOf_congr fun p hp => (sm_cons o (o.pk p hp)).symm
    · rename_i e
      have a := kd_at ok.1 h
      have o := ok.2
      have e1 : szR (k0 :: rs) k = szR rs k := if_neg e
      have e2 : smR (k0 :: rs) k = smR rs k := if_neg e
      have e3 : rk (k0 :: rs) k = rk rs k := if_neg e
      refine ⟨a.name, a.nameP, a.nd, a.pn, fun p hp => ⟨(a.pk p hp).1.cons, ?_⟩, a.few, a.ne, ?_, ?_, by rw [e1]; exact a.size⟩
      · rw [rk_cons o (a.pk p hp).1, e3]
        exact (a.pk p hp).2
      · rw [e1, a.sz]
        exact szOf_congr fun p hp => (sz_cons o (a.pk p hp).1).symm
      · rw [e2, a.sm]
        exact smOf_congr fun p hp => (sm_cons o (a.pk p hp).1).symm
theorem maxL_le : ∀ {l : List Nat} {n : Nat}, n ∈ l → n ≤ maxL l
  | [], _, h => by cases h
  | a :: l, n, h => by
    unfold maxL
    rcases List.mem_cons.mp h with e | h
    · subst e; exact Nat.le_max_left _ _
    · exact Nat.le_trans (maxL_le h) (Nat.le_max_right _ _)
theorem maxL_is : ∀ {l : List Nat} {m : Nat}, m ∈ l → (∀ n ∈ l, n ≤ m) → maxL l = m
  | [], _, h, _ => by cases h
  | a :: l, m, h, hl => by
    have h1 : maxL (a :: l) ≤ m := by
      have : ∀ (l : List Nat), (∀ n ∈ l, n ≤ m) → maxL l ≤ m := fun l => by
        induction l with
        | nil => intro _; exact Nat.zero_le _
        | cons b l ih => intro hb; unfold maxL; exact Nat.max_le.mpr ⟨hb b List.mem_cons_self, ih fun n hn => hb n (List.mem_cons_of_mem _ hn)⟩
      exact this _ hl
    exact Nat.le_antisymm h1 (maxL_le h)
theorem sum_le {α : Type} {f g : α → Nat} : ∀ (l : List α), (∀ x ∈ l, f x ≤ g x) → (l.map f).sum ≤ (l.map g).sum
  | [], _ => Nat.le_refl _
  | x :: l, h => by
    rw [List.map_cons, List.map_cons, List.sum_cons, List.sum_cons]
    have h1 := h x List.mem_cons_self
    have h2 := sum_le l fun y hy => h y (List.mem_cons_of_mem _ hy)
    omega
/-- small is at least one, and no more than the size -/
theorem sm_le : ∀ {rs : List Kd} (k : Str), 1 ≤ smR rs k ∧ smR rs k ≤ szR rs k
  | [], k => ⟨Nat.le_refl _, Nat.le_refl _⟩
  | kd :: rs, k => by
    unfold smR szR
    split
    · unfold smOf szOf
      split
      · cases e : kd.parts with
        | nil => exact ⟨by simp, by simp⟩
        | cons p l =>
          refine ⟨by simp, ?_⟩
          have h1 := (sm_le (rs := rs) p.2).2
          have h2 : szR rs p.2 ≤ maxL ((p :: l).map fun p => szR rs p.2) := maxL_le (List.mem_cons_self)
          show 1 + smR rs p.2 ≤ _
          omega
      · have := sum_le (f := fun p => smR rs p.2) (g := fun p => szR rs p.2) kd.parts fun p _ => (sm_le p.2).2
        omega
    · exact sm_le k
theorem sz_le {rs : List Kd} (ok : KsOk rs) {k : Str} (v : Vk rs k) : szR rs k ≤ 30 := by
  cases h : findR rs k with
  | none =>
    rw [v.none h, (sz_num ok).1]
    decide
  | some kd => exact (kd_at ok h).size
/-- in the order of the text -/
theorem find_rev : ∀ {rs : List Kd}, KsOk rs → ∀ (k : Str), rs.reverse.find? (fun x => decide (x.name = k)) = findR rs k
  | [], _, _ => rfl
  | k0 :: rs, ok, k => by
    rw [List.reverse_cons, List.find?_append, find_rev ok.1 k]
    show _ = if k0.name = k then some k0 else findR rs k
    by_cases e : k0.name = k
    · rw [if_pos e]
      cases h : findR rs k with
      | none => simp [List.find?_cons, e]
      | some kd =>
        obtain ⟨m, n⟩ := find_name h
        exact absurd (n.trans e.symm) (ok.2.new kd m)
    · rw [if_neg e]
      cases h : findR rs k with
      | none => simp [List.find?_cons, e]
      | some kd => rfl
end Sw

-- part SwPure2
set_option Elab.async false
set_option linter.all false
set_option maxRecDepth 100000
set_option maxHeartbeats 4000000
namespace Sw
open PySem PySem.Spec PyProof.Rows L2

/-! ## terms of a kind -/
structure Arm where
  tag : Str
  box : Str
  term : PyData
def armD (a : Arm) : PyData := .tuple [.str a.tag, .str a.box, a.term]
def boxD (x : Str) : PyData := .tuple [.str "box", .str x]
inductive WT (rs : List Kd) : Nat → List (Str × Str) → Str → PyData → Prop
  | num {m : Nat} {G : List (Str × Str)} (n : Int) : 0 ≤ n → n < 4294967296 → WT rs m G "num" (.tuple [.str "num", .int n])
  | box {m : Nat} {G : List (Str × Str)} {x k : Str} : lk G x = some k → WT rs m G k (boxD x)
  | op {m : Nat} {G : List (Str × Str)} {s : Str} {a b : PyData} : WT rs m G "num" a → WT rs m G "num" b → WT rs (m + 1) G "num" (.tuple [.str "op", .str s, a, b])
  | get {m : Nat} {G : List (Str × Str)} {x k f kn : Str} {kd : Kd} : lk G x = some k → findR rs k = some kd → kd.alt = false → lk kd.parts f = some kn → WT rs (m + 1) G kn (.tuple [.str "get", boxD x, .str f])
  | rcd {m : Nat} {G : List (Str × Str)} {k : Str} {kd : Kd} {es : List PyData} : findR rs k = some kd → kd.alt = false → es.length = kd.parts.length →
      (∀ (i : Nat) (e : PyData) (p : Str × Str), es[i]? = some e → kd.parts[i]? = some p → WT rs m G p.2 e) → WT rs (m + 1) G k (.tuple [.str "rec", .str k, .tuple es])
  | tag {m : Nat} {G : List (Str × Str)} {k t kn : Str} {kd : Kd} {e : PyData} : findR rs k = some kd → kd.alt = true → lk kd.parts t = some kn → WT rs m G kn e → WT rs (m + 1) G k (.tuple [.str "tag", .str k, .str t, e])
  | case {m : Nat} {G : List (Str × Str)} {x k kn : Str} {kd : Kd} {arms : List Arm} : lk G x = some k → findR rs k = some kd → kd.alt = true → arms ≠ [] → arms.length = kd.parts.length → (arms.map Arm.tag).Nodup → (∀ p ∈ kd.parts, p.1 ∈ arms.map Arm.tag) →
      (∀ a ∈ arms, (lk kd.parts a.tag).isSome = true ∧ a.box ∉ G.map (·.1)) → (∀ a ∈ arms, ∀ kt, lk kd.parts a.tag = some kt → WT rs m (G ++ [(a.box, kt)]) kn a.term) →
      WT rs (m + 1) G kn (.tuple [.str "case", boxD x, .tuple (arms.map armD)])
  | iff {m : Nat} {G : List (Str × Str)} {k : Str} {a b c : PyData} : WT rs m G "num" a → WT rs m G k b → WT rs m G k c → WT rs (m + 1) G k (.tuple [.str "if", a, b, c])
theorem WT.mono {rs : List Kd} {m : Nat} {G : List (Str × Str)} {k : Str} {d : PyData} (h : WT rs m G k d) : ∀ {n : Nat}, m ≤ n → WT rs n G k d := by
  induction h with
  | num n h0 h1 => exact fun _ => .num n h0 h1
  | box h => exact fun _ => .box h
  | op _ _ i1 i2 =>
    intro n hn
    obtain ⟨n, rfl⟩ : ∃ j, n = j + 1 := ⟨n - 1, by omega⟩
    exact .op (i1 (by omega)) (i2 (by omega))
  | get h1 h2 h3 h4 =>
    intro n hn
    obtain ⟨n, rfl⟩ : ∃ j, n = j + 1 := ⟨n - 1, by omega⟩
    exact .get h1 h2 h3 h4
  | rcd h1 h2 h3 _ ih =>
    intro n hn
    obtain ⟨n, rfl⟩ : ∃ j, n = j + 1 := ⟨n - 1, by omega⟩
    exact .rcd h1 h2 h3 fun i e p he hp => ih i e p he hp (by omega)
  | tag h1 h2 h3 _ ih =>
    intro n hn
    obtain ⟨n, rfl⟩ : ∃ j, n = j + 1 := ⟨n - 1, by omega⟩
    exact .tag h1 h2 h3 (ih (by omega))
  | case h1 h2 h3 h4 h0 h5 h6 h7 _ ih =>
    intro n hn
    obtain ⟨n, rfl⟩ : ∃ j, n = j + 1 := ⟨n - 1, by omega⟩
    exact .case h1 h2 h3 h4 h0 h5 h6 h7 fun a ha kt hk => ih a ha kt hk (by omega)
  | iff _ _ _ i1 i2 i3 =>
    intro n hn
    obtain ⟨n, rfl⟩ : ∃ j, n = j + 1 := ⟨n - 1, by omega⟩
    exact .iff (i1 (by omega)) (i2 (by omega)) (i3 (by omega))
/-- more kinds: the same terms -/
theorem WT.more {rs rs' : List Kd} (hm : ∀ k kd, findR rs k = some kd → findR rs' k = some kd) {m : Nat} {G : List (Str × Str)} {k : Str} {d : PyData} (h : WT rs m G k d) : WT rs' m G k d := by
  induction h with
  | num n h0 h1 => exact .num n h0 h1
  | box h => exact .box h
  | op _ _ i1 i2 => exact .op i1 i2
  | get h1 h2 h3 h4 => exact .get h1 (hm _ _ h2) h3 h4
  | rcd h1 h2 h3 _ ih => exact .rcd (hm _ _ h1) h2 h3 ih
  | tag h1 h2 h3 _ ih => exact .tag (hm _ _ h1) h2 h3 ih
  | case h1 h2 h3 h4 h0 h5 h6 h7 _ ih => exact .case h1 (hm _ _ h2) h3 h4 h0 h5 h6 h7 ih
  | iff _ _ _ i1 i2 i3 => exact .iff i1 i2 i3
theorem depthAll_le {b : Nat} : ∀ {ds : List PyData}, (∀ d ∈ ds, d.depth ≤ b) → PyData.depthAll ds ≤ b
  | [], _ => by simp [PyData.depthAll]
  | d :: ds, h => by
    simp only [PyData.depthAll]
    exact Nat.max_le.mpr ⟨h d List.mem_cons_self, depthAll_le fun e he => h e (List.mem_cons_of_mem _ he)⟩
theorem WT.depth {rs : List Kd} {m : Nat} {G : List (Str × Str)} {k : Str} {d : PyData} (h : WT rs m G k d) : d.depth ≤ 3 * m + 2 := by
  induction h with
  | num n h0 h1 => simp [PyData.depth, PyData.depthAll]
  | box h => simp [boxD, PyData.depth, PyData.depthAll]
  | op _ _ i1 i2 => simp only [PyData.depth, PyData.depthAll]; omega
  | get h1 h2 h3 h4 => simp [boxD, PyData.depth, PyData.depthAll]
  | @rcd m G k kd es h1 h2 h3 _ ih =>
    have : PyData.depthAll es ≤ 3 * m + 2 := depthAll_le fun d hd => by
      obtain ⟨i, hi⟩ := List.mem_iff_getElem?.mp hd
      have hlt : i < kd.parts.length := by
        have := (List.getElem?_eq_some_iff.mp hi).1
        omega
      exact ih i d _ hi (List.getElem?_eq_getElem hlt)
    simp only [PyData.depth, PyData.depthAll]
    omega
  | tag h1 h2 h3 _ ih => simp only [PyData.depth, PyData.depthAll]; omega
  | @case m G x k kn kd arms h1 h2 h3 h4 h0 h5 h6 h7 _ ih =>
    have : PyData.depthAll (arms.map armD) ≤ 3 * m + 3 := depthAll_le fun d hd => by
      obtain ⟨a, ha, rfl⟩ := List.mem_map.mp hd
      obtain ⟨kt, hk⟩ := Option.isSome_iff_exists.mp (h7 a ha).1
      have := ih a ha kt hk
      simp only [armD, PyData.depth, PyData.depthAll]
      omega
    simp only [boxD, PyData.depth, PyData.depthAll]
    omega
  | iff _ _ _ i1 i2 i3 => simp only [PyData.depth, PyData.depthAll]; omega

/-! ## rows, channels, hands, makes -/
inductive Row where
  | set (x : Str) (e : PyData)
  | send (c : Str) (e : PyData)
  | take (l c x : Str)
  | tell (e : PyData)
  | go (k : Nat)
  | iff (e : PyData) (k : Nat)
  | fin
def rowD : Row → PyData
  | .set x e => .tuple [.str "set", .str x, e]
  | .send c e => .tuple [.str "send", .str c, e]
  | .take l c x => .tuple [.str "take", .str l, .str c, .str x]
  | .tell e => .tuple [.str "tell", e]
  | .go k => .tuple [.str "go", .int k]
  | .iff e k => .tuple [.str "if", e, .int k]
  | .fin => .tuple [.str "end"]
def Row.mark : Row → Option Str
  | .take l _ _ => some l
  | _ => none
structure Ch where
  name : Str
  src : Str
  dst : Str
  kind : Str
def chD (c : Ch) : PyData := .tuple [.str c.name, .str c.src, .str c.dst, .str c.kind]
structure Hd where
  name : Str
  boxes : List (Str × Str)
  rows : List Row
def hdD (h : Hd) : PyData := .tuple [.str h.name, prsD h.boxes, .tuple (h.rows.map rowD)]
structure Mak where
  rs : List Kd
  chs : List Ch
  hs : List Hd
def mkD (m : Mak) : PyData := .tuple [.tuple (m.rs.reverse.map kdD), .tuple (m.chs.map chD), .tuple (m.hs.map hdD)]
def Row.word : Row → Str
  | .set _ _ => "set"
  | .send _ _ => "send"
  | .take _ _ _ => "take"
  | .tell _ => "tell"
  | .go _ => "go"
  | .iff _ _ => "if"
  | .fin => "end"
def Row.rest : Row → List PyData
  | .set x e => [.str x, e]
  | .send c e => [.str c, e]
  | .take l c x => [.str l, .str c, .str x]
  | .tell e => [e]
  | .go k => [.int k]
  | .iff e k => [e, .int k]
  | .fin => []
theorem rowD_eq (r : Row) : rowD r = .tuple (.str r.word :: r.rest) := by cases r <;> rfl
/-- the row's ways lead to rows -/
def Leads (n i : Nat) : Row → Prop
  | .go k => k < n
  | .iff _ k => k < n ∧ i + 1 < n
  | .fin => True
  | _ => i + 1 < n
def Typed (rs : List Kd) (chs : List Ch) (h : Str) (G : List (Str × Str)) : Row → Prop
  | .set x e => ∃ k, lk G x = some k ∧ WT rs 15 G k e
  | .send c e => ∃ ch ∈ chs, ch.name = c ∧ ch.src = h ∧ WT rs 15 G ch.kind e
  | .take _ c x => ∃ ch ∈ chs, ch.name = c ∧ ch.dst = h ∧ lk G x = some ch.kind
  | .tell e => WT rs 15 G "num" e
  | .go _ => True
  | .iff e _ => WT rs 15 G "num" e
  | .fin => True
/-- a hand as the generator makes it: looked at, and small -/
structure HdOk (rs : List Kd) (chs : List Ch) (h : Hd) : Prop where
  bn : (h.boxes.map (·.1)).Nodup
  bk : ∀ b ∈ h.boxes, Vk rs b.2
  few : h.boxes.length ≤ 5
  marks : (h.rows.filterMap Row.mark).Nodup
  ne : h.rows ≠ []
  most : h.rows.length ≤ 24
  leads : ∀ (i : Nat) (r : Row), h.rows[i]? = some r → Leads h.rows.length i r
  typed : ∀ r ∈ h.rows, Typed rs chs h.name h.boxes r
  good : ∀ r ∈ h.rows, Sw.good (rowD r) = true ∧ wt (rowD r) ≤ 500
structure ChOk (rs : List Kd) (hn : List Str) (c : Ch) : Prop where
  src : c.src ∈ hn
  dst : c.dst ∈ hn
  kind : Vk rs c.kind
structure MkOk (m : Mak) : Prop where
  ks : KsOk m.rs
  kf : m.rs.length ≤ 6
  hn : (m.hs.map Hd.name).Nodup
  hp : ∀ h ∈ m.hs, NameP h.name ∧ ∀ b ∈ h.boxes, NameP b.1
  hf : m.hs.length ≤ 4
  cn : (m.chs.map Ch.name).Nodup
  cp : ∀ c ∈ m.chs, NameP c.name
  cf : m.chs.length ≤ 6
  ch : ∀ c ∈ m.chs, ChOk m.rs (m.hs.map Hd.name) c
  hd : ∀ h ∈ m.hs, HdOk m.rs m.chs h
theorem okS_sort (b : Bool) : okS (sortS b) = true := by cases b <;> decide +kernel
theorem okS_num : okS "num" = true := by decide +kernel
theorem Vk.okS {rs : List Kd} (ok : KsOk rs) {k : Str} (v : Vk rs k) : Sw.okS k = true := by
  rcases v with rfl | ⟨kd, m, rfl⟩
  · exact okS_num
  · cases h : findR rs kd.name with
    | none => exact absurd rfl (find_none h kd m)
    | some k2 =>
      have a := kd_at ok h
      rw [← a.name]
      exact a.nameP.okS
theorem prs_good {l : List (Str × Str)} (h : ∀ p ∈ l, okS p.1 = true ∧ okS p.2 = true) : good (prsD l) = true := by
  simp only [prsD, good]
  refine (goods_all _).mpr fun x hx => ?_
  obtain ⟨p, hp, rfl⟩ := List.mem_map.mp hx
  simp [prD, good, goods, h p hp]
theorem prs_wt (l : List (Str × Str)) : wt (prsD l) ≤ 3 * l.length + 1 := by
  simp only [prsD, wt]
  have := wts_le (b := 3) (l.map prD) fun x hx => by
    obtain ⟨p, hp, rfl⟩ := List.mem_map.mp hx
    simp [prD, wt, wts]
  rw [List.length_map] at this
  omega
theorem prs_depth (l : List (Str × Str)) : (prsD l).depth ≤ 2 := by
  have : PyData.depthAll (l.map prD) ≤ 1 := depthAll_le fun d hd => by
    obtain ⟨p, hp, rfl⟩ := List.mem_map.mp hd
    simp [prD, PyData.depth, PyData.depthAll]
  simp only [prsD, PyData.depth]
  omega
theorem Typed.depth {rs : List Kd} {chs : List Ch} {h : Str} {G : List (Str × Str)} {r : Row} (t : Typed rs chs h G r) : (rowD r).depth ≤ 48 := by
  cases r with
  | set x e =>
    obtain ⟨k, _, t⟩ := t
    have := t.depth
    simp only [rowD, PyData.depth, PyData.depthAll]; omega
  | send c e =>
    obtain ⟨ch, _, _, _, t⟩ := t
    have := t.depth
    simp only [rowD, PyData.depth, PyData.depthAll]; omega
  | take l c x => simp [rowD, PyData.depth, PyData.depthAll]
  | tell e =>
    have := WT.depth t
    simp only [rowD, PyData.depth, PyData.depthAll]; omega
  | go k => simp [rowD, PyData.depth, PyData.depthAll]
  | iff e k =>
    have := WT.depth t
    simp only [rowD, PyData.depth, PyData.depthAll]; omega
  | fin => simp [rowD, PyData.depth, PyData.depthAll]
theorem hd_depth {rs : List Kd} {chs : List Ch} {h : Hd} (o : HdOk rs chs h) : (hdD h).depth ≤ 50 := by
  have h1 := prs_depth h.boxes
  have h2 : PyData.depthAll (h.rows.map rowD) ≤ 48 := depthAll_le fun d hd => by
    obtain ⟨r, hr, rfl⟩ := List.mem_map.mp hd
    exact (o.typed r hr).depth
  simp only [hdD, PyData.depth, PyData.depthAll] at h1 ⊢
  omega
theorem hd_good {rs : List Kd} {chs : List Ch} {h : Hd} (ok : KsOk rs) (o : HdOk rs chs h) (hn : NameP h.name) (hb : ∀ b ∈ h.boxes, NameP b.1) : good (hdD h) = true := by
  have h1 : good (prsD h.boxes) = true := prs_good fun p hp => ⟨(hb p hp).okS, (o.bk p hp).okS ok⟩
  have h2 : goods (h.rows.map rowD) = true := (goods_all _).mpr fun x hx => by
    obtain ⟨r, hr, rfl⟩ := List.mem_map.mp hx
    exact (o.good r hr).1
  simp [hdD, good, goods, hn.okS, h1, h2]
theorem hd_wt {rs : List Kd} {chs : List Ch} {h : Hd} (o : HdOk rs chs h) : wt (hdD h) ≤ 12100 := by
  have h1 := prs_wt h.boxes
  have h0 := o.few
  have h2 := wts_le (b := 500) (h.rows.map rowD) fun x hx => by
    obtain ⟨r, hr, rfl⟩ := List.mem_map.mp hx
    exact (o.good r hr).2
  rw [List.length_map] at h2
  have h3 := o.most
  simp only [hdD, wt, wts]
  omega
theorem kd_good {rs : List Kd} (ok : KsOk rs) {kd : Kd} (o : KdOk rs kd) : good (kdD kd) = true ∧ wt (kdD kd) ≤ 20 ∧ (kdD kd).depth ≤ 3 := by
  have h1 : good (prsD kd.parts) = true := prs_good fun p hp => ⟨(o.pn p hp).okS, (o.pk p hp).okS ok⟩
  have h2 := prs_wt kd.parts
  have h3 := prs_depth kd.parts
  have h4 := o.few
  refine ⟨by simp [kdD, good, goods, o.name.okS, okS_sort, h1], ?_, ?_⟩
  · simp only [kdD, wt, wts]; omega
  · simp only [kdD, PyData.depth, PyData.depthAll]; omega
theorem kds_good : ∀ {rs : List Kd}, KsOk rs → ∀ kd ∈ rs, good (kdD kd) = true ∧ wt (kdD kd) ≤ 20 ∧ (kdD kd).depth ≤ 3
  | [], _, _, h => by cases h
  | k0 :: rs, ok, kd, h => by
    rcases List.mem_cons.mp h with e | h
    · subst e; exact kd_good ok.1 ok.2
    · exact kds_good ok.1 kd h
/-- a make is shown in less than a line -/
theorem mk_shown {m : Mak} (o : MkOk m) : good (mkD m) = true ∧ (mkD m).depth ≤ 60 ∧ (mkD m).shown.length ≤ sizeLine := by
  have kd1 : ∀ x ∈ m.rs.reverse.map kdD, good x = true ∧ wt x ≤ 20 ∧ x.depth ≤ 3 := fun x hx => by
    obtain ⟨k, hk, rfl⟩ := List.mem_map.mp hx
    exact kds_good o.ks k (List.mem_reverse.mp hk)
  have hp1 : ∀ n ∈ m.hs.map Hd.name, okS n = true := fun n hn => by
    obtain ⟨h, hh, rfl⟩ := List.mem_map.mp hn
    exact (o.hp h hh).1.okS
  have ch1 : ∀ x ∈ m.chs.map chD, good x = true ∧ wt x ≤ 5 ∧ x.depth ≤ 1 := fun x hx => by
    obtain ⟨c, hc, rfl⟩ := List.mem_map.mp hx
    have a := o.ch c hc
    exact ⟨by simp [chD, good, goods, (o.cp c hc).okS, hp1 _ a.src, hp1 _ a.dst, a.kind.okS o.ks], by simp [chD, wt, wts], by simp [chD, PyData.depth, PyData.depthAll]⟩
  have hd1 : ∀ x ∈ m.hs.map hdD, good x = true ∧ wt x ≤ 12100 ∧ x.depth ≤ 50 := fun x hx => by
    obtain ⟨h, hh, rfl⟩ := List.mem_map.mp hx
    exact ⟨hd_good o.ks (o.hd h hh) (o.hp h hh).1 (o.hp h hh).2, hd_wt (o.hd h hh), hd_depth (o.hd h hh)⟩
  have g : good (mkD m) = true := by
    simp only [mkD, good, goods, Bool.and_eq_true]
    exact ⟨(goods_all _).mpr fun x hx => (kd1 x hx).1, (goods_all _).mpr fun x hx => (ch1 x hx).1, (goods_all _).mpr fun x hx => (hd1 x hx).1, trivial⟩
  refine ⟨g, ?_, ?_⟩
  · have h1 := depthAll_le fun x hx => (kd1 x hx).2.2
    have h2 := depthAll_le fun x hx => (ch1 x hx).2.2
    have h3 := depthAll_le fun x hx => (hd1 x hx).2.2
    simp only [mkD, PyData.depth, PyData.depthAll]
    omega
  · have h1 := wts_le _ fun x hx => (kd1 x hx).2.1
    have h2 := wts_le _ fun x hx => (ch1 x hx).2.1
    have h3 := wts_le _ fun x hx => (hd1 x hx).2.1
    rw [List.length_map] at h1 h2 h3
    rw [List.length_reverse] at h1
    have k1 := o.kf
    have k2 := o.cf
    have k3 := o.hf
    have e : wt (mkD m) ≤ 49000 := by
      simp only [mkD, wt, wts]
      omega
    have l := good_len _ g
    have z : sizeLine = 16777216 := by decide
    omega
end Sw

-- part SwK
set_option Elab.async false
set_option linter.all false
set_option maxRecDepth 100000
set_option maxHeartbeats 4000000
namespace Sw
open PySem PySem.Spec PyProof.Rows L2

theorem find_first {α : Type} {p : α → Bool} : ∀ {l : List α} {i : Nat} {x : α}, l[i]? = some x → p x = true → (∀ j y, j < i → l[j]? = some y → p y = false) → l.find? p = some x
  | [], i, x, h, _, _ => by simp at h
  | a :: l, 0, x, h, hp, _ => by
    have e := Option.some.inj h
    subst e
    rw [List.find?_cons, hp]
  | a :: l, i + 1, x, h, hp, hn => by
    rw [List.find?_cons, hn 0 a (Nat.zero_lt_succ _) rfl]
    exact find_first (l := l) (i := i) h hp fun j y hj hy => hn (j + 1) y (Nat.succ_lt_succ hj) hy
theorem find_no {α : Type} {p : α → Bool} {l : List α} (h : ∀ j y, j < l.length → l[j]? = some y → p y = false) : l.find? p = none := by
  rw [List.find?_eq_none]
  intro x hx
  obtain ⟨j, hj⟩ := List.mem_iff_getElem?.mp hx
  rw [h j x (List.getElem?_eq_some_iff.mp hj).1 hj]
  exact Bool.false_ne_true
theorem map_at {α β : Type} {f : α → β} {l : List α} {i : Nat} {d : β} (h : (l.map f)[i]? = some d) : ∃ x, l[i]? = some x ∧ d = f x := by
  rw [List.getElem?_map] at h
  obtain ⟨x, h1, h2⟩ := Option.map_eq_some_iff.mp h
  exact ⟨x, h1, h2.symm⟩
theorem FnOk.no {P : Program} {w : World} {K : PySem.W.Frag} {mg : Str → Option Value} {base : Heap} {k : Nat} {f : Addr} {fd : FuncData} {ps : List Str} {sp : Sp} (no : ∀ vs H Q E, ¬ sp vs H Q E) : FnOk P w K mg base CX0 k f fd ps sp :=
  ⟨fun vs H Q E h => absurd h (no _ _ _ _), fun A outer s H args us vs Q E _ _ _ _ h => absurd h (no _ _ _ _)⟩
theorem S2.no {Pr : V → V → Hp → VK → Prop} (h : ∀ a b H Q, ¬ Pr a b H Q) : ∀ vs H Q E, ¬ S2 Pr vs H Q E := fun vs H Q E q => match vs, q with
  | [a, b], q => h a b H Q q
theorem S3.no {Pr : V → V → V → Hp → VK → Prop} (h : ∀ a b c H Q, ¬ Pr a b c H Q) : ∀ vs H Q E, ¬ S3 Pr vs H Q E := fun vs H Q E q => match vs, q with
  | [a, b, c], q => h a b c H Q q
theorem S6.no {Pr : V → V → V → V → V → V → Hp → VK → Prop} (h : ∀ a b c d e f H Q, ¬ Pr a b c d e f H Q) : ∀ vs H Q E, ¬ S6 Pr vs H Q E := fun vs H Q E q => match vs, q with
  | [a, b, c, d, e, f], q => h a b c d e f H Q q
theorem S7.no {Pr : V → V → V → V → V → V → V → Hp → VK → Prop} (h : ∀ a b c d e f g H Q, ¬ Pr a b c d e f g H Q) : ∀ vs H Q E, ¬ S7 Pr vs H Q E := fun vs H Q E q => match vs, q with
  | [a, b, c, d, e, f, g], q => h a b c d e f g H Q q
/-- the kinds at a value, in the text's order -/
abbrev Kds (K : PySem.W.Frag) (H : Hp) (v : V) (rs : List Kd) : Prop := At K H v (.tuple (rs.reverse.map kdD))
section
variable {P : Program} {w : World} {K : PySem.W.Frag} {mg : Str → Option Value} {base : Heap}
/-! ## kind_told, sort_of, parts_of -/
abbrev N_kind_told : List Str := ["kinds", "name", "told"]
theorem sc_kind_told : FnScope N_kind_told ["kinds", "name"] (defScope s_kind_told) := ⟨rfl, rfl, rfl, by decide +kernel, rfl, by decide +kernel, by decide +kernel⟩
-- slots: 0 kinds, 1 name, 2 told
def prTold (K : PySem.W.Frag) : V → V → Hp → VK → Prop := fun a b H Q => ∃ (ks : List Kd) (n : Str), At K H a (.tuple (ks.map kdD)) ∧ b = .str n ∧ (∀ kd v, ks.find? (fun x => decide (x.name = n)) = some kd → At K H v (kdD kd) → Q v H) ∧ (ks.find? (fun x => decide (x.name = n)) = none → Q .non H)
theorem c_kind_told (T : Txt K mg) : Cal P w K mg base 1 "kind_told" (S2 (prTold K)) := T.c_kind_told fun fd F => F.ok2 sc_kind_told fun cdv A outer s H a b Q E hr h => by
  obtain ⟨ks, n, ha, rfl, q1, q2⟩ := h
  obtain ⟨p, xs, rfl, hs, hd⟩ := ha.inv_tup
  have hl : xs.length = ks.length := by rw [hd.length, List.length_map]
  refine ⟨_, (pss_cons (ps_for PassesOwn.never rfl (pi_tup (pv 0)) (pg_name (i := 2) sc_kind_told.nd rfl (by first | exact Or.inl rfl | exact Or.inr rfl))
    (pss_one (ps_if (pt_cmpR op_eq (pe_ix ix_tup (pv 2) pe_int (fun _ _ => rfl)) (pv 1) (nomark _))
    (pss_one (ps_ret (pv 2)))
    pss_nil)))
    (pss_one (ps_ret pe_non))), ?_⟩
  refine ⟨_, rfl, p, rfl, ⟨xs, hs⟩, for_tup (fun i σ H' => H' = H ∧ (∃ t, σ = [some (.ref p), some (.str n), t]) ∧ ∀ j k, j < i → ks[j]? = some k → k.name ≠ n) ⟨rfl, ⟨_, rfl⟩, fun j _ h => absurd h (by omega)⟩ (fun i σ H' _ h => by rw [h.1]; exact hs) ?_ ?_⟩
  · rintro i x σ H' hx ⟨rfl, ⟨t, rfl⟩, hno⟩
    obtain ⟨d, hdx, hat⟩ := hd.get i x hx
    obtain ⟨kd, hk, rfl⟩ := map_at hdx
    have hat0 := hat
    obtain ⟨p1, y1, y2, y3, rfl, hs1, hy1, hy2, hy3⟩ := hat.tup3
    obtain rfl := hy1.inv_str
    refine ⟨_, rfl, p1, _, _, _, rfl, rfl, hs1, atI_nat (j := 0) rfl, _, rfl, rfl, _, rfl, ite2 (fun hc => ?_) (fun hc => ?_)⟩
    · have e : kd.name = n := V.str.inj (of_decide_eq_true hc)
      exact ⟨_, rfl, q1 kd _ (find_first hk (decide_eq_true e) fun j y hj hy => decide_eq_false (hno j y hj hy)) hat0⟩
    · refine ⟨rfl, ⟨_, rfl⟩, fun j k hj hk2 => ?_⟩
      by_cases e : j = i
      · subst e
        rw [hk] at hk2
        cases hk2
        exact fun e => hc (decide_eq_true (congrArg V.str e))
      · exact hno j k (by omega) hk2
  · rintro σ H' ⟨rfl, ⟨t, rfl⟩, hno⟩
    exact q2 (find_no fun j y hj hy => decide_eq_false (hno j y (by omega) hy))
abbrev N_sort_of : List Str := ["kinds", "name", "told"]
theorem sc_sort_of : FnScope N_sort_of ["kinds", "name"] (defScope s_sort_of) := ⟨rfl, rfl, rfl, by decide +kernel, rfl, by decide +kernel, by decide +kernel⟩
-- slots: 0 kinds, 1 name, 2 told
def prSort (K : PySem.W.Frag) : V → V → Hp → VK → Prop := fun a b H Q => ∃ (rs : List Kd) (n : Str), KsOk rs ∧ Kds K H a rs ∧ b = .str n ∧ (findR rs n = none → Q .non H) ∧ ∀ kd, findR rs n = some kd → Q (.str (sortS kd.alt)) H
theorem c_sort_of (T : Txt K mg) : Cal P w K mg base 2 "sort_of" (S2 (prSort K)) := T.c_sort_of fun fd F => F.ok2 sc_sort_of fun cdv A outer s H a b Q E hr h => by
  obtain ⟨rs, n, ok, ha, rfl, q0, q1⟩ := h
  have C_kind_told := c_kind_told (P := P) (w := w) (base := base) T
  refine ⟨_, (pss_cons (ps_set (i := 2) sc_sort_of.nd rfl (Or.inl rfl) (pe_c C_kind_told (hr.mono (by omega)) rfl (pa_cons (pv 0) (pa_cons (pv 1) pa_nil))))
    (pss_cons (ps_if (pt_cmpR op_isN (pv 2) pe_non (nomark _))
    (pss_one (ps_ret pe_non))
    pss_nil)
    (pss_one (ps_ret (pe_ix ix_tup (pv 2) pe_int (fun _ _ => rfl)))))), ?_⟩
  refine ⟨_, rfl, _, rfl, rs.reverse, n, ha, rfl, fun kd v hf hv => ?_, fun hf => ?_⟩
  · rw [find_rev ok] at hf
    obtain ⟨p1, y1, y2, y3, rfl, hs1, hy1, hy2, hy3⟩ := hv.tup3
    obtain rfl := hy2.inv_str
    refine ⟨_, rfl, rfl, _, rfl, ite2 (fun hc => absurd (of_decide_eq_true hc) (by simp)) (fun _ => ?_)⟩
    exact ⟨_, rfl, p1, _, _, _, rfl, rfl, hs1, atI_nat (j := 1) rfl, q1 kd hf⟩
  · rw [find_rev ok] at hf
    exact ⟨_, rfl, rfl, _, rfl, ite2 (fun _ => q0 hf) (fun hc => absurd (decide_eq_true rfl) hc)⟩
abbrev N_parts_of : List Str := ["kinds", "name"]
theorem sc_parts_of : FnScope N_parts_of ["kinds", "name"] (defScope s_parts_of) := ⟨rfl, rfl, rfl, by decide +kernel, rfl, by decide +kernel, by decide +kernel⟩
-- slots: 0 kinds, 1 name
def prPartsOf (K : PySem.W.Frag) : V → V → Hp → VK → Prop := fun a b H Q => ∃ (rs : List Kd) (n : Str) (kd : Kd), KsOk rs ∧ Kds K H a rs ∧ b = .str n ∧ findR rs n = some kd ∧ ∀ v, At K H v (prsD kd.parts) → Q v H
theorem c_parts_of (T : Txt K mg) : Cal P w K mg base 2 "parts_of" (S2 (prPartsOf K)) := T.c_parts_of fun fd F => F.ok2 sc_parts_of fun cdv A outer s H a b Q E hr h => by
  obtain ⟨rs, n, kd, ok, ha, rfl, hf, q⟩ := h
  have C_kind_told := c_kind_told (P := P) (w := w) (base := base) T
  refine ⟨_, (pss_one (ps_ret (pe_ix ix_tup (pe_c C_kind_told (hr.mono (by omega)) rfl (pa_cons (pv 0) (pa_cons (pv 1) pa_nil))) pe_int (fun _ _ => rfl)))), ?_⟩
  refine ⟨_, rfl, _, rfl, rs.reverse, n, ha, rfl, fun kd2 v hf2 hv => ?_, fun hf2 => ?_⟩
  · rw [find_rev ok, hf] at hf2
    cases hf2
    obtain ⟨p1, y1, y2, y3, rfl, hs1, hy1, hy2, hy3⟩ := hv.tup3
    exact ⟨p1, _, _, _, rfl, rfl, hs1, atI_nat (j := 2) rfl, q _ hy3⟩
  · rw [find_rev ok, hf] at hf2
    cases hf2
/-! ## size_of -/
abbrev N_size_of : List Str := ["kinds", "kind", "sizes", "part"]
theorem sc_size_of : FnScope N_size_of ["kinds", "kind"] (defScope s_size_of) := ⟨rfl, rfl, rfl, by decide +kernel, rfl, by decide +kernel, by decide +kernel⟩
-- slots: 0 kinds*, 1 kind, 2 sizes, 3 part
def prSize (K : PySem.W.Frag) (m : Nat) : V → V → Hp → VK → Prop := fun a b H Q => ∃ (rs : List Kd) (k : Str), KsOk rs ∧ Kds K H a rs ∧ b = .str k ∧ Vk rs k ∧ rk rs k < m ∧ ∀ H', Ext [] H H' → Q (.int (szR rs k : Nat)) H'
theorem c_size_of (T : Txt K mg) : ∀ m : Nat, Cal P w K mg base (m + 2) "size_of" (S2 (prSize K m))
  | 0 => T.c_size_of fun fd F => FnOk.no (S2.no fun a b H Q ⟨rs, k, _, _, _, _, h, _⟩ => by omega)
  | m + 1 => T.c_size_of fun fd F => F.ok2 sc_size_of fun cdv A outer s H a b Q E hr h => by
    have C_size_of := c_size_of T m
    have C_parts_of := c_parts_of (P := P) (w := w) (base := base) T
    have C_sort_of := c_sort_of (P := P) (w := w) (base := base) T
    obtain ⟨rs, k, ok, ha, rfl, vk, hm, q⟩ := h
    refine ⟨_, (pss_cons (ps_if (pt_cmpR op_eq (pv 1) pe_str (nomark _))
    (pss_one (ps_ret pe_int))
    pss_nil)
    (pss_cons (ps_setLc (i := 2) rfl sc_size_of.nd rfl rfl (sw_true rfl rfl rfl (by decide +kernel)) (pi_tup (pe_c C_parts_of (hr.mono (by omega)) rfl (pa_cons (pv 0) (pa_cons (pv 1) pa_nil)))) (blkOk_by (N := N_size_of) (sc := defScope s_size_of) (own := [("part", 3)]) (by decide +kernel)) (fun _ _ _ _ _ => (pg_name (i := 3) sc_size_of.nd rfl (by first | exact Or.inl rfl | exact Or.inr rfl))) (fun _ _ _ _ _ => pts_nil) (fun _ _ _ _ _ => (pe_c C_size_of (hr.mono (by omega)) rfl (pa_cons (pv 0) (pa_cons (pe_ix (ix_tupK K) (pv 3) pe_int (fun _ _ => rfl)) pa_nil)))))
    (pss_cons (ps_if (pt_cmpR op_eq (pe_c C_sort_of (hr.mono (by omega)) rfl (pa_cons (pv 0) (pa_cons (pv 1) pa_nil))) pe_str (nomark _))
    (pss_one (ps_ret (pe_op op_add pe_int (pe_callBK (cr_maxD rfl) (by rfl) T.z_max (by decide +kernel) (pa_cons (pv 2) pa_nil) (pk_cons pe_int pk_nil)))))
    pss_nil)
    (pss_one (ps_ret (pe_op op_add pe_int (pe_callB (cr_sum rfl) (by rfl) T.z_sum (by decide +kernel) (pa_cons (pv 2) pa_nil)))))))), ?_⟩
    refine ⟨_, rfl, rfl, _, rfl, ite2 (fun hc => ?_) (fun hc => ?_)⟩
    · have e : k = "num" := V.str.inj (of_decide_eq_true hc)
      have := q H (Ext.refl _ _)
      rw [e, (sz_num ok).1] at this
      exact this
    · have e : k ≠ "num" := fun e => hc (decide_eq_true (congrArg V.str e))
      obtain ⟨kd, hf⟩ : ∃ kd, findR rs k = some kd := by
        cases h : findR rs k with
        | none => exact absurd (vk.none h) e
        | some kd => exact ⟨kd, rfl⟩
      have kat := kd_at ok hf
      refine ⟨_, rfl, _, rfl, rs, k, kd, ok, ha, rfl, hf, fun v hv => ?_⟩
      obtain ⟨p, xs, rfl, hs, hd⟩ := hv.inv_tup
      have hl : xs.length = kd.parts.length := by rw [hd.length, List.length_map]
      refine ⟨p, rfl, ⟨xs, hs⟩, fun D hD => lc_tup (K := K) (xs := xs) (fun i H' => Ext [] H H' ∧ H' D = some (.lst (((kd.parts.take i).map fun p => ((szR rs p.2 : Nat) : Int)).map V.int))) ⟨(Ext.refl _ _).new hD, upd_same⟩ (fun i H' _ h => h.1.sqt hs) ?_ ?_⟩
      · rintro i x H' hx ⟨e1, hD1⟩
        obtain ⟨d, hdx, hat⟩ := hd.get i x hx
        obtain ⟨pt, hk, rfl⟩ := map_at hdx
        obtain ⟨p1, y1, y2, rfl, hs1, hy1, hy2⟩ := hat.tup2
        obtain rfl := hy2.inv_str
        have hpm := List.mem_of_getElem? hk
        have hp := kat.pk pt hpm
        refine ⟨rfl, ?_⟩
        refine ⟨_, rfl, _, rfl, p1, _, _, _, rfl, rfl, e1.sqt hs1, atI_nat (j := 1) rfl, rs, pt.2, ok, e1.at_ ha, rfl, hp.1, by omega, fun H2 e2 => ?_⟩
        refine ⟨_, e2.same _ _ hD1, ?_, (e1.trans e2).own hD, ?_⟩
        · rw [List.length_map, List.length_map, List.length_take]
          have := kat.few
          have z : sizeLine = 16777216 := by decide
          omega
        · rw [upd_same, List.take_add_one, hk]
          simp
      · rintro H' ⟨e1, hD1⟩
        rw [hl, List.take_length] at hD1
        refine ⟨_, rfl, _, rfl, rs, k, ok, e1.at_ ha, rfl, fun h => absurd (hf.symm.trans h) (by simp), fun kd2 hf2 => ?_⟩
        rw [hf] at hf2
        cases hf2
        refine ⟨rfl, _, rfl, ite2 (fun hc => ?_) (fun hc => ?_)⟩
        · have ea : kd.alt = true := by
            cases h : kd.alt with
            | true => rfl
            | false =>
              rw [h] at hc
              exact absurd (of_decide_eq_true hc) (by decide +kernel)
          refine ⟨_, rfl, ⟨0, rfl⟩, D, _, rfl, .of hD1, ?_, fun n hn hle => ?_⟩
          · rw [List.length_map]
            exact List.length_pos_iff.mpr (kat.ne ea)
          · obtain ⟨pt, hpm, rfl⟩ := List.mem_map.mp hn
            have em : maxL (kd.parts.map fun p => szR rs p.2) = szR rs pt.2 := maxL_is (List.mem_map.mpr ⟨pt, hpm, rfl⟩) fun n hn => by
              obtain ⟨p2, h2, rfl⟩ := List.mem_map.mp hn
              have := hle _ (List.mem_map.mpr ⟨p2, h2, rfl⟩)
              omega
            have es : ((szR rs k : Nat) : Int) = 1 + ((szR rs pt.2 : Nat) : Int) := by
              rw [kat.sz]
              unfold szOf
              rw [if_pos ea, em]
              omega
            have := q H' e1
            rw [es] at this
            exact ⟨_, _, rfl, rfl, this⟩
        · have ea : kd.alt = false := by
            cases h : kd.alt with
            | false => rfl
            | true =>
              rw [h] at hc
              exact absurd (decide_eq_true rfl) hc
          have hsum : ∀ l : List (Str × Str), (l.map fun p => ((szR rs p.2 : Nat) : Int)).sum = (((l.map fun p => szR rs p.2).sum : Nat) : Int) := fun l => by
            induction l with
            | nil => rfl
            | cons a l ih =>
              rw [List.map_cons, List.map_cons, List.sum_cons, List.sum_cons, ih]
              omega
          refine ⟨_, rfl, D, _, rfl, .of hD1, _, _, rfl, rfl, ?_⟩
          have es : ((szR rs k : Nat) : Int) = 1 + (kd.parts.map fun p => ((szR rs p.2 : Nat) : Int)).sum := by
            rw [kat.sz, hsum]
            unfold szOf
            rw [ea, if_neg Bool.false_ne_true]
            omega
          have := q H' e1
          rw [es] at this
          exact this
end
end Sw

-- part SwK2
set_option Elab.async false
set_option linter.all false
set_option maxRecDepth 100000
set_option maxHeartbeats 4000000
namespace Sw
open PySem PySem.Spec PyProof.Rows L2

theorem inV_str (z : Str) (zs : List Str) : inV (.str z) (zs.map V.str) = decide (z ∈ zs) := by
  unfold inV
  rw [List.any_map]
  by_cases h : z ∈ zs
  · rw [decide_eq_true h]
    exact List.any_eq_true.mpr ⟨z, h, by simp [eqV]⟩
  · rw [decide_eq_false h]
    cases e : zs.any ((fun y => eqV y (.str z)) ∘ V.str) with
    | false => rfl
    | true =>
      obtain ⟨y, hy, hz⟩ := List.any_eq_true.mp e
      have : y = z := by simpa [eqV] using hz
      exact absurd (this ▸ hy) h
theorem cut_to (xs : List V) (n : Nat) : cutV xs none (some (n : Int)) = xs.take n := by
  unfold cutV
  rw [HT.sIx_none, HT.sIx_nat, List.drop_zero, Nat.sub_zero]
  by_cases h : n ≤ xs.length
  · rw [Nat.min_eq_left h]
  · rw [Nat.min_eq_right (by omega), List.take_of_length_le (Nat.le_refl _), List.take_of_length_le (by omega)]
/-- a loop over enumerate of a tuple -/
theorem for_enumT {K : PySem.W.Frag} {a : Addr} {xs : List V} {g : TG} {tb : TS} {D : Ends} {σ : L2.St} {H : Hp} (Pv : Nat → L2.St → Hp → Prop) (h0 : Pv 0 σ H) (hq : ∀ i σ H, Pv i σ H → SqT K H a xs)
    (hs : ∀ (i : Nat) (x : V) (T : Addr) (σ : L2.St) (H : Hp), xs[i]? = some x → Pv i σ H → H T = none → g (.ref T) σ (upd H T (.tup [.int (i : Nat), x])) fun σ2 H2 => tb { D with nx := Pv (i + 1), ct := Pv (i + 1), bk := D.nx } σ2 H2) (hd : ∀ σ H, Pv xs.length σ H → D.nx σ H) :
    ∃ W : Nat → Nat → L2.St → Hp → Prop, (∃ m, W 0 m σ H) ∧ ∀ i m σ H, W i m σ H →
      ((IteT K a).stop i H ∧ D.nx σ H) ∨ ((IteT K a).go i H ∧ ∃ N : L2.St → Hp → Prop, (∀ σ' H', N σ' H' → ∃ m', m' < m ∧ W (i + 1) m' σ' H') ∧ ∀ v H', (IteT K a).yld i H v H' → g v σ H' fun σ2 H2 => tb { D with nx := N, ct := N, bk := D.nx } σ2 H2) := by
  refine ⟨fun i m σ H => m = xs.length - i ∧ i ≤ xs.length ∧ Pv i σ H, ⟨xs.length, rfl, Nat.zero_le _, h0⟩, ?_⟩
  rintro i m σ H ⟨rfl, hi, p⟩
  have q := hq i σ H p
  by_cases hlt : i < xs.length
  · refine .inr ⟨⟨xs, xs[i], q, List.getElem?_eq_getElem hlt⟩, Pv (i + 1), fun σ' H' p' => ⟨xs.length - (i + 1), by omega, rfl, hlt, p'⟩, fun v H' y => ?_⟩
    obtain ⟨T, x, rfl, hT, rfl, f⟩ := y
    exact hs i x T σ H (f xs q) p hT
  · obtain rfl : i = xs.length := by omega
    exact .inl ⟨⟨xs, q, Nat.le_refl _⟩, hd σ H p⟩
theorem ks_drop : ∀ {rs : List Kd}, KsOk rs → ∀ n, KsOk (rs.drop n)
  | _, h, 0 => h
  | [], h, _ + 1 => h
  | _ :: rs, h, n + 1 => ks_drop h.1 n
/-- the kinds ahead of the i-th of the text -/
theorem ks_split {rs : List Kd} (ok : KsOk rs) {i : Nat} {kd : Kd} (h : rs.reverse[i]? = some kd) : ∃ rs1, KsOk (kd :: rs1) ∧ rs.reverse.take (i + 1) = (kd :: rs1).reverse ∧ rs.reverse.take i = rs1.reverse ∧ rs1.length = i := by
  have hlt : i < rs.reverse.length := (List.getElem?_eq_some_iff.mp h).1
  have hlt' : i < rs.length := by simpa using hlt
  have e2 : rs.reverse.take i = (rs.drop (rs.length - i)).reverse := by rw [List.reverse_drop]; congr 1; omega
  have e1 : rs.reverse.take (i + 1) = (kd :: rs.drop (rs.length - i)).reverse := by rw [List.take_add_one, h, List.reverse_cons, ← e2]; rfl
  refine ⟨rs.drop (rs.length - i), ?_, e1, e2, by rw [List.length_drop]; omega⟩
  have e3 : kd :: rs.drop (rs.length - i) = rs.drop (rs.length - (i + 1)) := by
    have := congrArg List.reverse e1
    rw [List.reverse_reverse] at this
    rw [← this, ← List.reverse_reverse (rs.drop (rs.length - (i + 1))), List.reverse_drop]
    congr 2
    omega
  rw [e3]
  exact ks_drop ok _
section
variable {P : Program} {w : World} {K : PySem.W.Frag} {mg : Str → Option Value} {base : Heap}
abbrev N_look_parts : List Str := ["ahead", "told", "names", "name", "kind"]
theorem sc_look_parts : FnScope N_look_parts ["ahead", "told"] (defScope s_look_parts) := ⟨rfl, rfl, rfl, by decide +kernel, rfl, by decide +kernel, by decide +kernel⟩
-- slots: 0 ahead, 1 told, 2 names, 3 name, 4 kind
def prLookParts (K : PySem.W.Frag) : V → V → Hp → VK → Prop := fun a b H Q => ∃ (p : Addr) (zs : List Str) (kd : Kd), a = .ref p ∧ H p = some (.lst (zs.map V.str)) ∧ At K H b (kdD kd) ∧ (kd.parts.map (·.1)).Nodup ∧ kd.parts.length ≤ 4 ∧ (∀ pt ∈ kd.parts, pt.2 = "num" ∨ pt.2 ∈ zs) ∧ ∀ H', Ext [] H H' → Q .non H'
theorem c_look_parts (T : Txt K mg) : Cal P w K mg base 1 "look_parts" (S2 (prLookParts K)) := T.c_look_parts fun fd F => F.ok2 sc_look_parts fun cdv A outer s H a b Q E hr h => by
  obtain ⟨p, zs, kd, rfl, hp, hb, hnd, hfew, hk, q⟩ := h
  obtain ⟨p1, y1, y2, y3, rfl, hs1, hy1, hy2, hy3⟩ := hb.tup3
  obtain ⟨p2, xs, rfl, hs, hd⟩ := hy3.inv_tup
  have hl : xs.length = kd.parts.length := by rw [hd.length, List.length_map]
  refine ⟨_, (pss_cons (ps_set (i := 2) sc_look_parts.nd rfl (Or.inl rfl) (pe_lst pa_nil))
    (pss_one (ps_for PassesOwn.never rfl (pi_tup (pe_ix ix_tup (pv 1) pe_int (fun _ _ => rfl))) (pg_tup rfl (pgs_cons (pg_name (i := 3) sc_look_parts.nd rfl (by first | exact Or.inl rfl | exact Or.inr rfl)) (pgs_cons (pg_name (i := 4) sc_look_parts.nd rfl (by first | exact Or.inl rfl | exact Or.inr rfl)) pgs_nil)))
    (pss_cons (ps_if (pt_cmpR op_in_seq (pv 3) (pv 2) rfl)
    (pss_one ps_never)
    pss_nil)
    (pss_cons (ps_expr (pe_bm PySem.F.plainAttrs_list PySem.F.slot_list_append PySem.F.type_list_append mt_append (pv 2) (pa_cons (pv 3) pa_nil)))
    (pss_one (ps_if (PW.pt (pw_and (pt_cmpR op_ne (pv 4) pe_str (nomark _)) (pw_and1 (pt_cmpR op_notIn_seq (pv 4) (pv 0) rfl))))
    (pss_one ps_never)
    pss_nil))))))), ?_⟩
  refine ⟨by show 0 ≤ sizeLine; decide, fun D hD => ?_⟩
  have e0 : Ext [] H (upd H D (.lst [])) := (Ext.refl _ _).new hD
  refine ⟨_, rfl, p1, _, _, _, rfl, rfl, e0.sqt hs1, atI_nat (j := 2) rfl, p2, rfl, ⟨xs, e0.sqt hs⟩, for_tup (fun i σ H' => Ext [] H H' ∧ H' D = some (.lst ((kd.parts.take i).map fun pt => V.str pt.1)) ∧ ∃ t u, σ = [some (.ref p), some (.ref p1), some (.ref D), t, u])
    ⟨e0, upd_same, _, _, rfl⟩ (fun i σ H' _ h => h.1.sqt hs) ?_ ?_⟩
  · rintro i x σ H' hx ⟨e1, hD1, t, u, rfl⟩
    obtain ⟨d, hdx, hat⟩ := hd.get i x hx
    obtain ⟨pt, hpt, rfl⟩ := map_at hdx
    obtain ⟨p3, z1, z2, rfl, hs3, hz1, hz2⟩ := hat.tup2
    obtain rfl := hz1.inv_str
    obtain rfl := hz2.inv_str
    have hpm := List.mem_of_getElem? hpt
    have hD2 : H' D = some (.lst (((kd.parts.take i).map (·.1)).map V.str)) := by rw [hD1, List.map_map]; rfl
    refine ⟨p3, _, rfl, e1.sqt hs3, rfl, _, _, rfl, _, _, rfl, rfl, ?_⟩
    refine ⟨_, rfl, _, rfl, D, _, rfl, .inl (.of hD2), rfl, flat_strs _, _, rfl, ite2 (fun hc => absurd hc ?_) (fun _ => ?_)⟩
    · rw [if_neg Bool.false_ne_true, inV_str]
      refine fun h => ?_
      obtain ⟨j, hj⟩ := List.mem_iff_getElem?.mp (of_decide_eq_true h)
      rw [List.map_take, List.getElem?_take] at hj
      have hi : (kd.parts.map (·.1))[i]? = some pt.1 := by rw [List.getElem?_map, hpt]; rfl
      by_cases hji : j < i
      · rw [if_pos hji] at hj
        exact absurd (nd_ix hnd hj hi) (by omega)
      · rw [if_neg hji] at hj
        cases hj
    · refine ⟨_, rfl, .inl ⟨rfl, _, .inl (.inl hD1)⟩, _, rfl, D, _, _, rfl, rfl, hD1, ?_, ?_⟩
      · rw [List.length_map, List.length_take]
        have z : sizeLine = 16777216 := by decide
        omega
      · have e2 : Ext [] H (upd H' D (.lst ((kd.parts.take i).map (fun pt => V.str pt.1) ++ [V.str pt.1]))) := e1.own hD
        have fin : (fun i σ H' => Ext [] H H' ∧ H' D = some (.lst ((kd.parts.take i).map fun pt => V.str pt.1)) ∧ ∃ t u, σ = [some (.ref p), some (.ref p1), some (.ref D), t, u]) (i + 1) [some (.ref p), some (.ref p1), some (.ref D), some (V.str pt.1), some (V.str pt.2)] (upd H' D (.lst ((kd.parts.take i).map (fun pt => V.str pt.1) ++ [V.str pt.1]))) :=
          ⟨e2, by rw [upd_same, List.take_add_one, hpt]; simp, _, _, rfl⟩
        refine ⟨_, rfl, rfl, _, rfl, ite2 (fun hc => ?_) (fun hc => ?_)⟩
        · have hne : pt.2 ≠ "num" := fun e => by
            rw [e] at hc
            exact absurd hc (by simp)
          have hin : pt.2 ∈ zs := (hk pt hpm).resolve_left hne
          refine ⟨_, rfl, _, rfl, p, _, rfl, .inl (.of (e2.same _ _ hp)), rfl, flat_strs _, _, rfl, ite2 (fun hc2 => absurd hc2 ?_) (fun _ => fin)⟩
          rw [if_pos rfl, inV_str, decide_eq_true hin]
          exact Bool.false_ne_true
        · exact ite2 (fun h => absurd h Bool.false_ne_true) (fun _ => fin)
  · rintro σ H' ⟨e1, hD1, t, u, rfl⟩
    exact q H' e1
abbrev N_look_kinds : List Str := ["kinds", "ahead", "k", "told"]
theorem sc_look_kinds : FnScope N_look_kinds ["kinds"] (defScope s_look_kinds) := ⟨rfl, rfl, rfl, by decide +kernel, rfl, by decide +kernel, by decide +kernel⟩
-- slots: 0 kinds, 1 ahead, 2 k, 3 told
def prLookKinds (K : PySem.W.Frag) : V → Hp → VK → Prop := fun a H Q => ∃ (rs : List Kd), KsOk rs ∧ rs.length ≤ 6 ∧ Kds K H a rs ∧ ∀ H', Ext [] H H' → Q (.bl true) H'
theorem c_look_kinds (T : Txt K mg) : Cal P w K mg base 10 "look_kinds" (S1 (prLookKinds K)) := T.c_look_kinds fun fd F => F.ok1 sc_look_kinds fun cdv A outer s H a Q E hr h => by
  obtain ⟨rs, ok, h6, ha, q⟩ := h
  obtain ⟨p, xs, rfl, hs, hd⟩ := ha.inv_tup
  have C_look_parts := c_look_parts (P := P) (w := w) (base := base) T
  have C_size_of := c_size_of (P := P) (w := w) (base := base) T 7
  have hl : xs.length = rs.length := by rw [hd.length, List.length_map, List.length_reverse]
  have z : sizeLine = 16777216 := by decide
  refine ⟨_, (pss_cons (ps_set (i := 1) sc_look_kinds.nd rfl (Or.inl rfl) (pe_lst pa_nil))
    (pss_cons (ps_for PassesOwn.never rfl (pi_enumT (by rfl) T.z_enumerate (pa_cons (pv 0) pa_nil)) (pg_tup rfl (pgs_cons (pg_name (i := 2) sc_look_kinds.nd rfl (by first | exact Or.inl rfl | exact Or.inr rfl)) (pgs_cons (pg_name (i := 3) sc_look_kinds.nd rfl (by first | exact Or.inl rfl | exact Or.inr rfl)) pgs_nil)))
    (pss_cons (ps_if (pt_cmpR op_in_seq (pe_ix ix_tup (pv 3) pe_int (fun _ _ => rfl)) (pv 1) rfl)
    (pss_one ps_never)
    pss_nil)
    (pss_cons (ps_expr (pe_c C_look_parts (hr.mono (by omega)) rfl (pa_cons (pv 1) (pa_cons (pv 3) pa_nil))))
    (pss_cons (ps_expr (pe_bm PySem.F.plainAttrs_list PySem.F.slot_list_append PySem.F.type_list_append mt_append (pv 1) (pa_cons (pe_ix ix_tup (pv 3) pe_int (fun _ _ => rfl)) pa_nil)))
    (pss_one (ps_if (pt_cmpR op_gt (pe_c C_size_of (hr.mono (by omega)) rfl (pa_cons (pe_slice sl_tupA (pv 0) po_none (po_some (pe_op op_add (pv 2) pe_int))) (pa_cons (pe_ix ix_tup (pv 3) pe_int (fun _ _ => rfl)) pa_nil))) (pe_gi T.k_MOST_SIZE rfl) (nomark _))
    (pss_one ps_never)
    pss_nil))))))
    (pss_one (ps_ret pe_bl)))), ?_⟩
  refine ⟨by show 0 ≤ sizeLine; decide, fun D hD => ?_⟩
  have e0 : Ext [] H (upd H D (.lst [])) := (Ext.refl _ _).new hD
  refine ⟨_, rfl, p, xs, rfl, e0.sqt hs, for_enumT (xs := xs) (fun i σ H' => Ext [] H H' ∧ H' D = some (.lst (((rs.reverse.take i).map (·.name)).map V.str)) ∧ ∃ t u, σ = [some (.ref p), some (.ref D), t, u]) ⟨e0, upd_same, _, _, rfl⟩ (fun i σ H' h => h.1.sqt hs) ?_ ?_⟩
  · rintro i x TT σ H0 hx ⟨e1, hD1, t, u, rfl⟩ hT
    obtain ⟨d, hdx, hat⟩ := hd.get i x hx
    obtain ⟨kd, hkd, rfl⟩ := map_at hdx
    obtain ⟨rs1, ok1, et1, et0, hl1⟩ := ks_split ok hkd
    have hat0 := hat
    obtain ⟨p1, y1, y2, y3, rfl, hs1, hy1, hy2, hy3⟩ := hat.tup3
    obtain rfl := hy1.inv_str
    generalize hH1 : upd H0 TT (.tup [.int (i : Nat), .ref p1]) = H1
    have e2 : Ext [] H H1 := by rw [← hH1]; exact e1.new hT
    have hD2 : H1 D = some (.lst (((rs.reverse.take i).map (·.name)).map V.str)) := by rw [← hH1, upd_ne (ne_of_none hD1 hT)]; exact hD1
    refine ⟨TT, _, rfl, .of (by rw [← hH1]; exact upd_same), rfl, _, _, rfl, _, _, rfl, rfl, ?_⟩
    -- told[0] in ahead
    refine ⟨_, rfl, p1, _, _, _, rfl, rfl, e2.sqt hs1, atI_nat (j := 0) rfl, _, rfl, D, _, rfl, .inl (.of hD2), rfl, flat_strs _, _, rfl, ite2 (fun hc => absurd hc ?_) (fun _ => ?_)⟩
    · rw [if_neg Bool.false_ne_true, inV_str, et0]
      refine fun h => ?_
      obtain ⟨k2, m2, en⟩ := List.mem_map.mp (of_decide_eq_true h)
      exact ok1.2.new k2 (List.mem_reverse.mp m2) en
    -- look_parts
    refine ⟨_, rfl, _, rfl, D, _, kd, rfl, hD2, e2.at_ hat0, ok1.2.nd, ok1.2.few, fun pt hpt => ?_, fun H2 e3 => ?_⟩
    · rw [et0]
      rcases ok1.2.pk pt hpt with h | ⟨k2, m2, en⟩
      · exact .inl h
      · exact .inr (List.mem_map.mpr ⟨k2, List.mem_reverse.mpr m2, en⟩)
    have e4 := e2.trans e3
    have hD3 := e3.same _ _ hD2
    -- ahead.append
    refine ⟨_, rfl, .inl ⟨rfl, _, .inl (.inl hD3)⟩, _, rfl, p1, _, _, _, rfl, rfl, e4.sqt hs1, atI_nat (j := 0) rfl, D, _, _, rfl, rfl, hD3, ?_, ?_⟩
    · rw [List.length_map, List.length_map, List.length_take, List.length_reverse]
      omega
    generalize hH3 : upd H2 D (.lst (((rs.reverse.take i).map (·.name)).map V.str ++ [V.str kd.name])) = H3
    have e5 : Ext [] H H3 := by rw [← hH3]; exact e4.own hD
    have hD4 : H3 D = some (.lst (((rs.reverse.take (i + 1)).map (·.name)).map V.str)) := by
      rw [← hH3, upd_same, List.take_add_one, hkd]
      simp
    -- the size
    have size : ∀ (v : V) (H4 : Hp), Ext [] H H4 → Kds K H4 v (kd :: rs1) → prSize K 7 v (.str kd.name) H4 fun x H5 => ∃ n : Nat, x = .int n ∧ n ≤ 30 ∧ Ext [] H4 H5 := fun v H4 e6 hv =>
      ⟨kd :: rs1, kd.name, ok1, hv, rfl, .inr ⟨kd, List.mem_cons_self, rfl⟩, by
        have := rk_le (kd :: rs1) kd.name
        rw [List.length_cons] at this
        have := (List.getElem?_eq_some_iff.mp hkd).1
        rw [List.length_reverse] at this
        omega, fun H5 e7 => ⟨_, rfl, sz_le ok1 (.inr ⟨kd, List.mem_cons_self, rfl⟩), e7⟩⟩
    have hats : Ats K H (xs.take (i + 1)) ((kd :: rs1).reverse.map kdD) := by
      rw [← et1, List.map_take]
      exact hd.take _
    have fin : ∀ H4, Ext [] H3 H4 → (fun i σ H' => Ext [] H H' ∧ H' D = some (.lst (((rs.reverse.take i).map (·.name)).map V.str)) ∧ ∃ t u, σ = [some (.ref p), some (.ref D), t, u]) (i + 1) [some (.ref p), some (.ref D), some (V.int i), some (.ref p1)] H4 := fun H4 e6 => ⟨e5.trans e6, e6.same _ _ hD4, _, _, rfl⟩
    refine ⟨_, rfl, _, rfl, _, _, rfl, rfl, _, rfl, p, xs, rfl, e5.sqt hs, fun hfull => ?_, fun _ n hn => ?_⟩
    · have ht : xs.take (i + 1) = xs := by
        have h2 : HT.sIx xs.length xs.length (some ((i + 1 : Nat) : Int)) = xs.length := hfull.2
        rw [HT.sIx_nat] at h2
        exact List.take_of_length_le (by omega)
      rw [ht] at hats
      refine ⟨_, rfl, p1, _, _, _, rfl, rfl, e5.sqt hs1, atI_nat (j := 0) rfl, kd :: rs1, kd.name, ok1, .tup (e5.sqt hs) (e5.ats hats), rfl, .inr ⟨kd, List.mem_cons_self, rfl⟩, ?_, fun H5 e7 => ?_⟩
      · obtain ⟨_, _, _, _, _, _, h, _⟩ := size (.ref p) H3 e5 (.tup (e5.sqt hs) (e5.ats hats))
        have := rk_le (kd :: rs1) kd.name
        rw [List.length_cons] at this
        have := (List.getElem?_eq_some_iff.mp hkd).1
        rw [List.length_reverse] at this
        omega
      · have h30 := sz_le ok1 (k := kd.name) (.inr ⟨kd, List.mem_cons_self, rfl⟩)
        refine ⟨_, _, rfl, rfl, _, rfl, ite2 (fun hc => absurd (of_decide_eq_true hc) (by omega)) (fun _ => fin H5 e7)⟩
    · have ec : cutV xs none (some ((i : Int) + 1)) = xs.take (i + 1) := cut_to xs (i + 1)
      rw [ec]
      generalize hH4 : upd H3 n (.tup (xs.take (i + 1))) = H4
      have e6 : Ext [] H3 H4 := by rw [← hH4]; exact (Ext.refl _ _).new hn
      have e8 := e5.trans e6
      have hk4 : Kds K H4 (.ref n) (kd :: rs1) := .tup (.of (by rw [← hH4]; exact upd_same)) (e8.ats hats)
      refine ⟨_, rfl, p1, _, _, _, rfl, rfl, e8.sqt hs1, atI_nat (j := 0) rfl, kd :: rs1, kd.name, ok1, hk4, rfl, .inr ⟨kd, List.mem_cons_self, rfl⟩, ?_, fun H5 e7 => ?_⟩
      · have := rk_le (kd :: rs1) kd.name
        rw [List.length_cons] at this
        have := (List.getElem?_eq_some_iff.mp hkd).1
        rw [List.length_reverse] at this
        omega
      · have h30 := sz_le ok1 (k := kd.name) (.inr ⟨kd, List.mem_cons_self, rfl⟩)
        refine ⟨_, _, rfl, rfl, _, rfl, ite2 (fun hc => absurd (of_decide_eq_true hc) (by omega)) (fun _ => fin H5 (e6.trans e7))⟩
  · rintro σ H' ⟨e1, hD1, t, u, rfl⟩
    exact q H' e1
end
end Sw

-- part SwT
set_option Elab.async false
set_option linter.all false
set_option maxRecDepth 100000
set_option maxHeartbeats 4000000
namespace Sw
open PySem PySem.Spec PyProof.Rows L2

theorem word_ne {a b : Str} (h : a ≠ b) : ¬ decide (V.str a = V.str b) = true := fun q => h (V.str.inj (of_decide_eq_true q))
/-- the dict of boxes -/
def kvs (G : List (Str × Str)) : List (Key × V) := G.map fun p => (Sum.inr p.1, V.str p.2)
theorem val_kvs : ∀ (G : List (Str × Str)) (x : Str), valV (kvs G) (Sum.inr x) = (lk G x).map V.str
  | [], _ => rfl
  | p :: G, x => by
    have ih := val_kvs G x
    unfold valV at ih ⊢
    unfold kvs at ih ⊢
    rw [List.map_cons, List.find?_cons]
    show _ = (if p.1 = x then some p.2 else lk G x).map V.str
    by_cases e : p.1 = x
    · rw [if_pos e, decide_eq_true (show (Sum.inr p.1 : Key) = Sum.inr x by rw [e])]
      rfl
    · rw [if_neg e, decide_eq_false fun q => e (Sum.inr.inj q)]
      exact ih
theorem lk_isNone {G : List (Str × Str)} {x : Str} (h : x ∉ G.map (·.1)) : lk G x = none := lk_none h
theorem put_kvs {G : List (Str × Str)} {x k : Str} (h : x ∉ G.map (·.1)) : putK (kvs G) (Sum.inr x) (.str k) = kvs (G ++ [(x, k)]) := by
  unfold putK
  rw [if_neg]
  · unfold kvs
    rw [List.map_append]
    rfl
  · intro q
    obtain ⟨kv, hm, he⟩ := List.any_eq_true.mp q
    obtain ⟨p, hp, rfl⟩ := List.mem_map.mp hm
    exact h (List.mem_map.mpr ⟨p, hp, Sum.inr.inj (of_decide_eq_true he)⟩)
/-- what a term is looked at in -/
structure TEnv (K : PySem.W.Frag) (H : Hp) (a c : V) (rs : List Kd) (G : List (Str × Str)) (n : Nat) : Prop where
  ok : KsOk rs
  ks : Kds K H a rs
  bx : ∃ D, c = .ref D ∧ H D = some (.dK (kvs G))
  few : G.length + n ≤ 1000
theorem TEnv.ext {K : PySem.W.Frag} {H H' : Hp} {a c : V} {rs : List Kd} {G : List (Str × Str)} {n : Nat} (t : TEnv K H a c rs G n) (e : Ext [] H H') : TEnv K H' a c rs G n :=
  ⟨t.ok, e.at_ t.ks, let ⟨D, h1, h2⟩ := t.bx; ⟨D, h1, e.same _ _ h2⟩, t.few⟩
theorem TEnv.less {K : PySem.W.Frag} {H : Hp} {a c : V} {rs : List Kd} {G : List (Str × Str)} {m n : Nat} (t : TEnv K H a c rs G n) (h : m ≤ n) : TEnv K H a c rs G m := ⟨t.ok, t.ks, t.bx, by have := t.few; omega⟩
section
variable {P : Program} {w : World} {K : PySem.W.Frag} {mg : Str → Option Value} {base : Heap}
/-! ## need_kind, need_same, need_sort, named_sort, part_kind -/
abbrev N_need_kind_27 : List Str := ["kind", "due"]
theorem sc_need_kind_27 : FnScope N_need_kind_27 ["kind", "due"] (defScope s_need_kind_27) := ⟨rfl, rfl, rfl, by decide +kernel, rfl, by decide +kernel, by decide +kernel⟩
-- slots: 0 kind, 1 due
def prSame : V → V → Hp → VK → Prop := fun a b H Q => ∃ k : Str, a = .str k ∧ b = .str k ∧ Q .non H
theorem c_need_kind_27 (T : Txt K mg) : Cal P w K mg base 1 "need_kind_terms" (S2 prSame) := T.c_need_kind_27 fun fd F => F.ok2 sc_need_kind_27 fun cdv A outer s H a b Q E hr h => by
  obtain ⟨k, rfl, rfl, q⟩ := h
  refine ⟨_, (pss_one (ps_if (pt_cmpR op_ne (pv 0) (pv 1) (nomark _))
    (pss_one ps_never)
    pss_nil)), ?_⟩
  exact ⟨_, rfl, _, rfl, by simp [scal], _, rfl, ite2 (fun hc => absurd hc (by simp)) (fun _ => q)⟩
abbrev N_need_same : List Str := ["kind", "due"]
theorem sc_need_same : FnScope N_need_same ["kind", "due"] (defScope s_need_same) := ⟨rfl, rfl, rfl, by decide +kernel, rfl, by decide +kernel, by decide +kernel⟩
-- slots: 0 kind, 1 due
theorem c_need_same (T : Txt K mg) : Cal P w K mg base 1 "need_same" (S2 prSame) := T.c_need_same fun fd F => F.ok2 sc_need_same fun cdv A outer s H a b Q E hr h => by
  obtain ⟨k, rfl, rfl, q⟩ := h
  refine ⟨_, (pss_one (ps_if (pt_cmpR op_ne (pv 0) (pv 1) (nomark _))
    (pss_one ps_never)
    pss_nil)), ?_⟩
  exact ⟨_, rfl, _, rfl, by simp [scal], _, rfl, ite2 (fun hc => absurd hc (by simp)) (fun _ => q)⟩
abbrev N_need_sort : List Str := ["kinds", "kind", "sort"]
theorem sc_need_sort : FnScope N_need_sort ["kinds", "kind", "sort"] (defScope s_need_sort) := ⟨rfl, rfl, rfl, by decide +kernel, rfl, by decide +kernel, by decide +kernel⟩
-- slots: 0 kinds, 1 kind, 2 sort
def prNeedSort (K : PySem.W.Frag) : V → V → V → Hp → VK → Prop := fun a b c H Q => ∃ (rs : List Kd) (k : Str) (kd : Kd), KsOk rs ∧ Kds K H a rs ∧ b = .str k ∧ c = .str (sortS kd.alt) ∧ findR rs k = some kd ∧ ∀ v, At K H v (prsD kd.parts) → Q v H
theorem c_need_sort (T : Txt K mg) : Cal P w K mg base 3 "need_sort" (S3 (prNeedSort K)) := T.c_need_sort fun fd F => F.ok3 sc_need_sort fun cdv A outer s H a b c Q E hr h => by
  obtain ⟨rs, k, kd, ok, ha, rfl, rfl, hf, q⟩ := h
  have C_sort_of := c_sort_of (P := P) (w := w) (base := base) T
  have C_parts_of := c_parts_of (P := P) (w := w) (base := base) T
  refine ⟨_, (pss_cons (ps_if (pt_cmpR op_ne (pe_c C_sort_of (hr.mono (by omega)) rfl (pa_cons (pv 0) (pa_cons (pv 1) pa_nil))) (pv 2) (nomark _))
    (pss_one ps_never)
    pss_nil)
    (pss_one (ps_ret (pe_c C_parts_of (hr.mono (by omega)) rfl (pa_cons (pv 0) (pa_cons (pv 1) pa_nil)))))), ?_⟩
  refine ⟨_, rfl, _, rfl, rs, k, ok, ha, rfl, fun h => absurd (hf.symm.trans h) (by simp), fun kd2 hf2 => ?_⟩
  rw [hf] at hf2
  cases hf2
  exact ⟨_, rfl, by simp [scal], _, rfl, ite2 (fun hc => absurd hc (by simp)) (fun _ => ⟨_, rfl, _, rfl, rs, k, kd, ok, ha, rfl, hf, q⟩)⟩
abbrev N_named_sort : List Str := ["kinds", "kind", "sort"]
theorem sc_named_sort : FnScope N_named_sort ["kinds", "kind", "sort"] (defScope s_named_sort) := ⟨rfl, rfl, rfl, by decide +kernel, rfl, by decide +kernel, by decide +kernel⟩
-- slots: 0 kinds, 1 kind, 2 sort
theorem c_named_sort (T : Txt K mg) : Cal P w K mg base 4 "named_sort" (S3 (prNeedSort K)) := T.c_named_sort fun fd F => F.ok3 sc_named_sort fun cdv A outer s H a b c Q E hr h => by
  obtain ⟨rs, k, kd, ok, ha, rfl, rfl, hf, q⟩ := h
  have C_sort_of := c_sort_of (P := P) (w := w) (base := base) T
  have C_need_sort := c_need_sort (P := P) (w := w) (base := base) T
  refine ⟨_, (pss_cons (ps_if (pt_cmpR op_isN (pe_c C_sort_of (hr.mono (by omega)) rfl (pa_cons (pv 0) (pa_cons (pv 1) pa_nil))) pe_non (nomark _))
    (pss_one ps_never)
    pss_nil)
    (pss_one (ps_ret (pe_c C_need_sort (hr.mono (by omega)) rfl (pa_cons (pv 0) (pa_cons (pv 1) (pa_cons (pv 2) pa_nil))))))), ?_⟩
  refine ⟨_, rfl, _, rfl, rs, k, ok, ha, rfl, fun h => absurd (hf.symm.trans h) (by simp), fun kd2 hf2 => ?_⟩
  rw [hf] at hf2
  cases hf2
  exact ⟨rfl, _, rfl, ite2 (fun hc => absurd (of_decide_eq_true hc) (by simp)) (fun _ => ⟨_, rfl, _, rfl, _, rfl, rs, k, kd, ok, ha, rfl, rfl, hf, q⟩)⟩
abbrev N_part_kind : List Str := ["parts", "name", "one", "kind"]
theorem sc_part_kind : FnScope N_part_kind ["parts", "name"] (defScope s_part_kind) := ⟨rfl, rfl, rfl, by decide +kernel, rfl, by decide +kernel, by decide +kernel⟩
-- slots: 0 parts, 1 name, 2 one, 3 kind
def prPart (K : PySem.W.Frag) : V → V → Hp → VK → Prop := fun a b H Q => ∃ (ps : List (Str × Str)) (x k : Str), At K H a (prsD ps) ∧ b = .str x ∧ lk ps x = some k ∧ Q (.str k) H
theorem lk_first : ∀ {l : List (Str × Str)} {i : Nat} {p : Str × Str} {x : Str}, l[i]? = some p → p.1 = x → (∀ j y, j < i → l[j]? = some y → y.1 ≠ x) → lk l x = some p.2
  | [], i, p, x, h, _, _ => by simp at h
  | a :: l, 0, p, x, h, e, _ => by
    have z := Option.some.inj h
    subst z
    exact if_pos e
  | a :: l, i + 1, p, x, h, e, hn => by
    unfold lk
    rw [if_neg (hn 0 a (Nat.zero_lt_succ _) rfl)]
    exact lk_first (l := l) (i := i) h e fun j y hj hy => hn (j + 1) y (Nat.succ_lt_succ hj) hy
theorem c_part_kind (T : Txt K mg) : Cal P w K mg base 1 "part_kind" (S2 (prPart K)) := T.c_part_kind fun fd F => F.ok2 sc_part_kind fun cdv A outer s H a b Q E hr h => by
  obtain ⟨ps, x, k, ha, rfl, hk, q⟩ := h
  obtain ⟨p, xs, rfl, hs, hd⟩ := ha.inv_tup
  have hl : xs.length = ps.length := by rw [hd.length, List.length_map]
  refine ⟨_, (pss_cons (ps_for PassesOwn.never rfl (pi_tup (pv 0)) (pg_tup rfl (pgs_cons (pg_name (i := 2) sc_part_kind.nd rfl (by first | exact Or.inl rfl | exact Or.inr rfl)) (pgs_cons (pg_name (i := 3) sc_part_kind.nd rfl (by first | exact Or.inl rfl | exact Or.inr rfl)) pgs_nil)))
    (pss_one (ps_if (pt_cmpR op_eq (pv 2) (pv 1) (nomark _))
    (pss_one (ps_ret (pv 3)))
    pss_nil)))
    (pss_one ps_never)), ?_⟩
  refine ⟨_, rfl, p, rfl, ⟨xs, hs⟩, for_tup (fun i σ H' => H' = H ∧ (∃ t u, σ = [some (.ref p), some (.str x), t, u]) ∧ ∀ j y, j < i → ps[j]? = some y → y.1 ≠ x) ⟨rfl, ⟨_, _, rfl⟩, fun j _ h => absurd h (by omega)⟩ (fun i σ H' _ h => by rw [h.1]; exact hs) ?_ ?_⟩
  · rintro i y σ H' hx ⟨rfl, ⟨t, u, rfl⟩, hno⟩
    obtain ⟨d, hdx, hat⟩ := hd.get i y hx
    obtain ⟨pt, hpt, rfl⟩ := map_at hdx
    obtain ⟨p3, z1, z2, rfl, hs3, hz1, hz2⟩ := hat.tup2
    obtain rfl := hz1.inv_str
    obtain rfl := hz2.inv_str
    refine ⟨p3, _, rfl, hs3, rfl, _, _, rfl, _, _, rfl, rfl, ?_⟩
    refine ⟨_, rfl, _, rfl, rfl, _, rfl, ite2 (fun hc => ?_) (fun hc => ?_)⟩
    · have e : pt.1 = x := V.str.inj (of_decide_eq_true hc)
      rw [lk_first hpt e hno] at hk
      cases hk
      exact ⟨_, rfl, q⟩
    · refine ⟨rfl, ⟨_, _, rfl⟩, fun j y hj hy => ?_⟩
      by_cases e : j = i
      · subst e
        rw [hpt] at hy
        cases hy
        exact fun e => hc (decide_eq_true (congrArg V.str e))
      · exact hno j y (by omega) hy
  · rintro σ H' ⟨rfl, ⟨t, u, rfl⟩, hno⟩
    obtain ⟨j, hj⟩ := List.mem_iff_getElem?.mp (lk_mem hk)
    have := (List.getElem?_eq_some_iff.mp hj).1
    exact absurd rfl (hno j (x, k) (by omega) hj)
/-! ## the kinds of terms -/
def prKind (K : PySem.W.Frag) (n : Nat) : V → V → V → Hp → VK → Prop := fun a b c H Q => ∃ (rs : List Kd) (G : List (Str × Str)) (k : Str) (d : PyData) (m : Nat), TEnv K H a c rs G n ∧ At K H b d ∧ m < n ∧ WT rs m G k d ∧ ∀ H', Ext [] H H' → Q (.str k) H'
abbrev N_kind_of_two : List Str := ["kinds", "term", "boxes"]
theorem sc_kind_of_two : FnScope N_kind_of_two ["kinds", "term", "boxes"] (defScope s_kind_of_two) := ⟨rfl, rfl, rfl, by decide +kernel, rfl, by decide +kernel, by decide +kernel⟩
-- slots: 0 kinds, 1 term, 2 boxes
def prTwo (K : PySem.W.Frag) (n : Nat) : V → V → V → Hp → VK → Prop := fun a b c H Q => ∃ (rs : List Kd) (G : List (Str × Str)) (s : Str) (d1 d2 : PyData) (m : Nat), TEnv K H a c rs G n ∧ At K H b (.tuple [.str "op", .str s, d1, d2]) ∧ m < n ∧ WT rs m G "num" d1 ∧ WT rs m G "num" d2 ∧ ∀ H', Ext [] H H' → Q (.str "num") H'
theorem c_kind_of_two (T : Txt K mg) {l n : Nat} (h1 : 1 ≤ l) (C_kind_of : Cal P w K mg base l "kind_of" (S3 (prKind K n))) : Cal P w K mg base (l + 1) "kind_of_two" (S3 (prTwo K n)) := T.c_kind_of_two fun fd F => F.ok3 sc_kind_of_two fun cdv A outer s H a b c Q E hr h => by
  obtain ⟨rs, G, s1, d1, d2, m, te, hb, hm, w1, w2, q⟩ := h
  have C_need_kind_27 := c_need_kind_27 (P := P) (w := w) (base := base) T
  obtain ⟨p, y1, y2, y3, y4, rfl, hs, -, -, hy3, hy4⟩ := hb.tup4
  refine ⟨_, (pss_cons (ps_expr (pe_c C_need_kind_27 (hr.mono (by omega)) rfl (pa_cons (pe_c C_kind_of (hr.mono (by omega)) rfl (pa_cons (pv 0) (pa_cons (pe_ix ix_tup (pv 1) pe_int (fun _ _ => rfl)) (pa_cons (pv 2) pa_nil)))) (pa_cons (pe_gs T.k_NUM_terms rfl) pa_nil))))
    (pss_cons (ps_expr (pe_c C_need_kind_27 (hr.mono (by omega)) rfl (pa_cons (pe_c C_kind_of (hr.mono (by omega)) rfl (pa_cons (pv 0) (pa_cons (pe_ix ix_tup (pv 1) pe_int (fun _ _ => rfl)) (pa_cons (pv 2) pa_nil)))) (pa_cons (pe_gs T.k_NUM_terms rfl) pa_nil))))
    (pss_one (ps_ret (pe_gs T.k_NUM_terms rfl))))), ?_⟩
  refine ⟨_, rfl, _, rfl, p, _, _, _, rfl, rfl, hs, atI_nat (j := 2) rfl, _, rfl, rs, G, _, d1, m, te, hy3, hm, w1, fun H1 e1 => ⟨_, rfl, rfl, ?_⟩⟩
  exact ⟨_, rfl, _, rfl, p, _, _, _, rfl, rfl, e1.sqt hs, atI_nat (j := 3) rfl, _, rfl, rs, G, _, d2, m, te.ext e1, e1.at_ hy4, hm, w2, fun H2 e2 => ⟨_, rfl, rfl, q H2 (e1.trans e2)⟩⟩
abbrev N_kind_of_if : List Str := ["kinds", "term", "boxes", "kind"]
theorem sc_kind_of_if : FnScope N_kind_of_if ["kinds", "term", "boxes"] (defScope s_kind_of_if) := ⟨rfl, rfl, rfl, by decide +kernel, rfl, by decide +kernel, by decide +kernel⟩
-- slots: 0 kinds, 1 term, 2 boxes, 3 kind
def prIf (K : PySem.W.Frag) (n : Nat) : V → V → V → Hp → VK → Prop := fun a b c H Q => ∃ (rs : List Kd) (G : List (Str × Str)) (k : Str) (d1 d2 d3 : PyData) (m : Nat), TEnv K H a c rs G n ∧ At K H b (.tuple [.str "if", d1, d2, d3]) ∧ m < n ∧ WT rs m G "num" d1 ∧ WT rs m G k d2 ∧ WT rs m G k d3 ∧ ∀ H', Ext [] H H' → Q (.str k) H'
theorem c_kind_of_if (T : Txt K mg) {l n : Nat} (h1 : 1 ≤ l) (C_kind_of : Cal P w K mg base l "kind_of" (S3 (prKind K n))) : Cal P w K mg base (l + 1) "kind_of_if" (S3 (prIf K n)) := T.c_kind_of_if fun fd F => F.ok3 sc_kind_of_if fun cdv A outer s H a b c Q E hr h => by
  obtain ⟨rs, G, k, d1, d2, d3, m, te, hb, hm, w1, w2, w3, q⟩ := h
  have C_need_kind_27 := c_need_kind_27 (P := P) (w := w) (base := base) T
  obtain ⟨p, y1, y2, y3, y4, rfl, hs, -, hy2, hy3, hy4⟩ := hb.tup4
  refine ⟨_, (pss_cons (ps_expr (pe_c C_need_kind_27 (hr.mono (by omega)) rfl (pa_cons (pe_c C_kind_of (hr.mono (by omega)) rfl (pa_cons (pv 0) (pa_cons (pe_ix ix_tup (pv 1) pe_int (fun _ _ => rfl)) (pa_cons (pv 2) pa_nil)))) (pa_cons (pe_gs T.k_NUM_terms rfl) pa_nil))))
    (pss_cons (ps_set (i := 3) sc_kind_of_if.nd rfl (Or.inl rfl) (pe_c C_kind_of (hr.mono (by omega)) rfl (pa_cons (pv 0) (pa_cons (pe_ix ix_tup (pv 1) pe_int (fun _ _ => rfl)) (pa_cons (pv 2) pa_nil)))))
    (pss_cons (ps_expr (pe_c C_need_kind_27 (hr.mono (by omega)) rfl (pa_cons (pe_c C_kind_of (hr.mono (by omega)) rfl (pa_cons (pv 0) (pa_cons (pe_ix ix_tup (pv 1) pe_int (fun _ _ => rfl)) (pa_cons (pv 2) pa_nil)))) (pa_cons (pv 3) pa_nil))))
    (pss_one (ps_ret (pv 3)))))), ?_⟩
  refine ⟨_, rfl, _, rfl, p, _, _, _, rfl, rfl, hs, atI_nat (j := 1) rfl, _, rfl, rs, G, _, d1, m, te, hy2, hm, w1, fun H1 e1 => ⟨_, rfl, rfl, ?_⟩⟩
  refine ⟨_, rfl, _, rfl, p, _, _, _, rfl, rfl, e1.sqt hs, atI_nat (j := 2) rfl, _, rfl, rs, G, _, d2, m, te.ext e1, e1.at_ hy3, hm, w2, fun H2 e2 => ?_⟩
  have e3 := e1.trans e2
  exact ⟨_, rfl, _, rfl, p, _, _, _, rfl, rfl, e3.sqt hs, atI_nat (j := 3) rfl, _, rfl, rs, G, _, d3, m, te.ext e3, e3.at_ hy4, hm, w3, fun H3 e4 => ⟨_, rfl, _, rfl, rfl, _, rfl, q H3 (e3.trans e4)⟩⟩
abbrev N_kind_of_box : List Str := ["term", "boxes"]
theorem sc_kind_of_box : FnScope N_kind_of_box ["term", "boxes"] (defScope s_kind_of_box) := ⟨rfl, rfl, rfl, by decide +kernel, rfl, by decide +kernel, by decide +kernel⟩
-- slots: 0 term, 1 boxes
def prBox (K : PySem.W.Frag) : V → V → Hp → VK → Prop := fun b c H Q => ∃ (G : List (Str × Str)) (x k : Str) (D : Addr), At K H b (boxD x) ∧ c = .ref D ∧ H D = some (.dK (kvs G)) ∧ lk G x = some k ∧ Q (.str k) H
theorem c_kind_of_box (T : Txt K mg) : Cal P w K mg base 1 "kind_of_box" (S2 (prBox K)) := T.c_kind_of_box fun fd F => F.ok2 sc_kind_of_box fun cdv A outer s H b c Q E hr h => by
  obtain ⟨G, x, k, D, hb, rfl, hD, hk, q⟩ := h
  obtain ⟨p, y1, y2, rfl, hs, -, hy2⟩ := hb.tup2
  obtain rfl := hy2.inv_str
  have hv : valV (kvs G) (Sum.inr x) = some (.str k) := by rw [val_kvs, hk]; rfl
  have hg : DGet H D (.str x) (some (.str k)) := by
    have := DGet.k (k := Sum.inr x) hD
    rw [hv] at this
    exact this
  refine ⟨_, (pss_cons (ps_if (pt_cmp (pc_dnotin (hu_of hr) (pe_ix ix_tup (pv 0) pe_int (fun _ _ => rfl)) (pv 1)))
    (pss_one ps_never)
    pss_nil)
    (pss_one (ps_ret (pe_dget (hu_of hr) (pv 1) (pe_ix ix_tup (pv 0) pe_int (fun _ _ => rfl)) (fun _ _ => rfl))))), ?_⟩
  exact ⟨_, rfl, p, _, _, _, rfl, rfl, hs, atI_nat (j := 1) rfl, _, rfl, D, _, rfl, hg, _, rfl, _, rfl, _, rfl, p, _, _, _, rfl, rfl, hs, atI_nat (j := 1) rfl, D, _, rfl, hg, q⟩
abbrev N_kind_of_get : List Str := ["kinds", "term", "boxes", "kind"]
theorem sc_kind_of_get : FnScope N_kind_of_get ["kinds", "term", "boxes"] (defScope s_kind_of_get) := ⟨rfl, rfl, rfl, by decide +kernel, rfl, by decide +kernel, by decide +kernel⟩
-- slots: 0 kinds, 1 term, 2 boxes, 3 kind
def prGet (K : PySem.W.Frag) (n : Nat) : V → V → V → Hp → VK → Prop := fun a b c H Q => ∃ (rs : List Kd) (G : List (Str × Str)) (x k f kn : Str) (kd : Kd), TEnv K H a c rs G n ∧ At K H b (.tuple [.str "get", boxD x, .str f]) ∧ 0 < n ∧ lk G x = some k ∧ findR rs k = some kd ∧ kd.alt = false ∧ lk kd.parts f = some kn ∧ ∀ H', Ext [] H H' → Q (.str kn) H'
theorem c_kind_of_get (T : Txt K mg) {l n : Nat} (h1 : 3 ≤ l) (C_kind_of : Cal P w K mg base l "kind_of" (S3 (prKind K n))) : Cal P w K mg base (l + 1) "kind_of_get" (S3 (prGet K n)) := T.c_kind_of_get fun fd F => F.ok3 sc_kind_of_get fun cdv A outer s H a b c Q E hr h => by
  obtain ⟨rs, G, x, k, f, kn, kd, te, hb, hn, hx, hf, ha, hl, q⟩ := h
  have C_need_sort := c_need_sort (P := P) (w := w) (base := base) T
  have C_part_kind := c_part_kind (P := P) (w := w) (base := base) T
  obtain ⟨p, y1, y2, y3, rfl, hs, -, hy2, hy3⟩ := hb.tup3
  obtain rfl := hy3.inv_str
  refine ⟨_, (pss_cons (ps_set (i := 3) sc_kind_of_get.nd rfl (Or.inl rfl) (pe_c C_kind_of (hr.mono (by omega)) rfl (pa_cons (pv 0) (pa_cons (pe_ix ix_tup (pv 1) pe_int (fun _ _ => rfl)) (pa_cons (pv 2) pa_nil)))))
    (pss_one (ps_ret (pe_c C_part_kind (hr.mono (by omega)) rfl (pa_cons (pe_c C_need_sort (hr.mono (by omega)) rfl (pa_cons (pv 0) (pa_cons (pv 3) (pa_cons pe_str pa_nil)))) (pa_cons (pe_ix ix_tup (pv 1) pe_int (fun _ _ => rfl)) pa_nil)))))), ?_⟩
  refine ⟨_, rfl, _, rfl, p, _, _, _, rfl, rfl, hs, atI_nat (j := 1) rfl, _, rfl, rs, G, k, boxD x, 0, te, hy2, hn, .box hx, fun H1 e1 => ?_⟩
  refine ⟨_, rfl, _, rfl, rs, k, kd, te.ok, e1.at_ te.ks, rfl, by rw [ha]; rfl, hf, fun v hv => ?_⟩
  exact ⟨_, rfl, p, _, _, _, rfl, rfl, e1.sqt hs, atI_nat (j := 2) rfl, kd.parts, f, kn, hv, rfl, hl, q H1 e1⟩
abbrev N_kind_of_tag : List Str := ["kinds", "term", "boxes", "kind"]
theorem sc_kind_of_tag : FnScope N_kind_of_tag ["kinds", "term", "boxes"] (defScope s_kind_of_tag) := ⟨rfl, rfl, rfl, by decide +kernel, rfl, by decide +kernel, by decide +kernel⟩
-- slots: 0 kinds, 1 term, 2 boxes, 3 kind
def prTag (K : PySem.W.Frag) (n : Nat) : V → V → V → Hp → VK → Prop := fun a b c H Q => ∃ (rs : List Kd) (G : List (Str × Str)) (k t kn : Str) (kd : Kd) (d : PyData) (m : Nat), TEnv K H a c rs G n ∧ At K H b (.tuple [.str "tag", .str k, .str t, d]) ∧ m < n ∧ findR rs k = some kd ∧ kd.alt = true ∧ lk kd.parts t = some kn ∧ WT rs m G kn d ∧ ∀ H', Ext [] H H' → Q (.str k) H'
theorem c_kind_of_tag (T : Txt K mg) {l n : Nat} (h1 : 4 ≤ l) (C_kind_of : Cal P w K mg base l "kind_of" (S3 (prKind K n))) : Cal P w K mg base (l + 1) "kind_of_tag" (S3 (prTag K n)) := T.c_kind_of_tag fun fd F => F.ok3 sc_kind_of_tag fun cdv A outer s H a b c Q E hr h => by
  obtain ⟨rs, G, k, t, kn, kd, d, m, te, hb, hm, hf, ha, hl, w1, q⟩ := h
  have C_named_sort := c_named_sort (P := P) (w := w) (base := base) T
  have C_part_kind := c_part_kind (P := P) (w := w) (base := base) T
  have C_need_kind_27 := c_need_kind_27 (P := P) (w := w) (base := base) T
  obtain ⟨p, y1, y2, y3, y4, rfl, hs, -, hy2, hy3, hy4⟩ := hb.tup4
  obtain rfl := hy2.inv_str
  obtain rfl := hy3.inv_str
  refine ⟨_, (pss_cons (ps_set (i := 3) sc_kind_of_tag.nd rfl (Or.inl rfl) (pe_c C_part_kind (hr.mono (by omega)) rfl (pa_cons (pe_c C_named_sort (hr.mono (by omega)) rfl (pa_cons (pv 0) (pa_cons (pe_ix ix_tup (pv 1) pe_int (fun _ _ => rfl)) (pa_cons pe_str pa_nil)))) (pa_cons (pe_ix ix_tup (pv 1) pe_int (fun _ _ => rfl)) pa_nil))))
    (pss_cons (ps_expr (pe_c C_need_kind_27 (hr.mono (by omega)) rfl (pa_cons (pe_c C_kind_of (hr.mono (by omega)) rfl (pa_cons (pv 0) (pa_cons (pe_ix ix_tup (pv 1) pe_int (fun _ _ => rfl)) (pa_cons (pv 2) pa_nil)))) (pa_cons (pv 3) pa_nil))))
    (pss_one (ps_ret (pe_ix ix_tup (pv 1) pe_int (fun _ _ => rfl)))))), ?_⟩
  refine ⟨_, rfl, _, rfl, p, _, _, _, rfl, rfl, hs, atI_nat (j := 1) rfl, rs, k, kd, te.ok, te.ks, rfl, by rw [ha]; rfl, hf, fun v hv => ?_⟩
  refine ⟨_, rfl, p, _, _, _, rfl, rfl, hs, atI_nat (j := 2) rfl, kd.parts, t, kn, hv, rfl, hl, ?_⟩
  refine ⟨_, rfl, _, rfl, p, _, _, _, rfl, rfl, hs, atI_nat (j := 3) rfl, _, rfl, rs, G, _, d, m, te, hy4, hm, w1, fun H1 e1 => ?_⟩
  exact ⟨_, rfl, _, rfl, rfl, _, rfl, p, _, _, _, rfl, rfl, e1.sqt hs, atI_nat (j := 1) rfl, q H1 e1⟩
abbrev N_kind_of_rec : List Str := ["kinds", "term", "boxes", "parts", "part", "one"]
theorem sc_kind_of_rec : FnScope N_kind_of_rec ["kinds", "term", "boxes"] (defScope s_kind_of_rec) := ⟨rfl, rfl, rfl, by decide +kernel, rfl, by decide +kernel, by decide +kernel⟩
-- slots: 0 kinds, 1 term, 2 boxes, 3 parts, 4 part, 5 one
def prRec (K : PySem.W.Frag) (n : Nat) : V → V → V → Hp → VK → Prop := fun a b c H Q => ∃ (rs : List Kd) (G : List (Str × Str)) (k : Str) (kd : Kd) (es : List PyData) (m : Nat), TEnv K H a c rs G n ∧ At K H b (.tuple [.str "rec", .str k, .tuple es]) ∧ m < n ∧ findR rs k = some kd ∧ kd.alt = false ∧ es.length = kd.parts.length ∧
  (∀ (i : Nat) (e : PyData) (p : Str × Str), es[i]? = some e → kd.parts[i]? = some p → WT rs m G p.2 e) ∧ ∀ H', Ext [] H H' → Q (.str k) H'
theorem c_kind_of_rec (T : Txt K mg) {l n : Nat} (h1 : 4 ≤ l) (C_kind_of : Cal P w K mg base l "kind_of" (S3 (prKind K n))) : Cal P w K mg base (l + 1) "kind_of_rec" (S3 (prRec K n)) := T.c_kind_of_rec fun fd F => F.ok3 sc_kind_of_rec fun cdv A outer s H a b c Q E hr h => by
  obtain ⟨rs, G, k, kd, es, m, te, hb, hm, hf, ha, hl, w1, q⟩ := h
  have C_named_sort := c_named_sort (P := P) (w := w) (base := base) T
  have C_need_kind_27 := c_need_kind_27 (P := P) (w := w) (base := base) T
  obtain ⟨p, y1, y2, y3, rfl, hs, -, hy2, hy3⟩ := hb.tup3
  obtain rfl := hy2.inv_str
  obtain ⟨p2, ys, rfl, hs2, hd2⟩ := hy3.inv_tup
  have l2 : ys.length = es.length := hd2.length
  refine ⟨_, (pss_cons (ps_set (i := 3) sc_kind_of_rec.nd rfl (Or.inl rfl) (pe_c C_named_sort (hr.mono (by omega)) rfl (pa_cons (pv 0) (pa_cons (pe_ix ix_tup (pv 1) pe_int (fun _ _ => rfl)) (pa_cons pe_str pa_nil)))))
    (pss_cons (ps_if (pt_cmpR op_ne (pe_callB call_len_seq (by rfl) T.z_len PySem.boot_len (pa_cons (pv 3) pa_nil)) (pe_callB call_len_seq (by rfl) T.z_len PySem.boot_len (pa_cons (pe_ix ix_tup (pv 1) pe_int (fun _ _ => rfl)) pa_nil)) (nomark _))
    (pss_one ps_never)
    pss_nil)
    (pss_cons (ps_for PassesOwn.never rfl (RZ.pi_zipA (by rfl) T.z_zip (pa_cons (pv 3) (pa_cons (pe_ix ix_tup (pv 1) pe_int (fun _ _ => rfl)) pa_nil))) (pg_tup rfl (pgs_cons (pg_name (i := 4) sc_kind_of_rec.nd rfl (by first | exact Or.inl rfl | exact Or.inr rfl)) (pgs_cons (pg_name (i := 5) sc_kind_of_rec.nd rfl (by first | exact Or.inl rfl | exact Or.inr rfl)) pgs_nil)))
    (pss_one (ps_expr (pe_c C_need_kind_27 (hr.mono (by omega)) rfl (pa_cons (pe_c C_kind_of (hr.mono (by omega)) rfl (pa_cons (pv 0) (pa_cons (pv 5) (pa_cons (pv 2) pa_nil)))) (pa_cons (pe_ix ix_tup (pv 4) pe_int (fun _ _ => rfl)) pa_nil))))))
    (pss_one (ps_ret (pe_ix ix_tup (pv 1) pe_int (fun _ _ => rfl))))))), ?_⟩
  refine ⟨_, rfl, _, rfl, p, _, _, _, rfl, rfl, hs, atI_nat (j := 1) rfl, rs, k, kd, te.ok, te.ks, rfl, by rw [ha]; rfl, hf, fun v hv => ?_⟩
  obtain ⟨p3, xs, rfl, hs3, hd3⟩ := hv.inv_tup
  have l3 : xs.length = kd.parts.length := by rw [hd3.length, List.length_map]
  refine ⟨_, rfl, p3, xs, rfl, .inr hs3, _, rfl, p, _, _, _, rfl, rfl, hs, atI_nat (j := 2) rfl, p2, ys, rfl, .inr hs2, rfl, _, rfl, ite2 (fun hc => absurd hc ?_) (fun _ => ?_)⟩
  · rw [show xs.length = ys.length by omega]
    simp
  refine ⟨_, rfl, _, rfl, p, _, _, _, rfl, rfl, hs, atI_nat (j := 2) rfl, p3, p2, xs, ys, rfl, .inr ⟨hs3, hs2, ?_⟩⟩
  refine RZ.for_zipT (xs := xs) (ys := ys) (by omega) (fun i σ H' => Ext [] H H' ∧ ∃ t u, σ = [some a, some (.ref p), some c, some (.ref p3), t, u]) ⟨Ext.refl _ _, _, _, rfl⟩ (fun i σ H' h => ⟨h.1.sqt hs3, h.1.sqt hs2⟩) ?_ ?_
  · rintro i x y TT σ H0 hx hy ⟨e1, t, u, rfl⟩ hT
    obtain ⟨d, hdx, hat⟩ := hd3.get i x hx
    obtain ⟨pt, hpt, rfl⟩ := map_at hdx
    obtain ⟨e, hdy, hay⟩ := hd2.get i y hy
    obtain ⟨p4, z1, z2, rfl, hs4, hz1, hz2⟩ := hat.tup2
    obtain rfl := hz2.inv_str
    generalize hH1 : upd H0 TT (.tup [.ref p4, y]) = H1
    have e2 : Ext [] H H1 := by rw [← hH1]; exact e1.new hT
    refine ⟨TT, _, rfl, .of (by rw [← hH1]; exact upd_same), rfl, _, _, rfl, _, _, rfl, rfl, ?_⟩
    refine ⟨_, rfl, _, rfl, _, rfl, rs, G, _, e, m, te.ext e2, e2.at_ hay, hm, w1 i e pt hdy hpt, fun H2 e3 => ?_⟩
    have e4 := e2.trans e3
    exact ⟨_, rfl, p4, _, _, _, rfl, rfl, e4.sqt hs4, atI_nat (j := 1) rfl, _, rfl, rfl, e4, _, _, rfl⟩
  · rintro σ H' ⟨e1, t, u, rfl⟩
    exact ⟨_, rfl, p, _, _, _, rfl, rfl, e1.sqt hs, atI_nat (j := 1) rfl, q H' e1⟩
end
end Sw

-- part SwT2
set_option Elab.async false
set_option linter.all false
set_option maxRecDepth 100000
set_option maxHeartbeats 4000000
namespace Sw
open PySem PySem.Spec PyProof.Rows L2
section
variable {P : Program} {w : World} {K : PySem.W.Frag} {mg : Str → Option Value} {base : Heap}
abbrev N_kind_of_arm : List Str := ["kinds", "parts", "arm", "boxes", "tag", "name", "one", "kind", "inner"]
theorem sc_kind_of_arm : FnScope N_kind_of_arm ["kinds", "parts", "arm", "boxes"] (defScope s_kind_of_arm) := ⟨rfl, rfl, rfl, by decide +kernel, rfl, by decide +kernel, by decide +kernel⟩
-- slots: 0 kinds, 1 parts, 2 arm, 3 boxes, 4 tag, 5 name, 6 one, 7 kind, 8 inner
def prArm (K : PySem.W.Frag) (n : Nat) : V → V → V → V → Hp → VK → Prop := fun a b c d H Q => ∃ (rs : List Kd) (G ps : List (Str × Str)) (t y kt kn : Str) (e : PyData) (m : Nat), TEnv K H a d rs G (n + 1) ∧ At K H b (prsD ps) ∧ At K H c (armD ⟨t, y, e⟩) ∧ m < n ∧
  lk ps t = some kt ∧ y ∉ G.map (·.1) ∧ WT rs m (G ++ [(y, kt)]) kn e ∧ ∀ H', Ext [] H H' → Q (.str kn) H'
theorem c_kind_of_arm (T : Txt K mg) {l n : Nat} (h1 : 3 ≤ l) (C_kind_of : Cal P w K mg base l "kind_of" (S3 (prKind K n))) : Cal P w K mg base (l + 1) "kind_of_arm" (S4 (prArm K n)) := T.c_kind_of_arm fun fd F => F.ok4 sc_kind_of_arm fun cdv A outer s H a b c d Q E hr h => by
  obtain ⟨rs, G, ps, t, y, kt, kn, e, m, te, hb, hc, hm, ht, hy, w1, q⟩ := h
  have C_part_kind := c_part_kind (P := P) (w := w) (base := base) T
  obtain ⟨p, y1, y2, y3, rfl, hs, hy1, hy2, hy3⟩ := hc.tup3
  obtain rfl := hy1.inv_str
  obtain rfl := hy2.inv_str
  obtain ⟨D, rfl, hD⟩ := te.bx
  have few := te.few
  have z : sizeLine = 16777216 := by decide
  have hg : DGet H D (.str y) none := by
    have := DGet.k (k := Sum.inr y) hD
    rw [val_kvs, lk_none hy] at this
    exact this
  refine ⟨_, (pss_cons (ps_asg (pv 2) (pg_tup rfl (pgs_cons (pg_name (i := 4) sc_kind_of_arm.nd rfl (by first | exact Or.inl rfl | exact Or.inr rfl)) (pgs_cons (pg_name (i := 5) sc_kind_of_arm.nd rfl (by first | exact Or.inl rfl | exact Or.inr rfl)) (pgs_cons (pg_name (i := 6) sc_kind_of_arm.nd rfl (by first | exact Or.inl rfl | exact Or.inr rfl)) pgs_nil)))))
    (pss_cons (ps_set (i := 7) sc_kind_of_arm.nd rfl (Or.inl rfl) (pe_c C_part_kind (hr.mono (by omega)) rfl (pa_cons (pv 1) (pa_cons (pv 4) pa_nil))))
    (pss_cons (ps_if (pt_cmp (pc_din (hu_of hr) (pv 5) (pv 3)))
    (pss_one ps_never)
    pss_nil)
    (pss_cons (ps_set (i := 8) sc_kind_of_arm.nd rfl (Or.inl rfl) (pe_callTy call_dictD (by rfl) T.z_dict (by decide +kernel) (pa_cons (pv 3) pa_nil)))
    (pss_cons (ps_dput (hu_of hr) (pv 8) (pv 5) (pv 7) rfl)
    (pss_one (ps_ret (pe_c C_kind_of (hr.mono (by omega)) rfl (pa_cons (pv 0) (pa_cons (pv 6) (pa_cons (pv 8) pa_nil))))))))))), ?_⟩
  refine ⟨_, rfl, p, _, rfl, hs, rfl, _, _, rfl, _, _, rfl, _, _, rfl, rfl, ?_⟩
  refine ⟨_, rfl, _, rfl, ps, t, kt, hb, rfl, ht, ?_⟩
  refine ⟨_, rfl, _, rfl, D, _, rfl, hg, _, rfl, ite2 (fun hc => absurd hc Bool.false_ne_true) (fun _ => ?_)⟩
  refine ⟨_, rfl, D, _, rfl, .inl hD, fun D2 hD2 => ?_⟩
  refine ⟨_, rfl, _, rfl, _, rfl, D2, _, rfl, DPut.k (k := Sum.inr y) upd_same (by rw [kvs, List.length_map]; omega), ?_⟩
  rw [put_kvs hy, upd_upd]
  have e1 : Ext [] H (upd H D2 (.dK (kvs (G ++ [(y, kt)])))) := (Ext.refl _ _).new hD2
  exact ⟨_, rfl, _, rfl, _, rfl, rs, G ++ [(y, kt)], kn, e, m, ⟨te.ok, e1.at_ te.ks, ⟨D2, rfl, upd_same⟩, by rw [List.length_append, List.length_singleton]; omega⟩, e1.at_ hy3, hm, w1, fun H' e2 => q H' (e1.trans e2)⟩
abbrev N_kind_of_case : List Str := ["kinds", "term", "boxes", "parts", "tags", "found", "tag", "kind", "arm"]
theorem sc_kind_of_case : FnScope N_kind_of_case ["kinds", "term", "boxes"] (defScope s_kind_of_case) := ⟨rfl, rfl, rfl, by decide +kernel, rfl, by decide +kernel, by decide +kernel⟩
-- slots: 0 kinds*, 1 term, 2 boxes*, 3 parts*, 4 tags, 5 found, 6 tag, 7 kind, 8 arm
def prCase (K : PySem.W.Frag) (n : Nat) : V → V → V → Hp → VK → Prop := fun a b c H Q => ∃ (rs : List Kd) (G : List (Str × Str)) (x k kn : Str) (kd : Kd) (arms : List Arm) (m : Nat), TEnv K H a c rs G (n + 1) ∧ At K H b (.tuple [.str "case", boxD x, .tuple (arms.map armD)]) ∧ m < n ∧
  lk G x = some k ∧ findR rs k = some kd ∧ kd.alt = true ∧ arms ≠ [] ∧ arms.length = kd.parts.length ∧ (arms.map Arm.tag).Nodup ∧ (∀ p ∈ kd.parts, p.1 ∈ arms.map Arm.tag) ∧ (∀ a ∈ arms, (lk kd.parts a.tag).isSome = true ∧ a.box ∉ G.map (·.1)) ∧
  (∀ a ∈ arms, ∀ kt, lk kd.parts a.tag = some kt → WT rs m (G ++ [(a.box, kt)]) kn a.term) ∧ ∀ H', Ext [] H H' → Q (.str kn) H'
theorem c_kind_of_case (T : Txt K mg) {l n : Nat} (h1 : 3 ≤ l) (C_kind_of : Cal P w K mg base l "kind_of" (S3 (prKind K n))) : Cal P w K mg base (l + 2) "kind_of_case" (S3 (prCase K n)) := T.c_kind_of_case fun fd F => F.ok3 sc_kind_of_case fun cdv A outer s H a b c Q E hr h => by
  obtain ⟨rs, G, x, k, kn, kd, arms, m, te, hb, hm, hx, hf, ha, ha0, hal, hnd, hall, harm, w1, q⟩ := h
  have C_need_sort := c_need_sort (P := P) (w := w) (base := base) T
  have C_need_kind_27 := c_need_kind_27 (P := P) (w := w) (base := base) T
  have C_kind_of_arm := c_kind_of_arm T h1 C_kind_of
  obtain ⟨p, y1, y2, y3, rfl, hs, -, hy2, hy3⟩ := hb.tup3
  obtain ⟨p2, ys, rfl, hs2, hd2⟩ := hy3.inv_tup
  have l2 : ys.length = arms.length := by rw [hd2.length, List.length_map]
  have kat := kd_at te.ok hf
  have few := kat.few
  have z : sizeLine = 16777216 := by decide
  have a0 : 0 < arms.length := List.length_pos_iff.mpr ha0
  refine ⟨_, (pss_cons (ps_set (i := 3) sc_kind_of_case.nd rfl (Or.inr rfl) (pe_c C_need_sort (hr.mono (by omega)) rfl (pa_cons (pv 0) (pa_cons (pe_c C_kind_of (hr.mono (by omega)) rfl (pa_cons (pv 0) (pa_cons (pe_ix ix_tup (pv 1) pe_int (fun _ _ => rfl)) (pa_cons (pv 2) pa_nil)))) (pa_cons pe_str pa_nil)))))
    (pss_cons (ps_setLc (i := 4) rfl sc_kind_of_case.nd rfl rfl (sw_true rfl rfl rfl (by decide +kernel)) (pi_tup (pe_ix ix_tup (pv 1) pe_int (fun _ _ => rfl))) (blkOk_by (N := N_kind_of_case) (sc := defScope s_kind_of_case) (own := [("arm", 8)]) (by decide +kernel)) (fun _ _ _ _ _ => (pg_name (i := 8) sc_kind_of_case.nd rfl (by first | exact Or.inl rfl | exact Or.inr rfl))) (fun _ _ _ _ _ => pts_nil) (fun _ _ _ _ _ => (pe_ix (ix_tupK K) (pv 8) pe_int (fun _ _ => rfl))))
    (pss_cons (ps_if (pt_cmpR op_lt (pe_lenSetS rfl T.z_len rfl T.z_set (pv 4)) (pe_callB call_len_seq (by rfl) T.z_len PySem.boot_len (pa_cons (pv 4) pa_nil)) (nomark _))
    (pss_one ps_never)
    pss_nil)
    (pss_cons (ps_setLc (i := 5) rfl sc_kind_of_case.nd rfl rfl (sw_true rfl rfl rfl (by decide +kernel)) (pi_tup (pe_ix ix_tup (pv 1) pe_int (fun _ _ => rfl))) (blkOk_by (N := N_kind_of_case) (sc := defScope s_kind_of_case) (own := [("arm", 8)]) (by decide +kernel)) (fun _ _ _ _ _ => (pg_name (i := 8) sc_kind_of_case.nd rfl (by first | exact Or.inl rfl | exact Or.inr rfl))) (fun _ _ _ _ _ => pts_nil) (fun _ _ _ _ _ => (pe_c C_kind_of_arm (hr.mono (by omega)) rfl (pa_cons (pv 0) (pa_cons (pv 3) (pa_cons (pv 8) (pa_cons (pv 2) pa_nil)))))))
    (pss_cons (ps_for PassesOwn.never rfl (pi_tup (pv 3)) (pg_tup rfl (pgs_cons (pg_name (i := 6) sc_kind_of_case.nd rfl (by first | exact Or.inl rfl | exact Or.inr rfl)) (pgs_cons (pg_name (i := 7) sc_kind_of_case.nd rfl (by first | exact Or.inl rfl | exact Or.inr rfl)) pgs_nil)))
    (pss_one (ps_if (pt_cmpR op_notIn_seq (pv 6) (pv 4) rfl)
    (pss_one ps_never)
    pss_nil)))
    (pss_cons (ps_for PassesOwn.never rfl (pi_list (pv 5)) (pg_name (i := 7) sc_kind_of_case.nd rfl (by first | exact Or.inl rfl | exact Or.inr rfl))
    (pss_one (ps_expr (pe_c C_need_kind_27 (hr.mono (by omega)) rfl (pa_cons (pv 7) (pa_cons (pe_ix ix_list (pv 5) pe_int (fun _ _ => rfl)) pa_nil))))))
    (pss_one (ps_ret (pe_ix ix_list (pv 5) pe_int (fun _ _ => rfl)))))))))), ?_⟩
  refine ⟨_, rfl, _, rfl, _, rfl, p, _, _, _, rfl, rfl, hs, atI_nat (j := 1) rfl, _, rfl, rs, G, k, boxD x, 0, te.less (Nat.le_succ n), hy2, by omega, .box hx, fun H1 e1 => ?_⟩
  refine ⟨rs, k, kd, te.ok, e1.at_ te.ks, rfl, by rw [ha]; rfl, hf, fun v hv => ?_⟩
  obtain ⟨p3, xs, rfl, hs3, hd3⟩ := hv.inv_tup
  have l3 : xs.length = kd.parts.length := by rw [hd3.length, List.length_map]
  have hv0 : At K H1 (.ref p3) (prsD kd.parts) := .tup hs3 hd3
  -- tags
  refine ⟨_, rfl, p, _, _, _, rfl, rfl, e1.sqt hs, atI_nat (j := 2) rfl, p2, rfl, ⟨ys, e1.sqt hs2⟩, fun D hD => lc_tup (K := K) (xs := ys) (fun i H' => Ext [] H1 H' ∧ H' D = some (.lst (((arms.take i).map Arm.tag).map V.str))) ⟨(Ext.refl _ _).new hD, upd_same⟩ (fun i H' _ h => (e1.trans h.1).sqt hs2) ?_ ?_⟩
  · rintro i y H' hy ⟨e2, hD1⟩
    obtain ⟨d, hdy, hat⟩ := hd2.get i y hy
    obtain ⟨ar, har, rfl⟩ := map_at hdy
    obtain ⟨p4, z1, z2, z3, rfl, hs4, hz1, hz2, hz3⟩ := hat.tup3
    obtain rfl := hz1.inv_str
    refine ⟨rfl, _, rfl, p4, _, _, _, rfl, rfl, (e1.trans e2).sqt hs4, atI_nat (j := 0) rfl, _, hD1, ?_, e2.own hD, ?_⟩
    · rw [List.length_map, List.length_map, List.length_take]
      omega
    · rw [upd_same, List.take_add_one, har]
      simp
  rintro H2 ⟨e2, hD2⟩
  rw [l2, List.take_length] at hD2
  have e12 := e1.trans e2
  -- no tag twice
  refine ⟨_, rfl, D, _, rfl, .of hD2, hnd, by rw [List.length_map]; omega, _, rfl, D, _, rfl, .inl (.of hD2), _, _, rfl, rfl, _, rfl, ite2 (fun hc => absurd (of_decide_eq_true hc) ?_) (fun _ => ?_)⟩
  · rw [show ((arms.map Arm.tag).map V.str).length = (arms.map Arm.tag).length from List.length_map _]
    omega
  -- found
  refine ⟨_, rfl, p, _, _, _, rfl, rfl, e12.sqt hs, atI_nat (j := 2) rfl, p2, rfl, ⟨ys, e12.sqt hs2⟩, fun D3 hD3 => lc_tup (K := K) (xs := ys) (fun i H' => Ext [] H2 H' ∧ H' D3 = some (.lst (List.replicate (arms.take i).length (V.str kn)))) ⟨(Ext.refl _ _).new hD3, upd_same⟩ (fun i H' _ h => (e12.trans h.1).sqt hs2) ?_ ?_⟩
  · rintro i y H' hy ⟨e3, hD4⟩
    obtain ⟨d, hdy, hat⟩ := hd2.get i y hy
    obtain ⟨ar, har, rfl⟩ := map_at hdy
    have hm2 := List.mem_of_getElem? har
    obtain ⟨kt, hkt⟩ := Option.isSome_iff_exists.mp (harm ar hm2).1
    have e13 := e12.trans e3
    refine ⟨rfl, _, rfl, _, rfl, _, rfl, _, rfl, rs, G, kd.parts, ar.tag, ar.box, kt, kn, ar.term, m, te.ext e13, (e2.trans e3).at_ hv0, e13.at_ hat, hm, hkt, (harm ar hm2).2, w1 ar hm2 kt hkt, fun H4 e4 => ⟨_, e4.same _ _ hD4, ?_, (e3.trans e4).own hD3, ?_⟩⟩
    · rw [List.length_replicate, List.length_take]
      omega
    · rw [upd_same, List.take_add_one, har]
      simp [List.replicate_succ']
  rintro H3 ⟨e3, hD4⟩
  rw [l2, List.take_length] at hD4
  have e13 := e12.trans e3
  have hD5 := e3.same _ _ hD2
  -- each tag has its arm
  refine ⟨_, rfl, p3, rfl, ⟨xs, (e2.trans e3).sqt hs3⟩, for_tup (K := K) (xs := xs) (fun i σ H' => H' = H3 ∧ ∃ t u r, σ = [some a, some (.ref p), some c, some (.ref p3), some (.ref D), some (.ref D3), t, u, r]) ⟨rfl, _, _, _, rfl⟩ (fun i σ H' _ h => by rw [h.1]; exact (e2.trans e3).sqt hs3) ?_ ?_⟩
  · rintro i y σ H' hy ⟨rfl, t, u, r, rfl⟩
    obtain ⟨d, hdx, hat⟩ := hd3.get i y hy
    obtain ⟨pt, hpt, rfl⟩ := map_at hdx
    obtain ⟨p4, z1, z2, rfl, hs4, hz1, hz2⟩ := hat.tup2
    obtain rfl := hz1.inv_str
    obtain rfl := hz2.inv_str
    refine ⟨p4, _, rfl, (e2.trans e3).sqt hs4, rfl, _, _, rfl, _, _, rfl, rfl, ?_⟩
    refine ⟨_, rfl, _, rfl, D, _, rfl, .inl (.of hD5), rfl, flat_strs _, _, rfl, ite2 (fun hc => absurd hc ?_) (fun _ => ⟨rfl, _, _, _, rfl⟩)⟩
    rw [if_pos rfl, inV_str, decide_eq_true (hall pt (List.mem_of_getElem? hpt))]
    exact Bool.false_ne_true
  rintro σ H3 ⟨rfl, t, u, r, rfl⟩
  have h0 : (List.replicate arms.length (V.str kn))[0]? = some (V.str kn) := by rw [List.getElem?_replicate, if_pos a0]
  -- all of one kind
  refine ⟨_, rfl, D3, rfl, ⟨_, .of hD4⟩, for_list (K := K) (xs := List.replicate arms.length (V.str kn)) (fun i σ H' => H' = H3 ∧ ∃ t u r, σ = [some a, some (.ref p), some c, some (.ref p3), some (.ref D), some (.ref D3), t, u, r]) ⟨rfl, _, _, _, rfl⟩ (fun i σ H' _ h => by rw [h.1]; exact .of hD4) ?_ ?_⟩
  · rintro i y σ H' hy ⟨rfl, t, u, r, rfl⟩
    have hm3 := List.mem_of_getElem? hy
    obtain ⟨-, rfl⟩ := List.mem_replicate.mp hm3
    exact ⟨_, rfl, _, rfl, D3, _, _, _, rfl, rfl, .of hD4, atI_nat (j := 0) h0, kn, rfl, rfl, rfl, _, _, _, rfl⟩
  · rintro σ H' ⟨rfl, t, u, r, rfl⟩
    exact ⟨_, rfl, D3, _, _, _, rfl, rfl, .of hD4, atI_nat (j := 0) h0, q _ e13⟩
abbrev N_kind_of : List Str := ["kinds", "term", "boxes", "word"]
theorem sc_kind_of : FnScope N_kind_of ["kinds", "term", "boxes"] (defScope s_kind_of) := ⟨rfl, rfl, rfl, by decide +kernel, rfl, by decide +kernel, by decide +kernel⟩
-- slots: 0 kinds, 1 term, 2 boxes, 3 word
theorem c_kind_of (T : Txt K mg) : ∀ n : Nat, Cal P w K mg base (3 * n + 5) "kind_of" (S3 (prKind K n))
  | 0 => T.c_kind_of fun fd F => FnOk.no (S3.no fun a b c H Q ⟨rs, G, k, d, m, _, _, h, _⟩ => by omega)
  | n + 1 => T.c_kind_of fun fd F => F.ok3 sc_kind_of fun cdv A outer s H a b c Q E hr h => by
    have C := c_kind_of T n
    have C_kind_of_box := c_kind_of_box (P := P) (w := w) (base := base) T
    have C_kind_of_two := c_kind_of_two T (by omega) C
    have C_kind_of_rec := c_kind_of_rec T (by omega) C
    have C_kind_of_get := c_kind_of_get T (by omega) C
    have C_kind_of_tag := c_kind_of_tag T (by omega) C
    have C_kind_of_case := c_kind_of_case T (by omega) C
    have C_kind_of_if := c_kind_of_if T (by omega) C
    obtain ⟨rs, G, k, d, m, te, hb, hm, w1, q⟩ := h
    have te' := te.less (Nat.le_succ n)
    refine ⟨_, (pss_cons (ps_set (i := 3) sc_kind_of.nd rfl (Or.inl rfl) (pe_ix ix_tup (pv 1) pe_int (fun _ _ => rfl)))
    (pss_cons (ps_if (pt_cmpR op_eq (pv 3) pe_str (nomark _))
    (pss_cons (ps_if (pt_not (pt_chain op_le op_lt pe_int (pe_ix ix_tup (pv 1) pe_int (fun _ _ => rfl)) (pe_gi T.k_WIDE rfl)))
    (pss_one ps_never)
    pss_nil)
    (pss_one (ps_ret (pe_gs T.k_NUM_terms rfl))))
    pss_nil)
    (pss_cons (ps_if (pt_cmpR op_eq (pv 3) pe_str (nomark _))
    (pss_one (ps_ret (pe_c C_kind_of_box (hr.mono (by omega)) rfl (pa_cons (pv 1) (pa_cons (pv 2) pa_nil)))))
    pss_nil)
    (pss_cons (ps_if (pt_cmpR op_eq (pv 3) pe_str (nomark _))
    (pss_one (ps_ret (pe_c C_kind_of_two (hr.mono (by omega)) rfl (pa_cons (pv 0) (pa_cons (pv 1) (pa_cons (pv 2) pa_nil))))))
    pss_nil)
    (pss_cons (ps_if (pt_cmpR op_eq (pv 3) pe_str (nomark _))
    (pss_one (ps_ret (pe_c C_kind_of_rec (hr.mono (by omega)) rfl (pa_cons (pv 0) (pa_cons (pv 1) (pa_cons (pv 2) pa_nil))))))
    pss_nil)
    (pss_cons (ps_if (pt_cmpR op_eq (pv 3) pe_str (nomark _))
    (pss_one (ps_ret (pe_c C_kind_of_get (hr.mono (by omega)) rfl (pa_cons (pv 0) (pa_cons (pv 1) (pa_cons (pv 2) pa_nil))))))
    pss_nil)
    (pss_cons (ps_if (pt_cmpR op_eq (pv 3) pe_str (nomark _))
    (pss_one (ps_ret (pe_c C_kind_of_tag (hr.mono (by omega)) rfl (pa_cons (pv 0) (pa_cons (pv 1) (pa_cons (pv 2) pa_nil))))))
    pss_nil)
    (pss_cons (ps_if (pt_cmpR op_eq (pv 3) pe_str (nomark _))
    (pss_one (ps_ret (pe_c C_kind_of_case (hr.mono (by omega)) rfl (pa_cons (pv 0) (pa_cons (pv 1) (pa_cons (pv 2) pa_nil))))))
    pss_nil)
    (pss_one (ps_ret (pe_c C_kind_of_if (hr.mono (by omega)) rfl (pa_cons (pv 0) (pa_cons (pv 1) (pa_cons (pv 2) pa_nil)))))))))))))), ?_⟩
    cases w1 with
    | num i h0 h1 =>
      obtain ⟨p, y1, y2, rfl, hs, hy1, hy2⟩ := hb.tup2
      obtain rfl := hy1.inv_str
      obtain rfl := hy2.inv_int
      refine ⟨_, rfl, p, _, _, _, rfl, rfl, hs, atI_nat (j := 0) rfl, _, rfl, rfl, _, rfl, ite2 (fun _ => ?_) (fun h => absurd (decide_eq_true rfl) h)⟩
      refine ⟨_, rfl, p, _, _, _, rfl, rfl, hs, atI_nat (j := 1) rfl, _, _, rfl, rfl, _, rfl, ?_⟩
      rw [decide_eq_true h0]
      refine ⟨_, _, rfl, rfl, _, rfl, ?_⟩
      rw [decide_eq_true h1]
      exact q H (Ext.refl _ _)
    | box hx =>
      obtain ⟨p, y1, y2, rfl, hs, hy1, hy2⟩ := hb.tup2
      obtain rfl := hy1.inv_str
      obtain ⟨D, rfl, hD⟩ := te.bx
      refine ⟨_, rfl, p, _, _, _, rfl, rfl, hs, atI_nat (j := 0) rfl, _, rfl, rfl, _, rfl, ite2 (fun h => absurd h (word_ne (by decide +kernel))) (fun _ => ?_)⟩
      refine ⟨_, rfl, rfl, _, rfl, ite2 (fun _ => ?_) (fun h => absurd (decide_eq_true rfl) h)⟩
      exact ⟨_, rfl, _, rfl, G, _, k, D, hb, rfl, hD, hx, q H (Ext.refl _ _)⟩
    | op h1 h2 =>
      obtain ⟨p, y1, y2, y3, y4, rfl, hs, hy1, -, -, -⟩ := hb.tup4
      obtain rfl := hy1.inv_str
      refine ⟨_, rfl, p, _, _, _, rfl, rfl, hs, atI_nat (j := 0) rfl, _, rfl, rfl, _, rfl, ite2 (fun h => absurd h (word_ne (by decide +kernel))) (fun _ => ?_)⟩
      refine ⟨_, rfl, rfl, _, rfl, ite2 (fun h => absurd h (word_ne (by decide +kernel))) (fun _ => ?_)⟩
      refine ⟨_, rfl, rfl, _, rfl, ite2 (fun _ => ?_) (fun h => absurd (decide_eq_true rfl) h)⟩
      exact ⟨_, rfl, _, rfl, _, rfl, rs, G, _, _, _, _, te', hb, by omega, h1, h2, q⟩
    | rcd h1 h2 h3 h4 =>
      obtain ⟨p, y1, y2, y3, rfl, hs, hy1, -, -⟩ := hb.tup3
      obtain rfl := hy1.inv_str
      refine ⟨_, rfl, p, _, _, _, rfl, rfl, hs, atI_nat (j := 0) rfl, _, rfl, rfl, _, rfl, ite2 (fun h => absurd h (word_ne (by decide +kernel))) (fun _ => ?_)⟩
      refine ⟨_, rfl, rfl, _, rfl, ite2 (fun h => absurd h (word_ne (by decide +kernel))) (fun _ => ?_)⟩
      refine ⟨_, rfl, rfl, _, rfl, ite2 (fun h => absurd h (word_ne (by decide +kernel))) (fun _ => ?_)⟩
      refine ⟨_, rfl, rfl, _, rfl, ite2 (fun _ => ?_) (fun h => absurd (decide_eq_true rfl) h)⟩
      exact ⟨_, rfl, _, rfl, _, rfl, rs, G, _, _, _, _, te', hb, by omega, h1, h2, h3, h4, q⟩
    | get h1 h2 h3 h4 =>
      obtain ⟨p, y1, y2, y3, rfl, hs, hy1, -, -⟩ := hb.tup3
      obtain rfl := hy1.inv_str
      refine ⟨_, rfl, p, _, _, _, rfl, rfl, hs, atI_nat (j := 0) rfl, _, rfl, rfl, _, rfl, ite2 (fun h => absurd h (word_ne (by decide +kernel))) (fun _ => ?_)⟩
      refine ⟨_, rfl, rfl, _, rfl, ite2 (fun h => absurd h (word_ne (by decide +kernel))) (fun _ => ?_)⟩
      refine ⟨_, rfl, rfl, _, rfl, ite2 (fun h => absurd h (word_ne (by decide +kernel))) (fun _ => ?_)⟩
      refine ⟨_, rfl, rfl, _, rfl, ite2 (fun h => absurd h (word_ne (by decide +kernel))) (fun _ => ?_)⟩
      refine ⟨_, rfl, rfl, _, rfl, ite2 (fun _ => ?_) (fun h => absurd (decide_eq_true rfl) h)⟩
      exact ⟨_, rfl, _, rfl, _, rfl, rs, G, _, _, _, _, _, te', hb, by omega, h1, h2, h3, h4, q⟩
    | tag h1 h2 h3 h4 =>
      obtain ⟨p, y1, y2, y3, y4, rfl, hs, hy1, -, -, -⟩ := hb.tup4
      obtain rfl := hy1.inv_str
      refine ⟨_, rfl, p, _, _, _, rfl, rfl, hs, atI_nat (j := 0) rfl, _, rfl, rfl, _, rfl, ite2 (fun h => absurd h (word_ne (by decide +kernel))) (fun _ => ?_)⟩
      refine ⟨_, rfl, rfl, _, rfl, ite2 (fun h => absurd h (word_ne (by decide +kernel))) (fun _ => ?_)⟩
      refine ⟨_, rfl, rfl, _, rfl, ite2 (fun h => absurd h (word_ne (by decide +kernel))) (fun _ => ?_)⟩
      refine ⟨_, rfl, rfl, _, rfl, ite2 (fun h => absurd h (word_ne (by decide +kernel))) (fun _ => ?_)⟩
      refine ⟨_, rfl, rfl, _, rfl, ite2 (fun h => absurd h (word_ne (by decide +kernel))) (fun _ => ?_)⟩
      refine ⟨_, rfl, rfl, _, rfl, ite2 (fun _ => ?_) (fun h => absurd (decide_eq_true rfl) h)⟩
      exact ⟨_, rfl, _, rfl, _, rfl, rs, G, _, _, _, _, _, _, te', hb, by omega, h1, h2, h3, h4, q⟩
    | case h1 h2 h3 h4 h0 h5 h6 h7 h8 =>
      obtain ⟨p, y1, y2, y3, rfl, hs, hy1, -, -⟩ := hb.tup3
      obtain rfl := hy1.inv_str
      refine ⟨_, rfl, p, _, _, _, rfl, rfl, hs, atI_nat (j := 0) rfl, _, rfl, rfl, _, rfl, ite2 (fun h => absurd h (word_ne (by decide +kernel))) (fun _ => ?_)⟩
      refine ⟨_, rfl, rfl, _, rfl, ite2 (fun h => absurd h (word_ne (by decide +kernel))) (fun _ => ?_)⟩
      refine ⟨_, rfl, rfl, _, rfl, ite2 (fun h => absurd h (word_ne (by decide +kernel))) (fun _ => ?_)⟩
      refine ⟨_, rfl, rfl, _, rfl, ite2 (fun h => absurd h (word_ne (by decide +kernel))) (fun _ => ?_)⟩
      refine ⟨_, rfl, rfl, _, rfl, ite2 (fun h => absurd h (word_ne (by decide +kernel))) (fun _ => ?_)⟩
      refine ⟨_, rfl, rfl, _, rfl, ite2 (fun h => absurd h (word_ne (by decide +kernel))) (fun _ => ?_)⟩
      refine ⟨_, rfl, rfl, _, rfl, ite2 (fun _ => ?_) (fun h => absurd (decide_eq_true rfl) h)⟩
      exact ⟨_, rfl, _, rfl, _, rfl, rs, G, _, _, _, _, _, _, te, hb, by omega, h1, h2, h3, h4, h0, h5, h6, h7, h8, q⟩
    | iff h1 h2 h3 =>
      obtain ⟨p, y1, y2, y3, y4, rfl, hs, hy1, -, -, -⟩ := hb.tup4
      obtain rfl := hy1.inv_str
      refine ⟨_, rfl, p, _, _, _, rfl, rfl, hs, atI_nat (j := 0) rfl, _, rfl, rfl, _, rfl, ite2 (fun h => absurd h (word_ne (by decide +kernel))) (fun _ => ?_)⟩
      refine ⟨_, rfl, rfl, _, rfl, ite2 (fun h => absurd h (word_ne (by decide +kernel))) (fun _ => ?_)⟩
      refine ⟨_, rfl, rfl, _, rfl, ite2 (fun h => absurd h (word_ne (by decide +kernel))) (fun _ => ?_)⟩
      refine ⟨_, rfl, rfl, _, rfl, ite2 (fun h => absurd h (word_ne (by decide +kernel))) (fun _ => ?_)⟩
      refine ⟨_, rfl, rfl, _, rfl, ite2 (fun h => absurd h (word_ne (by decide +kernel))) (fun _ => ?_)⟩
      refine ⟨_, rfl, rfl, _, rfl, ite2 (fun h => absurd h (word_ne (by decide +kernel))) (fun _ => ?_)⟩
      refine ⟨_, rfl, rfl, _, rfl, ite2 (fun h => absurd h (word_ne (by decide +kernel))) (fun _ => ?_)⟩
      exact ⟨_, rfl, _, rfl, _, rfl, rs, G, _, _, _, _, _, te', hb, by omega, h1, h2, h3, q⟩
end
end Sw

-- part SwL
set_option Elab.async false
set_option linter.all false
set_option maxRecDepth 100000
set_option maxHeartbeats 4000000
namespace Sw
open PySem PySem.Spec PyProof.Rows L2

theorem find_nd {α : Type} {f : α → Str} : ∀ {l : List α} {x : α}, (l.map f).Nodup → x ∈ l → l.find? (fun y => decide (f y = f x)) = some x
  | [], _, _, h => by cases h
  | a :: l, x, hn, h => by
    rw [List.map_cons, List.nodup_cons] at hn
    rw [List.find?_cons]
    rcases List.mem_cons.mp h with e | h
    · subst e
      rw [decide_eq_true rfl]
    · rw [decide_eq_false fun e => hn.1 (by rw [e]; exact List.mem_map.mpr ⟨x, h, rfl⟩)]
      exact find_nd hn.2 h
theorem find_mem {α : Type} {f : α → Str} {l : List α} {n : Str} {x : α} (h : l.find? (fun y => decide (f y = n)) = some x) : x ∈ l ∧ f x = n := ⟨List.mem_of_find?_eq_some h, by simpa using List.find?_some h⟩
/-- a make at a value -/
theorem mk_at {K : PySem.W.Frag} {H : Hp} {v : V} {m : Mak} (h : At K H v (mkD m)) : ∃ a x1 x2 x3, v = .ref a ∧ SqT K H a [x1, x2, x3] ∧ Kds K H x1 m.rs ∧ At K H x2 (.tuple (m.chs.map chD)) ∧ At K H x3 (.tuple (m.hs.map hdD)) := h.tup3
/-- a row's word stands first -/
theorem row_at {K : PySem.W.Frag} {H : Hp} {v : V} {r : Row} (h : At K H v (rowD r)) : ∃ a xs, v = .ref a ∧ SqT K H a (.str r.word :: xs) ∧ Ats K H xs r.rest := by
  rw [rowD_eq] at h
  obtain ⟨a, xs, rfl, h1, h2⟩ := h.inv_tup
  cases h2 with
  | cons r1 r2 =>
    obtain rfl := r1.inv_str
    exact ⟨a, _, rfl, h1, r2⟩
section
variable {P : Program} {w : World} {K : PySem.W.Frag} {mg : Str → Option Value} {base : Heap}
/-! ## named, hand_of, channel_of -/
abbrev N_named : List Str := ["some", "name", "one"]
theorem sc_named : FnScope N_named ["some", "name"] (defScope s_named) := ⟨rfl, rfl, rfl, by decide +kernel, rfl, by decide +kernel, by decide +kernel⟩
-- slots: 0 some, 1 name, 2 one
def prNamed (K : PySem.W.Frag) : V → V → Hp → VK → Prop := fun a b H Q => ∃ (l : List (Str × List PyData)) (n : Str), At K H a (.tuple (l.map fun p => .tuple (.str p.1 :: p.2))) ∧ b = .str n ∧ (∀ p v, l.find? (fun x => decide (x.1 = n)) = some p → At K H v (.tuple (.str p.1 :: p.2)) → Q v H) ∧ (l.find? (fun x => decide (x.1 = n)) = none → Q .non H)
theorem c_named (T : Txt K mg) : Cal P w K mg base 1 "named" (S2 (prNamed K)) := T.c_named fun fd F => F.ok2 sc_named fun cdv A outer s H a b Q E hr h => by
  obtain ⟨l, n, ha, rfl, q1, q2⟩ := h
  obtain ⟨p, xs, rfl, hs, hd⟩ := ha.inv_tup
  have hl : xs.length = l.length := by rw [hd.length, List.length_map]
  refine ⟨_, (pss_cons (ps_for PassesOwn.never rfl (pi_tup (pv 0)) (pg_name (i := 2) sc_named.nd rfl (by first | exact Or.inl rfl | exact Or.inr rfl))
    (pss_one (ps_if (pt_cmpR op_eq (pe_ix ix_tup (pv 2) pe_int (fun _ _ => rfl)) (pv 1) (nomark _))
    (pss_one (ps_ret (pv 2)))
    pss_nil)))
    (pss_one (ps_ret pe_non))), ?_⟩
  refine ⟨_, rfl, p, rfl, ⟨xs, hs⟩, for_tup (fun i σ H' => H' = H ∧ (∃ t, σ = [some (.ref p), some (.str n), t]) ∧ ∀ j k, j < i → l[j]? = some k → k.1 ≠ n) ⟨rfl, ⟨_, rfl⟩, fun j _ h => absurd h (by omega)⟩ (fun i σ H' _ h => by rw [h.1]; exact hs) ?_ ?_⟩
  · rintro i x σ H' hx ⟨rfl, ⟨t, rfl⟩, hno⟩
    obtain ⟨d, hdx, hat⟩ := hd.get i x hx
    obtain ⟨kd, hk, rfl⟩ := map_at hdx
    obtain ⟨p1, ys, rfl, hs1, hy⟩ := hat.inv_tup
    cases hy with
    | cons hy1 hy2 =>
      obtain rfl := hy1.inv_str
      refine ⟨_, rfl, p1, _, _, _, rfl, rfl, hs1, atI_nat (j := 0) rfl, _, rfl, rfl, _, rfl, ite2 (fun hc => ?_) (fun hc => ?_)⟩
      · have e : kd.1 = n := V.str.inj (of_decide_eq_true hc)
        exact ⟨_, rfl, q1 kd _ (find_first hk (decide_eq_true e) fun j y hj hy => decide_eq_false (hno j y hj hy)) hat⟩
      · refine ⟨rfl, ⟨_, rfl⟩, fun j k hj hk2 => ?_⟩
        by_cases e : j = i
        · subst e
          rw [hk] at hk2
          cases hk2
          exact fun e => hc (decide_eq_true (congrArg V.str e))
        · exact hno j k (by omega) hk2
  · rintro σ H' ⟨rfl, ⟨t, rfl⟩, hno⟩
    exact q2 (find_no fun j y hj hy => decide_eq_false (hno j y (by omega) hy))
abbrev N_hand_of : List Str := ["make", "h"]
theorem sc_hand_of : FnScope N_hand_of ["make", "h"] (defScope s_hand_of) := ⟨rfl, rfl, rfl, by decide +kernel, rfl, by decide +kernel, by decide +kernel⟩
-- slots: 0 make, 1 h
def prHandOf (K : PySem.W.Frag) : V → V → Hp → VK → Prop := fun a b H Q => ∃ (m : Mak) (n : Str), At K H a (mkD m) ∧ b = .str n ∧ (∀ h v, m.hs.find? (fun x => decide (x.name = n)) = some h → At K H v (hdD h) → Q v H) ∧ (m.hs.find? (fun x => decide (x.name = n)) = none → Q .non H)
theorem c_hand_of (T : Txt K mg) : Cal P w K mg base 2 "hand_of" (S2 (prHandOf K)) := T.c_hand_of fun fd F => F.ok2 sc_hand_of fun cdv A outer s H a b Q E hr h => by
  obtain ⟨m, n, ha, rfl, q1, q2⟩ := h
  have C_named := c_named (P := P) (w := w) (base := base) T
  obtain ⟨p, y1, y2, y3, rfl, hs, -, -, hy3⟩ := mk_at ha
  refine ⟨_, (pss_one (ps_ret (pe_c C_named (hr.mono (by omega)) rfl (pa_cons (pe_ix ix_tup (pv 0) pe_int (fun _ _ => rfl)) (pa_cons (pv 1) pa_nil))))), ?_⟩
  have e : (m.hs.map fun h => ((h.name, [prsD h.boxes, .tuple (h.rows.map rowD)]) : Str × List PyData)).find? (fun x => decide (x.1 = n)) = (m.hs.find? fun x => decide (x.name = n)).map fun h => (h.name, [prsD h.boxes, .tuple (h.rows.map rowD)]) := by
    rw [List.find?_map]
    rfl
  refine ⟨_, rfl, p, _, _, _, rfl, rfl, hs, atI_nat (j := 2) rfl, _, rfl, m.hs.map fun h => (h.name, [prsD h.boxes, .tuple (h.rows.map rowD)]), n, ?_, rfl, fun pr v hf hv => ?_, fun hf => ?_⟩
  · rw [List.map_map]
    exact hy3
  · rw [e] at hf
    obtain ⟨h, h1, rfl⟩ := Option.map_eq_some_iff.mp hf
    exact q1 h v h1 hv
  · rw [e] at hf
    exact q2 (Option.map_eq_none_iff.mp hf)
abbrev N_channel_of : List Str := ["make", "c"]
theorem sc_channel_of : FnScope N_channel_of ["make", "c"] (defScope s_channel_of) := ⟨rfl, rfl, rfl, by decide +kernel, rfl, by decide +kernel, by decide +kernel⟩
-- slots: 0 make, 1 c
def prChanOf (K : PySem.W.Frag) : V → V → Hp → VK → Prop := fun a b H Q => ∃ (m : Mak) (n : Str), At K H a (mkD m) ∧ b = .str n ∧ (∀ c v, m.chs.find? (fun x => decide (x.name = n)) = some c → At K H v (chD c) → Q v H) ∧ (m.chs.find? (fun x => decide (x.name = n)) = none → Q .non H)
theorem c_channel_of (T : Txt K mg) : Cal P w K mg base 2 "channel_of" (S2 (prChanOf K)) := T.c_channel_of fun fd F => F.ok2 sc_channel_of fun cdv A outer s H a b Q E hr h => by
  obtain ⟨m, n, ha, rfl, q1, q2⟩ := h
  have C_named := c_named (P := P) (w := w) (base := base) T
  obtain ⟨p, y1, y2, y3, rfl, hs, -, hy2, -⟩ := mk_at ha
  refine ⟨_, (pss_one (ps_ret (pe_c C_named (hr.mono (by omega)) rfl (pa_cons (pe_ix ix_tup (pv 0) pe_int (fun _ _ => rfl)) (pa_cons (pv 1) pa_nil))))), ?_⟩
  have e : (m.chs.map fun c => ((c.name, [.str c.src, .str c.dst, .str c.kind]) : Str × List PyData)).find? (fun x => decide (x.1 = n)) = (m.chs.find? fun x => decide (x.name = n)).map fun c => (c.name, [.str c.src, .str c.dst, .str c.kind]) := by
    rw [List.find?_map]
    rfl
  refine ⟨_, rfl, p, _, _, _, rfl, rfl, hs, atI_nat (j := 1) rfl, _, rfl, m.chs.map fun c => (c.name, [.str c.src, .str c.dst, .str c.kind]), n, ?_, rfl, fun pr v hf hv => ?_, fun hf => ?_⟩
  · rw [List.map_map]
    exact hy2
  · rw [e] at hf
    obtain ⟨h, h1, rfl⟩ := Option.map_eq_some_iff.mp hf
    exact q1 h v h1 hv
  · rw [e] at hf
    exact q2 (Option.map_eq_none_iff.mp hf)
/-! ## the looker's small ones -/
abbrev N_need_unlike : List Str := ["names"]
theorem sc_need_unlike : FnScope N_need_unlike ["names"] (defScope s_need_unlike) := ⟨rfl, rfl, rfl, by decide +kernel, rfl, by decide +kernel, by decide +kernel⟩
-- slots: 0 names
def prUnlike (K : PySem.W.Frag) : V → Hp → VK → Prop := fun a H Q => ∃ (p : Addr) (zs : List Str), a = .ref p ∧ H p = some (.lst (zs.map V.str)) ∧ zs.Nodup ∧ zs.length ≤ 4000 ∧ ∀ H', Ext [] H H' → Q .non H'
theorem c_need_unlike (T : Txt K mg) : Cal P w K mg base 1 "need_unlike" (S1 (prUnlike K)) := T.c_need_unlike fun fd F => F.ok1 sc_need_unlike fun cdv A outer s H a Q E hr h => by
  obtain ⟨p, zs, rfl, hp, hn, hl, q⟩ := h
  refine ⟨_, (pss_one (ps_if (pt_cmpR op_lt (pe_lenSetS rfl T.z_len rfl T.z_set (pv 0)) (pe_callB call_len_seq (by rfl) T.z_len PySem.boot_len (pa_cons (pv 0) pa_nil)) (nomark _))
    (pss_one ps_never)
    pss_nil)), ?_⟩
  refine ⟨_, rfl, p, zs, rfl, .of hp, hn, hl, _, rfl, p, _, rfl, .inl (.of hp), _, _, rfl, rfl, _, rfl, ite2 (fun hc => absurd (of_decide_eq_true hc) ?_) (fun _ => q H (Ext.refl _ _))⟩
  rw [List.length_map]
  omega
abbrev N_need_kind_44 : List Str := ["kinds", "kind"]
theorem sc_need_kind_44 : FnScope N_need_kind_44 ["kinds", "kind"] (defScope s_need_kind_44) := ⟨rfl, rfl, rfl, by decide +kernel, rfl, by decide +kernel, by decide +kernel⟩
-- slots: 0 kinds, 1 kind
def prIsKind (K : PySem.W.Frag) : V → V → Hp → VK → Prop := fun a b H Q => ∃ (rs : List Kd) (k : Str), KsOk rs ∧ Kds K H a rs ∧ b = .str k ∧ Vk rs k ∧ Q .non H
theorem c_need_kind_44 (T : Txt K mg) : Cal P w K mg base 3 "need_kind_looker" (S2 (prIsKind K)) := T.c_need_kind_44 fun fd F => F.ok2 sc_need_kind_44 fun cdv A outer s H a b Q E hr h => by
  obtain ⟨rs, k, ok, ha, rfl, vk, q⟩ := h
  have C_sort_of := c_sort_of (P := P) (w := w) (base := base) T
  refine ⟨_, (pss_one (ps_if (PW.pt (pw_and (pt_cmpR op_ne (pv 1) (pe_gs T.k_NUM_looker rfl) (nomark _)) (pw_and1 (pt_cmpR op_isN (pe_c C_sort_of (hr.mono (by omega)) rfl (pa_cons (pv 0) (pa_cons (pv 1) pa_nil))) pe_non (nomark _)))))
    (pss_one ps_never)
    pss_nil)), ?_⟩
  refine ⟨_, rfl, rfl, _, rfl, ite2 (fun hc => ?_) (fun hc => ite2 (fun h => absurd h Bool.false_ne_true) (fun _ => q))⟩
  have hne : k ≠ "num" := fun e => by
    rw [e] at hc
    exact absurd hc (by simp)
  refine ⟨_, rfl, _, rfl, rs, k, ok, ha, rfl, fun h => absurd (vk.none h) hne, fun kd hf => ?_⟩
  exact ⟨rfl, _, rfl, ite2 (fun h => absurd (of_decide_eq_true h) (by simp)) (fun _ => q)⟩
abbrev N_own_channel : List Str := ["make", "c", "side", "h", "channel"]
theorem sc_own_channel : FnScope N_own_channel ["make", "c", "side", "h"] (defScope s_own_channel) := ⟨rfl, rfl, rfl, by decide +kernel, rfl, by decide +kernel, by decide +kernel⟩
-- slots: 0 make, 1 c, 2 side, 3 h, 4 channel
def prOwn (K : PySem.W.Frag) : V → V → V → V → Hp → VK → Prop := fun a b c d H Q => ∃ (m : Mak) (ch : Ch), At K H a (mkD m) ∧ (m.chs.map Ch.name).Nodup ∧ ch ∈ m.chs ∧ b = .str ch.name ∧ ((c = .int 1 ∧ d = .str ch.src) ∨ (c = .int 2 ∧ d = .str ch.dst)) ∧ Q (.str ch.kind) H
theorem c_own_channel (T : Txt K mg) : Cal P w K mg base 3 "own_channel" (S4 (prOwn K)) := T.c_own_channel fun fd F => F.ok4 sc_own_channel fun cdv A outer s H a b c d Q E hr h => by
  obtain ⟨m, ch, ha, hn, hm, rfl, hcd, q⟩ := h
  have C_channel_of := c_channel_of (P := P) (w := w) (base := base) T
  have hf : m.chs.find? (fun x => decide (x.name = ch.name)) = some ch := find_nd (f := Ch.name) hn hm
  refine ⟨_, (pss_cons (ps_set (i := 4) sc_own_channel.nd rfl (Or.inl rfl) (pe_c C_channel_of (hr.mono (by omega)) rfl (pa_cons (pv 0) (pa_cons (pv 1) pa_nil))))
    (pss_cons (ps_if (pt_cmpR op_isN (pv 4) pe_non (nomark _))
    (pss_one ps_never)
    pss_nil)
    (pss_cons (ps_if (pt_cmpR op_ne (pe_ix ix_tup (pv 4) (pv 2) (fun _ _ => rfl)) (pv 3) (nomark _))
    (pss_one ps_never)
    pss_nil)
    (pss_one (ps_ret (pe_ix ix_tup (pv 4) pe_int (fun _ _ => rfl))))))), ?_⟩
  refine ⟨_, rfl, _, rfl, m, ch.name, ha, rfl, fun c2 v h1 hv => ?_, fun h1 => absurd (hf.symm.trans h1) (by simp)⟩
  rw [hf] at h1
  cases h1
  obtain ⟨p, y1, y2, y3, y4, rfl, hs, -, hy2, hy3, hy4⟩ := hv.tup4
  obtain rfl := hy2.inv_str
  obtain rfl := hy3.inv_str
  obtain rfl := hy4.inv_str
  refine ⟨_, rfl, rfl, _, rfl, ite2 (fun h => absurd (of_decide_eq_true h) (by simp)) (fun _ => ?_)⟩
  rcases hcd with ⟨rfl, rfl⟩ | ⟨rfl, rfl⟩
  · exact ⟨_, rfl, _, rfl, p, _, _, _, rfl, rfl, hs, atI_nat (j := 1) rfl, _, rfl, by simp [scal], _, rfl, ite2 (fun h => absurd h (by simp)) (fun _ => ⟨_, rfl, p, _, _, _, rfl, rfl, hs, atI_nat (j := 3) rfl, q⟩)⟩
  · exact ⟨_, rfl, _, rfl, p, _, _, _, rfl, rfl, hs, atI_nat (j := 2) rfl, _, rfl, by simp [scal], _, rfl, ite2 (fun h => absurd h (by simp)) (fun _ => ⟨_, rfl, p, _, _, _, rfl, rfl, hs, atI_nat (j := 3) rfl, q⟩)⟩
abbrev N_box_kind : List Str := ["boxes", "x"]
theorem sc_box_kind : FnScope N_box_kind ["boxes", "x"] (defScope s_box_kind) := ⟨rfl, rfl, rfl, by decide +kernel, rfl, by decide +kernel, by decide +kernel⟩
-- slots: 0 boxes, 1 x
def prBoxK : V → V → Hp → VK → Prop := fun a b H Q => ∃ (D : Addr) (G : List (Str × Str)) (x k : Str), a = .ref D ∧ H D = some (.dK (kvs G)) ∧ b = .str x ∧ lk G x = some k ∧ Q (.str k) H
theorem c_box_kind (T : Txt K mg) : Cal P w K mg base 1 "box_kind" (S2 prBoxK) := T.c_box_kind fun fd F => F.ok2 sc_box_kind fun cdv A outer s H a b Q E hr h => by
  obtain ⟨D, G, x, k, rfl, hD, rfl, hk, q⟩ := h
  have hg : DGet H D (.str x) (some (.str k)) := by
    have := DGet.k (k := Sum.inr x) hD
    rw [val_kvs, hk] at this
    exact this
  refine ⟨_, (pss_cons (ps_if (pt_cmp (pc_dnotin (hu_of hr) (pv 1) (pv 0)))
    (pss_one ps_never)
    pss_nil)
    (pss_one (ps_ret (pe_dget (hu_of hr) (pv 0) (pv 1) (fun _ _ => rfl))))), ?_⟩
  exact ⟨_, rfl, _, rfl, D, _, rfl, hg, _, rfl, ite2 (fun h => absurd h Bool.false_ne_true) (fun _ => ⟨_, rfl, _, rfl, D, _, rfl, hg, q⟩)⟩
/-! ## look_row -/
abbrev N_look_row : List Str := ["make", "h", "boxes", "row", "word", "kinds"]
theorem sc_look_row : FnScope N_look_row ["make", "h", "boxes", "row"] (defScope s_look_row) := ⟨rfl, rfl, rfl, by decide +kernel, rfl, by decide +kernel, by decide +kernel⟩
-- slots: 0 make, 1 h, 2 boxes, 3 row, 4 word, 5 kinds
def prLookRow (K : PySem.W.Frag) : V → V → V → V → Hp → VK → Prop := fun a b c d H Q => ∃ (m : Mak) (hn : Str) (G : List (Str × Str)) (D : Addr) (r : Row), At K H a (mkD m) ∧ KsOk m.rs ∧ (m.chs.map Ch.name).Nodup ∧ b = .str hn ∧ c = .ref D ∧ H D = some (.dK (kvs G)) ∧ G.length ≤ 5 ∧
  At K H d (rowD r) ∧ Typed m.rs m.chs hn G r ∧ ∀ H', Ext [] H H' → Q .non H'
theorem c_look_row (T : Txt K mg) : Cal P w K mg base 54 "look_row" (S4 (prLookRow K)) := T.c_look_row fun fd F => F.ok4 sc_look_row fun cdv A outer s H a b c d Q E hr h => by
  obtain ⟨m, hn, G, D, r, ha, ok, cn, rfl, rfl, hD, few, hd, ty, q⟩ := h
  have C_kind_of := c_kind_of (P := P) (w := w) (base := base) T 16
  have C_need_same := c_need_same (P := P) (w := w) (base := base) T
  have C_box_kind := c_box_kind (P := P) (w := w) (base := base) T
  have C_own_channel := c_own_channel (P := P) (w := w) (base := base) T
  obtain ⟨p, y1, y2, y3, rfl, hs, hy1, -, -⟩ := mk_at ha
  obtain ⟨p2, zs, rfl, hs2, hz⟩ := row_at hd
  have te : TEnv K H y1 (.ref D) m.rs G 16 := ⟨ok, hy1, ⟨D, rfl, hD⟩, by omega⟩
  refine ⟨_, (pss_cons (ps_set (i := 4) sc_look_row.nd rfl (Or.inl rfl) (pe_ix ix_tup (pv 3) pe_int (fun _ _ => rfl)))
    (pss_cons (ps_set (i := 5) sc_look_row.nd rfl (Or.inl rfl) (pe_ix ix_tup (pv 0) pe_int (fun _ _ => rfl)))
    (pss_one (ps_if (pt_cmpR op_eq (pv 4) pe_str (nomark _))
    (pss_one (ps_expr (pe_c C_need_same (hr.mono (by omega)) rfl (pa_cons (pe_c C_kind_of (hr.mono (by omega)) rfl (pa_cons (pv 5) (pa_cons (pe_ix ix_tup (pv 3) pe_int (fun _ _ => rfl)) (pa_cons (pv 2) pa_nil)))) (pa_cons (pe_c C_box_kind (hr.mono (by omega)) rfl (pa_cons (pv 2) (pa_cons (pe_ix ix_tup (pv 3) pe_int (fun _ _ => rfl)) pa_nil))) pa_nil)))))
    (pss_one (ps_if (pt_cmpR op_eq (pv 4) pe_str (nomark _))
    (pss_one (ps_expr (pe_c C_need_same (hr.mono (by omega)) rfl (pa_cons (pe_c C_kind_of (hr.mono (by omega)) rfl (pa_cons (pv 5) (pa_cons (pe_ix ix_tup (pv 3) pe_int (fun _ _ => rfl)) (pa_cons (pv 2) pa_nil)))) (pa_cons (pe_c C_own_channel (hr.mono (by omega)) rfl (pa_cons (pv 0) (pa_cons (pe_ix ix_tup (pv 3) pe_int (fun _ _ => rfl)) (pa_cons pe_int (pa_cons (pv 1) pa_nil))))) pa_nil)))))
    (pss_one (ps_if (pt_cmpR op_eq (pv 4) pe_str (nomark _))
    (pss_one (ps_expr (pe_c C_need_same (hr.mono (by omega)) rfl (pa_cons (pe_c C_box_kind (hr.mono (by omega)) rfl (pa_cons (pv 2) (pa_cons (pe_ix ix_tup (pv 3) pe_int (fun _ _ => rfl)) pa_nil))) (pa_cons (pe_c C_own_channel (hr.mono (by omega)) rfl (pa_cons (pv 0) (pa_cons (pe_ix ix_tup (pv 3) pe_int (fun _ _ => rfl)) (pa_cons pe_int (pa_cons (pv 1) pa_nil))))) pa_nil)))))
    (pss_one (ps_if (PW.pt (pw_or (pt_cmpR op_eq (pv 4) pe_str (nomark _)) (pw_or1 (pt_cmpR op_eq (pv 4) pe_str (nomark _)))))
    (pss_one (ps_expr (pe_c C_need_same (hr.mono (by omega)) rfl (pa_cons (pe_c C_kind_of (hr.mono (by omega)) rfl (pa_cons (pv 5) (pa_cons (pe_ix ix_tup (pv 3) pe_int (fun _ _ => rfl)) (pa_cons (pv 2) pa_nil)))) (pa_cons (pe_gs T.k_NUM_looker rfl) pa_nil)))))
    pss_nil)))))))))), ?_⟩
  refine ⟨_, rfl, p2, _, _, _, rfl, rfl, hs2, atI_nat (j := 0) rfl, _, rfl, p, _, _, _, rfl, rfl, hs, atI_nat (j := 0) rfl, _, rfl, rfl, _, rfl, ?_⟩
  cases r with
  | set x e =>
    obtain ⟨k, hk, w1⟩ := ty
    cases hz with
    | cons r1 hz =>
      cases hz with
      | cons r2 hz =>
        cases hz
        obtain rfl := r1.inv_str
        refine ite2 (fun _ => ?_) (fun h => absurd (decide_eq_true rfl) h)
        refine ⟨_, rfl, _, rfl, p2, _, _, _, rfl, rfl, hs2, atI_nat (j := 2) rfl, _, rfl, m.rs, G, k, e, 15, te, r2, by omega, w1, fun H1 e1 => ?_⟩
        exact ⟨_, rfl, _, rfl, p2, _, _, _, rfl, rfl, e1.sqt hs2, atI_nat (j := 1) rfl, D, G, x, k, rfl, e1.same _ _ hD, rfl, hk, k, rfl, rfl, q H1 e1⟩
  | send c e =>
    obtain ⟨ch, hm, rfl, rfl, w1⟩ := ty
    cases hz with
    | cons r1 hz =>
      cases hz with
      | cons r2 hz =>
        cases hz
        obtain rfl := r1.inv_str
        refine ite2 (fun h => absurd h (word_ne (by simp only [Row.word]; decide +kernel))) (fun _ => ?_)
        refine ⟨_, rfl, rfl, _, rfl, ite2 (fun _ => ?_) (fun h => absurd (decide_eq_true rfl) h)⟩
        refine ⟨_, rfl, _, rfl, p2, _, _, _, rfl, rfl, hs2, atI_nat (j := 2) rfl, _, rfl, m.rs, G, ch.kind, e, 15, te, r2, by omega, w1, fun H1 e1 => ?_⟩
        exact ⟨_, rfl, _, rfl, p2, _, _, _, rfl, rfl, e1.sqt hs2, atI_nat (j := 1) rfl, _, rfl, m, ch, e1.at_ ha, cn, hm, rfl, .inl ⟨rfl, rfl⟩, ch.kind, rfl, rfl, q H1 e1⟩
  | take l c x =>
    obtain ⟨ch, hm, rfl, rfl, hk⟩ := ty
    cases hz with
    | cons r1 hz =>
      cases hz with
      | cons r2 hz =>
        cases hz with
        | cons r3 hz =>
          cases hz
          obtain rfl := r2.inv_str
          obtain rfl := r3.inv_str
          refine ite2 (fun h => absurd h (word_ne (by simp only [Row.word]; decide +kernel))) (fun _ => ?_)
          refine ⟨_, rfl, rfl, _, rfl, ite2 (fun h => absurd h (word_ne (by simp only [Row.word]; decide +kernel))) (fun _ => ?_)⟩
          refine ⟨_, rfl, rfl, _, rfl, ite2 (fun _ => ?_) (fun h => absurd (decide_eq_true rfl) h)⟩
          refine ⟨_, rfl, _, rfl, p2, _, _, _, rfl, rfl, hs2, atI_nat (j := 3) rfl, D, G, x, ch.kind, rfl, hD, rfl, hk, ?_⟩
          exact ⟨_, rfl, _, rfl, p2, _, _, _, rfl, rfl, hs2, atI_nat (j := 2) rfl, _, rfl, m, ch, ha, cn, hm, rfl, .inr ⟨rfl, rfl⟩, ch.kind, rfl, rfl, q H (Ext.refl _ _)⟩
  | tell e =>
    cases hz with
    | cons r1 hz =>
      cases hz
      refine ite2 (fun h => absurd h (word_ne (by simp only [Row.word]; decide +kernel))) (fun _ => ?_)
      refine ⟨_, rfl, rfl, _, rfl, ite2 (fun h => absurd h (word_ne (by simp only [Row.word]; decide +kernel))) (fun _ => ?_)⟩
      refine ⟨_, rfl, rfl, _, rfl, ite2 (fun h => absurd h (word_ne (by simp only [Row.word]; decide +kernel))) (fun _ => ?_)⟩
      refine ⟨_, rfl, rfl, _, rfl, ite2 (fun _ => ?_) (fun h => absurd (decide_eq_true rfl) h)⟩
      exact ⟨_, rfl, _, rfl, p2, _, _, _, rfl, rfl, hs2, atI_nat (j := 1) rfl, _, rfl, m.rs, G, _, e, 15, te, r1, by omega, ty, fun H1 e1 => ⟨_, rfl, rfl, q H1 e1⟩⟩
  | go k =>
    refine ite2 (fun h => absurd h (word_ne (by simp only [Row.word]; decide +kernel))) (fun _ => ?_)
    refine ⟨_, rfl, rfl, _, rfl, ite2 (fun h => absurd h (word_ne (by simp only [Row.word]; decide +kernel))) (fun _ => ?_)⟩
    refine ⟨_, rfl, rfl, _, rfl, ite2 (fun h => absurd h (word_ne (by simp only [Row.word]; decide +kernel))) (fun _ => ?_)⟩
    refine ⟨_, rfl, rfl, _, rfl, ite2 (fun h => absurd h (word_ne (by simp only [Row.word]; decide +kernel))) (fun _ => ?_)⟩
    exact ⟨_, rfl, rfl, _, rfl, ite2 (fun h => absurd h (word_ne (by simp only [Row.word]; decide +kernel))) (fun _ => q H (Ext.refl _ _))⟩
  | iff e k =>
    cases hz with
    | cons r1 hz =>
      refine ite2 (fun h => absurd h (word_ne (by simp only [Row.word]; decide +kernel))) (fun _ => ?_)
      refine ⟨_, rfl, rfl, _, rfl, ite2 (fun h => absurd h (word_ne (by simp only [Row.word]; decide +kernel))) (fun _ => ?_)⟩
      refine ⟨_, rfl, rfl, _, rfl, ite2 (fun h => absurd h (word_ne (by simp only [Row.word]; decide +kernel))) (fun _ => ?_)⟩
      refine ⟨_, rfl, rfl, _, rfl, ite2 (fun h => absurd h (word_ne (by simp only [Row.word]; decide +kernel))) (fun _ => ?_)⟩
      refine ⟨_, rfl, rfl, _, rfl, ite2 (fun _ => ?_) (fun h => absurd (decide_eq_true rfl) h)⟩
      exact ⟨_, rfl, _, rfl, p2, _, _, _, rfl, rfl, hs2, atI_nat (j := 1) rfl, _, rfl, m.rs, G, _, e, 15, te, r1, by omega, ty, fun H1 e1 => ⟨_, rfl, rfl, q H1 e1⟩⟩
  | fin =>
    refine ite2 (fun h => absurd h (word_ne (by simp only [Row.word]; decide +kernel))) (fun _ => ?_)
    refine ⟨_, rfl, rfl, _, rfl, ite2 (fun h => absurd h (word_ne (by simp only [Row.word]; decide +kernel))) (fun _ => ?_)⟩
    refine ⟨_, rfl, rfl, _, rfl, ite2 (fun h => absurd h (word_ne (by simp only [Row.word]; decide +kernel))) (fun _ => ?_)⟩
    refine ⟨_, rfl, rfl, _, rfl, ite2 (fun h => absurd h (word_ne (by simp only [Row.word]; decide +kernel))) (fun _ => ?_)⟩
    exact ⟨_, rfl, rfl, _, rfl, ite2 (fun h => absurd h (word_ne (by simp only [Row.word]; decide +kernel))) (fun _ => q H (Ext.refl _ _))⟩
end
end Sw

-- part SwL2
set_option Elab.async false
set_option linter.all false
set_option maxRecDepth 100000
set_option maxHeartbeats 4000000
namespace Sw
open PySem PySem.Spec PyProof.Rows L2
def wayL (i : Nat) : Row → List Int
  | .go k => [(k : Int)]
  | .iff _ k => [(k : Int), (i : Int) + 1]
  | .fin => []
  | _ => [(i : Int) + 1]
def wayD (i : Nat) (r : Row) : PyData := .tuple ((wayL i r).map .int)
theorem wayL_lt {n i : Nat} {r : Row} (h : Leads n i r) : ∀ k ∈ wayL i r, k < (n : Int) := fun k hk => by
  cases r <;> simp only [wayL, Leads, List.mem_cons, List.mem_singleton, List.not_mem_nil, or_false] at h hk <;> omega
theorem word_mark {r : Row} : r.word = "take" ↔ ∃ l, r.mark = some l := by
  cases r <;> simp only [Row.word, Row.mark] <;> constructor <;> intro h
  case take.mp => exact ⟨_, rfl⟩
  case take.mpr => trivial
  all_goals first
    | exact absurd h (by decide +kernel)
    | (obtain ⟨l, h⟩ := h; cases h)
theorem rest_mark {K : PySem.W.Frag} {H : Hp} {r : Row} {xs : List V} (h : Ats K H xs r.rest) {l : Str} (hm : r.mark = some l) : ∃ ys, xs = .str l :: ys := by
  cases r <;> simp only [Row.mark] at hm <;> cases hm
  cases h with
  | cons r1 h =>
    obtain rfl := r1.inv_str
    exact ⟨_, rfl⟩
section
variable {P : Program} {w : World} {K : PySem.W.Frag} {mg : Str → Option Value} {base : Heap}
/-! ## ways_of, mark_row -/
abbrev N_ways_of : List Str := ["rows", "found", "k", "row"]
theorem sc_ways_of : FnScope N_ways_of ["rows"] (defScope s_ways_of) := ⟨rfl, rfl, rfl, by decide +kernel, rfl, by decide +kernel, by decide +kernel⟩
-- slots: 0 rows, 1 found, 2 k, 3 row
def prWays (K : PySem.W.Frag) : V → Hp → VK → Prop := fun a H Q => ∃ rows : List Row, At K H a (.tuple (rows.map rowD)) ∧ rows.length ≤ 1000 ∧
  ∀ (p : Addr) (H' : Hp) (vs : List V), Ext [] H H' → H' p = some (.lst vs) → vs.length = rows.length → (∀ i r v, rows[i]? = some r → vs[i]? = some v → At K H' v (wayD i r)) → Q (.ref p) H'
theorem c_ways_of (T : Txt K mg) : Cal P w K mg base 1 "ways_of" (S1 (prWays K)) := T.c_ways_of fun fd F => F.ok1 sc_ways_of fun cdv A outer s H a Q E hr h => by
  obtain ⟨rows, ha, few, q⟩ := h
  obtain ⟨p, xs, rfl, hs, hd⟩ := ha.inv_tup
  have hl : xs.length = rows.length := by rw [hd.length, List.length_map]
  have z : sizeLine = 16777216 := by decide
  refine ⟨_, (pss_cons (ps_set (i := 1) sc_ways_of.nd rfl (Or.inl rfl) (pe_lst pa_nil))
    (pss_cons (ps_for PassesOwn.never rfl (pi_enumT (by rfl) T.z_enumerate (pa_cons (pv 0) pa_nil)) (pg_tup rfl (pgs_cons (pg_name (i := 2) sc_ways_of.nd rfl (by first | exact Or.inl rfl | exact Or.inr rfl)) (pgs_cons (pg_name (i := 3) sc_ways_of.nd rfl (by first | exact Or.inl rfl | exact Or.inr rfl)) pgs_nil)))
    (pss_one (ps_if (pt_cmpR op_eq (pe_ix ix_tup (pv 3) pe_int (fun _ _ => rfl)) pe_str (nomark _))
    (pss_one (ps_expr (pe_bm PySem.F.plainAttrs_list PySem.F.slot_list_append PySem.F.type_list_append mt_append (pv 1) (pa_cons (pe_tup (pa_cons (pe_ix ix_tup (pv 3) pe_int (fun _ _ => rfl)) pa_nil)) pa_nil))))
    (pss_one (ps_if (pt_cmpR op_eq (pe_ix ix_tup (pv 3) pe_int (fun _ _ => rfl)) pe_str (nomark _))
    (pss_one (ps_expr (pe_bm PySem.F.plainAttrs_list PySem.F.slot_list_append PySem.F.type_list_append mt_append (pv 1) (pa_cons (pe_tup (pa_cons (pe_ix ix_tup (pv 3) pe_int (fun _ _ => rfl)) (pa_cons (pe_op op_add (pv 2) pe_int) pa_nil))) pa_nil))))
    (pss_one (ps_if (pt_cmpR op_eq (pe_ix ix_tup (pv 3) pe_int (fun _ _ => rfl)) pe_str (nomark _))
    (pss_one (ps_expr (pe_bm PySem.F.plainAttrs_list PySem.F.slot_list_append PySem.F.type_list_append mt_append (pv 1) (pa_cons (pe_tup pa_nil) pa_nil))))
    (pss_one (ps_expr (pe_bm PySem.F.plainAttrs_list PySem.F.slot_list_append PySem.F.type_list_append mt_append (pv 1) (pa_cons (pe_tup (pa_cons (pe_op op_add (pv 2) pe_int) pa_nil)) pa_nil)))))))))))
    (pss_one (ps_ret (pv 1))))), ?_⟩
  refine ⟨by show 0 ≤ sizeLine; decide, fun D hD => ?_⟩
  have e0 : Ext [] H (upd H D (.lst [])) := (Ext.refl _ _).new hD
  refine ⟨_, rfl, p, xs, rfl, e0.sqt hs, for_enumT (xs := xs) (fun i σ H' => Ext [] H H' ∧ ∃ vs, H' D = some (.lst vs) ∧ vs.length = i ∧ (∀ j r v, rows[j]? = some r → vs[j]? = some v → At K H' v (wayD j r)) ∧ ∃ t u, σ = [some (.ref p), some (.ref D), t, u])
    ⟨e0, [], upd_same, rfl, fun j r v _ h => by simp at h, _, _, rfl⟩ (fun i σ H' h => h.1.sqt hs) ?_ ?_⟩
  · rintro i x TT σ H0 hx ⟨e1, vs, hD1, hvl, hvs, t, u, rfl⟩ hT
    obtain ⟨d, hdx, hat⟩ := hd.get i x hx
    obtain ⟨r, hrw, rfl⟩ := map_at hdx
    obtain ⟨p1, ys, rfl, hs1, hy⟩ := row_at hat
    generalize hH1 : upd H0 TT (.tup [.int (i : Nat), .ref p1]) = H1
    have e01 : Ext [] H0 H1 := by rw [← hH1]; exact (Ext.refl _ _).new hT
    have e2 : Ext [] H H1 := e1.trans e01
    have hD2 : H1 D = some (.lst vs) := e01.same _ _ hD1
    have hi : i < rows.length := (List.getElem?_eq_some_iff.mp hrw).1
    refine ⟨TT, _, rfl, .of (by rw [← hH1]; exact upd_same), rfl, _, _, rfl, _, _, rfl, rfl, ?_⟩
    have fin : ∀ (p5 : Addr) (zs : List V), H1 p5 = none → Ats K H1 zs ((wayL i r).map .int) →
        (fun i σ H' => Ext [] H H' ∧ ∃ vs, H' D = some (.lst vs) ∧ vs.length = i ∧ (∀ j r v, rows[j]? = some r → vs[j]? = some v → At K H' v (wayD j r)) ∧ ∃ t u, σ = [some (.ref p), some (.ref D), t, u]) (i + 1) [some (.ref p), some (.ref D), some (V.int i), some (.ref p1)] (upd (upd H1 p5 (.tup zs)) D (.lst (vs ++ [.ref p5]))) := fun p5 zs hp5 hz => by
      have e3 : Ext [] H1 (upd H1 p5 (.tup zs)) := (Ext.refl _ _).new hp5
      have e4 : Ext [D] (upd H1 p5 (.tup zs)) (upd (upd H1 p5 (.tup zs)) D (.lst (vs ++ [.ref p5]))) := (Ext.refl _ _).put (by simp) (e3.same _ _ hD2)
      refine ⟨(e2.trans e3).own hD, _, upd_same, by rw [List.length_append, hvl]; rfl, fun j r2 v hr2 hv => ?_, _, _, rfl⟩
      by_cases hj : j < vs.length
      · rw [List.getElem?_append_left hj] at hv
        exact e4.at_ (e3.at_ (e01.at_ (hvs j r2 v hr2 hv)))
      · have hj2 : j = i := by
          have := (List.getElem?_eq_some_iff.mp hv).1
          rw [List.length_append, List.length_singleton] at this
          omega
        subst hj2
        rw [List.getElem?_append_right (by omega), hvl, Nat.sub_self] at hv
        cases hv
        rw [hrw] at hr2
        cases hr2
        exact e4.at_ (At.mk hp5 hz)
    have lst : ∀ (p5 : Addr) (zs : List V), H1 p5 = none → (upd H1 p5 (.tup zs)) D = some (.lst vs) := fun p5 zs hp5 => by rw [upd_ne (ne_of_none hD2 hp5)]; exact hD2
    refine ⟨_, rfl, p1, _, _, _, rfl, rfl, e2.sqt hs1, atI_nat (j := 0) rfl, rfl, _, rfl, ?_⟩
    cases r with
    | go k =>
      cases hy with
      | cons r1 hy =>
        obtain rfl := r1.inv_int
        refine ite2 (fun _ => ?_) (fun h => absurd (decide_eq_true rfl) h)
        exact ⟨_, rfl, .inl ⟨rfl, _, .inl (.inl hD2)⟩, _, rfl, p1, _, _, _, rfl, rfl, e2.sqt hs1, atI_nat (j := 1) rfl, by show 1 ≤ sizeLine; decide, fun p5 hp5 => ⟨D, _, _, rfl, rfl, lst p5 _ hp5, by omega, fin p5 _ hp5 (.cons (.int _) .nil)⟩⟩
    | iff e k =>
      cases hy with
      | cons r1 hy =>
        cases hy with
        | cons r2 hy =>
          obtain rfl := r2.inv_int
          refine ite2 (fun h => absurd h (word_ne (by simp only [Row.word]; decide +kernel))) (fun _ => ?_)
          refine ⟨_, rfl, p1, _, _, _, rfl, rfl, e2.sqt hs1, atI_nat (j := 0) rfl, rfl, _, rfl, ite2 (fun _ => ?_) (fun h => absurd (decide_eq_true rfl) h)⟩
          exact ⟨_, rfl, .inl ⟨rfl, _, .inl (.inl hD2)⟩, _, rfl, p1, _, _, _, rfl, rfl, e2.sqt hs1, atI_nat (j := 2) rfl, _, rfl, _, _, rfl, rfl, by show 2 ≤ sizeLine; decide, fun p5 hp5 => ⟨D, _, _, rfl, rfl, lst p5 _ hp5, by omega, fin p5 _ hp5 (.cons (.int _) (.cons (.int _) .nil))⟩⟩
    | fin =>
      refine ite2 (fun h => absurd h (word_ne (by simp only [Row.word]; decide +kernel))) (fun _ => ?_)
      refine ⟨_, rfl, p1, _, _, _, rfl, rfl, e2.sqt hs1, atI_nat (j := 0) rfl, rfl, _, rfl, ite2 (fun h => absurd h (word_ne (by simp only [Row.word]; decide +kernel))) (fun _ => ?_)⟩
      refine ⟨_, rfl, p1, _, _, _, rfl, rfl, e2.sqt hs1, atI_nat (j := 0) rfl, rfl, _, rfl, ite2 (fun _ => ?_) (fun h => absurd (decide_eq_true rfl) h)⟩
      exact ⟨_, rfl, .inl ⟨rfl, _, .inl (.inl hD2)⟩, by show 0 ≤ sizeLine; decide, fun p5 hp5 => ⟨D, _, _, rfl, rfl, lst p5 _ hp5, by omega, fin p5 _ hp5 .nil⟩⟩
    | set x e =>
      refine ite2 (fun h => absurd h (word_ne (by simp only [Row.word]; decide +kernel))) (fun _ => ?_)
      refine ⟨_, rfl, p1, _, _, _, rfl, rfl, e2.sqt hs1, atI_nat (j := 0) rfl, rfl, _, rfl, ite2 (fun h => absurd h (word_ne (by simp only [Row.word]; decide +kernel))) (fun _ => ?_)⟩
      refine ⟨_, rfl, p1, _, _, _, rfl, rfl, e2.sqt hs1, atI_nat (j := 0) rfl, rfl, _, rfl, ite2 (fun h => absurd h (word_ne (by simp only [Row.word]; decide +kernel))) (fun _ => ?_)⟩
      exact ⟨_, rfl, .inl ⟨rfl, _, .inl (.inl hD2)⟩, _, rfl, _, _, rfl, rfl, by show 1 ≤ sizeLine; decide, fun p5 hp5 => ⟨D, _, _, rfl, rfl, lst p5 _ hp5, by omega, fin p5 _ hp5 (.cons (.int _) .nil)⟩⟩
    | send x e =>
      refine ite2 (fun h => absurd h (word_ne (by simp only [Row.word]; decide +kernel))) (fun _ => ?_)
      refine ⟨_, rfl, p1, _, _, _, rfl, rfl, e2.sqt hs1, atI_nat (j := 0) rfl, rfl, _, rfl, ite2 (fun h => absurd h (word_ne (by simp only [Row.word]; decide +kernel))) (fun _ => ?_)⟩
      refine ⟨_, rfl, p1, _, _, _, rfl, rfl, e2.sqt hs1, atI_nat (j := 0) rfl, rfl, _, rfl, ite2 (fun h => absurd h (word_ne (by simp only [Row.word]; decide +kernel))) (fun _ => ?_)⟩
      exact ⟨_, rfl, .inl ⟨rfl, _, .inl (.inl hD2)⟩, _, rfl, _, _, rfl, rfl, by show 1 ≤ sizeLine; decide, fun p5 hp5 => ⟨D, _, _, rfl, rfl, lst p5 _ hp5, by omega, fin p5 _ hp5 (.cons (.int _) .nil)⟩⟩
    | take l c x =>
      refine ite2 (fun h => absurd h (word_ne (by simp only [Row.word]; decide +kernel))) (fun _ => ?_)
      refine ⟨_, rfl, p1, _, _, _, rfl, rfl, e2.sqt hs1, atI_nat (j := 0) rfl, rfl, _, rfl, ite2 (fun h => absurd h (word_ne (by simp only [Row.word]; decide +kernel))) (fun _ => ?_)⟩
      refine ⟨_, rfl, p1, _, _, _, rfl, rfl, e2.sqt hs1, atI_nat (j := 0) rfl, rfl, _, rfl, ite2 (fun h => absurd h (word_ne (by simp only [Row.word]; decide +kernel))) (fun _ => ?_)⟩
      exact ⟨_, rfl, .inl ⟨rfl, _, .inl (.inl hD2)⟩, _, rfl, _, _, rfl, rfl, by show 1 ≤ sizeLine; decide, fun p5 hp5 => ⟨D, _, _, rfl, rfl, lst p5 _ hp5, by omega, fin p5 _ hp5 (.cons (.int _) .nil)⟩⟩
    | tell e =>
      refine ite2 (fun h => absurd h (word_ne (by simp only [Row.word]; decide +kernel))) (fun _ => ?_)
      refine ⟨_, rfl, p1, _, _, _, rfl, rfl, e2.sqt hs1, atI_nat (j := 0) rfl, rfl, _, rfl, ite2 (fun h => absurd h (word_ne (by simp only [Row.word]; decide +kernel))) (fun _ => ?_)⟩
      refine ⟨_, rfl, p1, _, _, _, rfl, rfl, e2.sqt hs1, atI_nat (j := 0) rfl, rfl, _, rfl, ite2 (fun h => absurd h (word_ne (by simp only [Row.word]; decide +kernel))) (fun _ => ?_)⟩
      exact ⟨_, rfl, .inl ⟨rfl, _, .inl (.inl hD2)⟩, _, rfl, _, _, rfl, rfl, by show 1 ≤ sizeLine; decide, fun p5 hp5 => ⟨D, _, _, rfl, rfl, lst p5 _ hp5, by omega, fin p5 _ hp5 (.cons (.int _) .nil)⟩⟩
  · rintro σ H' ⟨e1, vs, hD1, hvl, hvs, t, u, rfl⟩
    exact ⟨_, rfl, q D H' vs e1 hD1 (by omega) hvs⟩
abbrev N_mark_row : List Str := ["make", "h", "l", "k", "row"]
theorem sc_mark_row : FnScope N_mark_row ["make", "h", "l"] (defScope s_mark_row) := ⟨rfl, rfl, rfl, by decide +kernel, rfl, by decide +kernel, by decide +kernel⟩
-- slots: 0 make, 1 h, 2 l, 3 k, 4 row
/-- the number of the take with a mark, or None -/
def MarkIs (rows : List Row) (l : Str) (v : V) : Prop := (∃ i r, rows[i]? = some r ∧ r.mark = some l ∧ v = .int (i : Nat)) ∨ ((∀ r ∈ rows, r.mark ≠ some l) ∧ v = .non)
def prMark (K : PySem.W.Frag) : V → V → V → Hp → VK → Prop := fun a b c H Q => ∃ (m : Mak) (hd : Hd) (l : Str), At K H a (mkD m) ∧ (m.hs.map Hd.name).Nodup ∧ hd ∈ m.hs ∧ b = .str hd.name ∧ c = .str l ∧ ∀ v H', MarkIs hd.rows l v → Ext [] H H' → Q v H'
theorem c_mark_row (T : Txt K mg) : Cal P w K mg base 3 "mark_row" (S3 (prMark K)) := T.c_mark_row fun fd F => F.ok3 sc_mark_row fun cdv A outer s H a b c Q E hr h => by
  obtain ⟨m, hd, l, ha, hn, hm, rfl, rfl, q⟩ := h
  have C_hand_of := c_hand_of (P := P) (w := w) (base := base) T
  have hf : m.hs.find? (fun x => decide (x.name = hd.name)) = some hd := find_nd (f := Hd.name) hn hm
  refine ⟨_, (pss_cons (ps_for PassesOwn.never rfl (pi_enumT (by rfl) T.z_enumerate (pa_cons (pe_ix ix_tup (pe_c C_hand_of (hr.mono (by omega)) rfl (pa_cons (pv 0) (pa_cons (pv 1) pa_nil))) pe_int (fun _ _ => rfl)) pa_nil)) (pg_tup rfl (pgs_cons (pg_name (i := 3) sc_mark_row.nd rfl (by first | exact Or.inl rfl | exact Or.inr rfl)) (pgs_cons (pg_name (i := 4) sc_mark_row.nd rfl (by first | exact Or.inl rfl | exact Or.inr rfl)) pgs_nil)))
    (pss_one (ps_if (PW.pt (pw_and (pt_cmpR op_eq (pe_ix ix_tup (pv 4) pe_int (fun _ _ => rfl)) pe_str (nomark _)) (pw_and1 (pt_cmpR op_eq (pe_ix ix_tup (pv 4) pe_int (fun _ _ => rfl)) (pv 2) (nomark _)))))
    (pss_one (ps_ret (pv 3)))
    pss_nil)))
    (pss_one (ps_ret pe_non))), ?_⟩
  refine ⟨_, rfl, _, rfl, m, hd.name, ha, rfl, fun h2 v h1 hv => ?_, fun h1 => absurd (hf.symm.trans h1) (by simp)⟩
  rw [hf] at h1
  cases h1
  obtain ⟨p, y1, y2, y3, rfl, hs, -, -, hy3⟩ := hv.tup3
  obtain ⟨p2, xs, rfl, hs2, hd2⟩ := hy3.inv_tup
  have hl : xs.length = hd.rows.length := by rw [hd2.length, List.length_map]
  refine ⟨p, _, _, _, rfl, rfl, hs, atI_nat (j := 2) rfl, p2, xs, rfl, hs2, for_enumT (xs := xs) (fun i σ H' => Ext [] H H' ∧ (∀ j r, j < i → hd.rows[j]? = some r → r.mark ≠ some l) ∧ ∃ t u, σ = [some a, some (.str hd.name), some (.str l), t, u]) ⟨Ext.refl _ _, fun j r h => absurd h (by omega), _, _, rfl⟩ (fun i σ H' h => h.1.sqt hs2) ?_ ?_⟩
  · rintro i x TT σ H0 hx ⟨e1, hno, t, u, rfl⟩ hT
    obtain ⟨d, hdx, hat⟩ := hd2.get i x hx
    obtain ⟨r, hrw, rfl⟩ := map_at hdx
    obtain ⟨p1, ys, rfl, hs1, hy⟩ := row_at hat
    generalize hH1 : upd H0 TT (.tup [.int (i : Nat), .ref p1]) = H1
    have e2 : Ext [] H H1 := by rw [← hH1]; exact e1.new hT
    have next : r.mark ≠ some l → ∀ j r2, j < i + 1 → hd.rows[j]? = some r2 → r2.mark ≠ some l := fun hn j r2 hj hr2 => by
      by_cases e : j = i
      · subst e
        rw [hrw] at hr2
        cases hr2
        exact hn
      · exact hno j r2 (by omega) hr2
    refine ⟨TT, _, rfl, .of (by rw [← hH1]; exact upd_same), rfl, _, _, rfl, _, _, rfl, rfl, ?_⟩
    refine ⟨_, rfl, p1, _, _, _, rfl, rfl, e2.sqt hs1, atI_nat (j := 0) rfl, rfl, _, rfl, ite2 (fun hc => ?_) (fun hc => ?_)⟩
    · have ew : r.word = "take" := V.str.inj (of_decide_eq_true hc)
      obtain ⟨l2, hl2⟩ := word_mark.mp ew
      obtain ⟨zs, rfl⟩ := rest_mark hy hl2
      refine ⟨_, rfl, p1, _, _, _, rfl, rfl, e2.sqt hs1, atI_nat (j := 1) rfl, _, rfl, rfl, _, rfl, ite2 (fun hc2 => ?_) (fun hc2 => ?_)⟩
      · have el : l2 = l := V.str.inj (of_decide_eq_true hc2)
        subst el
        exact ⟨_, rfl, q _ _ (.inl ⟨i, r, hrw, hl2, rfl⟩) e2⟩
      · refine ⟨e2, next fun h => hc2 ?_, _, _, rfl⟩
        rw [hl2] at h
        exact decide_eq_true (congrArg V.str (Option.some.inj h))
    · refine ite2 (fun h => absurd h Bool.false_ne_true) (fun _ => ⟨e2, next fun h => hc ?_, _, _, rfl⟩)
      exact decide_eq_true (congrArg V.str (word_mark.mpr ⟨l, h⟩))
  · rintro σ H' ⟨e1, hno, t, u, rfl⟩
    refine q _ _ (.inr ⟨fun r hr => ?_, rfl⟩) e1
    obtain ⟨j, hj⟩ := List.mem_iff_getElem?.mp hr
    have := (List.getElem?_eq_some_iff.mp hj).1
    exact hno j r (by omega) hj
/-! ## look_channels, look_hand, look -/
abbrev N_look_channels : List Str := ["make", "name", "source", "goal", "kind", "hand", "channel"]
theorem sc_look_channels : FnScope N_look_channels ["make"] (defScope s_look_channels) := ⟨rfl, rfl, rfl, by decide +kernel, rfl, by decide +kernel, by decide +kernel⟩
-- slots: 0 make, 1 name, 2 source, 3 goal, 4 kind, 5 hand, 6 channel
def prLookMk (K : PySem.W.Frag) : V → Hp → VK → Prop := fun a H Q => ∃ m : Mak, MkOk m ∧ At K H a (mkD m) ∧ ∀ H', Ext [] H H' → Q .non H'
theorem c_look_channels (T : Txt K mg) : Cal P w K mg base 4 "look_channels" (S1 (prLookMk K)) := T.c_look_channels fun fd F => F.ok1 sc_look_channels fun cdv A outer s H a Q E hr h => by
  obtain ⟨m, ok, ha, q⟩ := h
  have C_hand_of := c_hand_of (P := P) (w := w) (base := base) T
  have C_need_unlike := c_need_unlike (P := P) (w := w) (base := base) T
  have C_need_kind_44 := c_need_kind_44 (P := P) (w := w) (base := base) T
  obtain ⟨p, y1, y2, y3, rfl, hs, hy1, hy2, hy3⟩ := mk_at ha
  obtain ⟨p2, cs, rfl, hs2, hd2⟩ := hy2.inv_tup
  obtain ⟨p3, hs_, rfl, hs3, hd3⟩ := hy3.inv_tup
  have l2 : cs.length = m.chs.length := by rw [hd2.length, List.length_map]
  have l3 : hs_.length = m.hs.length := by rw [hd3.length, List.length_map]
  have hf := ok.hf
  have cf := ok.cf
  have z : sizeLine = 16777216 := by decide
  refine ⟨_, (pss_cons (ps_expr (pe_c C_need_unlike (hr.mono (by omega)) rfl (pa_cons (pe_lc rfl sc_look_channels.nd (pi_tup (pe_ix ix_tup (pv 0) pe_int (fun _ _ => rfl))) (blkOk_by (N := N_look_channels) (sc := defScope s_look_channels) (own := [("hand", 5)]) (by decide +kernel)) (fun _ _ _ _ _ => (pg_name (i := 5) sc_look_channels.nd rfl (by first | exact Or.inl rfl | exact Or.inr rfl))) (fun _ _ _ _ _ => pts_nil) (fun _ _ _ _ _ => (pe_ix (ix_tupK K) (pv 5) pe_int (fun _ _ => rfl)))) pa_nil)))
    (pss_cons (ps_expr (pe_c C_need_unlike (hr.mono (by omega)) rfl (pa_cons (pe_lc rfl sc_look_channels.nd (pi_tup (pe_ix ix_tup (pv 0) pe_int (fun _ _ => rfl))) (blkOk_by (N := N_look_channels) (sc := defScope s_look_channels) (own := [("channel", 6)]) (by decide +kernel)) (fun _ _ _ _ _ => (pg_name (i := 6) sc_look_channels.nd rfl (by first | exact Or.inl rfl | exact Or.inr rfl))) (fun _ _ _ _ _ => pts_nil) (fun _ _ _ _ _ => (pe_ix (ix_tupK K) (pv 6) pe_int (fun _ _ => rfl)))) pa_nil)))
    (pss_one (ps_for PassesOwn.never rfl (pi_tup (pe_ix ix_tup (pv 0) pe_int (fun _ _ => rfl))) (pg_tup rfl (pgs_cons (pg_name (i := 1) sc_look_channels.nd rfl (by first | exact Or.inl rfl | exact Or.inr rfl)) (pgs_cons (pg_name (i := 2) sc_look_channels.nd rfl (by first | exact Or.inl rfl | exact Or.inr rfl)) (pgs_cons (pg_name (i := 3) sc_look_channels.nd rfl (by first | exact Or.inl rfl | exact Or.inr rfl)) (pgs_cons (pg_name (i := 4) sc_look_channels.nd rfl (by first | exact Or.inl rfl | exact Or.inr rfl)) pgs_nil)))))
    (pss_cons (ps_if (PW.pt (pw_or (pt_cmpR op_isN (pe_c C_hand_of (hr.mono (by omega)) rfl (pa_cons (pv 0) (pa_cons (pv 2) pa_nil))) pe_non (nomark _)) (pw_or1 (pt_cmpR op_isN (pe_c C_hand_of (hr.mono (by omega)) rfl (pa_cons (pv 0) (pa_cons (pv 3) pa_nil))) pe_non (nomark _)))))
    (pss_one ps_never)
    pss_nil)
    (pss_one (ps_expr (pe_c C_need_kind_44 (hr.mono (by omega)) rfl (pa_cons (pe_ix ix_tup (pv 0) pe_int (fun _ _ => rfl)) (pa_cons (pv 4) pa_nil)))))))))), ?_⟩
  -- hands' names
  refine ⟨_, rfl, p, _, _, _, rfl, rfl, hs, atI_nat (j := 2) rfl, p3, rfl, ⟨_, hs3⟩, fun D hD => lc_tup (K := K) (xs := hs_) (fun i H' => Ext [] H H' ∧ H' D = some (.lst (((m.hs.take i).map Hd.name).map V.str))) ⟨(Ext.refl _ _).new hD, upd_same⟩ (fun i H' _ h => h.1.sqt hs3) ?_ ?_⟩
  · rintro i y H' hy ⟨e2, hD1⟩
    obtain ⟨d, hdy, hat⟩ := hd3.get i y hy
    obtain ⟨h1, hh1, rfl⟩ := map_at hdy
    obtain ⟨p4, z1, z2, z3, rfl, hs4, hz1, hz2, hz3⟩ := hat.tup3
    obtain rfl := hz1.inv_str
    refine ⟨rfl, _, rfl, p4, _, _, _, rfl, rfl, e2.sqt hs4, atI_nat (j := 0) rfl, _, hD1, ?_, e2.own hD, ?_⟩
    · rw [List.length_map, List.length_map, List.length_take]
      omega
    · rw [upd_same, List.take_add_one, hh1]
      simp
  rintro H1 ⟨e1, hD1⟩
  rw [l3, List.take_length] at hD1
  refine ⟨D, _, rfl, hD1, ok.hn, by rw [List.length_map]; omega, fun H2 e12 => ?_⟩
  have e2 := e1.trans e12
  -- channels' names
  refine ⟨_, rfl, p, _, _, _, rfl, rfl, e2.sqt hs, atI_nat (j := 1) rfl, p2, rfl, ⟨_, e2.sqt hs2⟩, fun D hD => lc_tup (K := K) (xs := cs) (fun i H' => Ext [] H2 H' ∧ H' D = some (.lst (((m.chs.take i).map Ch.name).map V.str))) ⟨(Ext.refl _ _).new hD, upd_same⟩ (fun i H' _ h => (e2.trans h.1).sqt hs2) ?_ ?_⟩
  · rintro i y H' hy ⟨e3, hD1⟩
    obtain ⟨d, hdy, hat⟩ := hd2.get i y hy
    obtain ⟨h1, hh1, rfl⟩ := map_at hdy
    obtain ⟨p4, z1, z2, z3, z4, rfl, hs4, hz1, hz2, hz3, hz4⟩ := hat.tup4
    obtain rfl := hz1.inv_str
    refine ⟨rfl, _, rfl, p4, _, _, _, rfl, rfl, (e2.trans e3).sqt hs4, atI_nat (j := 0) rfl, _, hD1, ?_, e3.own hD, ?_⟩
    · rw [List.length_map, List.length_map, List.length_take]
      omega
    · rw [upd_same, List.take_add_one, hh1]
      simp
  rintro H3 ⟨e23, hD3⟩
  rw [l2, List.take_length] at hD3
  refine ⟨_, _, rfl, hD3, ok.cn, by rw [List.length_map]; omega, fun H4 e34 => ?_⟩
  have e4 := (e2.trans e23).trans e34
  refine ⟨_, rfl, p, _, _, _, rfl, rfl, e4.sqt hs, atI_nat (j := 1) rfl, p2, rfl, ⟨_, e4.sqt hs2⟩, for_tup (K := K) (xs := cs) (fun i σ H' => Ext [] H H' ∧ ∃ t u r s a b, σ = [some (.ref p), t, u, r, s, a, b]) ⟨e4, _, _, _, _, _, _, rfl⟩ (fun i σ H' _ h => h.1.sqt hs2) ?_ ?_⟩
  · rintro i y σ H' hy ⟨e5, t, u, r, s2, a2, b2, rfl⟩
    obtain ⟨d, hdy, hat⟩ := hd2.get i y hy
    obtain ⟨ch, hch, rfl⟩ := map_at hdy
    obtain ⟨p4, z1, z2, z3, z4, rfl, hs4, hz1, hz2, hz3, hz4⟩ := hat.tup4
    obtain rfl := hz1.inv_str
    obtain rfl := hz2.inv_str
    obtain rfl := hz3.inv_str
    obtain rfl := hz4.inv_str
    have co := ok.ch ch (List.mem_of_getElem? hch)
    have fnd : ∀ n, n ∈ m.hs.map Hd.name → m.hs.find? (fun x => decide (x.name = n)) ≠ none := fun n hn h => by
      obtain ⟨h1, m1, rfl⟩ := List.mem_map.mp hn
      rw [find_nd (f := Hd.name) ok.hn m1] at h
      cases h
    refine ⟨p4, _, rfl, e5.sqt hs4, rfl, _, _, rfl, _, _, rfl, _, _, rfl, _, _, rfl, rfl, ?_⟩
    refine ⟨_, rfl, _, rfl, m, ch.src, e5.at_ ha, rfl, fun h1 v _ hv => ?_, fun h => absurd h (fnd _ co.src)⟩
    obtain ⟨q1, w1, w2, w3, rfl, -, -, -, -⟩ := hv.tup3
    refine ⟨rfl, _, rfl, ite2 (fun h => absurd (of_decide_eq_true h) (by simp)) (fun _ => ?_)⟩
    refine ⟨_, rfl, _, rfl, m, ch.dst, e5.at_ ha, rfl, fun h1 v _ hv => ?_, fun h => absurd h (fnd _ co.dst)⟩
    obtain ⟨q1, w1, w2, w3, rfl, -, -, -, -⟩ := hv.tup3
    refine ⟨rfl, _, rfl, ite2 (fun h => absurd (of_decide_eq_true h) (by simp)) (fun _ => ?_)⟩
    exact ⟨_, rfl, p, _, _, _, rfl, rfl, e5.sqt hs, atI_nat (j := 0) rfl, _, rfl, m.rs, ch.kind, ok.ks, e5.at_ hy1, rfl, co.kind, e5, _, _, _, _, _, _, rfl⟩
  · rintro σ H' ⟨e5, t, u, r, s2, a2, b2, rfl⟩
    exact q H' e5
end
end Sw

-- part SwL3
set_option Elab.async false
set_option linter.all false
set_option maxRecDepth 100000
set_option maxHeartbeats 4000000
namespace Sw
open PySem PySem.Spec PyProof.Rows L2
section
variable {P : Program} {w : World} {K : PySem.W.Frag} {mg : Str → Option Value} {base : Heap}
abbrev N_look_hand : List Str := ["make", "hand", "h", "boxes", "rows", "known", "x", "kind", "row", "some", "k"]
theorem sc_look_hand : FnScope N_look_hand ["make", "hand"] (defScope s_look_hand) := ⟨rfl, rfl, rfl, by decide +kernel, rfl, by decide +kernel, by decide +kernel⟩
-- slots: 0 make, 1 hand, 2 h, 3 boxes, 4 rows, 5 known, 6 x, 7 kind, 8 row, 9 some, 10 k
def prLookHand (K : PySem.W.Frag) : V → V → Hp → VK → Prop := fun a b H Q => ∃ (m : Mak) (h : Hd), At K H a (mkD m) ∧ KsOk m.rs ∧ (m.chs.map Ch.name).Nodup ∧ HdOk m.rs m.chs h ∧ At K H b (hdD h) ∧ ∀ H', Ext [] H H' → Q .non H'
theorem c_look_hand (T : Txt K mg) : Cal P w K mg base 55 "look_hand" (S2 (prLookHand K)) := T.c_look_hand fun fd F => F.ok2 sc_look_hand fun cdv A outer s H a b Q E hr h => by
  obtain ⟨m, h, ha, ok, cn, ho, hb, q⟩ := h
  have C_need_unlike := c_need_unlike (P := P) (w := w) (base := base) T
  have C_need_kind_44 := c_need_kind_44 (P := P) (w := w) (base := base) T
  have C_look_row := c_look_row (P := P) (w := w) (base := base) T
  have C_ways_of := c_ways_of (P := P) (w := w) (base := base) T
  obtain ⟨p, y1, y2, y3, rfl, hs, hy1, -, -⟩ := mk_at ha
  obtain ⟨p1, z1, z2, z3, rfl, hs1, hz1, hz2, hz3⟩ := hb.tup3
  obtain rfl := hz1.inv_str
  obtain ⟨p2, bs, rfl, hs2, hd2⟩ := hz2.inv_tup
  obtain ⟨p3, rws, rfl, hs3, hd3⟩ := hz3.inv_tup
  have l2 : bs.length = h.boxes.length := by rw [hd2.length, List.length_map]
  have l3 : rws.length = h.rows.length := by rw [hd3.length, List.length_map]
  have few := ho.few
  have most := ho.most
  have z : sizeLine = 16777216 := by decide
  refine ⟨_, (pss_cons (ps_asg (pv 1) (pg_tup rfl (pgs_cons (pg_name (i := 2) sc_look_hand.nd rfl (by first | exact Or.inl rfl | exact Or.inr rfl)) (pgs_cons (pg_name (i := 3) sc_look_hand.nd rfl (by first | exact Or.inl rfl | exact Or.inr rfl)) (pgs_cons (pg_name (i := 4) sc_look_hand.nd rfl (by first | exact Or.inl rfl | exact Or.inr rfl)) pgs_nil)))))
    (pss_cons (ps_expr (pe_c C_need_unlike (hr.mono (by omega)) rfl (pa_cons (pe_lc rfl sc_look_hand.nd (pi_tup (pv 3)) (blkOk_by (N := N_look_hand) (sc := defScope s_look_hand) (own := [("x", 6), ("kind", 7)]) (by decide +kernel)) (fun _ _ _ _ _ => (pg_tupK (n := 2) K rfl (pgs_cons (pg_name (i := 6) sc_look_hand.nd rfl (by first | exact Or.inl rfl | exact Or.inr rfl)) (pgs_cons (pg_name (i := 7) sc_look_hand.nd rfl (by first | exact Or.inl rfl | exact Or.inr rfl)) pgs_nil)))) (fun _ _ _ _ _ => pts_nil) (fun _ _ _ _ _ => (pv 6))) pa_nil)))
    (pss_cons (ps_expr (pe_c C_need_unlike (hr.mono (by omega)) rfl (pa_cons (pe_lc rfl sc_look_hand.nd (pi_tup (pv 4)) (blkOk_by (N := N_look_hand) (sc := defScope s_look_hand) (own := [("row", 8)]) (by decide +kernel)) (fun _ _ _ _ _ => (pg_name (i := 8) sc_look_hand.nd rfl (by first | exact Or.inl rfl | exact Or.inr rfl))) (fun _ _ _ _ _ => (pts_one (pt_cmpR op_eq (pe_ix (ix_tupK K) (pv 8) pe_int (fun _ _ => rfl)) pe_str (nomark _)))) (fun _ _ _ _ _ => (pe_ix (ix_tupK K) (pv 8) pe_int (fun _ _ => rfl)))) pa_nil)))
    (pss_cons (ps_set (i := 5) sc_look_hand.nd rfl (Or.inl rfl) pe_dnewK)
    (pss_cons (ps_for PassesOwn.never rfl (pi_tup (pv 3)) (pg_tup rfl (pgs_cons (pg_name (i := 6) sc_look_hand.nd rfl (by first | exact Or.inl rfl | exact Or.inr rfl)) (pgs_cons (pg_name (i := 7) sc_look_hand.nd rfl (by first | exact Or.inl rfl | exact Or.inr rfl)) pgs_nil)))
    (pss_cons (ps_expr (pe_c C_need_kind_44 (hr.mono (by omega)) rfl (pa_cons (pe_ix ix_tup (pv 0) pe_int (fun _ _ => rfl)) (pa_cons (pv 7) pa_nil))))
    (pss_one (ps_dput (hu_of hr) (pv 5) (pv 6) (pv 7) rfl))))
    (pss_cons (ps_for PassesOwn.never rfl (pi_tup (pv 4)) (pg_name (i := 8) sc_look_hand.nd rfl (by first | exact Or.inl rfl | exact Or.inr rfl))
    (pss_one (ps_expr (pe_c C_look_row (hr.mono (by omega)) rfl (pa_cons (pv 0) (pa_cons (pv 2) (pa_cons (pv 5) (pa_cons (pv 8) pa_nil))))))))
    (pss_cons (ps_if (pt_cmpR op_eq (pe_callB call_len_seq (by rfl) T.z_len PySem.boot_len (pa_cons (pv 4) pa_nil)) pe_int (nomark _))
    (pss_one ps_never)
    pss_nil)
    (pss_one (ps_for PassesOwn.never rfl (pi_list (pe_c C_ways_of (hr.mono (by omega)) rfl (pa_cons (pv 4) pa_nil))) (pg_name (i := 9) sc_look_hand.nd rfl (by first | exact Or.inl rfl | exact Or.inr rfl))
    (pss_one (ps_for PassesOwn.never rfl (pi_tup (pv 9)) (pg_name (i := 10) sc_look_hand.nd rfl (by first | exact Or.inl rfl | exact Or.inr rfl))
    (pss_one (ps_if (pt_cmpR op_ge (pv 10) (pe_callB call_len_seq (by rfl) T.z_len PySem.boot_len (pa_cons (pv 4) pa_nil)) (nomark _))
    (pss_one ps_never)
    pss_nil))))))))))))), ?_⟩
  refine ⟨_, rfl, p1, _, rfl, hs1, rfl, _, _, rfl, _, _, rfl, _, _, rfl, rfl, ?_⟩
  -- boxes' names
  refine ⟨_, rfl, p2, rfl, ⟨_, hs2⟩, fun D hD => lc_tup (K := K) (xs := bs) (fun i H' => Ext [] H H' ∧ H' D = some (.lst (((h.boxes.take i).map (·.1)).map V.str))) ⟨(Ext.refl _ _).new hD, upd_same⟩ (fun i H' _ h => h.1.sqt hs2) ?_ ?_⟩
  · rintro i y H' hy ⟨e2, hD1⟩
    obtain ⟨d, hdy, hat⟩ := hd2.get i y hy
    obtain ⟨pt, hpt, rfl⟩ := map_at hdy
    obtain ⟨p4, w1, w2, rfl, hs4, hw1, hw2⟩ := hat.tup2
    obtain rfl := hw1.inv_str
    refine ⟨p4, _, rfl, e2.sqt hs4, rfl, _, _, rfl, _, _, rfl, rfl, rfl, _, rfl, _, hD1, ?_, e2.own hD, ?_⟩
    · rw [List.length_map, List.length_map, List.length_take]
      omega
    · rw [upd_same, List.take_add_one, hpt]
      simp
  rintro H1 ⟨e1, hD1⟩
  rw [l2, List.take_length] at hD1
  refine ⟨_, _, rfl, hD1, ho.bn, by rw [List.length_map]; omega, fun H2 e12 => ?_⟩
  have e2 := e1.trans e12
  -- marks
  refine ⟨_, rfl, p3, rfl, ⟨_, e2.sqt hs3⟩, fun D hD => lc_tup (K := K) (xs := rws) (fun i H' => Ext [] H2 H' ∧ H' D = some (.lst (((h.rows.take i).filterMap Row.mark).map V.str))) ⟨(Ext.refl _ _).new hD, upd_same⟩ (fun i H' _ h => (e2.trans h.1).sqt hs3) ?_ ?_⟩
  · rintro i y H' hy ⟨e3, hD1⟩
    obtain ⟨d, hdy, hat⟩ := hd3.get i y hy
    obtain ⟨r, hrw, rfl⟩ := map_at hdy
    obtain ⟨p4, ys, rfl, hs4, hys⟩ := row_at hat
    have e4 := e2.trans e3
    refine ⟨rfl, _, rfl, p4, _, _, _, rfl, rfl, e4.sqt hs4, atI_nat (j := 0) rfl, rfl, _, rfl, ite2 (fun hc => ?_) (fun hc => ?_)⟩
    · have ew : r.word = "take" := V.str.inj (of_decide_eq_true hc)
      obtain ⟨l, hl⟩ := word_mark.mp ew
      obtain ⟨zs, rfl⟩ := rest_mark hys hl
      refine ⟨_, rfl, p4, _, _, _, rfl, rfl, e4.sqt hs4, atI_nat (j := 1) rfl, _, hD1, ?_, e3.own hD, ?_⟩
      · rw [List.length_map]
        have := List.length_filterMap_le Row.mark (h.rows.take i)
        rw [List.length_take] at this
        omega
      · rw [upd_same, List.take_add_one, hrw, List.filterMap_append, List.map_append]
        simp [hl]
    · refine ⟨e3, ?_⟩
      rw [hD1, List.take_add_one, hrw, List.filterMap_append]
      have hn : r.mark = none := by
        cases hm : r.mark with
        | none => rfl
        | some l => exact absurd (decide_eq_true (congrArg V.str (word_mark.mpr ⟨l, hm⟩))) hc
      simp [hn]
  rintro H3 ⟨e23, hD3⟩
  rw [l3, List.take_length] at hD3
  refine ⟨_, _, rfl, hD3, ho.marks, ?_, fun H4 e34 => ?_⟩
  · have := List.length_filterMap_le Row.mark h.rows
    omega
  have e4 := (e2.trans e23).trans e34
  -- known
  intro D hD
  have e5 : Ext [] H (upd H4 D (.dK [])) := e4.new hD
  refine ⟨_, rfl, p2, rfl, ⟨_, e5.sqt hs2⟩, for_tup (K := K) (xs := bs) (fun i σ H' => Ext [] H H' ∧ H' D = some (.dK (kvs (h.boxes.take i))) ∧ ∃ t u r1 r2 r3, σ = [some (.ref p), some (.ref p1), some (.str h.name), some (.ref p2), some (.ref p3), some (.ref D), t, u, r1, r2, r3])
    ⟨e5, upd_same, _, _, _, _, _, rfl⟩ (fun i σ H' _ h => h.1.sqt hs2) ?_ ?_⟩
  · rintro i y σ H' hy ⟨e6, hD4, t, u, r1, r2, r3, rfl⟩
    obtain ⟨d, hdy, hat⟩ := hd2.get i y hy
    obtain ⟨pt, hpt, rfl⟩ := map_at hdy
    obtain ⟨p4, w1, w2, rfl, hs4, hw1, hw2⟩ := hat.tup2
    obtain rfl := hw1.inv_str
    obtain rfl := hw2.inv_str
    have hpm := List.mem_of_getElem? hpt
    have new : pt.1 ∉ (h.boxes.take i).map (·.1) := fun hm => by
      obtain ⟨j, hj⟩ := List.mem_iff_getElem?.mp hm
      rw [List.map_take, List.getElem?_take] at hj
      have hi : (h.boxes.map (·.1))[i]? = some pt.1 := by rw [List.getElem?_map, hpt]; rfl
      by_cases hji : j < i
      · rw [if_pos hji] at hj
        exact absurd (nd_ix ho.bn hj hi) (by omega)
      · rw [if_neg hji] at hj
        cases hj
    refine ⟨p4, _, rfl, e6.sqt hs4, rfl, _, _, rfl, _, _, rfl, rfl, ?_⟩
    refine ⟨_, rfl, p, _, _, _, rfl, rfl, e6.sqt hs, atI_nat (j := 0) rfl, _, rfl, m.rs, pt.2, ok, e6.at_ hy1, rfl, ho.bk pt hpm, ?_⟩
    refine ⟨_, rfl, _, rfl, _, rfl, D, _, rfl, DPut.k (k := Sum.inr pt.1) hD4 (by rw [kvs, List.length_map, List.length_take]; omega), ?_⟩
    rw [put_kvs new]
    refine ⟨e6.own (e4.free hD), ?_, _, _, _, _, _, rfl⟩
    rw [upd_same, List.take_add_one, hpt]
    rfl
  rintro σ H5 ⟨e6, hD5, t, u, r1, r2, r3, rfl⟩
  rw [l2, List.take_length] at hD5
  -- rows
  refine ⟨_, rfl, p3, rfl, ⟨_, e6.sqt hs3⟩, for_tup (K := K) (xs := rws) (fun i σ H' => Ext [] H5 H' ∧ ∃ t u r1 r2 r3, σ = [some (.ref p), some (.ref p1), some (.str h.name), some (.ref p2), some (.ref p3), some (.ref D), t, u, r1, r2, r3])
    ⟨Ext.refl _ _, _, _, _, _, _, rfl⟩ (fun i σ H' _ h => (e6.trans h.1).sqt hs3) ?_ ?_⟩
  · rintro i y σ H' hy ⟨e7, t, u, r1, r2, r3, rfl⟩
    obtain ⟨d, hdy, hat⟩ := hd3.get i y hy
    obtain ⟨r, hrw, rfl⟩ := map_at hdy
    have e8 := e6.trans e7
    exact ⟨_, rfl, _, rfl, _, rfl, _, rfl, m, h.name, h.boxes, D, r, e8.at_ ha, ok, cn, rfl, rfl, e7.same _ _ hD5, few, e8.at_ hat, ho.typed r (List.mem_of_getElem? hrw), fun H6 e9 => ⟨e7.trans e9, _, _, _, _, _, rfl⟩⟩
  rintro σ H6 ⟨e56, t, u, r1, r2, r3, rfl⟩
  have e7 := e6.trans e56
  have r0 : 0 < h.rows.length := List.length_pos_iff.mpr ho.ne
  refine ⟨_, rfl, p3, _, rfl, .inr (e7.sqt hs3), rfl, _, rfl, ite2 (fun hc => absurd (of_decide_eq_true hc) ?_) (fun _ => ?_)⟩
  · intro e
    have e := V.int.inj e
    omega
  -- ways
  refine ⟨_, rfl, h.rows, e7.at_ hz3, by omega, fun D2 H7 vs e78 hD7 hvl hvs => ?_⟩
  have e8 := e7.trans e78
  refine ⟨D2, rfl, ⟨_, .of hD7⟩, for_list (K := K) (xs := vs) (fun i σ H' => H' = H7 ∧ ∃ t u r1 r2 r3, σ = [some (.ref p), some (.ref p1), some (.str h.name), some (.ref p2), some (.ref p3), some (.ref D), t, u, r1, r2, r3])
    ⟨rfl, _, _, _, _, _, rfl⟩ (fun i σ H' _ h => by rw [h.1]; exact .of hD7) ?_ ?_⟩
  · rintro i y σ H7 hy ⟨rfl, t, u, r1, r2, r3, rfl⟩
    have hi : i < h.rows.length := by
      have := (List.getElem?_eq_some_iff.mp hy).1
      omega
    have hrw : h.rows[i]? = some h.rows[i] := List.getElem?_eq_getElem hi
    obtain ⟨p5, ks, rfl, hs5, hd5⟩ := (hvs i _ y hrw hy).inv_tup
    refine ⟨_, rfl, p5, rfl, ⟨_, hs5⟩, for_tup (K := K) (xs := ks) (fun j σ H' => H' = H7 ∧ ∃ t u r1 r2 r3, σ = [some (.ref p), some (.ref p1), some (.str h.name), some (.ref p2), some (.ref p3), some (.ref D), t, u, r1, r2, r3])
      ⟨rfl, _, _, _, _, _, rfl⟩ (fun i σ H' _ h => by rw [h.1]; exact hs5) ?_ ?_⟩
    · rintro j y2 σ H7 hy2 ⟨rfl, t, u, r1, r2, r3, rfl⟩
      obtain ⟨d, hdy, hat⟩ := hd5.get j y2 hy2
      obtain ⟨k, hk, rfl⟩ := map_at hdy
      obtain rfl := hat.inv_int
      have hlt := wayL_lt (ho.leads i _ hrw) k (List.mem_of_getElem? hk)
      exact ⟨_, rfl, _, rfl, p3, _, rfl, .inr (e8.sqt hs3), _, _, rfl, rfl, _, rfl, ite2 (fun hc => absurd (of_decide_eq_true hc) (by omega)) (fun _ => ⟨rfl, _, _, _, _, _, rfl⟩)⟩
    · rintro σ H7 ⟨rfl, t, u, r1, r2, r3, rfl⟩
      exact ⟨rfl, _, _, _, _, _, rfl⟩
  · rintro σ H7 ⟨rfl, t, u, r1, r2, r3, rfl⟩
    exact q _ e8
abbrev N_look : List Str := ["make", "hand"]
theorem sc_look : FnScope N_look ["make"] (defScope s_look) := ⟨rfl, rfl, rfl, by decide +kernel, rfl, by decide +kernel, by decide +kernel⟩
-- slots: 0 make, 1 hand
def prLook (K : PySem.W.Frag) : V → Hp → VK → Prop := fun a H Q => ∃ m : Mak, MkOk m ∧ At K H a (mkD m) ∧ ∀ H', Ext [] H H' → Q (.bl true) H'
theorem c_look (T : Txt K mg) : Cal P w K mg base 56 "look" (S1 (prLook K)) := T.c_look fun fd F => F.ok1 sc_look fun cdv A outer s H a Q E hr h => by
  obtain ⟨m, ok, ha, q⟩ := h
  have C_look_kinds := c_look_kinds (P := P) (w := w) (base := base) T
  have C_look_channels := c_look_channels (P := P) (w := w) (base := base) T
  have C_look_hand := c_look_hand (P := P) (w := w) (base := base) T
  obtain ⟨p, y1, y2, y3, rfl, hs, hy1, hy2, hy3⟩ := mk_at ha
  obtain ⟨p3, hns, rfl, hs3, hd3⟩ := hy3.inv_tup
  refine ⟨_, (pss_cons (ps_expr (pe_c C_look_kinds (hr.mono (by omega)) rfl (pa_cons (pe_ix ix_tup (pv 0) pe_int (fun _ _ => rfl)) pa_nil)))
    (pss_cons (ps_expr (pe_c C_look_channels (hr.mono (by omega)) rfl (pa_cons (pv 0) pa_nil)))
    (pss_cons (ps_for PassesOwn.never rfl (pi_tup (pe_ix ix_tup (pv 0) pe_int (fun _ _ => rfl))) (pg_name (i := 1) sc_look.nd rfl (by first | exact Or.inl rfl | exact Or.inr rfl))
    (pss_one (ps_expr (pe_c C_look_hand (hr.mono (by omega)) rfl (pa_cons (pv 0) (pa_cons (pv 1) pa_nil))))))
    (pss_one (ps_ret pe_bl))))), ?_⟩
  refine ⟨_, rfl, p, _, _, _, rfl, rfl, hs, atI_nat (j := 0) rfl, m.rs, ok.ks, ok.kf, hy1, fun H1 e1 => ?_⟩
  refine ⟨_, rfl, m, ok, e1.at_ ha, fun H2 e12 => ?_⟩
  have e2 := e1.trans e12
  refine ⟨_, rfl, p, _, _, _, rfl, rfl, e2.sqt hs, atI_nat (j := 2) rfl, p3, rfl, ⟨_, e2.sqt hs3⟩, for_tup (K := K) (xs := hns) (fun i σ H' => Ext [] H H' ∧ ∃ t, σ = [some (.ref p), t]) ⟨e2, _, rfl⟩ (fun i σ H' _ h => h.1.sqt hs3) ?_ ?_⟩
  · rintro i y σ H' hy ⟨e3, t, rfl⟩
    obtain ⟨d, hdy, hat⟩ := hd3.get i y hy
    obtain ⟨h, hh, rfl⟩ := map_at hdy
    exact ⟨_, rfl, _, rfl, m, h, e3.at_ ha, ok.ks, ok.cn, ok.hd h (List.mem_of_getElem? hh), e3.at_ hat, fun H4 e4 => ⟨e3.trans e4, _, rfl⟩⟩
  · rintro σ H' ⟨e3, t, rfl⟩
    exact q H' e3
end
end Sw

-- part SwG1
set_option Elab.async false
set_option linter.all false
set_option maxRecDepth 100000
set_option maxHeartbeats 4000000
namespace Sw
open PySem PySem.Spec PyProof.Rows L2
/-- the kinds, as a list or as a tuple -/
def Kl (K : PySem.W.Frag) (H : Hp) (v : V) (rs : List Kd) : Prop := ∃ p xs, v = .ref p ∧ (H p = some (.lst xs) ∨ SqT K H p xs) ∧ Ats K H xs (rs.reverse.map kdD)
theorem Kl.of {K : PySem.W.Frag} {H : Hp} {v : V} {rs : List Kd} (h : Kds K H v rs) : Kl K H v rs := by
  obtain ⟨p, xs, rfl, h1, h2⟩ := h.inv_tup
  exact ⟨p, xs, rfl, .inr h1, h2⟩
theorem Kl.ext {K : PySem.W.Frag} {H H' : Hp} {v : V} {rs : List Kd} (e : Ext [] H H') (h : Kl K H v rs) : Kl K H' v rs := by
  obtain ⟨p, xs, rfl, h1, h2⟩ := h
  exact ⟨p, xs, rfl, h1.imp (fun q => e.same _ _ q) (fun q => e.sqt q), e.ats h2⟩
/-- what the law's own look at a kind tells -/
def srt (rs : List Kd) (k : Str) : Str := match findR rs k with
  | none => "num"
  | some kd => sortS kd.alt
def pts (rs : List Kd) (k : Str) : List (Str × Str) := match findR rs k with
  | none => []
  | some kd => kd.parts
section
variable {P : Program} {w : World} {K : PySem.W.Frag} {mg : Str → Option Value} {base : Heap}
abbrev N_law_number : List Str := ["_law_feed_here", "_law_form"]
theorem sc_law_number : FnScope N_law_number ["_law_feed_here"] (defScope s_law_number) := ⟨rfl, rfl, rfl, by decide +kernel, rfl, by decide +kernel, by decide +kernel⟩
-- slots: 0 _law_feed_here, 1 _law_form
def prNumber : V → Hp → VK → Prop := fun a H Q => ∃ f : Addr, a = .ref f ∧ Fd H f ∧ ∀ (n : Int) (H' : Hp), 0 ≤ n → n < 4294967296 → Ext [f] H H' → Fd H' f → Q (.int n) H'
theorem c_law_number (T : Txt K mg) : Cal P w K mg base 2 "_law_number" (S1 prNumber) := T.c_law_number fun fd F => F.ok1 sc_law_number fun cdv A outer s H a Q E hr h => by
  obtain ⟨f, rfl, hf, q⟩ := h
  have C_law_take := c_law_take (P := P) (w := w) (base := base) T
  have e32 : (2 : Int) ^ (32 : Int).toNat = 4294967296 := by decide
  have hp : CPow 2 32 := ⟨by decide, by decide, by decide⟩
  refine ⟨_, (pss_cons (ps_set (i := 1) sc_law_number.nd rfl (Or.inl rfl) (pe_c C_law_take (hr.mono (by omega)) rfl (pa_cons (pv 0) (pa_cons pe_int pa_nil))))
    (pss_cons (ps_if (pt_cmpR op_lt (pv 1) pe_int (nomark _))
    (pss_one (ps_ret (pe_c C_law_take (hr.mono (by omega)) rfl (pa_cons (pv 0) (pa_cons pe_int pa_nil)))))
    pss_nil)
    (pss_cons (ps_if (pt_cmpR op_eq (pv 1) pe_int (nomark _))
    (pss_one (ps_ret (pe_op op_sub (pe_op op_sub (pe_op op_pow pe_int pe_int) pe_int) (pe_c C_law_take (hr.mono (by omega)) rfl (pa_cons (pv 0) (pa_cons pe_int pa_nil))))))
    pss_nil)
    (pss_one (ps_ret (pe_c C_law_take (hr.mono (by omega)) rfl (pa_cons (pv 0) (pa_cons (pe_op op_pow pe_int pe_int) pa_nil)))))))), ?_⟩
  refine ⟨_, rfl, f, 4, rfl, rfl, by decide, by decide, hf, fun d H1 d0 d1 e1 f1 => ?_⟩
  refine ⟨_, rfl, _, _, rfl, rfl, _, rfl, ite2 (fun _ => ?_) (fun _ => ?_)⟩
  · exact ⟨_, rfl, f, 6, rfl, rfl, by decide, by decide, f1, fun d H2 d0 d1 e2 f2 => q d H2 d0 (by omega) (e1.trans e2) f2⟩
  · refine ⟨_, rfl, rfl, _, rfl, ite2 (fun _ => ?_) (fun _ => ?_)⟩
    · refine ⟨_, _, rfl, rfl, hp, _, _, rfl, rfl, ?_⟩
      refine ⟨_, rfl, f, 6, rfl, rfl, by decide, by decide, f1, fun d H2 d0 d1 e2 f2 => ⟨_, _, rfl, rfl, ?_⟩⟩
      exact q _ H2 (by omega) (by omega) (e1.trans e2) f2
    · refine ⟨_, rfl, _, _, rfl, rfl, hp, f, 4294967296, rfl, (show V.int ((2 : Int) ^ (32 : Int).toNat) = V.int 4294967296 by rw [e32]), by decide, by decide, f1, fun d H2 d0 d1 e2 f2 => q d H2 d0 (by omega) (e1.trans e2) f2⟩
abbrev N_law_sort_of : List Str := ["_law_kinds_here", "_law_kind", "_law_name", "_law_sort", "_law_parts_here"]
theorem sc_law_sort_of : FnScope N_law_sort_of ["_law_kinds_here", "_law_kind"] (defScope s_law_sort_of) := ⟨rfl, rfl, rfl, by decide +kernel, rfl, by decide +kernel, by decide +kernel⟩
-- slots: 0 _law_kinds_here, 1 _law_kind, 2 _law_name, 3 _law_sort, 4 _law_parts_here
def prLSort (K : PySem.W.Frag) : V → V → Hp → VK → Prop := fun a b H Q => ∃ (rs : List Kd) (k : Str), KsOk rs ∧ Kl K H a rs ∧ b = .str k ∧ ∀ v H', Ext [] H H' → At K H' v (.tuple [.str (srt rs k), prsD (pts rs k)]) → Q v H'
theorem c_law_sort_of (T : Txt K mg) : Cal P w K mg base 1 "_law_sort_of" (S2 (prLSort K)) := T.c_law_sort_of fun fd F => F.ok2 sc_law_sort_of fun cdv A outer s H a b Q E hr h => by
  obtain ⟨rs, k, ok, ⟨p, xs, rfl, hsx, hd⟩, rfl, q⟩ := h
  have hl : xs.length = rs.reverse.length := by rw [hd.length, List.length_map]
  -- the turn and the end, whatever is walked
  have turn : ∀ (i : Nat) (x : V), xs[i]? = some x → ∃ kd p1 z2 z3, rs.reverse[i]? = some kd ∧ x = .ref p1 ∧ SqT K H p1 [.str kd.name, z2, z3] ∧ At K H z2 (.str (sortS kd.alt)) ∧ At K H z3 (prsD kd.parts) := fun i x hx => by
    obtain ⟨d, hdx, hat⟩ := hd.get i x hx
    obtain ⟨kd, hk, rfl⟩ := map_at hdx
    obtain ⟨p1, y1, y2, y3, rfl, hs1, hy1, hy2, hy3⟩ := hat.tup3
    obtain rfl := hy1.inv_str
    exact ⟨kd, p1, _, _, hk, rfl, hs1, hy2, hy3⟩
  have hit : ∀ (i : Nat) (kd : Kd), rs.reverse[i]? = some kd → kd.name = k → (∀ j y, j < i → rs.reverse[j]? = some y → y.name ≠ k) → ∀ (z2 z3 : V), At K H z2 (.str (sortS kd.alt)) → At K H z3 (prsD kd.parts) → ∀ p5, H p5 = none → Q (.ref p5) (upd H p5 (.tup [z2, z3])) := fun i kd hk e hno z2 z3 h2 h3 p5 hp5 => by
    have hf : findR rs k = some kd := by
      rw [← find_rev ok]
      exact find_first hk (decide_eq_true e) fun j y hj hy => decide_eq_false (hno j y hj hy)
    refine q _ _ ((Ext.refl _ _).new hp5) ?_
    unfold srt pts
    rw [hf]
    exact At.mk hp5 (.cons h2 (.cons h3 .nil))
  have miss : (∀ j y, j < rs.reverse.length → rs.reverse[j]? = some y → y.name ≠ k) → ∀ p5, H p5 = none → ∀ p6, upd H p5 (.tup []) p6 = none → Q (.ref p6) (upd (upd H p5 (.tup [])) p6 (.tup [.str "num", .ref p5])) := fun hno p5 hp5 p6 hp6 => by
    have hf : findR rs k = none := by
      rw [← find_rev ok]
      exact find_no fun j y hj hy => decide_eq_false (hno j y hj hy)
    have e1 : Ext [] H (upd H p5 (.tup [])) := (Ext.refl _ _).new hp5
    refine q _ _ (e1.new hp6) ?_
    unfold srt pts
    rw [hf]
    exact At.mk hp6 (.cons (.str _) (.cons (At.mk hp5 .nil) .nil))
  rcases hsx with hs | hs
  · refine ⟨_, (pss_cons (ps_for PassesOwn.never rfl (pi_list (pv 0)) (pg_tup rfl (pgs_cons (pg_name (i := 2) sc_law_sort_of.nd rfl (by first | exact Or.inl rfl | exact Or.inr rfl)) (pgs_cons (pg_name (i := 3) sc_law_sort_of.nd rfl (by first | exact Or.inl rfl | exact Or.inr rfl)) (pgs_cons (pg_name (i := 4) sc_law_sort_of.nd rfl (by first | exact Or.inl rfl | exact Or.inr rfl)) pgs_nil))))
    (pss_one (ps_if (pt_cmpR op_eq (pv 2) (pv 1) (nomark _))
    (pss_one (ps_ret (pe_tup (pa_cons (pv 3) (pa_cons (pv 4) pa_nil)))))
    pss_nil)))
    (pss_one (ps_ret (pe_tup (pa_cons pe_str (pa_cons (pe_tup pa_nil) pa_nil)))))), ?_⟩
    refine ⟨_, rfl, p, rfl, ⟨xs, .of hs⟩, for_list (K := K) (xs := xs) (fun i σ H' => H' = H ∧ (∀ j y, j < i → rs.reverse[j]? = some y → y.name ≠ k) ∧ ∃ t u v, σ = [some (.ref p), some (.str k), t, u, v]) ⟨rfl, fun j _ h => absurd h (by omega), _, _, _, rfl⟩ (fun i σ H' _ h => by rw [h.1]; exact .of hs) ?_ ?_⟩
    · rintro i x σ H' hx ⟨hH, hno, t, u, v, rfl⟩
      subst H'
      obtain ⟨kd, p1, z2, z3, hk, rfl, hs1, h2, h3⟩ := turn i x hx
      refine ⟨p1, _, rfl, hs1, rfl, _, _, rfl, _, _, rfl, _, _, rfl, rfl, ?_⟩
      refine ⟨_, rfl, _, rfl, rfl, _, rfl, ite2 (fun hc => ?_) (fun hc => ⟨rfl, fun j y hj hy => ?_, _, _, _, rfl⟩)⟩
      · exact ⟨_, rfl, _, rfl, by show 2 ≤ sizeLine; decide, fun p5 hp5 => hit i kd hk (V.str.inj (of_decide_eq_true hc)) hno _ _ h2 h3 p5 hp5⟩
      · by_cases e : j = i
        · subst e
          rw [hk] at hy
          cases hy
          exact fun e => hc (decide_eq_true (congrArg V.str e))
        · exact hno j y (by omega) hy
    · rintro σ H' ⟨hH, hno, t, u, v, rfl⟩
      subst H'
      exact ⟨by show 0 ≤ sizeLine; decide, fun p5 hp5 => ⟨by show 2 ≤ sizeLine; decide, fun p6 hp6 => miss (fun j y hj hy => hno j y (by omega) hy) p5 hp5 p6 hp6⟩⟩
  · refine ⟨_, (pss_cons (ps_for PassesOwn.never rfl (pi_tup (pv 0)) (pg_tup rfl (pgs_cons (pg_name (i := 2) sc_law_sort_of.nd rfl (by first | exact Or.inl rfl | exact Or.inr rfl)) (pgs_cons (pg_name (i := 3) sc_law_sort_of.nd rfl (by first | exact Or.inl rfl | exact Or.inr rfl)) (pgs_cons (pg_name (i := 4) sc_law_sort_of.nd rfl (by first | exact Or.inl rfl | exact Or.inr rfl)) pgs_nil))))
    (pss_one (ps_if (pt_cmpR op_eq (pv 2) (pv 1) (nomark _))
    (pss_one (ps_ret (pe_tup (pa_cons (pv 3) (pa_cons (pv 4) pa_nil)))))
    pss_nil)))
    (pss_one (ps_ret (pe_tup (pa_cons pe_str (pa_cons (pe_tup pa_nil) pa_nil)))))), ?_⟩
    refine ⟨_, rfl, p, rfl, ⟨xs, hs⟩, for_tup (K := K) (xs := xs) (fun i σ H' => H' = H ∧ (∀ j y, j < i → rs.reverse[j]? = some y → y.name ≠ k) ∧ ∃ t u v, σ = [some (.ref p), some (.str k), t, u, v]) ⟨rfl, fun j _ h => absurd h (by omega), _, _, _, rfl⟩ (fun i σ H' _ h => by rw [h.1]; exact hs) ?_ ?_⟩
    · rintro i x σ H' hx ⟨hH, hno, t, u, v, rfl⟩
      subst H'
      obtain ⟨kd, p1, z2, z3, hk, rfl, hs1, h2, h3⟩ := turn i x hx
      refine ⟨p1, _, rfl, hs1, rfl, _, _, rfl, _, _, rfl, _, _, rfl, rfl, ?_⟩
      refine ⟨_, rfl, _, rfl, rfl, _, rfl, ite2 (fun hc => ?_) (fun hc => ⟨rfl, fun j y hj hy => ?_, _, _, _, rfl⟩)⟩
      · exact ⟨_, rfl, _, rfl, by show 2 ≤ sizeLine; decide, fun p5 hp5 => hit i kd hk (V.str.inj (of_decide_eq_true hc)) hno _ _ h2 h3 p5 hp5⟩
      · by_cases e : j = i
        · subst e
          rw [hk] at hy
          cases hy
          exact fun e => hc (decide_eq_true (congrArg V.str e))
        · exact hno j y (by omega) hy
    · rintro σ H' ⟨hH, hno, t, u, v, rfl⟩
      subst H'
      exact ⟨by show 0 ≤ sizeLine; decide, fun p5 hp5 => ⟨by show 2 ≤ sizeLine; decide, fun p6 hp6 => miss (fun j y hj hy => hno j y (by omega) hy) p5 hp5 p6 hp6⟩⟩
theorem isum (f : Str → Nat) : ∀ l : List (Str × Str), (l.map fun p => ((f p.2 : Nat) : Int)).sum = (((l.map fun p => f p.2).sum : Nat) : Int)
  | [] => rfl
  | a :: l => by
    rw [List.map_cons, List.map_cons, List.sum_cons, List.sum_cons, isum f l]
    omega
/-- what the parts of a kind at hand are -/
theorem pts_at {rs : List Kd} (ok : KsOk rs) {k : Str} (vk : Vk rs k) : (findR rs k = none ∧ k = "num" ∧ srt rs k = "num" ∧ pts rs k = []) ∨ ∃ kd, findR rs k = some kd ∧ KdAt rs k kd ∧ srt rs k = sortS kd.alt ∧ pts rs k = kd.parts := by
  unfold srt pts
  cases h : findR rs k with
  | none => exact .inl ⟨rfl, vk.none h, rfl, rfl⟩
  | some kd => exact .inr ⟨kd, rfl, kd_at ok h, rfl, rfl⟩
abbrev N_law_size : List Str := ["_law_kinds_here", "_law_kind", "_law_sort", "_law_parts_here", "_law_sizes", "_law_name", "_law_part"]
theorem sc_law_size : FnScope N_law_size ["_law_kinds_here", "_law_kind"] (defScope s_law_size) := ⟨rfl, rfl, rfl, by decide +kernel, rfl, by decide +kernel, by decide +kernel⟩
-- slots: 0 _law_kinds_here*, 1 _law_kind, 2 _law_sort, 3 _law_parts_here, 4 _law_sizes, 5 _law_name, 6 _law_part
def prLSize (K : PySem.W.Frag) (m : Nat) : V → V → Hp → VK → Prop := fun a b H Q => ∃ (rs : List Kd) (k : Str), KsOk rs ∧ Kl K H a rs ∧ b = .str k ∧ Vk rs k ∧ rk rs k < m ∧ ∀ H', Ext [] H H' → Q (.int (szR rs k : Nat)) H'
theorem c_law_size (T : Txt K mg) : ∀ m : Nat, Cal P w K mg base (m + 1) "_law_size" (S2 (prLSize K m))
  | 0 => T.c_law_size fun fd F => FnOk.no (S2.no fun a b H Q ⟨rs, k, _, _, _, _, h, _⟩ => by omega)
  | m + 1 => T.c_law_size fun fd F => F.ok2 sc_law_size fun cdv A outer s H a b Q E hr h => by
    obtain ⟨rs, k, ok, ha, rfl, vk, hm, q⟩ := h
    have C_law_size := c_law_size T m
    have C_law_sort_of := c_law_sort_of (P := P) (w := w) (base := base) T
    have z : sizeLine = 16777216 := by decide
    refine ⟨_, (pss_cons (ps_asg (pe_c C_law_sort_of (hr.mono (by omega)) rfl (pa_cons (pv 0) (pa_cons (pv 1) pa_nil))) (pg_tup rfl (pgs_cons (pg_name (i := 2) sc_law_size.nd rfl (by first | exact Or.inl rfl | exact Or.inr rfl)) (pgs_cons (pg_name (i := 3) sc_law_size.nd rfl (by first | exact Or.inl rfl | exact Or.inr rfl)) pgs_nil))))
    (pss_cons (ps_setLc (i := 4) rfl sc_law_size.nd rfl rfl (sw_true rfl rfl rfl (by decide +kernel)) (pi_tup (pv 3)) (blkOk_by (N := N_law_size) (sc := defScope s_law_size) (own := [("_law_name", 5), ("_law_part", 6)]) (by decide +kernel)) (fun _ _ _ _ _ => (pg_tupK (n := 2) K rfl (pgs_cons (pg_name (i := 5) sc_law_size.nd rfl (by first | exact Or.inl rfl | exact Or.inr rfl)) (pgs_cons (pg_name (i := 6) sc_law_size.nd rfl (by first | exact Or.inl rfl | exact Or.inr rfl)) pgs_nil)))) (fun _ _ _ _ _ => pts_nil) (fun _ _ _ _ _ => (pe_c C_law_size (hr.mono (by omega)) rfl (pa_cons (pv 0) (pa_cons (pv 6) pa_nil)))))
    (pss_cons (ps_if (pt_cmpR op_eq (pv 2) pe_str (nomark _))
    (pss_one (ps_ret (pe_op op_add pe_int (pe_callB (cr_max rfl) (by rfl) T.z_max (by decide +kernel) (pa_cons (pv 4) pa_nil)))))
    pss_nil)
    (pss_one (ps_ret (pe_op op_add pe_int (pe_callB (cr_sum rfl) (by rfl) T.z_sum (by decide +kernel) (pa_cons (pv 4) pa_nil)))))))), ?_⟩
    refine ⟨_, rfl, _, rfl, rs, k, ok, ha, rfl, fun v H1 e1 hv => ?_⟩
    obtain ⟨p, y1, y2, rfl, hs, hy1, hy2⟩ := hv.tup2
    obtain rfl := hy1.inv_str
    obtain ⟨p2, xs, rfl, hs2, hd2⟩ := hy2.inv_tup
    refine ⟨p, _, rfl, hs, rfl, _, _, rfl, _, _, rfl, rfl, ?_⟩
    have hl : xs.length = (pts rs k).length := by rw [hd2.length, List.length_map]
    have few : (pts rs k).length ≤ 4 := by
      rcases pts_at ok vk with ⟨_, _, _, h⟩ | ⟨kd, _, kat, _, h⟩
      · rw [h]
        decide
      · rw [h]
        exact kat.few
    have prt : ∀ pt ∈ pts rs k, Vk rs pt.2 ∧ rk rs pt.2 < rk rs k := fun pt hpt => by
      rcases pts_at ok vk with ⟨_, _, _, h⟩ | ⟨kd, _, kat, _, h⟩
      · rw [h] at hpt
        cases hpt
      · rw [h] at hpt
        exact kat.pk pt hpt
    refine ⟨_, rfl, p2, rfl, ⟨xs, hs2⟩, fun D hD => lc_tup (K := K) (xs := xs) (fun i H' => Ext [] H1 H' ∧ H' D = some (.lst ((((pts rs k).take i).map fun p => ((szR rs p.2 : Nat) : Int)).map V.int))) ⟨(Ext.refl _ _).new hD, upd_same⟩ (fun i H' _ h => h.1.sqt hs2) ?_ ?_⟩
    · rintro i x H' hx ⟨e2, hD1⟩
      obtain ⟨d, hdx, hat⟩ := hd2.get i x hx
      obtain ⟨pt, hk, rfl⟩ := map_at hdx
      obtain ⟨p1, y1, y2, rfl, hs1, hy1, hy2⟩ := hat.tup2
      obtain rfl := hy2.inv_str
      have hp := prt pt (List.mem_of_getElem? hk)
      refine ⟨p1, _, rfl, e2.sqt hs1, rfl, _, _, rfl, _, _, rfl, rfl, rfl, ?_⟩
      refine ⟨_, rfl, _, rfl, rs, pt.2, ok, (e1.trans e2 |> fun e => Kl.ext e ha), rfl, hp.1, by omega, fun H2 e3 => ⟨_, e3.same _ _ hD1, ?_, (e2.trans e3).own hD, ?_⟩⟩
      · rw [List.length_map, List.length_map, List.length_take]
        omega
      · rw [upd_same, List.take_add_one, hk]
        simp
    rintro H2 ⟨e2, hD2⟩
    rw [hl, List.take_length] at hD2
    have e12 := e1.trans e2
    refine ⟨_, rfl, rfl, _, rfl, ite2 (fun hc => ?_) (fun hc => ?_)⟩
    · have ea : srt rs k = "alt" := V.str.inj (of_decide_eq_true hc)
      rcases pts_at ok vk with ⟨_, _, h, _⟩ | ⟨kd, hf, kat, hsr, hpt⟩
      · rw [h] at ea
        exact absurd ea (by decide +kernel)
      rw [hsr] at ea
      have hal : kd.alt = true := by
        cases h : kd.alt with
        | true => rfl
        | false =>
          rw [h] at ea
          exact absurd ea (by decide +kernel)
      rw [hpt] at hD2
      refine ⟨_, rfl, D, _, rfl, .of hD2, ?_, fun n hn hle => ?_⟩
      · rw [List.length_map]
        exact List.length_pos_iff.mpr (kat.ne hal)
      · obtain ⟨pt, hpm, rfl⟩ := List.mem_map.mp hn
        have em : maxL (kd.parts.map fun p => szR rs p.2) = szR rs pt.2 := maxL_is (List.mem_map.mpr ⟨pt, hpm, rfl⟩) fun n hn => by
          obtain ⟨p2, h2, rfl⟩ := List.mem_map.mp hn
          have := hle _ (List.mem_map.mpr ⟨p2, h2, rfl⟩)
          omega
        have es : ((szR rs k : Nat) : Int) = 1 + ((szR rs pt.2 : Nat) : Int) := by
          rw [kat.sz]
          unfold szOf
          rw [if_pos hal, em]
          omega
        have := q H2 e12
        rw [es] at this
        exact ⟨_, _, rfl, rfl, this⟩
    · have es : ((szR rs k : Nat) : Int) = 1 + ((pts rs k).map fun p => ((szR rs p.2 : Nat) : Int)).sum := by
        rw [isum]
        rcases pts_at ok vk with ⟨_, h0, _, h⟩ | ⟨kd, hf, kat, hsr, hpt⟩
        · rw [h, h0, (sz_num ok).1]
          rfl
        · have hal : kd.alt = false := by
            cases h : kd.alt with
            | false => rfl
            | true =>
              rw [hsr, h] at hc
              exact absurd (decide_eq_true rfl) hc
          rw [hpt, kat.sz]
          unfold szOf
          rw [hal, if_neg Bool.false_ne_true]
          omega
      have := q H2 e12
      rw [es] at this
      exact ⟨_, rfl, D, _, rfl, .of hD2, _, _, rfl, rfl, this⟩
abbrev N_law_small : List Str := ["_law_kinds_here", "_law_kind", "_law_sort", "_law_parts_here", "_law_name", "_law_part"]
theorem sc_law_small : FnScope N_law_small ["_law_kinds_here", "_law_kind"] (defScope s_law_small) := ⟨rfl, rfl, rfl, by decide +kernel, rfl, by decide +kernel, by decide +kernel⟩
-- slots: 0 _law_kinds_here*, 1 _law_kind, 2 _law_sort, 3 _law_parts_here, 4 _law_name, 5 _law_part
def prSmall (K : PySem.W.Frag) (m : Nat) : V → V → Hp → VK → Prop := fun a b H Q => ∃ (rs : List Kd) (k : Str), KsOk rs ∧ Kds K H a rs ∧ b = .str k ∧ Vk rs k ∧ rk rs k < m ∧ ∀ H', Ext [] H H' → Q (.int (smR rs k : Nat)) H'
theorem c_law_small (T : Txt K mg) : ∀ m : Nat, Cal P w K mg base (m + 1) "_law_small" (S2 (prSmall K m))
  | 0 => T.c_law_small fun fd F => FnOk.no (S2.no fun a b H Q ⟨rs, k, _, _, _, _, h, _⟩ => by omega)
  | m + 1 => T.c_law_small fun fd F => F.ok2 sc_law_small fun cdv A outer s H a b Q E hr h => by
    obtain ⟨rs, k, ok, ha, rfl, vk, hm, q⟩ := h
    have C_law_small := c_law_small T m
    have C_law_sort_of := c_law_sort_of (P := P) (w := w) (base := base) T
    have z : sizeLine = 16777216 := by decide
    refine ⟨_, (pss_cons (ps_asg (pe_c C_law_sort_of (hr.mono (by omega)) rfl (pa_cons (pv 0) (pa_cons (pv 1) pa_nil))) (pg_tup rfl (pgs_cons (pg_name (i := 2) sc_law_small.nd rfl (by first | exact Or.inl rfl | exact Or.inr rfl)) (pgs_cons (pg_name (i := 3) sc_law_small.nd rfl (by first | exact Or.inl rfl | exact Or.inr rfl)) pgs_nil))))
    (pss_cons (ps_if (pt_cmpR op_eq (pv 2) pe_str (nomark _))
    (pss_one (ps_ret (pe_op op_add pe_int (pe_c C_law_small (hr.mono (by omega)) rfl (pa_cons (pv 0) (pa_cons (pe_ix ix_tup (pe_ix ix_tup (pv 3) pe_int (fun _ _ => rfl)) pe_int (fun _ _ => rfl)) pa_nil))))))
    pss_nil)
    (pss_one (ps_ret (pe_op op_add pe_int (pe_callB (cr_sum rfl) (by rfl) T.z_sum (by decide +kernel) (pa_cons (pe_lc rfl sc_law_small.nd (pi_tup (pv 3)) (blkOk_by (N := N_law_small) (sc := defScope s_law_small) (own := [("_law_name", 4), ("_law_part", 5)]) (by decide +kernel)) (fun _ _ _ _ _ => (pg_tupK (n := 2) K rfl (pgs_cons (pg_name (i := 4) sc_law_small.nd rfl (by first | exact Or.inl rfl | exact Or.inr rfl)) (pgs_cons (pg_name (i := 5) sc_law_small.nd rfl (by first | exact Or.inl rfl | exact Or.inr rfl)) pgs_nil)))) (fun _ _ _ _ _ => pts_nil) (fun _ _ _ _ _ => (pe_c C_law_small (hr.mono (by omega)) rfl (pa_cons (pv 0) (pa_cons (pv 5) pa_nil))))) pa_nil))))))), ?_⟩
    refine ⟨_, rfl, _, rfl, rs, k, ok, .of ha, rfl, fun v H1 e1 hv => ?_⟩
    obtain ⟨p, y1, y2, rfl, hs, hy1, hy2⟩ := hv.tup2
    obtain rfl := hy1.inv_str
    obtain ⟨p2, xs, rfl, hs2, hd2⟩ := hy2.inv_tup
    refine ⟨p, _, rfl, hs, rfl, _, _, rfl, _, _, rfl, rfl, ?_⟩
    have hl : xs.length = (pts rs k).length := by rw [hd2.length, List.length_map]
    refine ⟨_, rfl, rfl, _, rfl, ite2 (fun hc => ?_) (fun hc => ?_)⟩
    · have ea : srt rs k = "alt" := V.str.inj (of_decide_eq_true hc)
      rcases pts_at ok vk with ⟨_, _, h, _⟩ | ⟨kd, hf, kat, hsr, hpt⟩
      · rw [h] at ea
        exact absurd ea (by decide +kernel)
      rw [hsr] at ea
      have hal : kd.alt = true := by
        cases h : kd.alt with
        | true => rfl
        | false =>
          rw [h] at ea
          exact absurd ea (by decide +kernel)
      rw [hpt] at hd2 hl
      obtain ⟨pt, ps, hps⟩ : ∃ pt ps, kd.parts = pt :: ps := by
        cases h : kd.parts with
        | nil => exact absurd h (kat.ne hal)
        | cons a l => exact ⟨a, l, rfl⟩
      obtain ⟨x, hx, hat⟩ := hd2.get' 0 (prD pt) (by rw [hps]; rfl)
      obtain ⟨p1, y1, y2, rfl, hs1, hy1, hy2⟩ := hat.tup2
      obtain rfl := hy2.inv_str
      have hp := kat.pk pt (by rw [hps]; exact List.mem_cons_self)
      refine ⟨_, rfl, _, rfl, p2, _, _, _, rfl, rfl, hs2, atI_nat (j := 0) hx, p1, _, _, _, rfl, rfl, hs1, atI_nat (j := 1) rfl, rs, pt.2, ok, e1.at_ ha, rfl, hp.1, by omega, fun H2 e2 => ?_⟩
      have es : ((smR rs k : Nat) : Int) = 1 + ((smR rs pt.2 : Nat) : Int) := by
        rw [kat.sm]
        unfold smOf
        rw [if_pos hal, hps]
        simp only
        omega
      have := q H2 (e1.trans e2)
      rw [es] at this
      exact ⟨_, _, rfl, rfl, this⟩
    · have few : (pts rs k).length ≤ 4 := by
        rcases pts_at ok vk with ⟨_, _, _, h⟩ | ⟨kd, _, kat, _, h⟩
        · rw [h]
          decide
        · rw [h]
          exact kat.few
      have prt : ∀ pt ∈ pts rs k, Vk rs pt.2 ∧ rk rs pt.2 < rk rs k := fun pt hpt => by
        rcases pts_at ok vk with ⟨_, _, _, h⟩ | ⟨kd, _, kat, _, h⟩
        · rw [h] at hpt
          cases hpt
        · rw [h] at hpt
          exact kat.pk pt hpt
      refine ⟨_, rfl, p2, rfl, ⟨xs, hs2⟩, fun D hD => lc_tup (K := K) (xs := xs) (fun i H' => Ext [] H1 H' ∧ H' D = some (.lst ((((pts rs k).take i).map fun p => ((smR rs p.2 : Nat) : Int)).map V.int))) ⟨(Ext.refl _ _).new hD, upd_same⟩ (fun i H' _ h => h.1.sqt hs2) ?_ ?_⟩
      · rintro i x H' hx ⟨e2, hD1⟩
        obtain ⟨d, hdx, hat⟩ := hd2.get i x hx
        obtain ⟨pt, hk, rfl⟩ := map_at hdx
        obtain ⟨p1, y1, y2, rfl, hs1, hy1, hy2⟩ := hat.tup2
        obtain rfl := hy2.inv_str
        have hp := prt pt (List.mem_of_getElem? hk)
        refine ⟨p1, _, rfl, e2.sqt hs1, rfl, _, _, rfl, _, _, rfl, rfl, rfl, ?_⟩
        refine ⟨_, rfl, _, rfl, rs, pt.2, ok, (e1.trans e2).at_ ha, rfl, hp.1, by omega, fun H2 e3 => ⟨_, e3.same _ _ hD1, ?_, (e2.trans e3).own hD, ?_⟩⟩
        · rw [List.length_map, List.length_map, List.length_take]
          omega
        · rw [upd_same, List.take_add_one, hk]
          simp
      rintro H2 ⟨e2, hD2⟩
      rw [hl, List.take_length] at hD2
      have es : ((smR rs k : Nat) : Int) = 1 + ((pts rs k).map fun p => ((smR rs p.2 : Nat) : Int)).sum := by
        rw [isum]
        rcases pts_at ok vk with ⟨_, h0, _, h⟩ | ⟨kd, hf, kat, hsr, hpt⟩
        · rw [h, h0, (sz_num ok).2.1]
          rfl
        · have hal : kd.alt = false := by
            cases h : kd.alt with
            | false => rfl
            | true =>
              rw [hsr, h] at hc
              exact absurd (decide_eq_true rfl) hc
          rw [hpt, kat.sm]
          unfold smOf
          rw [hal, if_neg Bool.false_ne_true]
          omega
      have := q H2 (e1.trans e2)
      rw [es] at this
      exact ⟨D, _, rfl, .of hD2, _, _, rfl, rfl, this⟩
end
end Sw

-- part SwG2
set_option Elab.async false
set_option linter.all false
set_option maxRecDepth 100000
set_option maxHeartbeats 4000000
namespace Sw
open PySem PySem.Spec PyProof.Rows L2 SX
/-! ## the names -/
def quals : List Nat := [113, 120, 122, 118, 119]
def nm (cs : List Nat) (t a k : Nat) : List Nat := cs.take t ++ ((97 + (a + 5 * k) % 26) :: cs.drop t)
theorem nm_len (cs : List Nat) (t a k : Nat) : (nm cs t a k).length = cs.length + 1 := by
  simp only [nm, List.length_append, List.length_take, List.length_cons, List.length_drop]
  omega
theorem nm_inj {cs : List Nat} {t a k j : Nat} (hk : k < 26) (hj : j < 26) (h : nm cs t a k = nm cs t a j) : k = j := by
  have e := List.append_cancel_left h
  have e2 := (List.cons.inj e).1
  omega
theorem nm_mem {cs : List Nat} {t a k c : Nat} (hq : ∀ c ∈ cs, c ∈ quals) (h : c ∈ nm cs t a k) : c < 128 := by
  unfold nm at h
  have hs : ∀ c ∈ cs, c < 128 := fun c hc => by
    have := hq c hc
    simp only [quals, List.mem_cons, List.not_mem_nil, or_false] at this
    omega
  rcases List.mem_append.mp h with h | h
  · exact hs _ (List.mem_of_mem_take h)
  · rcases List.mem_cons.mp h with rfl | h
    · omega
    · exact hs _ (List.mem_of_mem_drop h)
theorem nm_has {cs : List Nat} {t a k c : Nat} (h : c ∈ cs) : c ∈ nm cs t a k := by
  unfold nm
  rw [← List.take_append_drop t cs] at h
  rcases List.mem_append.mp h with h | h
  · exact List.mem_append_left _ h
  · exact List.mem_append_right _ (List.mem_cons_of_mem _ h)
theorem nm_ok {cs : List Nat} {t a k : Nat} (hq : ∀ c ∈ cs, c ∈ quals) (hl : cs.length ≤ 4) : NameP (S (nm cs t a k)) := by
  refine ⟨?_, fun c hc => nm_mem hq hc, fun h3 => ?_⟩
  · rw [S_len, nm_len]
    omega
  · rw [S_len, nm_len] at h3
    obtain ⟨c, r, rfl⟩ : ∃ c r, cs = c :: r := by
      cases cs with
      | nil => simp at h3
      | cons c r => exact ⟨c, r, rfl⟩
    exact ⟨c, nm_has List.mem_cons_self, hq c List.mem_cons_self⟩
def nm2 (cs : List Nat) (t a k : Nat) : List Nat := nm cs t a (k - k % 2) ++ List.replicate (k % 2) 113
theorem nm2_inj {cs : List Nat} {t a k j : Nat} (hk : k < 26) (hj : j < 26) (h : nm2 cs t a k = nm2 cs t a j) : k = j := by
  have e := congrArg List.length h
  simp only [nm2, List.length_append, nm_len, List.length_replicate] at e
  have e1 : k % 2 = j % 2 := by omega
  unfold nm2 at h
  rw [e1] at h
  have := nm_inj (by omega) (by omega) (List.append_cancel_right h)
  omega
theorem nm2_ok {cs : List Nat} {t a k : Nat} (hq : ∀ c ∈ cs, c ∈ quals) (hl : cs.length ≤ 4) : NameP (S (nm2 cs t a k)) := by
  refine ⟨?_, fun c hc => ?_, fun h3 => ?_⟩
  · rw [S_len]
    simp only [nm2, List.length_append, nm_len, List.length_replicate]
    omega
  · rcases List.mem_append.mp hc with h | h
    · exact nm_mem hq h
    · rw [List.eq_of_mem_replicate h]
      decide
  · rcases Nat.mod_two_eq_zero_or_one k with h | h
    · rw [S_len] at h3
      simp only [nm2, List.length_append, nm_len, List.length_replicate] at h3
      obtain ⟨c, r, rfl⟩ : ∃ c r, cs = c :: r := by
        cases cs with
        | nil => simp [h] at h3
        | cons c r => exact ⟨c, r, rfl⟩
      exact ⟨c, List.mem_append_left _ (nm_has List.mem_cons_self), hq c List.mem_cons_self⟩
    · refine ⟨113, List.mem_append_right _ ?_, by decide⟩
      rw [h]
      decide
/-- the names' groups: kinds and hands, parts, channels, boxes and marks -/
structure NsOk (ns : List Str) : Prop where
  len : ns.length = 26
  nm : ∀ n ∈ ns, NameP n
  g1 : (ns.take 8).Nodup
  g2 : ((ns.drop 8).take 4).Nodup
  g3 : ((ns.drop 12).take 6).Nodup
  g4 : (ns.drop 18).Nodup
theorem NsOk.of {ns : List Str} (hl : ns.length = 26) (hn : ∀ n ∈ ns, NameP n) (hd : ns.Nodup) : NsOk ns :=
  ⟨hl, hn, hd.sublist (List.take_sublist _ _), hd.sublist ((List.take_sublist _ _).trans (List.drop_sublist _ _)), hd.sublist ((List.take_sublist _ _).trans (List.drop_sublist _ _)), hd.sublist (List.drop_sublist _ _)⟩
theorem ns_of {g : Nat → List Nat} (inj : ∀ k j, k < 26 → j < 26 → g k = g j → k = j) (ok : ∀ k, NameP (S (g k))) : NsOk ((List.range 26).map fun k => S (g k)) := by
  refine .of (by rw [List.length_map, List.length_range]) (fun n hn => ?_) ?_
  · obtain ⟨k, _, rfl⟩ := List.mem_map.mp hn
    exact ok k
  · refine List.pairwise_map.mpr (List.Pairwise.imp_of_mem (fun {a b} ha hb hne e => hne (inj a b (List.mem_range.mp ha) (List.mem_range.mp hb) (S_inj e))) List.nodup_range)
theorem join_cs : ∀ cs : List Nat, Txt.join "" (cs.map fun c => S [c]) = S cs := fun cs => by
  have e : (cs.map fun c => S [c]) = (cs.map fun c => [c]).map S := by rw [List.map_map]; rfl
  have e0 : (("" : String) : Str) = S [] := by decide +kernel
  rw [e, e0, join_S]
  congr 1
  induction cs with
  | nil => rfl
  | cons c r ih =>
    cases r with
    | nil => rfl
    | cons d r =>
      have := ih (by rw [List.map_map]; rfl)
      simpa [TL.joinL] using this
theorem cut_lo (cs : List Nat) (t : Nat) : cutS (S cs) none (some (t : Int)) = S (cs.take t) := by
  unfold cutS
  rw [HT.sIx_none, HT.sIx_nat, List.drop_zero, Nat.sub_zero, S_len]
  by_cases h : t ≤ cs.length
  · rw [Nat.min_eq_left h]
  · rw [Nat.min_eq_right (by omega), List.take_of_length_le (by simp), List.take_of_length_le (by omega)]
theorem cut_hi (cs : List Nat) (t : Nat) : cutS (S cs) (some (t : Int)) none = S (cs.drop t) := by
  unfold cutS
  rw [HT.sIx_none, HT.sIx_nat, S_len]
  by_cases h : t ≤ cs.length
  · rw [Nat.min_eq_left h, List.take_of_length_le (by simp)]
  · rw [Nat.min_eq_right (by omega), List.take_of_length_le (by simp), List.drop_of_length_le (by simp), List.drop_of_length_le (by omega)]
theorem letter_at (j : Nat) (h : j < 26) : (("abcdefghijklmnopqrstuvwxyz" : String) : Str).cps.toList[j]? = some (97 + j) := by
  have e : (("abcdefghijklmnopqrstuvwxyz" : String) : Str).cps.toList = (List.range 26).map (97 + ·) := by decide +kernel
  rw [e, List.getElem?_map, List.getElem?_range h]
  rfl
section
variable {P : Program} {w : World} {K : PySem.W.Frag} {mg : Str → Option Value} {base : Heap}
abbrev N_law_names : List Str := ["_law_cell", "_law_many", "_law_letters", "_law_size_here", "_law_at", "_law_common", "_law_found_here", "_law_k", "_law_sign", "_law_j"]
theorem sc_law_names : FnScope N_law_names ["_law_cell", "_law_many"] (defScope s_law_names) := ⟨rfl, rfl, rfl, by decide +kernel, rfl, by decide +kernel, by decide +kernel⟩
-- slots: 0 _law_cell*, 1 _law_many, 2 _law_letters, 3 _law_size_here, 4 _law_at, 5 _law_common, 6 _law_found_here*, 7 _law_k, 8 _law_sign, 9 _law_j
def prNames : V → V → Hp → VK → Prop := fun a b H Q => ∃ c : Int, a = .int c ∧ b = .int 26 ∧ 0 ≤ c ∧ c < 1000000000 ∧ ∀ (p : Addr) (ns : List Str) (H' : Hp), H p = none → Ext [] H H' → H' p = some (.lst (ns.map V.str)) → NsOk ns → Q (.ref p) H'
theorem c_law_names (T : Txt K mg) : Cal P w K mg base 1 "_law_names" (S2 prNames) := T.c_law_names fun fd F => F.ok2 sc_law_names fun cdv A outer s H a b Q E hr h => by
  obtain ⟨ci, rfl, rfl, c0, c1, q⟩ := h
  obtain ⟨c, rfl⟩ : ∃ c : Nat, ci = (c : Int) := ⟨ci.toNat, by omega⟩
  have p5 : (0 : Int) < 5 := by decide
  have p26 : (0 : Int) < 26 := by decide
  have p3 : (0 : Int) < 3 := by decide
  have p2 : (0 : Int) < 2 := by decide
  have wd : ∀ {n : Int}, 0 < n → n.natAbs < 2 ^ 40 → CDivW (c : Int) n := fun h1 h2 => wide_div h1 h2 (by decide) (by decide)
  have z : sizeLine = 16777216 := by decide
  refine ⟨_, (pss_cons (ps_set (i := 2) sc_law_names.nd rfl (Or.inl rfl) pe_str)
    (pss_cons (ps_set (i := 3) sc_law_names.nd rfl (Or.inl rfl) (pe_op op_mod (pv 0) pe_int))
    (pss_cons (ps_set (i := 4) sc_law_names.nd rfl (Or.inl rfl) (pe_op op_mod (pe_op op_fdivW (pv 0) pe_int) (pe_op op_add (pv 3) pe_int)))
    (pss_cons (ps_set (i := 5) sc_law_names.nd rfl (Or.inl rfl) (pe_join pe_str (pe_lc rfl sc_law_names.nd (pi_range1 (by rfl) T.z_range (pa_cons (pv 3) pa_nil)) (blkOk_by (N := N_law_names) (sc := defScope s_law_names) (own := [("_law_j", 9)]) (by decide +kernel)) (fun _ _ _ _ _ => (pg_name (i := 9) sc_law_names.nd rfl (by first | exact Or.inl rfl | exact Or.inr rfl))) (fun _ _ _ _ _ => pts_nil) (fun _ _ _ _ _ => (pe_ix ix_str pe_str (pe_op op_mod (pe_op op_add (pe_op op_fdivW (pv 0) pe_int) (pv 9)) pe_int) (fun _ _ => rfl))))))
    (pss_cons (ps_set (i := 6) sc_law_names.nd rfl (Or.inr rfl) (pe_lst pa_nil))
    (pss_cons (ps_for PassesOwn.never rfl (pi_range1 (by rfl) T.z_range (pa_cons (pv 1) pa_nil)) (pg_name (i := 7) sc_law_names.nd rfl (by first | exact Or.inl rfl | exact Or.inr rfl))
    (pss_cons (ps_set (i := 8) sc_law_names.nd rfl (Or.inl rfl) (pe_ix ix_str (pv 2) (pe_op op_mod (pe_op op_add (pe_op op_fdivW (pv 0) pe_int) (pe_op op_mul pe_int (pv 7))) pe_int) (fun _ _ => rfl)))
    (pss_one (ps_expr (pe_bm PySem.F.plainAttrs_list PySem.F.slot_list_append PySem.F.type_list_append mt_append (pv 6) (pa_cons (pe_op op_add_str (pe_op op_add_str (pe_slice sl_str (pv 5) po_none (po_some (pv 4))) (pv 8)) (pe_slice sl_str (pv 5) (po_some (pv 4)) po_none)) pa_nil))))))
    (pss_cons (ps_if (pt_cmpR op_eq (pe_op op_mod (pe_op op_fdivW (pv 0) pe_int) pe_int) pe_int (nomark _))
    (pss_one (ps_ret (pv 6)))
    pss_nil)
    (pss_one (ps_ret (pe_lc rfl sc_law_names.nd (pi_range1 (by rfl) T.z_range (pa_cons (pv 1) pa_nil)) (blkOk_by (N := N_law_names) (sc := defScope s_law_names) (own := [("_law_k", 7)]) (by decide +kernel)) (fun _ _ _ _ _ => (pg_name (i := 7) sc_law_names.nd rfl (by first | exact Or.inl rfl | exact Or.inr rfl))) (fun _ _ _ _ _ => pts_nil) (fun _ _ _ _ _ => (pe_op op_add_str (pe_ix (ix_listK K) (pv 6) (pe_op op_sub (pv 7) (pe_op op_mod (pv 7) pe_int)) (fun _ _ => rfl)) (pe_op op_repS pe_str (pe_op op_mod (pv 7) pe_int)))))))))))))), ?_⟩
  refine ⟨_, rfl, _, _, rfl, rfl, p5, ?_⟩
  refine ⟨_, rfl, _, _, rfl, rfl, wd (by decide) (by decide), _, rfl, _, _, rfl, rfl, _, _, rfl, rfl, by omega, ?_⟩
  obtain ⟨n, en, hn⟩ : ∃ n : Nat, (c : Int) % 5 = (n : Int) ∧ n ≤ 4 := ⟨c % 5, by omega, by omega⟩
  obtain ⟨t, et, ht⟩ : ∃ t : Nat, (c : Int) / 5 % ((c : Int) % 5 + 1) = (t : Int) ∧ t ≤ n := by
    have h0 := Int.emod_nonneg ((c : Int) / 5) (show (c : Int) % 5 + 1 ≠ 0 by omega)
    have h1 := Int.emod_lt_of_pos ((c : Int) / 5) (show 0 < (c : Int) % 5 + 1 by omega)
    exact ⟨((c : Int) / 5 % ((c : Int) % 5 + 1)).toNat, by omega, by omega⟩
  refine ⟨⟨_, rfl⟩, _, rfl, (n : Int), congrArg (fun z => [V.int z]) en, by omega, by omega, fun D hD => lc_range (n := n) (fun i H' => Ext [] H H' ∧ ∃ cs : List Nat, cs.length = i ∧ (∀ x ∈ cs, x ∈ quals) ∧ H' D = some (.lst (cs.map fun x => V.str (S [x])))) ⟨(Ext.refl _ _).new hD, [], rfl, (fun _ h => by cases h), upd_same⟩ ?_ ?_⟩
  · rintro i H' hi ⟨e1, cs, hcl, hcq, hDl⟩
    have hx : ∃ x, atI (("qxzvw" : String) : Str).cps.toList (((c : Int) / 25 + (0 + (i : Int))) % 5) = some x ∧ x ∈ quals := by
      have eq : (("qxzvw" : String) : Str).cps.toList = quals := by decide +kernel
      rw [eq]
      obtain ⟨j, hj, hj5⟩ : ∃ j : Nat, ((c : Int) / 25 + (0 + (i : Int))) % 5 = (j : Int) ∧ j < 5 := ⟨(c / 25 + i) % 5, by omega, by omega⟩
      rw [hj]
      have hlt : j < quals.length := hj5
      exact ⟨quals[j], atI_nat (List.getElem?_eq_getElem hlt), List.getElem_mem hlt⟩
    obtain ⟨x, hx, hxq⟩ := hx
    refine ⟨rfl, ?_⟩
    refine ⟨_, rfl, _, _, rfl, rfl, wd (by decide) (by decide), _, rfl, _, _, rfl, rfl, _, _, rfl, rfl, p5, _, _, x, rfl, rfl, by decide +kernel, hx, ?_⟩
    refine ⟨_, hDl, by rw [List.length_map]; omega, e1.own hD, cs ++ [x], by simp [hcl], fun y hy => ?_, by rw [upd_same, List.map_append]; rfl⟩
    rcases List.mem_append.mp hy with h | h
    · exact hcq y h
    · rw [List.mem_singleton.mp h]
      exact hxq
  rintro H1 ⟨e1, cs, hcl, hcq, hDl⟩
  have sum1 : ∀ l : List Nat, ((l.map fun c => S [c]).map (·.length)).sum = l.length := fun l => by
    induction l with
    | nil => rfl
    | cons a l ih => simp only [List.map_cons, List.sum_cons, ih, S_len, List.length_cons, List.length_nil]; omega
  refine ⟨_, D, cs.map fun x => S [x], rfl, rfl, .inl (.of (by rw [List.map_map]; exact hDl)), ?_, ?_⟩
  · rw [sum1, List.length_map]
    have : (("" : String) : Str).length = 0 := by decide +kernel
    rw [this]
    omega
  rw [join_cs]
  refine ⟨by show 0 ≤ sizeLine; decide, fun p hp => ?_⟩
  have fp : H p = none := e1.free hp
  have hcn : cs.length ≤ 4 := by omega
  refine ⟨_, rfl, 26, rfl, by decide, by decide, for_range (n := 26) (fun i σ H' => Ext [] H H' ∧ H' p = some (.lst (((List.range i).map fun k => S (nm cs t (c / 125) k)).map V.str)) ∧ ∃ u v x, σ = [some (.int c), some (.int 26), some (.str "abcdefghijklmnopqrstuvwxyz"), some (.int ((c : Int) % 5)), some (.int ((c : Int) / 5 % ((c : Int) % 5 + 1))), some (.str (S cs)), some (.ref p), u, v, x]) ⟨e1.new hp, upd_same, _, _, _, rfl⟩ ?_ ?_⟩
  · rintro i σ H2 hi ⟨e2, hp2, u, v, x, rfl⟩
    obtain ⟨j, hj, hj2⟩ : ∃ j : Nat, ((c : Int) / 125 + 5 * (0 + (i : Int))) % 26 = (j : Int) ∧ j = (c / 125 + 5 * i) % 26 := ⟨(c / 125 + 5 * i) % 26, by omega, rfl⟩
    have hj26 : j < 26 := by omega
    have hz : ∀ l : List Nat, l.length ≤ 4 → (S l).length ≤ sizeLine := fun l h => by rw [S_len, z]; omega
    refine ⟨_, rfl, _, rfl, _, _, rfl, rfl, wd (by decide) (by decide), _, rfl, _, _, rfl, rfl, .inl (by constructor <;> omega), _, _, rfl, rfl, _, _, rfl, rfl, p26, _, _, 97 + j, rfl, rfl, by decide +kernel, by rw [hj]; exact atI_nat (letter_at j hj26), ?_⟩
    refine ⟨_, rfl, .inl ⟨rfl, _, .inl (.inl hp2)⟩, _, rfl, _, rfl, (t : Int), congrArg V.int et, _, rfl, hz cs hcn, _, rfl, _, _, rfl, rfl, ?_, ?_⟩
    · rw [cut_lo, S_len, S_len, List.length_take, z]
      show _ + 1 ≤ _
      omega
    refine ⟨_, rfl, _, rfl, (t : Int), congrArg V.int et, _, rfl, hz cs hcn, _, _, rfl, rfl, ?_, p, _, _, rfl, rfl, hp2, ?_, e2.own fp, ?_, _, _, _, rfl⟩
    · rw [cut_lo, cut_hi, S_cat, S_len, S_len, List.length_append, List.length_take, List.length_drop, z]
      show _ + 1 + _ ≤ _
      omega
    · rw [List.length_map, List.length_map, List.length_range]
      omega
    · rw [upd_same, cut_lo, cut_hi, S_cat, S_cat, List.range_succ, List.map_append, List.map_append, hj2]
      simp only [nm, List.map_cons, List.map_nil, List.append_assoc, List.singleton_append]
  rintro σ H2 ⟨e2, hp2, u, v, x, rfl⟩
  have okA : NsOk ((List.range 26).map fun k => S (nm cs t (c / 125) k)) := ns_of (fun k j hk hj e => nm_inj hk hj e) fun k => nm_ok hcq hcn
  have okB : NsOk ((List.range 26).map fun k => S (nm2 cs t (c / 125) k)) := ns_of (fun k j hk hj e => nm2_inj hk hj e) fun k => nm2_ok hcq hcn
  refine ⟨_, rfl, _, _, rfl, rfl, wd (by decide) (by decide), _, _, rfl, rfl, p3, rfl, _, rfl, ite2 (fun _ => ?_) (fun _ => ?_)⟩
  · exact ⟨_, rfl, q p _ H2 fp e2 hp2 okA⟩
  refine ⟨_, rfl, 26, rfl, by decide, by decide, fun D2 hD2 => lc_range (n := 26) (fun i H' => Ext [] H2 H' ∧ H' D2 = some (.lst (((List.range i).map fun k => S (nm2 cs t (c / 125) k)).map V.str))) ⟨(Ext.refl _ _).new hD2, upd_same⟩ ?_ ?_⟩
  · rintro i H3 hi ⟨e3, hD3⟩
    obtain ⟨j, hj, hj2⟩ : ∃ j : Nat, (0 + (i : Int)) - (0 + (i : Int)) % 2 = (j : Int) ∧ j = i - i % 2 := ⟨i - i % 2, by omega, rfl⟩
    have hj26 : j < 26 := by omega
    have hat : (((List.range 26).map fun k => S (nm cs t (c / 125) k)).map V.str)[j]? = some (.str (S (nm cs t (c / 125) j))) := by
      rw [List.getElem?_map, List.getElem?_map, List.getElem?_range hj26]
      rfl
    have fin : ∀ z2 : Str, z2 = S (nm2 cs t (c / 125) i) → ∃ acc, H3 D2 = some (.lst acc) ∧ acc.length < sizeLine ∧ Ext [] H2 (upd H3 D2 (.lst (acc ++ [.str z2]))) ∧ upd H3 D2 (.lst (acc ++ [.str z2])) D2 = some (.lst (((List.range (i + 1)).map fun k => S (nm2 cs t (c / 125) k)).map V.str)) := fun z2 hz2 => by
      refine ⟨_, hD3, by rw [List.length_map, List.length_map, List.length_range]; omega, e3.own hD2, ?_⟩
      rw [upd_same, List.range_succ, List.map_append, List.map_append, hz2]
      rfl
    refine ⟨rfl, _, rfl, _, rfl, _, rfl, _, _, rfl, rfl, p2, _, _, rfl, rfl, p, _, _, _, rfl, rfl, .of (e3.same _ _ hp2), (by rw [hj]; exact atI_nat hat), ?_⟩
    refine ⟨_, rfl, _, _, rfl, rfl, p2, _, _, rfl, rfl, ?_⟩
    rcases Nat.mod_two_eq_zero_or_one i with h | h
    · refine .inl ⟨by omega, _, _, rfl, rfl, ?_, fin _ ?_⟩
      · rw [S_len, nm_len, z]
        show _ + 0 ≤ _
        omega
      · show S (nm cs t (c / 125) j) ++ S [] = _
        rw [S_cat, nm2, h, hj2, h]
        rfl
    · refine .inr ⟨by omega, _, _, rfl, rfl, ?_, fin _ ?_⟩
      · have : (("q" : String) : Str).length = 1 := by decide +kernel
        rw [S_len, nm_len, z, this]
        omega
      · have : (("q" : String) : Str) = S [113] := by decide +kernel
        rw [this, S_cat, nm2, h, hj2, h]
        rfl
  · rintro H3 ⟨e3, hD3⟩
    exact q D2 _ H3 ((e2).free hD2) (e2.trans e3) hD3 okB
end
end Sw

-- part SwG3
set_option Elab.async false
set_option linter.all false
set_option maxRecDepth 100000
set_option maxHeartbeats 4000000
namespace Sw
open PySem PySem.Spec PyProof.Rows L2
/-- a list of names -/
def Nl (H : Hp) (v : V) (zs : List Str) : Prop := ∃ p, v = .ref p ∧ H p = some (.lst (zs.map V.str))
theorem Fd.strs {H : Hp} {f p : Addr} {zs : List Str} (h : Fd H f) (q : H p = some (.lst (zs.map V.str))) : p ≠ f := by
  rintro rfl
  obtain ⟨c, u, e, _⟩ := h
  rw [q] at e
  cases zs with
  | nil => cases e
  | cons z zs => cases e
theorem Nl.ext {H H' : Hp} {f : Addr} {v : V} {zs : List Str} (e : Ext [f] H H') (hf : Fd H f) (h : Nl H v zs) : Nl H' v zs := by
  obtain ⟨p, rfl, q⟩ := h
  exact ⟨p, rfl, e.get1 (hf.strs q) q⟩
theorem Nl.ext0 {H H' : Hp} {v : V} {zs : List Str} (e : Ext [] H H') (h : Nl H v zs) : Nl H' v zs := by
  obtain ⟨p, rfl, q⟩ := h
  exact ⟨p, rfl, e.same _ _ q⟩
/-- parts that a new kind may have -/
structure PsOk (rs : List Kd) (al : Bool) (ps : List (Str × Str)) : Prop where
  nd : (ps.map (·.1)).Nodup
  pn : ∀ p ∈ ps, NameP p.1
  pk : ∀ p ∈ ps, Vk rs p.2
  few : ps.length ≤ 4
  ne : al = true → ps ≠ []
  size : ∀ n, szOf ⟨n, al, ps⟩ (szR rs) ≤ 30
theorem maxL_sum : ∀ l : List Nat, maxL l ≤ l.sum
  | [] => Nat.le_refl _
  | n :: l => by
    have := maxL_sum l
    simp only [maxL, List.sum_cons]
    omega
/-- num and the kinds' names -/
def knames (rs : List Kd) : List Str := "num" :: rs.reverse.map Kd.name
theorem knames_len (rs : List Kd) : (knames rs).length = 1 + rs.length := by
  simp only [knames, List.length_cons, List.length_map, List.length_reverse]
  omega
theorem knames_vk {rs : List Kd} {k : Str} (h : k ∈ knames rs) : Vk rs k := by
  rcases List.mem_cons.mp h with rfl | h
  · exact .inl rfl
  · obtain ⟨kd, hm, rfl⟩ := List.mem_map.mp h
    exact .inr ⟨kd, List.mem_reverse.mp hm, rfl⟩
section
variable {P : Program} {w : World} {K : PySem.W.Frag} {mg : Str → Option Value} {base : Heap}
abbrev N_law_parts : List Str := ["_law_feed_here", "_law_kinds_here", "_law_sort", "_law_names_here", "_law_parts_here", "_law_left", "_law_j", "_law_kind", "_law_row"]
theorem sc_law_parts : FnScope N_law_parts ["_law_feed_here", "_law_kinds_here", "_law_sort", "_law_names_here"] (defScope s_law_parts) := ⟨rfl, rfl, rfl, by decide +kernel, rfl, by decide +kernel, by decide +kernel⟩
-- slots: 0 _law_feed_here, 1 _law_kinds_here, 2 _law_sort, 3 _law_names_here, 4 _law_parts_here, 5 _law_left, 6 _law_j, 7 _law_kind, 8 _law_row
def prParts (K : PySem.W.Frag) : V → V → V → V → Hp → VK → Prop := fun a b c d H Q => ∃ (f p : Addr) (xs : List V) (rs : List Kd) (al : Bool) (zs : List Str), a = .ref f ∧ Fd H f ∧ b = .ref p ∧ p ≠ f ∧ H p = some (.lst xs) ∧ KsOk rs ∧ rs.length ≤ 5 ∧
  Ats K H xs (rs.reverse.map kdD) ∧ c = .str (sortS al) ∧ Nl H d zs ∧ zs.length = 4 ∧ zs.Nodup ∧ (∀ z ∈ zs, NameP z) ∧ ∀ v ps H', Ext [f] H H' → Fd H' f → At K H' v (prsD ps) → PsOk rs al ps → Q v H'
theorem c_law_parts (T : Txt K mg) : Cal P w K mg base 9 "_law_parts" (S4 (prParts K)) := T.c_law_parts fun fd F => F.ok4 sc_law_parts fun cdv A outer s H a b c d Q E hr h => by
  obtain ⟨f, p, xs, rs, al, zs, rfl, hf, rfl, hpf, hp, ok, hrs, hat, rfl, ⟨pn, rfl, hpn⟩, zl, znd, zn, q⟩ := h
  have C_law_take := c_law_take (P := P) (w := w) (base := base) T
  have C_law_size := c_law_size (P := P) (w := w) (base := base) T 7
  have z : sizeLine = 16777216 := by decide
  have hxl : xs.length = rs.length := by rw [hat.length, List.length_map, List.length_reverse]
  refine ⟨_, (pss_cons (ps_set (i := 4) sc_law_parts.nd rfl (Or.inl rfl) (pe_lst pa_nil))
    (pss_cons (ps_set (i := 5) sc_law_parts.nd rfl (Or.inl rfl) pe_int)
    (pss_cons (ps_for PassesOwn.never rfl (pi_range1 (by rfl) T.z_range (pa_cons (pe_op op_add (pe_op op_add (pe_c C_law_take (hr.mono (by omega)) rfl (pa_cons (pv 0) (pa_cons pe_int pa_nil))) (pe_callTy call_int1 (by rfl) T.z_int (by decide +kernel) (pa_cons (pe_cmpR op_eq (pv 2) pe_str (nomark _)) pa_nil))) (pe_callTy call_int1 (by rfl) T.z_int (by decide +kernel) (pa_cons (pe_and (pe_cmpR op_eq (pe_c C_law_take (hr.mono (by omega)) rfl (pa_cons (pv 0) (pa_cons pe_int pa_nil))) pe_int (nomark _)) (pe_one (pe_cmpR op_eq (pv 2) pe_str (nomark _)))) pa_nil))) pa_nil)) (pg_name (i := 6) sc_law_parts.nd rfl (by first | exact Or.inl rfl | exact Or.inr rfl))
    (pss_cons (ps_set (i := 7) sc_law_parts.nd rfl (Or.inl rfl) (pe_ix ix_list (pe_op op_cat (pe_lst (pa_cons pe_str pa_nil)) (pe_lc rfl sc_law_parts.nd (pi_list (pv 1)) (blkOk_by (N := N_law_parts) (sc := defScope s_law_parts) (own := [("_law_row", 8)]) (by decide +kernel)) (fun _ _ _ _ _ => (pg_name (i := 8) sc_law_parts.nd rfl (by first | exact Or.inl rfl | exact Or.inr rfl))) (fun _ _ _ _ _ => pts_nil) (fun _ _ _ _ _ => (pe_ix (ix_tupK K) (pv 8) pe_int (fun _ _ => rfl))))) (pe_c C_law_take (hr.mono (by omega)) rfl (pa_cons (pv 0) (pa_cons (pe_op op_add pe_int (pe_callB call_len_seq (by rfl) T.z_len PySem.boot_len (pa_cons (pv 1) pa_nil))) pa_nil))) (fun _ _ => rfl)))
    (C8.pss_cut (ps_if (pt_cmpR op_gt (pe_c C_law_size (hr.mono (by omega)) rfl (pa_cons (pv 1) (pa_cons (pv 7) pa_nil))) (pv 5) (nomark _))
    (pss_one (ps_set (i := 7) sc_law_parts.nd rfl (Or.inl rfl) pe_str))
    pss_nil)
    (pss_cons (ps_set (i := 5) sc_law_parts.nd rfl (Or.inl rfl) (pe_op op_sub (pv 5) (pe_c C_law_size (hr.mono (by omega)) rfl (pa_cons (pv 1) (pa_cons (pv 7) pa_nil)))))
    (pss_one (ps_expr (pe_bm PySem.F.plainAttrs_list PySem.F.slot_list_append PySem.F.type_list_append mt_append (pv 4) (pa_cons (pe_tup (pa_cons (pe_ix ix_list (pv 3) (pv 6) (fun _ _ => rfl)) (pa_cons (pv 7) pa_nil))) pa_nil))))))))
    (pss_one (ps_ret (pe_callTy call_tuple_of (by rfl) T.z_tuple (by decide +kernel) (pa_cons (pe_slice sl_list (pv 4) po_none (po_some pe_int)) pa_nil))))))), ?_⟩
  refine ⟨by show 0 ≤ sizeLine; decide, fun pp hpp => ?_⟩
  have npf : pp ≠ f := fun e => by subst e; obtain ⟨c, u, e, _⟩ := hf; rw [hpp] at e; cases e
  have e0 : Ext [f] H (upd H pp (.lst [])) := (Ext.refl _ _).new hpp
  have hf0 : Fd (upd H pp (.lst [])) f := hf.new hpp
  refine ⟨_, rfl, f, 4, rfl, rfl, by decide, by decide, hf0, fun d H1 d0 d1 e1 f1 => ?_⟩
  have e01 := e0.trans e1
  have hpp1 : H1 pp = some (.lst []) := e1.get1 npf upd_same
  have hsa : decide (V.str (sortS al) = V.str "alt") = al := by cases al <;> decide +kernel
  have hsr : decide (V.str (sortS al) = V.str "rec") = !al := by cases al <;> decide +kernel
  have hk : ∀ b : Bool, (b = true → al = false) → ∃ n : Nat, d + (if al = true then 1 else 0) + (if b = true then 1 else 0) = (n : Int) ∧ n ≤ 4 ∧ (al = true → 1 ≤ n) := fun b hb => by
    cases al
    · cases b
      · exact ⟨d.toNat, by simp; omega, by omega, fun e => by cases e⟩
      · exact ⟨(d + 1).toNat, by simp; omega, by omega, fun e => by cases e⟩
    · cases b
      · exact ⟨(d + 1).toNat, by simp; omega, by omega, fun e => by omega⟩
      · cases hb rfl
  refine ⟨_, rfl, rfl, .inr ⟨al, congrArg (fun b => [V.bl b]) hsa, _, _, rfl, rfl, ?_⟩⟩
  refine ⟨_, rfl, f, 9, rfl, rfl, by decide, by decide, f1, fun d2 H2 _ _ e2 f2 => ?_⟩
  have e02 := e01.trans e2
  have hpp2 : H2 pp = some (.lst []) := e2.get1 npf hpp1
  refine ⟨rfl, _, rfl, ite2 (fun _ => ?_) (fun _ => ?_)⟩
  case' refine_1 =>
    obtain ⟨n, hn, n4, n1⟩ := hk (!al) (by cases al <;> simp)
    refine ⟨_, rfl, rfl, .inr ⟨!al, congrArg (fun b => [V.bl b]) hsr, _, _, rfl, rfl, (n : Int), congrArg (fun z => [V.int z]) hn, by omega, by omega, ?_⟩⟩
  case' refine_2 =>
    obtain ⟨n, hn, n4, n1⟩ := hk false (by simp)
    refine .inr ⟨false, rfl, _, _, rfl, rfl, (n : Int), congrArg (fun z => [V.int z]) hn, by omega, by omega, ?_⟩
  all_goals
    refine for_range (n := n) (fun i σ H' => Ext [f] H H' ∧ Fd H' f ∧ ∃ (ys : List V) (ps : List (Str × Str)) (u v x : Option V), H' pp = some (.lst ys) ∧ Ats K H' ys (ps.map prD) ∧ ps.map (·.1) = zs.take i ∧ (∀ p ∈ ps, Vk rs p.2) ∧ (ps.map fun p => szR rs p.2).sum ≤ 25 + i ∧
      σ = [some (.ref f), some (.ref p), some (.str (sortS al)), some (.ref pn), some (.ref pp), some (.int (25 - (((ps.map fun p => szR rs p.2).sum : Nat) : Int))), u, v, x]) ⟨e02, f2, [], [], _, _, _, hpp2, .nil, rfl, (fun _ h => by cases h), Nat.zero_le _, rfl⟩ ?_ ?_
    · rintro i σ H3 hi ⟨e3, f3, ys, ps, u, v, x, hys, hats, hnm, hvk, hsum, rfl⟩
      have hpl : ps.length = i := by
        have := congrArg List.length hnm
        rw [List.length_map, List.length_take] at this
        omega
      have hyl : ys.length = i := by rw [hats.length, List.length_map, hpl]
      -- the kind's name
      refine ⟨by show 1 ≤ sizeLine; decide, fun p1 hp1 => ?_⟩
      have e4 : Ext [f] H (upd H3 p1 (.lst [.str "num"])) := e3.new hp1
      have hp4 := e4.get1 hpf hp
      refine ⟨_, rfl, p, rfl, ⟨xs, .of hp4⟩, fun D hD => lc_list (K := K) (xs := xs) (fun i2 H' => Ext [] (upd H3 p1 (.lst [.str "num"])) H' ∧ H' D = some (.lst (((rs.reverse.take i2).map Kd.name).map V.str))) ⟨(Ext.refl _ _).new hD, upd_same⟩ (fun i2 H' _ h => .of (h.1.same _ _ hp4)) ?_ ?_⟩
      · rintro i2 y H' hy ⟨e5, hDl⟩
        obtain ⟨d', hdx, hat'⟩ := ((e4.trans e5.nil).ats hat).get i2 y hy
        obtain ⟨kd, hkd, rfl⟩ := map_at hdx
        obtain ⟨a1, y1, y2, y3, rfl, hs1, hy1, hy2, hy3⟩ := hat'.tup3
        obtain rfl := hy1.inv_str
        refine ⟨rfl, _, rfl, a1, _, _, _, rfl, rfl, hs1, atI_nat (j := 0) rfl, _, hDl, ?_, e5.own hD, ?_⟩
        · rw [List.length_map, List.length_map, List.length_take, List.length_reverse]
          omega
        · rw [upd_same, List.take_add_one, hkd]
          simp
      rintro H5 ⟨e5, hD5⟩
      rw [hxl, ← List.length_reverse, List.take_length] at hD5
      have e35 := e4.trans e5.nil
      have f5 : Fd H5 f := (f3.new hp1).ext e5
      refine ⟨p1, D, _, _, rfl, rfl, e5.same _ _ upd_same, hD5, ?_, fun p2 hp2 => ?_⟩
      · rw [List.length_map, List.length_map, List.length_reverse]
        show 1 + _ ≤ _
        omega
      have e6 : Ext [f] H (upd H5 p2 (.lst ([V.str "num"] ++ ((rs.reverse.map Kd.name).map V.str)))) := e35.new hp2
      refine ⟨_, rfl, _, rfl, p, xs, rfl, .inl (.of (e6.get1 hpf hp)), _, _, rfl, rfl, f, _, rfl, rfl, by omega, by omega, f5.new hp2, fun d3 H6 d30 d31 e7 f6 => ?_⟩
      have np2 : p2 ≠ f := fun e => by subst e; obtain ⟨c, u, e, _⟩ := f5; rw [hp2] at e; cases e
      have hd3 : d3.toNat < (knames rs).length := by rw [knames_len]; omega
      have hk := List.getElem?_eq_getElem hd3
      have hkm := List.getElem_mem hd3
      generalize (knames rs)[d3.toNat] = k at hk hkm
      have e06 := e6.trans e7
      refine ⟨p2, _, _, _, rfl, rfl, .of (e7.get1 np2 upd_same), at_of (j := d3.toNat) (by omega) (v := .str k) ?_, ?_⟩
      · show ((V.str "num") :: ((rs.reverse.map Kd.name).map V.str))[d3.toNat]? = _
        rw [← List.map_cons (f := V.str), List.getElem?_map]
        show Option.map V.str (knames rs)[d3.toNat]? = _
        rw [hk]
        rfl
      have vk := knames_vk hkm
      have npp : ∀ {H' : Hp}, Ext [f] H3 H' → H' pp = some (.lst ys) := fun e => e.get1 npf hys
      have e36 : Ext [f] H3 H6 := (((Ext.refl _ _).new hp1).trans e5.nil |>.new hp2).trans e7
      have hrk : ∀ k, rk rs k < 7 := fun k => by have := rk_le rs k; omega
      have kl : ∀ {H' : Hp}, Ext [f] H H' → Kl K H' (.ref p) rs := fun e => ⟨p, xs, rfl, .inl (e.get1 hpf hp), e.ats hat⟩
      refine ⟨fun σ' H' => ∃ k, Vk rs k ∧ Ext [f] H3 H' ∧ Ext [f] H H' ∧ Fd H' f ∧ szR rs k + (ps.map fun p => szR rs p.2).sum ≤ 25 + (i + 1) ∧
        σ' = [some (.ref f), some (.ref p), some (.str (sortS al)), some (.ref pn), some (.ref pp), some (.int (25 - (((ps.map fun p => szR rs p.2).sum : Nat) : Int))), some (.int (0 + (i : Int))), some (.str k), x], ?_, ?_⟩
      · refine ⟨_, rfl, _, rfl, rs, k, ok, kl e06, rfl, vk, hrk k, fun H7 e8 => ?_⟩
        refine ⟨_, rfl, _, _, rfl, rfl, _, rfl, ite2 (fun hc => ?_) (fun hc => ?_)⟩
        · exact ⟨"num", .inl rfl, e36.trans e8.nil, e06.trans e8.nil, f6.ext e8, by rw [(sz_num ok).1]; omega, rfl⟩
        · refine ⟨k, vk, e36.trans e8.nil, e06.trans e8.nil, f6.ext e8, ?_, rfl⟩
          have : ¬ (25 - (((ps.map fun p => szR rs p.2).sum : Nat) : Int) < ((szR rs k : Nat) : Int)) := fun h => hc (decide_eq_true h)
          omega
      · rintro σ' H7 ⟨k, vk, e37, e07, f7, hsz, rfl⟩
        refine ⟨_, rfl, _, rfl, _, rfl, rs, k, ok, kl e07, rfl, vk, hrk k, fun H8 e8 => ?_⟩
        have e38 := e37.trans e8.nil
        have e08 := e07.trans e8.nil
        have hz : ∃ y, zs[i]? = some y := ⟨zs[i]'(by omega), List.getElem?_eq_getElem (by omega)⟩
        obtain ⟨y, hy⟩ := hz
        have hpn8 := e08.get1 (hf.strs hpn) hpn
        refine ⟨_, _, rfl, rfl, _, rfl, .inl ⟨rfl, _, .inl (.inl (npp e38))⟩, ?_⟩
        refine ⟨_, rfl, _, rfl, pn, _, _, .str y, rfl, rfl, .of hpn8, at_of (j := i) (by omega) (by rw [List.getElem?_map, hy]; rfl), _, rfl, by show 2 ≤ sizeLine; decide, fun p5 hp5 => ?_⟩
        have e09 : Ext [f] H (upd H8 p5 (.tup [.str y, .str k])) := e08.new hp5
        have n5 : pp ≠ p5 := ne_of_none (npp e38) hp5
        refine ⟨pp, _, _, rfl, rfl, by rw [upd_ne n5]; exact npp e38, by omega, ?_⟩
        have e10 : Ext [f] H (upd (upd H8 p5 (.tup [.str y, .str k])) pp (.lst (ys ++ [.ref p5]))) := e09.own hpp
        have eo : Ext [f] H3 (upd H8 p5 (.tup [.str y, .str k])) := e38.new hp5
        have atp : At K (upd H8 p5 (.tup [.str y, .str k])) (.ref p5) (prD (y, k)) := At.mk hp5 (.cons (.str _) (.cons (.str _) .nil))
        have hpp9 : upd H8 p5 (.tup [.str y, .str k]) pp = some (.lst ys) := by rw [upd_ne n5]; exact npp e38
        have ew : Ext [pp] (upd H8 p5 (.tup [.str y, .str k])) (upd (upd H8 p5 (.tup [.str y, .str k])) pp (.lst (ys ++ [.ref p5]))) := (Ext.refl _ _).put (by simp) hpp9
        refine ⟨e10, ((f7.ext e8).new hp5).oth npf.symm, ys ++ [.ref p5], ps ++ [(y, k)], some (.int (0 + (i : Int))), some (.str k), x, upd_same, ?_, ?_, ?_, ?_, ?_⟩
        · rw [List.map_append]
          exact ew.ats ((eo.ats hats).snoc atp)
        · rw [List.map_append, hnm, List.take_add_one, hy]
          rfl
        · intro pt hpt
          rcases List.mem_append.mp hpt with h | h
          · exact hvk pt h
          · rw [List.mem_singleton.mp h]
            exact vk
        · rw [List.map_append, List.sum_append]
          simp only [List.map_cons, List.map_nil, List.sum_cons, List.sum_nil]
          omega
        · have : (((ps ++ [(y, k)]).map fun p => szR rs p.2).sum : Int) = ((ps.map fun p => szR rs p.2).sum : Int) + ((szR rs k : Nat) : Int) := by
            rw [List.map_append, List.sum_append]
            simp only [List.map_cons, List.map_nil, List.sum_cons, List.sum_nil]
            omega
          have hint : (25 : Int) - (((ps.map fun p => szR rs p.2).sum : Nat) : Int) - ((szR rs k : Nat) : Int) = 25 - ((((ps ++ [(y, k)]).map fun p => szR rs p.2).sum : Nat) : Int) := by omega
          exact congrArg (fun z => [some (V.ref f), some (V.ref p), some (V.str (sortS al)), some (V.ref pn), some (V.ref pp), some (V.int z), some (.int (0 + (i : Int))), some (.str k), x]) hint
    · rintro σ H3 ⟨e3, f3, ys, ps, u, v, x, hys, hats, hnm, hvk, hsum, rfl⟩
      have hpl : ps.length = n := by
        have := congrArg List.length hnm
        rw [List.length_map, List.length_take] at this
        omega
      have hyl : ys.length = n := by rw [hats.length, List.length_map, hpl]
      refine ⟨_, rfl, 4, rfl, pp, _, rfl, .of hys, fun p6 hp6 => ?_⟩
      have ec : cutV ys none (some 4) = ys := (cut_to ys 4).trans (List.take_of_length_le (by omega))
      rw [ec]
      refine ⟨p6, ys, rfl, .inl ⟨.of upd_same, fun p7 hp7 => ?_⟩⟩
      have e4 : Ext [f] H3 (upd (upd H3 p6 (.lst ys)) p7 (.tup ys)) := ((Ext.refl _ _).new hp6).new hp7
      refine q _ ps _ (e3.trans e4) ((f3.new hp6).new hp7) (.tup (.of upd_same) (e4.ats hats)) ⟨?_, ?_, hvk, by omega, ?_, ?_⟩
      · rw [hnm]
        exact znd.sublist (List.take_sublist _ _)
      · intro pt hpt
        have : pt.1 ∈ zs.take n := by
          rw [← hnm]
          exact List.mem_map.mpr ⟨pt, hpt, rfl⟩
        exact zn _ (List.mem_of_mem_take this)
      · intro h
        have := n1 h
        exact fun e => by rw [e] at hpl; simp at hpl; omega
      · intro nn
        unfold szOf
        have := maxL_sum (ps.map fun p => szR rs p.2)
        split
        · simp only at *
          omega
        · simp only at *
          omega
end
end Sw

-- part SwG4
set_option Elab.async false
set_option linter.all false
set_option maxRecDepth 100000
set_option maxHeartbeats 4000000
namespace Sw
open PySem PySem.Spec PyProof.Rows L2
theorem cut_mid (xs : List V) (a b : Nat) : cutV xs (some (a : Int)) (some (b : Int)) = (xs.drop a).take (b - a) := by
  unfold cutV
  rw [HT.sIx_nat, HT.sIx_nat]
  by_cases h : a ≤ xs.length
  · rw [Nat.min_eq_left h]
    by_cases h2 : b ≤ xs.length
    · rw [Nat.min_eq_left h2]
    · rw [Nat.min_eq_right (by omega), List.take_of_length_le (by simp), List.take_of_length_le (by simp; omega)]
  · rw [List.drop_of_length_le (show xs.length ≤ min a xs.length by omega), List.drop_of_length_le (show xs.length ≤ a by omega)]
    simp
theorem nd_new {α : Type} {ns : List α} {n i : Nat} {y : α} (h : (ns.take n).Nodup) (hi : i < n) (hy : ns[i]? = some y) : y ∉ ns.take i := by
  have e : ns.take (i + 1) = ns.take i ++ [y] := by rw [List.take_add_one, hy]; rfl
  have : (ns.take (i + 1)).Nodup := by
    have e2 : ns.take (i + 1) = (ns.take n).take (i + 1) := by rw [List.take_take, Nat.min_eq_left (by omega)]
    rw [e2]
    exact h.sublist (List.take_sublist _ _)
  rw [e] at this
  intro hm
  exact (List.nodup_append.mp this).2.2 _ hm _ (List.mem_singleton.mpr rfl) rfl
/-- kinds by the first names -/
structure KdsG (ns : List Str) (rs : List Kd) : Prop where
  ok : KsOk rs
  few : rs.length ≤ 4
  nm : rs.reverse.map Kd.name = ns.take rs.length
section
variable {P : Program} {w : World} {K : PySem.W.Frag} {mg : Str → Option Value} {base : Heap}
abbrev N_law_kinds : List Str := ["_law_feed_here", "_law_names_here", "_law_kinds_here", "_law_k", "_law_sort"]
theorem sc_law_kinds : FnScope N_law_kinds ["_law_feed_here", "_law_names_here"] (defScope s_law_kinds) := ⟨rfl, rfl, rfl, by decide +kernel, rfl, by decide +kernel, by decide +kernel⟩
-- slots: 0 _law_feed_here, 1 _law_names_here, 2 _law_kinds_here, 3 _law_k, 4 _law_sort
def prKinds (K : PySem.W.Frag) : V → V → Hp → VK → Prop := fun a b H Q => ∃ (f : Addr) (ns : List Str), a = .ref f ∧ Fd H f ∧ Nl H b ns ∧ NsOk ns ∧ ∀ v rs H', Ext [f] H H' → Kds K H' v rs → KdsG ns rs → Q v H'
theorem c_law_kinds (T : Txt K mg) : Cal P w K mg base 10 "_law_kinds" (S2 (prKinds K)) := T.c_law_kinds fun fd F => F.ok2 sc_law_kinds fun cdv A outer s H a b Q E hr h => by
  obtain ⟨f, ns, rfl, hf, ⟨pn, rfl, hpn⟩, nok, q⟩ := h
  have C_law_take := c_law_take (P := P) (w := w) (base := base) T
  have C_law_parts := c_law_parts (P := P) (w := w) (base := base) T
  have z : sizeLine = 16777216 := by decide
  have npn := hf.strs hpn
  refine ⟨_, (pss_cons (ps_set (i := 2) sc_law_kinds.nd rfl (Or.inl rfl) (pe_lst pa_nil))
    (pss_cons (ps_for PassesOwn.never rfl (pi_range1 (by rfl) T.z_range (pa_cons (pe_c C_law_take (hr.mono (by omega)) rfl (pa_cons (pv 0) (pa_cons pe_int pa_nil))) pa_nil)) (pg_name (i := 3) sc_law_kinds.nd rfl (by first | exact Or.inl rfl | exact Or.inr rfl))
    (pss_cons (ps_set (i := 4) sc_law_kinds.nd rfl (Or.inl rfl) (pe_ix ix_list (pe_lst (pa_cons pe_str (pa_cons pe_str pa_nil))) (pe_c C_law_take (hr.mono (by omega)) rfl (pa_cons (pv 0) (pa_cons pe_int pa_nil))) (fun _ _ => rfl)))
    (pss_one (ps_expr (pe_bm PySem.F.plainAttrs_list PySem.F.slot_list_append PySem.F.type_list_append mt_append (pv 2) (pa_cons (pe_tup (pa_cons (pe_ix ix_list (pv 1) (pv 3) (fun _ _ => rfl)) (pa_cons (pv 4) (pa_cons (pe_c C_law_parts (hr.mono (by omega)) rfl (pa_cons (pv 0) (pa_cons (pv 2) (pa_cons (pv 4) (pa_cons (pe_slice sl_list (pv 1) (po_some pe_int) (po_some pe_int)) pa_nil))))) pa_nil)))) pa_nil))))))
    (pss_one (ps_ret (pe_callTy call_tuple_of (by rfl) T.z_tuple (by decide +kernel) (pa_cons (pv 2) pa_nil)))))), ?_⟩
  refine ⟨by show 0 ≤ sizeLine; decide, fun pk hpk => ?_⟩
  have npf : pk ≠ f := fun e => by subst e; obtain ⟨c, u, e, _⟩ := hf; rw [hpk] at e; cases e
  have e0 : Ext [f] H (upd H pk (.lst [])) := (Ext.refl _ _).new hpk
  refine ⟨_, rfl, f, 5, rfl, rfl, by decide, by decide, hf.new hpk, fun d H1 d0 d1 e1 f1 => ?_⟩
  obtain ⟨n, rfl⟩ : ∃ n : Nat, d = (n : Int) := ⟨d.toNat, by omega⟩
  refine ⟨_, rfl, by omega, by omega, for_range (n := n) (fun i σ H' => Ext [f] H H' ∧ Fd H' f ∧ ∃ (ys : List V) (rs : List Kd) (u v : Option V), H' pk = some (.lst ys) ∧ Ats K H' ys (rs.reverse.map kdD) ∧ rs.length = i ∧ rs.reverse.map Kd.name = ns.take i ∧ KsOk rs ∧
    σ = [some (.ref f), some (.ref pn), some (.ref pk), u, v]) ⟨e0.trans e1, f1, [], [], _, _, e1.get1 npf upd_same, .nil, rfl, rfl, trivial, rfl⟩ ?_ ?_⟩
  · rintro i σ H3 hi ⟨e3, f3, ys, rs, u, v, hys, hats, hrl, hnm, ok, rfl⟩
    refine ⟨by show 2 ≤ sizeLine; decide, fun p1 hp1 => ?_⟩
    have np1 : p1 ≠ f := fun e => by subst e; obtain ⟨c, u, e, _⟩ := f3; rw [hp1] at e; cases e
    refine ⟨_, rfl, f, 2, rfl, rfl, by decide, by decide, f3.new hp1, fun d2 H4 d20 d21 e4 f4 => ?_⟩
    have e34 : Ext [f] H3 H4 := ((Ext.refl _ _).new hp1).trans e4
    have e04 := e3.trans e34
    refine ⟨p1, _, _, .str (sortS (decide (d2 = 1))), rfl, rfl, .of (e4.get1 np1 upd_same), ?_, ?_⟩
    · rcases (by omega : d2 = 0 ∨ d2 = 1) with rfl | rfl
      · exact atI_nat (j := 0) rfl
      · exact atI_nat (j := 1) rfl
    generalize decide (d2 = 1) = al
    obtain ⟨y, hy⟩ : ∃ y, ns[i]? = some y := ⟨ns[i]'(by have := nok.len; omega), List.getElem?_eq_getElem (by have := nok.len; omega)⟩
    refine ⟨_, rfl, .inl ⟨rfl, _, .inl (.inl (e34.get1 npf hys))⟩, _, rfl, _, rfl, pn, _, _, .str y, rfl, rfl, .of (e04.get1 npn hpn), at_of (j := i) (by omega) (by rw [List.getElem?_map, hy]; rfl), _, rfl, ?_⟩
    refine ⟨_, rfl, _, rfl, _, rfl, _, rfl, 8, rfl, 12, rfl, pn, _, rfl, .of (e04.get1 npn hpn), fun pz hpz => ?_⟩
    have ez : cutV (ns.map V.str) (some 8) (some 12) = ((ns.drop 8).take 4).map V.str := by
      rw [show (some 8 : Option Int) = some ((8 : Nat) : Int) from rfl, show (some 12 : Option Int) = some ((12 : Nat) : Int) from rfl, cut_mid, List.map_take, List.map_drop]
    rw [ez]
    generalize hH5 : upd H4 pz (.lst (((ns.drop 8).take 4).map V.str)) = H5
    have e45 : Ext [f] H4 H5 := by rw [← hH5]; exact (Ext.refl _ _).new hpz
    have e35 := e34.trans e45
    refine ⟨f, pk, ys, rs, al, (ns.drop 8).take 4, rfl, by rw [← hH5]; exact f4.new hpz, rfl, npf, e35.get1 npf hys, ok, by omega, e35.ats hats, rfl, ⟨pz, rfl, by rw [← hH5]; exact upd_same⟩, ?_, nok.g2, fun x hx => nok.nm _ (List.mem_of_mem_drop (List.mem_of_mem_take hx)), fun v2 ps H6 e6 f6 hps pok => ?_⟩
    · rw [List.length_take, List.length_drop, nok.len]
      decide
    refine ⟨by show 3 ≤ sizeLine; decide, fun p5 hp5 => ?_⟩
    have e36 := e35.trans e6
    have e37 : Ext [f] H3 (upd H6 p5 (.tup [.str y, .str (sortS al), v2])) := e36.new hp5
    have h7 := e37.get1 npf hys
    refine ⟨pk, _, _, rfl, rfl, h7, ?_, ?_⟩
    · rw [hats.length, List.length_map, List.length_reverse]
      omega
    have at7 : At K (upd H6 p5 (.tup [.str y, .str (sortS al), v2])) (.ref p5) (kdD ⟨y, al, ps⟩) := At.mk hp5 (.cons (.str _) (.cons (.str _) (.cons hps .nil)))
    have ew : Ext [pk] (upd H6 p5 (.tup [.str y, .str (sortS al), v2])) (upd (upd H6 p5 (.tup [.str y, .str (sortS al), v2])) pk (.lst (ys ++ [.ref p5]))) := (Ext.refl _ _).put (by simp) h7
    refine ⟨(e3.trans e37).own hpk, (f6.new hp5).oth npf.symm, ys ++ [.ref p5], ⟨y, al, ps⟩ :: rs, _, _, upd_same, ?_, by simp [hrl], ?_, ⟨ok, ?_⟩, rfl⟩
    · rw [List.reverse_cons, List.map_append]
      exact ew.ats ((e37.ats hats).snoc at7)
    · rw [List.reverse_cons, List.map_append, hnm, List.take_add_one, hy]
      rfl
    · refine ⟨nok.nm y (List.mem_of_getElem? hy), fun k hk e => ?_, pok.nd, pok.pn, pok.pk, pok.few, pok.ne, pok.size y⟩
      refine nd_new nok.g1 (by omega) hy ?_
      rw [← hnm]
      exact List.mem_map.mpr ⟨k, List.mem_reverse.mpr hk, e⟩
  · rintro σ H3 ⟨e3, f3, ys, rs, u, v, hys, hats, hrl, hnm, ok, rfl⟩
    refine ⟨_, rfl, pk, ys, rfl, .inl ⟨.of hys, fun p7 hp7 => ?_⟩⟩
    exact q _ rs _ (e3.new hp7) (At.mk hp7 hats) ⟨ok, by omega, by rw [hrl]; exact hnm⟩
end
end Sw

-- part SwG5
set_option Elab.async false
set_option linter.all false
set_option maxRecDepth 100000
set_option maxHeartbeats 4000000
namespace Sw
open PySem PySem.Spec PyProof.Rows L2
/-- boxes as they may be at a depth: names, and the arms' boxes of greater depths -/
structure GOk (rs : List Kd) (deep : Nat) (G : List (Str × Str)) : Prop where
  nd : (G.map (·.1)).Nodup
  vk : ∀ x ∈ G, Vk rs x.2
  nm : ∀ x ∈ G, NameP x.1 ∨ ∃ j, deep < j ∧ j ≤ 2 ∧ x.1 = byN j
  few : G.length + deep ≤ 7
theorem by_okS {j : Nat} (h : j ≤ 2) : okS (byN j) = true := by
  rcases (by omega : j = 0 ∨ j = 1 ∨ j = 2) with rfl | rfl | rfl <;> decide +kernel
theorem by_inj {i j : Nat} (hi : i ≤ 2) (hj : j ≤ 2) (h : byN i = byN j) : i = j := by
  rcases (by omega : i = 0 ∨ i = 1 ∨ i = 2) with rfl | rfl | rfl <;> rcases (by omega : j = 0 ∨ j = 1 ∨ j = 2) with rfl | rfl | rfl <;> first | rfl | exact absurd h (by decide +kernel)
theorem NameP.byj {z : Str} (h : NameP z) {j : Nat} (hj : j ≤ 2) : z ≠ byN j := by
  obtain ⟨h0, h1, h2⟩ := h.by_
  rcases (by omega : j = 0 ∨ j = 1 ∨ j = 2) with rfl | rfl | rfl <;> assumption
theorem GOk.okS {rs : List Kd} {deep : Nat} {G : List (Str × Str)} (g : GOk rs deep G) {x : Str × Str} (h : x ∈ G) : Sw.okS x.1 = true := by
  rcases g.nm x h with h | ⟨j, _, h, e⟩
  · exact h.okS
  · rw [e]
    exact by_okS h
theorem GOk.no_by {rs : List Kd} {deep : Nat} {G : List (Str × Str)} (g : GOk rs deep G) (hd : deep ≤ 2) : byN deep ∉ G.map (·.1) := by
  intro h
  obtain ⟨x, hx, e⟩ := List.mem_map.mp h
  rcases g.nm x hx with h | ⟨j, h1, h2, e2⟩
  · exact h.byj hd e
  · have := by_inj h2 hd (e2.symm.trans e)
    omega
theorem GOk.less {rs : List Kd} {deep : Nat} {G : List (Str × Str)} (g : GOk rs deep G) : GOk rs (deep - 1) G :=
  ⟨g.nd, g.vk, fun x hx => (g.nm x hx).imp_right fun ⟨j, h1, h2, e⟩ => ⟨j, by omega, h2, e⟩, by have := g.few; omega⟩
theorem GOk.arm {rs : List Kd} {deep : Nat} {G : List (Str × Str)} (g : GOk rs (deep + 1) G) (hd : deep + 1 ≤ 2) {k : Str} (vk : Vk rs k) : GOk rs deep (G ++ [(byN (deep + 1), k)]) := by
  refine ⟨?_, fun x hx => ?_, fun x hx => ?_, ?_⟩
  · rw [List.map_append]
    refine List.nodup_append.mpr ⟨g.nd, by simp, fun a ha b hb e => ?_⟩
    rw [List.map_singleton, List.mem_singleton] at hb
    subst e
    rw [hb] at ha
    exact g.no_by hd ha
  · rcases List.mem_append.mp hx with h | h
    · exact g.vk x h
    · rw [List.mem_singleton.mp h]
      exact vk
  · rcases List.mem_append.mp hx with h | h
    · exact (g.nm x h).imp_right fun ⟨j, h1, h2, e⟩ => ⟨j, by omega, h2, e⟩
    · rw [List.mem_singleton.mp h]
      exact .inr ⟨deep + 1, by omega, hd, rfl⟩
  · rw [List.length_append, List.length_singleton]
    have := g.few
    omega
/-- what a maker of terms is given -/
structure TIn (K : PySem.W.Frag) (H : Hp) (f : Addr) (b c : V) (rs : List Kd) (G : List (Str × Str)) (deep : Nat) : Prop where
  fd : Fd H f
  ks : Kds K H b rs
  ok : KsOk rs
  kf : rs.length ≤ 4
  bx : ∃ p xs, c = .ref p ∧ p ≠ f ∧ H p = some (.lst xs) ∧ Ats K H xs (G.map prD)
  g : GOk rs deep G
  d2 : deep ≤ 2
theorem TIn.ext {K : PySem.W.Frag} {H H' : Hp} {f : Addr} {b c : V} {rs : List Kd} {G : List (Str × Str)} {deep : Nat} (t : TIn K H f b c rs G deep) (e : Ext [f] H H') (hf : Fd H' f) : TIn K H' f b c rs G deep := by
  obtain ⟨p, xs, rfl, h1, h2, h3⟩ := t.bx
  exact ⟨hf, e.at_ t.ks, t.ok, t.kf, ⟨p, xs, rfl, h1, e.get1 h1 h2, e.ats h3⟩, t.g, t.d2⟩
theorem TIn.less {K : PySem.W.Frag} {H : Hp} {f : Addr} {b c : V} {rs : List Kd} {G : List (Str × Str)} {deep : Nat} (t : TIn K H f b c rs G deep) : TIn K H f b c rs G (deep - 1) :=
  ⟨t.fd, t.ks, t.ok, t.kf, t.bx, t.g.less, by have := t.d2; omega⟩
structure TOk (rs : List Kd) (m : Nat) (G : List (Str × Str)) (k : Str) (room : Nat) (t : PyData) : Prop where
  w : WT rs m G k t
  g : good t = true
  z : wt t ≤ 10 * room
theorem mem_le_sum {n : Nat} : ∀ {l : List Nat}, n ∈ l → n ≤ l.sum
  | [], h => by cases h
  | a :: l, h => by
    rw [List.sum_cons]
    rcases List.mem_cons.mp h with rfl | h
    · omega
    · have := mem_le_sum h
      omega
theorem none_ne {H : Hp} {f p : Addr} (h : Fd H f) (hp : H p = none) : p ≠ f := fun e => by subst e; obtain ⟨c, u, e, _⟩ := h; rw [hp] at e; cases e
section
variable {P : Program} {w : World} {K : PySem.W.Frag} {mg : Str → Option Value} {base : Heap}
abbrev N_law_boxed : List Str := ["_law_feed_here", "_law_some"]
theorem sc_law_boxed : FnScope N_law_boxed ["_law_feed_here", "_law_some"] (defScope s_law_boxed) := ⟨rfl, rfl, rfl, by decide +kernel, rfl, by decide +kernel, by decide +kernel⟩
-- slots: 0 _law_feed_here, 1 _law_some
def prBoxed (K : PySem.W.Frag) : V → V → Hp → VK → Prop := fun a b H Q => ∃ (f : Addr) (zs : List Str), a = .ref f ∧ Fd H f ∧ Nl H b zs ∧ zs ≠ [] ∧ zs.length ≤ 100 ∧ ∀ v z H', z ∈ zs → Ext [f] H H' → Fd H' f → At K H' v (boxD z) → Q v H'
theorem c_law_boxed (T : Txt K mg) : Cal P w K mg base 2 "_law_boxed" (S2 (prBoxed K)) := T.c_law_boxed fun fd F => F.ok2 sc_law_boxed fun cdv A outer s H a b Q E hr h => by
  obtain ⟨f, zs, rfl, hf, ⟨p, rfl, hp⟩, hne, hl, q⟩ := h
  have C_law_take := c_law_take (P := P) (w := w) (base := base) T
  have hpos : 0 < zs.length := List.length_pos_iff.mpr hne
  have hpf := hf.strs hp
  refine ⟨_, (pss_one (ps_ret (pe_tup (pa_cons pe_str (pa_cons (pe_ix ix_list (pv 1) (pe_c C_law_take (hr.mono (by omega)) rfl (pa_cons (pv 0) (pa_cons (pe_callB call_len_seq (by rfl) T.z_len PySem.boot_len (pa_cons (pv 1) pa_nil)) pa_nil))) (fun _ _ => rfl)) pa_nil))))), ?_⟩
  refine ⟨_, rfl, _, rfl, _, rfl, p, _, rfl, .inl (.of hp), f, _, rfl, rfl, ?_, ?_, hf, fun d H1 d0 d1 e1 f1 => ?_⟩
  · rw [List.length_map]; omega
  · rw [List.length_map]; omega
  rw [List.length_map] at d1
  have hlt : d.toNat < zs.length := by omega
  refine ⟨p, _, _, .str zs[d.toNat], rfl, rfl, .of (e1.get1 hpf hp), at_of (j := d.toNat) (by omega) (by rw [List.getElem?_map, List.getElem?_eq_getElem hlt]; rfl), by show 2 ≤ sizeLine; decide, fun p2 hp2 => ?_⟩
  exact q _ _ _ (List.getElem_mem hlt) (e1.new hp2) (f1.new hp2) (At.mk hp2 (.cons (.str _) (.cons (.str _) .nil)))
end
def prTerm (K : PySem.W.Frag) (m : Nat) : V → V → V → V → V → V → Hp → VK → Prop := fun a b c d e g H Q => ∃ (f : Addr) (rs : List Kd) (G : List (Str × Str)) (k : Str) (room deep : Nat), a = .ref f ∧ TIn K H f b c rs G deep ∧ d = .str k ∧ Vk rs k ∧ e = .int room ∧ g = .int deep ∧
  5 * deep + rk rs k + 1 ≤ m ∧ smR rs k ≤ room ∧ room ≤ 1000 ∧ ∀ v t H', Ext [f] H H' → Fd H' f → At K H' v t → TOk rs m G k room t → Q v H'
section
variable {P : Program} {w : World} {K : PySem.W.Frag} {mg : Str → Option Value} {base : Heap}
abbrev N_law_whole_term : List Str := ["_law_feed_here", "_law_kinds_here", "_law_boxes_here", "_law_kind", "_law_room", "_law_deep", "_law_sort", "_law_parts_here", "_law_one", "_law_other", "_law_some", "_law_t", "_law_part", "_law_more", "_law_terms", "_law_f"]
theorem sc_law_whole_term : FnScope N_law_whole_term ["_law_feed_here", "_law_kinds_here", "_law_boxes_here", "_law_kind", "_law_room", "_law_deep"] (defScope s_law_whole_term) := ⟨rfl, rfl, rfl, by decide +kernel, rfl, by decide +kernel, by decide +kernel⟩
-- slots: 0 _law_feed_here, 1 _law_kinds_here*, 2 _law_boxes_here, 3 _law_kind, 4 _law_room*, 5 _law_deep, 6 _law_sort, 7 _law_parts_here, 8 _law_one, 9 _law_other, 10 _law_some, 11 _law_t, 12 _law_part, 13 _law_more, 14 _law_terms, 15 _law_f
theorem c_law_whole_term (T : Txt K mg) {l m : Nat} (h1 : 8 ≤ l) (C_law_term : Cal P w K mg base l "_law_term" (S6 (prTerm K m))) : Cal P w K mg base (l + 1) "_law_whole_term" (S6 (prTerm K (m + 1))) := T.c_law_whole_term fun fd F => F.ok6 sc_law_whole_term fun cdv A outer s H a b c d e g Q E hr h => by
  obtain ⟨f, rs, G, k, room, deep, rfl, ti, rfl, vk, rfl, rfl, hm, hsm, hrm, q⟩ := h
  have C_law_take := c_law_take (P := P) (w := w) (base := base) T
  have C_law_number := c_law_number (P := P) (w := w) (base := base) T
  have C_law_sort_of := c_law_sort_of (P := P) (w := w) (base := base) T
  have C_law_small := c_law_small (P := P) (w := w) (base := base) T 5
  have z : sizeLine = 16777216 := by decide
  have hd2 := ti.d2
  have ok := ti.ok
  have hrk : ∀ k, rk rs k < 5 := fun k => by have := rk_le rs k; have := ti.kf; omega
  refine ⟨_, (pss_cons (ps_asg (pe_c C_law_sort_of (hr.mono (by omega)) rfl (pa_cons (pv 1) (pa_cons (pv 3) pa_nil))) (pg_tup rfl (pgs_cons (pg_name (i := 6) sc_law_whole_term.nd rfl (by first | exact Or.inl rfl | exact Or.inr rfl)) (pgs_cons (pg_name (i := 7) sc_law_whole_term.nd rfl (by first | exact Or.inl rfl | exact Or.inr rfl)) pgs_nil))))
    (pss_cons (ps_if (pt_cmpR op_eq (pv 6) pe_str (nomark _))
    (C8.pss_cut (ps_if (PW.pt (pw_or (pt_cmpR op_lt (pv 4) pe_int (nomark _)) (pw_or (pt_cmpR op_eq (pv 5) pe_int (nomark _)) (pw_or1 (pt_cmpR op_eq (pe_c C_law_take (hr.mono (by omega)) rfl (pa_cons (pv 0) (pa_cons pe_int pa_nil))) pe_int (nomark _))))))
    (pss_one (ps_ret (pe_tup (pa_cons pe_str (pa_cons (pe_c C_law_number (hr.mono (by omega)) rfl (pa_cons (pv 0) pa_nil)) pa_nil)))))
    pss_nil)
    (pss_cons (ps_set (i := 8) sc_law_whole_term.nd rfl (Or.inl rfl) (pe_c C_law_term (hr.mono (by omega)) rfl (pa_cons (pv 0) (pa_cons (pv 1) (pa_cons (pv 2) (pa_cons pe_str (pa_cons (pe_op op_fdivW (pe_op op_sub (pv 4) pe_int) pe_int) (pa_cons (pe_op op_sub (pv 5) pe_int) pa_nil))))))))
    (pss_cons (ps_set (i := 9) sc_law_whole_term.nd rfl (Or.inl rfl) (pe_c C_law_term (hr.mono (by omega)) rfl (pa_cons (pv 0) (pa_cons (pv 1) (pa_cons (pv 2) (pa_cons pe_str (pa_cons (pe_op op_fdivW (pe_op op_sub (pv 4) pe_int) pe_int) (pa_cons (pe_op op_sub (pv 5) pe_int) pa_nil))))))))
    (pss_one (ps_ret (pe_tup (pa_cons pe_str (pa_cons (pe_ix ix_str pe_str (pe_c C_law_take (hr.mono (by omega)) rfl (pa_cons (pv 0) (pa_cons pe_int pa_nil))) (fun _ _ => rfl)) (pa_cons (pv 8) (pa_cons (pv 9) pa_nil))))))))))
    pss_nil)
    (pss_cons (ps_if (pt_cmpR op_eq (pv 6) pe_str (nomark _))
    (pss_cons (ps_setLc (i := 10) rfl sc_law_whole_term.nd rfl rfl (sw_true rfl rfl rfl (by decide +kernel)) (pi_tup (pv 7)) (blkOk_by (N := N_law_whole_term) (sc := defScope s_law_whole_term) (own := [("_law_part", 12)]) (by decide +kernel)) (fun _ _ _ _ _ => (pg_name (i := 12) sc_law_whole_term.nd rfl (by first | exact Or.inl rfl | exact Or.inr rfl))) (fun _ _ _ _ _ => (pts_one (pt_cmpR op_lt (pe_c C_law_small (hr.mono (by omega)) rfl (pa_cons (pv 1) (pa_cons (pe_ix (ix_tupK K) (pv 12) pe_int (fun _ _ => rfl)) pa_nil))) (pv 4) (nomark _)))) (fun _ _ _ _ _ => (pv 12)))
    (pss_cons (ps_asg (pe_ix ix_list (pv 10) (pe_c C_law_take (hr.mono (by omega)) rfl (pa_cons (pv 0) (pa_cons (pe_callB call_len_seq (by rfl) T.z_len PySem.boot_len (pa_cons (pv 10) pa_nil)) pa_nil))) (fun _ _ => rfl)) (pg_tup rfl (pgs_cons (pg_name (i := 11) sc_law_whole_term.nd rfl (by first | exact Or.inl rfl | exact Or.inr rfl)) (pgs_cons (pg_name (i := 12) sc_law_whole_term.nd rfl (by first | exact Or.inl rfl | exact Or.inr rfl)) pgs_nil))))
    (pss_one (ps_ret (pe_tup (pa_cons pe_str (pa_cons (pv 3) (pa_cons (pv 11) (pa_cons (pe_c C_law_term (hr.mono (by omega)) rfl (pa_cons (pv 0) (pa_cons (pv 1) (pa_cons (pv 2) (pa_cons (pv 12) (pa_cons (pe_op op_sub (pv 4) pe_int) (pa_cons (pv 5) pa_nil))))))) pa_nil)))))))))
    pss_nil)
    (pss_cons (ps_set (i := 13) sc_law_whole_term.nd rfl (Or.inl rfl) (pe_op op_sub (pv 4) (pe_c C_law_small (hr.mono (by omega)) rfl (pa_cons (pv 1) (pa_cons (pv 3) pa_nil)))))
    (pss_cons (ps_set (i := 14) sc_law_whole_term.nd rfl (Or.inl rfl) (pe_lst pa_nil))
    (pss_cons (ps_for PassesOwn.never rfl (pi_tup (pv 7)) (pg_tup rfl (pgs_cons (pg_name (i := 15) sc_law_whole_term.nd rfl (by first | exact Or.inl rfl | exact Or.inr rfl)) (pgs_cons (pg_name (i := 12) sc_law_whole_term.nd rfl (by first | exact Or.inl rfl | exact Or.inr rfl)) pgs_nil)))
    (pss_one (ps_expr (pe_bm PySem.F.plainAttrs_list PySem.F.slot_list_append PySem.F.type_list_append mt_append (pv 14) (pa_cons (pe_c C_law_term (hr.mono (by omega)) rfl (pa_cons (pv 0) (pa_cons (pv 1) (pa_cons (pv 2) (pa_cons (pv 12) (pa_cons (pe_op op_add (pe_c C_law_small (hr.mono (by omega)) rfl (pa_cons (pv 1) (pa_cons (pv 12) pa_nil))) (pe_op op_fdivW (pv 13) (pe_callB call_len_seq (by rfl) T.z_len PySem.boot_len (pa_cons (pv 7) pa_nil)))) (pa_cons (pv 5) pa_nil))))))) pa_nil)))))
    (pss_one (ps_ret (pe_tup (pa_cons pe_str (pa_cons (pv 3) (pa_cons (pe_callTy call_tuple_of (by rfl) T.z_tuple (by decide +kernel) (pa_cons (pv 14) pa_nil)) pa_nil)))))))))))), ?_⟩
  refine ⟨_, rfl, _, rfl, rs, k, ok, .of ti.ks, rfl, fun v H1 e1 hv => ?_⟩
  obtain ⟨p, y1, y2, rfl, hs, hy1, hy2⟩ := hv.tup2
  obtain rfl := hy1.inv_str
  obtain ⟨p2, xs, rfl, hs2, hd2⟩ := hy2.inv_tup
  have f1 : Fd H1 f := ti.fd.ext e1
  refine ⟨p, _, rfl, hs, rfl, _, _, rfl, _, _, rfl, rfl, ?_⟩
  have hl : xs.length = (pts rs k).length := by rw [hd2.length, List.length_map]
  refine ⟨_, rfl, rfl, _, rfl, ite2 (fun hc => ?_) (fun hc => ?_)⟩
  · -- num
    have hn : srt rs k = "num" := V.str.inj (of_decide_eq_true hc)
    have hk : k = "num" := by
      rcases pts_at ok vk with ⟨_, h, _, _⟩ | ⟨kd, _, _, h, _⟩
      · exact h
      · rw [h] at hn
        cases hb : kd.alt <;> rw [hb] at hn <;> exact absurd hn (by decide +kernel)
    subst hk
    have s1 := (sz_num ok).2.1
    have numq : ∀ (n : Int) (H2 : Hp) (p3 : Addr), Ext [f] H1 H2 → Fd H2 f → 0 ≤ n → n < 4294967296 → H2 p3 = none → Q (.ref p3) (upd H2 p3 (.tup [.str "num", .int n])) := fun n H2 p3 e2 f2 n0 n1 hp3 =>
      q _ (.tuple [.str "num", .int n]) _ ((e1.nil.trans e2).new hp3) (f2.new hp3) (At.mk hp3 (.cons (.str _) (.cons (.int _) .nil))) ⟨.num n n0 n1, by simp only [good, goods, Bool.and_eq_true, decide_eq_true_eq]; exact ⟨by decide +kernel, ⟨n0, n1⟩, trivial⟩, by simp only [wt, wts]; omega⟩
    have two : (2 : Nat) ≤ sizeLine := by decide
    refine ⟨fun σ' H' => Ext [f] H1 H' ∧ Fd H' f ∧ 3 ≤ room ∧ deep ≠ 0 ∧ ∃ u1 u2 u3 u4 u5 u6 u7 u8, σ' = [some (.ref f), some b, some c, some (.str "num"), some (.int room), some (.int deep), some (.str (srt rs "num")), some (.ref p2), u1, u2, u3, u4, u5, u6, u7, u8], ?_, ?_⟩
    · refine ⟨_, rfl, _, _, rfl, rfl, _, rfl, ite2 (fun _ => ?_) (fun hc1 => ?_)⟩
      · exact ⟨_, rfl, f, rfl, f1, fun n H2 n0 n1 e2 f2 => ⟨two, fun p3 hp3 => numq n H2 p3 e2 f2 n0 n1 hp3⟩⟩
      refine ⟨_, rfl, rfl, _, rfl, ite2 (fun _ => ?_) (fun hc2 => ?_)⟩
      · exact ⟨_, rfl, f, rfl, f1, fun n H2 n0 n1 e2 f2 => ⟨two, fun p3 hp3 => numq n H2 p3 e2 f2 n0 n1 hp3⟩⟩
      refine ⟨_, rfl, f, 2, rfl, rfl, by decide, by decide, f1, fun d H2 d0 d1 e2 f2 => ?_⟩
      refine ⟨rfl, _, rfl, ite2 (fun _ => ?_) (fun _ => ?_)⟩
      · exact ⟨_, rfl, f, rfl, f2, fun n H3 n0 n1 e3 f3 => ⟨two, fun p3 hp3 => numq n H3 p3 (e2.trans e3) f3 n0 n1 hp3⟩⟩
      · refine ⟨e2, f2, ?_, fun e => hc2 (decide_eq_true (by rw [e]; rfl)), _, _, _, _, _, _, _, _, rfl⟩
        have : ¬ ((room : Int) < 3) := fun h => hc1 (decide_eq_true h)
        omega
    · rintro σ' H2 ⟨e2, f2, hr3, hd0, u1, u2, u3, u4, u5, u6, u7, u8, rfl⟩
      have hvi : (((room : Int) - 1) / 2) = (((room - 1) / 2 : Nat) : Int) := by omega
      have hvd : ((deep : Int) - 1) = ((deep - 1 : Nat) : Int) := by omega
      have e02 := e1.nil.trans e2
      refine ⟨_, rfl, _, rfl, _, rfl, _, rfl, _, _, rfl, rfl, _, _, rfl, rfl, wide_div (b := 13) (by decide) (by decide) (by decide) (by decide), _, rfl, _, _, rfl, rfl, f, rs, G, "num", (room - 1) / 2, deep - 1, rfl, (ti.ext e02 f2).less, rfl, vk, congrArg V.int hvi, congrArg V.int hvd, ?_, ?_, ?_, fun va ta H3 e3 f3 hta oka => ?_⟩
      · rw [(sz_num ok).2.2] at hm ⊢; omega
      · omega
      · omega
      have e03 := e02.trans e3
      refine ⟨_, rfl, _, rfl, _, rfl, _, rfl, _, _, rfl, rfl, _, _, rfl, rfl, wide_div (b := 13) (by decide) (by decide) (by decide) (by decide), _, rfl, _, _, rfl, rfl, f, rs, G, "num", (room - 1) / 2, deep - 1, rfl, (ti.ext e03 f3).less, rfl, vk, congrArg V.int hvi, congrArg V.int hvd, ?_, ?_, ?_, fun vb tb H4 e4 f4 htb okb => ?_⟩
      · rw [(sz_num ok).2.2] at hm ⊢; omega
      · omega
      · omega
      refine ⟨_, rfl, f, 5, rfl, rfl, by decide, by decide, f4, fun d H5 d0 d1 e5 f5 => ?_⟩
      obtain ⟨ch, hch, hok⟩ : ∃ ch, atI (("+-*<=" : String) : Str).cps.toList d = some ch ∧ okS ⟨#[ch]⟩ = true := by
        rcases (by omega : d = 0 ∨ d = 1 ∨ d = 2 ∨ d = 3 ∨ d = 4) with rfl | rfl | rfl | rfl | rfl
        · exact ⟨43, by decide +kernel, by decide +kernel⟩
        · exact ⟨45, by decide +kernel, by decide +kernel⟩
        · exact ⟨42, by decide +kernel, by decide +kernel⟩
        · exact ⟨60, by decide +kernel, by decide +kernel⟩
        · exact ⟨61, by decide +kernel, by decide +kernel⟩
      refine ⟨_, _, ch, rfl, rfl, by decide +kernel, hch, _, rfl, _, rfl, by show 4 ≤ sizeLine; decide, fun p3 hp3 => ?_⟩
      have e35 := e4.trans e5
      refine q _ (.tuple [.str "op", .str ⟨#[ch]⟩, ta, tb]) _ ((e03.trans e35).new hp3) (f5.new hp3) (At.mk hp3 (.cons (.str _) (.cons (.str _) (.cons (e35.at_ hta) (.cons (e5.at_ htb) .nil))))) ⟨.op oka.w okb.w, ?_, ?_⟩
      · simp only [good, goods, Bool.and_eq_true, hok, oka.g, okb.g, and_true, true_and]
        decide +kernel
      · have h1 := oka.z
        have h2 := okb.z
        simp only [wt, wts]
        omega
  have hk : k ≠ "num" := fun e => by
    subst e
    rcases pts_at ok vk with ⟨_, _, h, _⟩ | ⟨kd, hf, _⟩
    · exact hc (decide_eq_true (by rw [h]))
    · rw [find_num ok] at hf
      cases hf
  obtain ⟨kd, hfk, kat, hsr, hpt⟩ : ∃ kd, findR rs k = some kd ∧ KdAt rs k kd ∧ srt rs k = sortS kd.alt ∧ pts rs k = kd.parts := by
    rcases pts_at ok vk with ⟨_, h, _, _⟩ | h
    · exact absurd h hk
    · exact h
  rw [hpt] at hd2 hl
  have kok : okS k = true := vk.okS ok
  refine ⟨_, rfl, rfl, _, rfl, ite2 (fun hc => ?_) (fun hc => ?_)⟩
  · -- alt
    have hal : kd.alt = true := by
      cases h : kd.alt with
      | true => rfl
      | false =>
        rw [hsr, h] at hc
        exact absurd hc (by decide +kernel)
    obtain ⟨pt0, pr, hps⟩ : ∃ pt ps, kd.parts = pt :: ps := by
      cases h : kd.parts with
      | nil => exact absurd h (kat.ne hal)
      | cons a l => exact ⟨a, l, rfl⟩
    have hs0 : smR rs k = 1 + smR rs pt0.2 := by
      rw [kat.sm]
      unfold smOf
      rw [if_pos hal, hps]
    refine ⟨_, rfl, p2, rfl, ⟨xs, hs2⟩, fun D hD => lc_tup (K := K) (xs := xs) (fun i H' => Ext [] H1 H' ∧ ∃ vs qs, H' D = some (.lst vs) ∧ Ats K H' vs (qs.map prD) ∧ (∀ x ∈ qs, x ∈ kd.parts ∧ smR rs x.2 < room) ∧ qs.length ≤ i ∧ (1 ≤ i → qs ≠ [])) ⟨(Ext.refl _ _).new hD, [], [], upd_same, .nil, (fun _ h => by cases h), Nat.le_refl _, fun h => by omega⟩ (fun i H' _ h => h.1.sqt hs2) ?_ ?_⟩
    · rintro i x H' hx ⟨e2, vs, qs, hDl, hats, hq, hql, hqn⟩
      obtain ⟨d, hdx, hat⟩ := (e2.ats hd2).get i x hx
      obtain ⟨pt, hkp, rfl⟩ := map_at hdx
      have hat0 := hat
      obtain ⟨p1, y1, y2, rfl, hs1, hy1, hy2⟩ := hat.tup2
      obtain rfl := hy2.inv_str
      have hp := kat.pk pt (List.mem_of_getElem? hkp)
      refine ⟨rfl, _, rfl, _, rfl, p1, _, _, _, rfl, rfl, hs1, atI_nat (j := 1) rfl, rs, pt.2, ok, (e1.trans e2).at_ ti.ks, rfl, hp.1, hrk _, fun H3 e3 => ?_⟩
      refine ⟨_, rfl, _, _, rfl, rfl, _, rfl, ite2 (fun hc2 => ?_) (fun hc2 => ?_)⟩
      · have hlt : ((smR rs pt.2 : Nat) : Int) < (room : Int) := of_decide_eq_true hc2
        have hD3 := e3.same _ _ hDl
        have ew : Ext [D] H3 (upd H3 D (.lst (vs ++ [.ref p1]))) := (Ext.refl _ _).put (by simp) hD3
        refine ⟨_, rfl, vs, hD3, ?_, (e2.trans e3).own hD, vs ++ [.ref p1], qs ++ [pt], upd_same, ?_, ?_, ?_, fun _ => by simp⟩
        · rw [hats.length, List.length_map]
          have := (List.getElem?_eq_some_iff.mp hkp).1
          have := kat.few
          omega
        · rw [List.map_append]
          exact ew.ats ((e3.ats hats).snoc (e3.at_ hat0))
        · intro x hx
          rcases List.mem_append.mp hx with h | h
          · exact hq x h
          · rw [List.mem_singleton.mp h]
            exact ⟨List.mem_of_getElem? hkp, by omega⟩
        · rw [List.length_append, List.length_singleton]
          omega
      · refine ⟨e2.trans e3, vs, qs, e3.same _ _ hDl, e3.ats hats, hq, by omega, fun _ => ?_⟩
        rcases Nat.eq_zero_or_pos i with rfl | h
        · exfalso
          rw [hps] at hkp
          obtain rfl := Option.some.inj hkp
          exact hc2 (decide_eq_true (by omega))
        · exact hqn h
    rintro H2 ⟨e2, vs, qs, hD2, hats, hq, hql, hqn⟩
    have hqn := hqn (by rw [hl, hps]; simp)
    have hvl : vs.length = qs.length := by rw [hats.length, List.length_map]
    have hq0 : 0 < qs.length := List.length_pos_iff.mpr hqn
    have npf : D ≠ f := none_ne f1 hD
    have f2 := f1.ext e2
    have fewp := kat.few
    refine ⟨_, rfl, _, rfl, _, rfl, D, _, rfl, .inl (.of hD2), f, _, rfl, rfl, by omega, by omega, f2, fun d H3 d0 d1 e3 f3 => ?_⟩
    have hdl : d.toNat < qs.length := by omega
    obtain ⟨x, hx, hat⟩ := hats.get' d.toNat (prD qs[d.toNat]) (by rw [List.getElem?_map, List.getElem?_eq_getElem hdl]; rfl)
    have hqm := hq _ (List.getElem_mem hdl)
    generalize qs[d.toNat] = pt at hat hqm
    obtain ⟨p1, y1, y2, rfl, hs1, hy1, hy2⟩ := hat.tup2
    obtain rfl := hy1.inv_str
    obtain rfl := hy2.inv_str
    have e13 := e2.nil.trans e3
    have e03 := e1.nil.trans e13
    refine ⟨D, _, _, _, rfl, rfl, .of (e3.get1 npf hD2), at_of (j := d.toNat) (by omega) hx, p1, _, rfl, e3.sqt hs1, rfl, _, _, rfl, _, _, rfl, rfl, ?_⟩
    have hp := kat.pk pt hqm.1
    have hvr : ((room : Int) - 1) = ((room - 1 : Nat) : Int) := by omega
    refine ⟨_, rfl, _, rfl, _, rfl, _, rfl, _, rfl, _, rfl, _, rfl, _, _, rfl, rfl, _, rfl, f, rs, G, pt.2, room - 1, deep, rfl, ti.ext e03 f3, rfl, hp.1, congrArg V.int hvr, rfl, by omega, by omega, by omega, fun va ta H4 e4 f4 hta oka => ?_⟩
    refine ⟨by show 4 ≤ sizeLine; decide, fun p3 hp3 => ?_⟩
    refine q _ (.tuple [.str "tag", .str k, .str pt.1, ta]) _ ((e03.trans e4).new hp3) (f4.new hp3) (At.mk hp3 (.cons (.str _) (.cons (.str _) (.cons (.str _) (.cons hta .nil))))) ⟨.tag hfk hal (lk_of kat.nd hqm.1) oka.w, ?_, ?_⟩
    · simp only [good, goods, Bool.and_eq_true, kok, oka.g, (kat.pn pt hqm.1).okS, and_true, true_and]
      decide +kernel
    · have h1 := oka.z
      simp only [wt, wts]
      omega
  · -- rec
    have hal : kd.alt = false := by
      cases h : kd.alt with
      | false => rfl
      | true =>
        rw [hsr, h] at hc
        exact absurd (decide_eq_true rfl) hc
    have hsm2 : smR rs k = 1 + (kd.parts.map fun p => smR rs p.2).sum := by
      rw [kat.sm]
      unfold smOf
      rw [hal, if_neg Bool.false_ne_true]
    refine ⟨_, rfl, _, rfl, _, rfl, rs, k, ok, e1.at_ ti.ks, rfl, vk, hrk k, fun H2 e2 => ?_⟩
    refine ⟨_, _, rfl, rfl, ?_⟩
    refine ⟨by show 0 ≤ sizeLine; decide, fun pt hpt => ?_⟩
    have e12 : Ext [f] H1 (upd H2 pt (.lst [])) := (e2.new hpt).nil
    have f2 : Fd (upd H2 pt (.lst [])) f := (f1.ext e2).new hpt
    have npf : pt ≠ f := none_ne (f1.ext e2) hpt
    have hp1 : H1 pt = none := e2.free hpt
    have fewp := kat.few
    have hmo : ((room : Int) - ((smR rs k : Nat) : Int)) = ((room - smR rs k : Nat) : Int) := by omega
    refine ⟨_, rfl, p2, rfl, ⟨xs, e12.sqt hs2⟩, for_tup (K := K) (xs := xs) (fun i σ H' => Ext [f] H1 H' ∧ Fd H' f ∧ ∃ (ys : List V) (es : List PyData), H' pt = some (.lst ys) ∧ Ats K H' ys es ∧ es.length = i ∧ (∀ (j : Nat) (e : PyData) (p : Str × Str), es[j]? = some e → kd.parts[j]? = some p → WT rs m G p.2 e) ∧ goods es = true ∧
      wts es ≤ 10 * (((kd.parts.take i).map fun p => smR rs p.2).sum + i * ((room - smR rs k) / kd.parts.length)) ∧
      ∃ u1 u2 u3 u4 u5 u6, σ = [some (.ref f), some b, some c, some (.str k), some (.int room), some (.int deep), some (.str (srt rs k)), some (.ref p2), u1, u2, u3, u4, u5, some (.int ((room : Int) - ((smR rs k : Nat) : Int))), some (.ref pt), u6]) ⟨e12, f2, [], [], upd_same, .nil, rfl, (fun _ _ _ h => by simp at h), rfl, Nat.zero_le _, _, _, _, _, _, _, rfl⟩ (fun i σ H' _ h => h.1.sqt hs2) ?_ ?_⟩
    · rintro i x σ H3 hx ⟨e3, f3, ys, es, hys, hats, hel, hw, hg, hwt, u1, u2, u3, u4, u5, u6, rfl⟩
      obtain ⟨d, hdx, hat⟩ := (e3.ats hd2).get i x hx
      obtain ⟨pr, hkp, rfl⟩ := map_at hdx
      obtain ⟨p1, y1, y2, rfl, hs1, hy1, hy2⟩ := hat.tup2
      obtain rfl := hy1.inv_str
      obtain rfl := hy2.inv_str
      have hp := kat.pk pr (List.mem_of_getElem? hkp)
      have hil := (List.getElem?_eq_some_iff.mp hkp).1
      have e03 := e1.nil.trans e3
      refine ⟨p1, _, rfl, hs1, rfl, _, _, rfl, _, _, rfl, rfl, ?_⟩
      refine ⟨_, rfl, .inl ⟨rfl, _, .inl (.inl hys)⟩, ?_⟩
      refine ⟨_, rfl, _, rfl, _, rfl, _, rfl, _, rfl, _, rfl, rs, pr.2, ok, e03.at_ ti.ks, rfl, hp.1, hrk _, fun H4 e4 => ?_⟩
      have e04 := e03.trans e4.nil
      have e14 := e3.trans e4.nil
      have f4 := f3.ext e4
      have hsum : smR rs pr.2 ≤ (kd.parts.map fun p => smR rs p.2).sum := by
        have : smR rs pr.2 ∈ kd.parts.map fun p => smR rs p.2 := List.mem_map.mpr ⟨pr, List.mem_of_getElem? hkp, rfl⟩
        exact mem_le_sum this
      have hdv : (((room : Int) - ((smR rs k : Nat) : Int)) / (xs.length : Int)) = (((room - smR rs k) / kd.parts.length : Nat) : Int) := by
        rw [hmo, hl]
        rfl
      have hdle : (room - smR rs k) / kd.parts.length ≤ room - smR rs k := Nat.div_le_self _ _
      have hvr : ((smR rs pr.2 : Nat) : Int) + ((room : Int) - ((smR rs k : Nat) : Int)) / (xs.length : Int) = ((smR rs pr.2 + (room - smR rs k) / kd.parts.length : Nat) : Int) := by
        rw [hdv]
        omega
      refine ⟨_, rfl, _, rfl, p2, xs, rfl, .inr (e14.sqt hs2), _, _, rfl, rfl, wide_div (b := 13) (by omega) (by omega) (by decide) (by decide), _, _, rfl, rfl, _, rfl, f, rs, G, pr.2, smR rs pr.2 + (room - smR rs k) / kd.parts.length, deep, rfl, ti.ext e04 f4, rfl, hp.1, congrArg V.int hvr, rfl, by omega, Nat.le_add_right _ _, (by generalize (room - smR rs k) / kd.parts.length = dv at hdle ⊢; omega), fun va ta H5 e5 f5 hta oka => ?_⟩
      have e35 := e4.nil.trans e5
      have h5 := e35.get1 npf hys
      have ew : Ext [pt] H5 (upd H5 pt (.lst (ys ++ [va]))) := (Ext.refl _ _).put (by simp) h5
      refine ⟨pt, _, _, rfl, rfl, h5, ?_, (e3.trans e35).own hp1, f5.oth npf.symm, ys ++ [va], es ++ [ta], upd_same, ?_, ?_, ?_, ?_, ?_, _, _, _, _, _, _, rfl⟩
      · rw [hats.length, hel]
        omega
      · exact ew.ats ((e35.ats hats).snoc hta)
      · simp [hel]
      · intro j e p hj hpj
        rcases Nat.lt_or_ge j es.length with h | h
        · rw [List.getElem?_append_left h] at hj
          exact hw j e p hj hpj
        · rw [List.getElem?_append_right h] at hj
          have : j = es.length := by
            have := (List.getElem?_eq_some_iff.mp hj).1
            simp at this
            omega
          subst this
          rw [Nat.sub_self] at hj
          obtain rfl := Option.some.inj hj
          rw [hel, hkp] at hpj
          obtain rfl := Option.some.inj hpj
          exact oka.w
      · refine (goods_all _).mpr fun x hx => ?_
        rcases List.mem_append.mp hx with h | h
        · exact (goods_all _).mp hg x h
        · rw [List.mem_singleton.mp h]
          exact oka.g
      · have h1 := oka.z
        rw [wts_append, List.take_add_one, hkp, List.map_append, List.sum_append, Nat.add_mul]
        simp only [wts, Option.toList_some, List.map_cons, List.map_nil, List.sum_cons, List.sum_nil]
        omega
    · rintro σ H3 ⟨e3, f3, ys, es, hys, hats, hel, hw, hg, hwt, u1, u2, u3, u4, u5, u6, rfl⟩
      rw [hl] at hel hwt
      rw [List.take_length] at hwt
      have hdm : kd.parts.length * ((room - smR rs k) / kd.parts.length) ≤ room - smR rs k := Nat.mul_div_le _ _
      refine ⟨_, rfl, _, rfl, pt, ys, rfl, .inl ⟨.of hys, fun p7 hp7 => ⟨by show 3 ≤ sizeLine; decide, fun p8 hp8 => ?_⟩⟩⟩
      have e4 : Ext [] H3 (upd (upd H3 p7 (.tup ys)) p8 (.tup [.str "rec", .str k, .ref p7])) := ((Ext.refl _ _).new hp7).new hp8
      refine q _ (.tuple [.str "rec", .str k, .tuple es]) _ ((e1.nil.trans e3).trans e4.nil) (f3.ext e4) (At.mk hp8 (.cons (.str _) (.cons (.str _) (.cons (At.mk hp7 hats) .nil)))) ⟨.rcd hfk hal hel hw, ?_, ?_⟩
      · simp only [good, goods, Bool.and_eq_true, kok, hg, and_true, true_and]
        decide +kernel
      · simp only [wt, wts]
        omega
end
end Sw

-- part SwG6
set_option Elab.async false
set_option linter.all false
set_option maxRecDepth 100000
set_option maxHeartbeats 4000000
namespace Sw
open PySem PySem.Spec PyProof.Rows L2
structure ArmsOk (rs : List Kd) (m : Nat) (G : List (Str × Str)) (k : Str) (kd : Kd) (room : Nat) (arms : List Arm) : Prop where
  ne : arms ≠ []
  len : arms.length = kd.parts.length
  nd : (arms.map Arm.tag).Nodup
  all : ∀ p ∈ kd.parts, p.1 ∈ arms.map Arm.tag
  bx : ∀ a ∈ arms, (lk kd.parts a.tag).isSome = true ∧ a.box ∉ G.map (·.1)
  w : ∀ a ∈ arms, ∀ kt, lk kd.parts a.tag = some kt → WT rs m (G ++ [(a.box, kt)]) k a.term
  g : goods (arms.map armD) = true
  z : wts (arms.map armD) ≤ 3 * kd.parts.length + 10 * room
theorem ArmsOk.rev {rs : List Kd} {m : Nat} {G : List (Str × Str)} {k : Str} {kd : Kd} {room : Nat} {arms : List Arm} (o : ArmsOk rs m G k kd room arms) : ArmsOk rs m G k kd room arms.reverse := by
  refine ⟨fun e => o.ne (List.reverse_eq_nil_iff.mp e), by rw [List.length_reverse]; exact o.len, ?_, fun p hp => ?_, fun a ha => o.bx a (List.mem_reverse.mp ha), fun a ha => o.w a (List.mem_reverse.mp ha), ?_, ?_⟩
  · rw [List.map_reverse]
    exact List.pairwise_reverse.mpr (o.nd.imp fun h => h.symm)
  · rw [List.map_reverse]
    exact List.mem_reverse.mpr (o.all p hp)
  · refine (goods_all _).mpr fun x hx => (goods_all _).mp o.g x ?_
    rw [List.map_reverse] at hx
    exact List.mem_reverse.mp hx
  · rw [List.map_reverse, wts_reverse]
    exact o.z
def prArms (K : PySem.W.Frag) (m : Nat) : V → V → V → V → V → V → V → Hp → VK → Prop := fun a b c d e g h H Q => ∃ (f : Addr) (rs : List Kd) (G : List (Str × Str)) (k kx : Str) (kd : Kd) (room deep : Nat), a = .ref f ∧ TIn K H f b c rs G (deep + 1) ∧ At K H d (prsD kd.parts) ∧ findR rs kx = some kd ∧ kd.alt = true ∧ e = .str k ∧ Vk rs k ∧
  g = .int room ∧ h = .int ((deep + 1 : Nat) : Int) ∧ 5 * deep + rk rs k + 1 ≤ m ∧ smR rs k * kd.parts.length ≤ room ∧ room ≤ 1000 ∧ ∀ v arms H', Ext [f] H H' → Fd H' f → At K H' v (.tuple (arms.map armD)) → ArmsOk rs m G k kd room arms → Q v H'
section
variable {P : Program} {w : World} {K : PySem.W.Frag} {mg : Str → Option Value} {base : Heap}
abbrev N_law_arms : List Str := ["_law_feed_here", "_law_kinds_here", "_law_boxes_here", "_law_parts_here", "_law_kind", "_law_room", "_law_deep", "_law_arms_here", "_law_each", "_law_t", "_law_part", "_law_x"]
theorem sc_law_arms : FnScope N_law_arms ["_law_feed_here", "_law_kinds_here", "_law_boxes_here", "_law_parts_here", "_law_kind", "_law_room", "_law_deep"] (defScope s_law_arms) := ⟨rfl, rfl, rfl, by decide +kernel, rfl, by decide +kernel, by decide +kernel⟩
-- slots: 0 _law_feed_here, 1 _law_kinds_here, 2 _law_boxes_here, 3 _law_parts_here, 4 _law_kind, 5 _law_room, 6 _law_deep, 7 _law_arms_here, 8 _law_each, 9 _law_t, 10 _law_part, 11 _law_x
theorem c_law_arms (T : Txt K mg) {l m : Nat} (h1 : 8 ≤ l) (C_law_term : Cal P w K mg base l "_law_term" (S6 (prTerm K m))) : Cal P w K mg base (l + 1) "_law_arms" (S7 (prArms K m)) := T.c_law_arms fun fd F => F.ok7 sc_law_arms fun cdv A outer s H a b c d e g hh Q E hr h => by
  obtain ⟨f, rs, G, k, kx, kd, room, deep, rfl, ti, hd, hfk, hal, rfl, vk, rfl, rfl, hm, hsm, hrm, q⟩ := h
  have C_law_take := c_law_take (P := P) (w := w) (base := base) T
  have z : sizeLine = 16777216 := by decide
  have ok := ti.ok
  have kat := kd_at ok hfk
  have hdp : deep + 1 ≤ 2 := ti.d2
  obtain ⟨pp, xs, rfl, hs2, hd2⟩ := hd.inv_tup
  obtain ⟨pb, bs, rfl, npb, hbs, hbat⟩ := ti.bx
  have hl : xs.length = kd.parts.length := by rw [hd2.length, List.length_map]
  have hpos : 0 < kd.parts.length := List.length_pos_iff.mpr (kat.ne hal)
  have fewp := kat.few
  have fewg := ti.g.few
  have hbl : bs.length = G.length := by rw [hbat.length, List.length_map]
  have nby := ti.g.no_by hdp
  obtain ⟨each, heach⟩ : ∃ each, each = room / kd.parts.length := ⟨_, rfl⟩
  have hdm : kd.parts.length * each ≤ room := by rw [heach]; exact Nat.mul_div_le _ _
  have hdle : each ≤ room := by rw [heach]; exact Nat.div_le_self _ _
  have hes : smR rs k ≤ each := by rw [heach]; exact (Nat.le_div_iff_mul_le hpos).mpr hsm
  have hdv : ((room : Int) / (xs.length : Int)) = (each : Int) := by rw [hl, heach]; rfl
  refine ⟨_, (pss_cons (ps_set (i := 7) sc_law_arms.nd rfl (Or.inl rfl) (pe_lst pa_nil))
    (pss_cons (ps_set (i := 8) sc_law_arms.nd rfl (Or.inl rfl) (pe_op op_fdivW (pv 5) (pe_callB call_len_seq (by rfl) T.z_len PySem.boot_len (pa_cons (pv 3) pa_nil))))
    (pss_cons (ps_for PassesOwn.never rfl (pi_tup (pv 3)) (pg_tup rfl (pgs_cons (pg_name (i := 9) sc_law_arms.nd rfl (by first | exact Or.inl rfl | exact Or.inr rfl)) (pgs_cons (pg_name (i := 10) sc_law_arms.nd rfl (by first | exact Or.inl rfl | exact Or.inr rfl)) pgs_nil)))
    (pss_cons (ps_set (i := 11) sc_law_arms.nd rfl (Or.inl rfl) (pe_op op_add_str pe_str (pe_ix ix_str pe_str (pv 6) (fun _ _ => rfl))))
    (pss_one (ps_expr (pe_bm PySem.F.plainAttrs_list PySem.F.slot_list_append PySem.F.type_list_append mt_append (pv 7) (pa_cons (pe_tup (pa_cons (pv 9) (pa_cons (pv 11) (pa_cons (pe_c C_law_term (hr.mono (by omega)) rfl (pa_cons (pv 0) (pa_cons (pv 1) (pa_cons (pe_op op_cat (pv 2) (pe_lst (pa_cons (pe_tup (pa_cons (pv 11) (pa_cons (pv 10) pa_nil))) pa_nil))) (pa_cons (pv 4) (pa_cons (pv 8) (pa_cons (pe_op op_sub (pv 6) pe_int) pa_nil))))))) pa_nil)))) pa_nil))))))
    (C8.pss_cut (ps_if (pt_cmpR op_eq (pe_c C_law_take (hr.mono (by omega)) rfl (pa_cons (pv 0) (pa_cons pe_int pa_nil))) pe_int (nomark _))
    (pss_one (ps_expr (pe_bm0 PySem.F.plainAttrs_list PySem.F.slot_list_reverse PySem.F.type_list_reverse mt_reverse (pv 7))))
    pss_nil)
    (pss_one (ps_ret (pe_callTy call_tuple_of (by rfl) T.z_tuple (by decide +kernel) (pa_cons (pv 7) pa_nil)))))))), ?_⟩
  refine ⟨by show 0 ≤ sizeLine; decide, fun pa hpa => ?_⟩
  have npf : pa ≠ f := none_ne ti.fd hpa
  have e0 : Ext [f] H (upd H pa (.lst [])) := (Ext.refl _ _).new hpa
  refine ⟨_, rfl, _, rfl, pp, xs, rfl, .inr (e0.sqt hs2), _, _, rfl, rfl, wide_div (b := 13) (by omega) (by omega) (by decide) (by decide), ?_⟩
  refine ⟨_, rfl, pp, rfl, ⟨xs, e0.sqt hs2⟩, for_tup (K := K) (xs := xs) (fun i σ H' => Ext [f] H H' ∧ Fd H' f ∧ ∃ (ys : List V) (arms : List Arm), H' pa = some (.lst ys) ∧ Ats K H' ys (arms.map armD) ∧ arms.map Arm.tag = (kd.parts.take i).map (·.1) ∧
    (∀ a ∈ arms, ∃ pr ∈ kd.parts, a.tag = pr.1 ∧ a.box = byN (deep + 1) ∧ WT rs m (G ++ [(byN (deep + 1), pr.2)]) k a.term) ∧ goods (arms.map armD) = true ∧ wts (arms.map armD) ≤ 3 * i + 10 * (i * each) ∧
    ∃ u1 u2 u3, σ = [some (.ref f), some b, some (.ref pb), some (.ref pp), some (.str k), some (.int room), some (.int ((deep + 1 : Nat) : Int)), some (.ref pa), some (.int ((room : Int) / (xs.length : Int))), u1, u2, u3]) ⟨e0, ti.fd.new hpa, [], [], upd_same, .nil, rfl, (fun _ h => by cases h), rfl, Nat.zero_le _, _, _, _, rfl⟩ (fun i σ H' _ h => h.1.sqt hs2) ?_ ?_⟩
  · rintro i x σ H3 hx ⟨e3, f3, ys, arms, hys, hats, htg, harm, hg, hwt, u1, u2, u3, rfl⟩
    obtain ⟨d, hdx, hat⟩ := (e3.ats hd2).get i x hx
    obtain ⟨pr, hkp, rfl⟩ := map_at hdx
    obtain ⟨p1, y1, y2, rfl, hs1, hy1, hy2⟩ := hat.tup2
    obtain rfl := hy1.inv_str
    obtain rfl := hy2.inv_str
    have hp := kat.pk pr (List.mem_of_getElem? hkp)
    have hil := (List.getElem?_eq_some_iff.mp hkp).1
    have hal2 : arms.length = i := by
      have := congrArg List.length htg
      rw [List.length_map, List.length_map, List.length_take] at this
      omega
    have hyl : ys.length = i := by rw [hats.length, List.length_map, hal2]
    refine ⟨p1, _, rfl, hs1, rfl, _, _, rfl, _, _, rfl, rfl, ?_⟩
    have hlet : atI (("abcdefgh" : String) : Str).cps.toList ((deep + 1 : Nat) : Int) = some (97 + (deep + 1)) := by
      rcases (by omega : deep = 0 ∨ deep = 1) with rfl | rfl <;> decide +kernel
    refine ⟨_, rfl, _, _, _, rfl, rfl, by decide +kernel, hlet, _, _, rfl, rfl, ?_, ?_⟩
    · have : (("by" : String) : Str).length = 2 := by decide +kernel
      rw [this]
      show 2 + 1 ≤ sizeLine
      decide
    refine ⟨_, rfl, .inl ⟨rfl, _, .inl (.inl hys)⟩, ?_⟩
    refine ⟨_, rfl, _, rfl, _, rfl, _, rfl, _, rfl, _, rfl, _, rfl, by show 2 ≤ sizeLine; decide, fun p4 hp4 => ⟨by show 1 ≤ sizeLine; decide, fun p5 hp5 => ?_⟩⟩
    have e34 : Ext [] H3 (upd H3 p4 (.tup [.str (byN (deep + 1)), .str pr.2])) := (Ext.refl _ _).new hp4
    have e35 : Ext [] H3 (upd (upd H3 p4 (.tup [.str (byN (deep + 1)), .str pr.2])) p5 (.lst [.ref p4])) := e34.new hp5
    have at4 : At K (upd H3 p4 (.tup [.str (byN (deep + 1)), .str pr.2])) (.ref p4) (prD (byN (deep + 1), pr.2)) := At.mk hp4 (.cons (.str _) (.cons (.str _) .nil))
    have at5 := ((Ext.refl [] _).new hp5 (o := .lst [.ref p4])).at_ at4
    have e05 := e3.trans e35.nil
    refine ⟨pb, p5, _, _, rfl, rfl, e05.get1 npb hbs, upd_same, ?_, fun p6 hp6 => ?_⟩
    · show bs.length + 1 ≤ _
      omega
    have e36 := e35.new (o := .lst (bs ++ [.ref p4])) hp6
    have e56 : Ext [] (upd (upd H3 p4 (.tup [.str (byN (deep + 1)), .str pr.2])) p5 (.lst [.ref p4])) (upd (upd (upd H3 p4 (.tup [.str (byN (deep + 1)), .str pr.2])) p5 (.lst [.ref p4])) p6 (.lst (bs ++ [.ref p4]))) := (Ext.refl [] _).new hp6
    have e06 := e3.trans e36.nil
    have f6 : Fd (upd (upd (upd H3 p4 (.tup [.str (byN (deep + 1)), .str pr.2])) p5 (.lst [.ref p4])) p6 (.lst (bs ++ [.ref p4]))) f := f3.ext e36
    have np6 : p6 ≠ f := none_ne (f3.ext e35) hp6
    have gk := ti.g.arm hdp hp.1
    have ti6 : TIn K (upd (upd (upd H3 p4 (.tup [.str (byN (deep + 1)), .str pr.2])) p5 (.lst [.ref p4])) p6 (.lst (bs ++ [.ref p4]))) f b (.ref p6) rs (G ++ [(byN (deep + 1), pr.2)]) deep :=
      ⟨f6, e06.at_ ti.ks, ok, ti.kf, ⟨p6, _, rfl, np6, upd_same, by rw [List.map_append]; exact (e06.ats hbat).append (.cons (e56.at_ at5) .nil)⟩, gk, by omega⟩
    have hvd : (((deep + 1 : Nat) : Int) - 1) = (deep : Int) := by omega
    refine ⟨_, rfl, _, rfl, _, rfl, _, _, rfl, rfl, f, rs, _, k, each, deep, rfl, ti6, rfl, vk, congrArg V.int hdv, congrArg V.int hvd, hm, hes, by omega, fun va ta H7 e7 f7 hta oka => ?_⟩
    refine ⟨by show 3 ≤ sizeLine; decide, fun p8 hp8 => ?_⟩
    have e37 := e36.nil.trans e7
    have e38 : Ext [f] H3 (upd H7 p8 (.tup [.str pr.1, .str (byN (deep + 1)), va])) := e37.new hp8
    have h8 := e38.get1 npf hys
    have at8 : At K (upd H7 p8 (.tup [.str pr.1, .str (byN (deep + 1)), va])) (.ref p8) (armD ⟨pr.1, byN (deep + 1), ta⟩) := At.mk hp8 (.cons (.str _) (.cons (.str _) (.cons hta .nil)))
    have ew : Ext [pa] (upd H7 p8 (.tup [.str pr.1, .str (byN (deep + 1)), va])) (upd (upd H7 p8 (.tup [.str pr.1, .str (byN (deep + 1)), va])) pa (.lst (ys ++ [.ref p8]))) := (Ext.refl _ _).put (by simp) h8
    refine ⟨pa, _, _, rfl, rfl, h8, by omega, (e3.trans e38).own hpa, (f7.new hp8).oth npf.symm, ys ++ [.ref p8], arms ++ [⟨pr.1, byN (deep + 1), ta⟩], upd_same, ?_, ?_, ?_, ?_, ?_, _, _, _, rfl⟩
    · rw [List.map_append]
      exact ew.ats ((e38.ats hats).snoc at8)
    · rw [List.map_append, htg, List.take_add_one, hkp, List.map_append]
      rfl
    · intro a ha
      rcases List.mem_append.mp ha with h | h
      · exact harm a h
      · rw [List.mem_singleton.mp h]
        exact ⟨pr, List.mem_of_getElem? hkp, rfl, rfl, oka.w⟩
    · refine (goods_all _).mpr fun x hx => ?_
      rw [List.map_append] at hx
      rcases List.mem_append.mp hx with h | h
      · exact (goods_all _).mp hg x h
      · rw [List.mem_singleton.mp h]
        simp only [armD, good, goods, Bool.and_eq_true, (kat.pn pr (List.mem_of_getElem? hkp)).okS, by_okS hdp, oka.g, and_true]
    · have h1 := oka.z
      rw [List.map_append, wts_append, Nat.add_mul]
      simp only [armD, wts, wt, List.map_cons, List.map_nil]
      omega
  · rintro σ H3 ⟨e3, f3, ys, arms, hys, hats, htg, harm, hg, hwt, u1, u2, u3, rfl⟩
    rw [hl] at htg hwt
    rw [List.take_length] at htg
    have hal2 : arms.length = kd.parts.length := by
      have := congrArg List.length htg
      rwa [List.length_map, List.length_map] at this
    have aok : ArmsOk rs m G k kd room arms := by
      refine ⟨fun e => by rw [e] at hal2; simp at hal2; omega, hal2, by rw [htg]; exact kat.nd, fun p hp => by rw [htg]; exact List.mem_map.mpr ⟨p, hp, rfl⟩, fun a ha => ?_, fun a ha kt hk => ?_, hg, by omega⟩
      · obtain ⟨pr, hpr, h1, h2, h3⟩ := harm a ha
        rw [h1, h2, lk_of kat.nd hpr]
        exact ⟨rfl, nby⟩
      · obtain ⟨pr, hpr, h1, h2, h3⟩ := harm a ha
        rw [h1, lk_of kat.nd hpr] at hk
        obtain rfl := Option.some.inj hk
        rw [h2]
        exact h3
    refine ⟨fun σ' H' => Ext [f] H H' ∧ Fd H' f ∧ ∃ (ys : List V) (arms : List Arm), H' pa = some (.lst ys) ∧ Ats K H' ys (arms.map armD) ∧ ArmsOk rs m G k kd room arms ∧ ∃ u1 u2 u3 u4 u5 u6 u7 u8 u9 u10 u11, σ' = [u1, u2, u3, u4, u5, u6, u7, some (.ref pa), u8, u9, u10, u11], ?_, ?_⟩
    · refine ⟨_, rfl, f, 2, rfl, rfl, by decide, by decide, f3, fun d H4 d0 d1 e4 f4 => ?_⟩
      have h4 := e4.get1 npf hys
      refine ⟨rfl, _, rfl, ite2 (fun _ => ?_) (fun _ => ?_)⟩
      · refine ⟨_, rfl, .inl ⟨rfl, _, .inl (.inl h4)⟩, pa, _, rfl, rfl, h4, (e3.trans e4).own hpa, f4.oth npf.symm, ys.reverse, arms.reverse, upd_same, ?_, aok.rev, _, _, _, _, _, _, _, _, _, _, _, rfl⟩
        have ew : Ext [pa] H4 (upd H4 pa (.lst ys.reverse)) := (Ext.refl _ _).put (by simp) h4
        rw [List.map_reverse]
        exact ew.ats (e4.ats hats).reverse
      · exact ⟨e3.trans e4, f4, ys, arms, h4, e4.ats hats, aok, _, _, _, _, _, _, _, _, _, _, _, rfl⟩
    · rintro σ' H4 ⟨e4, f4, ys, arms, hys, hats, aok, u1, u2, u3, u4, u5, u6, u7, u8, u9, u10, u11, rfl⟩
      refine ⟨_, rfl, pa, ys, rfl, .inl ⟨.of hys, fun p7 hp7 => ?_⟩⟩
      exact q _ arms _ (e4.new hp7) (f4.new hp7) (At.mk hp7 hats) aok
end
end Sw

-- part SwG7
set_option Elab.async false
set_option linter.all false
set_option maxRecDepth 100000
set_option maxHeartbeats 4000000
namespace Sw
open PySem PySem.Spec PyProof.Rows L2
def GetOk (rs : List Kd) (G : List (Str × Str)) (k : Str) (y : Str × Str) : Prop := ∃ k' kd, lk G y.1 = some k' ∧ findR rs k' = some kd ∧ kd.alt = false ∧ lk kd.parts y.2 = some k
theorem merge_kvs : ∀ (B A : List (Str × Str)), ((A ++ B).map (·.1)).Nodup → mergeK (kvs A) (kvs B) = kvs (A ++ B)
  | [], A, _ => by rw [List.append_nil]; rfl
  | p :: B, A, h => by
    have hn : p.1 ∉ A.map (·.1) := by
      rw [List.map_append, List.map_cons] at h
      intro hm
      exact (List.nodup_append.mp h).2.2 _ hm _ List.mem_cons_self rfl
    have e : mergeK (kvs A) (kvs (p :: B)) = mergeK (putK (kvs A) (Sum.inr p.1) (.str p.2)) (kvs B) := rfl
    rw [e, put_kvs hn]
    have := merge_kvs B (A ++ [(p.1, p.2)]) (by rw [List.append_assoc]; exact h)
    rw [this, List.append_assoc]
    rfl
theorem paired_kvs {K : PySem.W.Frag} {H : Hp} : ∀ {G : List (Str × Str)} {xs : List V}, Ats K H xs (G.map prD) → ∃ ps : List Addr, xs = ps.map V.ref ∧ Paired (fun p kv => SqT K H p [kV kv.1, kv.2]) ps (kvs G)
  | [], _, .nil => ⟨[], rfl, .nil⟩
  | p :: G, _, .cons h t => by
    obtain ⟨a, y1, y2, rfl, hs, h1, h2⟩ := h.tup2
    obtain rfl := h1.inv_str
    obtain rfl := h2.inv_str
    obtain ⟨ps, rfl, hp⟩ := paired_kvs t
    exact ⟨a :: ps, rfl, .cons hs hp⟩
section
variable {P : Program} {w : World} {K : PySem.W.Frag} {mg : Str → Option Value} {base : Heap}
abbrev N_law_term : List Str := ["_law_feed_here", "_law_kinds_here", "_law_boxes_here", "_law_kind", "_law_room", "_law_deep", "_law_some", "_law_form", "_law_small_here", "_law_more", "_law_one", "_law_first", "_law_held", "_law_x", "_law_told", "_law_sort", "_law_parts_here", "_law_f", "_law_tags", "_law_part"]
theorem sc_law_term : FnScope N_law_term ["_law_feed_here", "_law_kinds_here", "_law_boxes_here", "_law_kind", "_law_room", "_law_deep"] (defScope s_law_term) := ⟨rfl, rfl, rfl, by decide +kernel, rfl, by decide +kernel, by decide +kernel⟩
-- slots: 0 _law_feed_here, 1 _law_kinds_here*, 2 _law_boxes_here, 3 _law_kind*, 4 _law_room, 5 _law_deep, 6 _law_some, 7 _law_form, 8 _law_small_here, 9 _law_more, 10 _law_one, 11 _law_first, 12 _law_held, 13 _law_x*, 14 _law_told, 15 _law_sort*, 16 _law_parts_here, 17 _law_f, 18 _law_tags, 19 _law_part
theorem c_law_term (T : Txt K mg) : ∀ m : Nat, Cal P w K mg base (2 * m + 10) "_law_term" (S6 (prTerm K m))
  | 0 => T.c_law_term fun fd F => FnOk.no (S6.no fun a b c d e g H Q ⟨f, rs, G, k, room, deep, _, _, _, _, _, _, h, _⟩ => by omega)
  | m + 1 => T.c_law_term fun fd F => F.ok6 sc_law_term fun cdv A outer s H a b c d e g Q E hr h => by
    obtain ⟨f, rs, G, k, room, deep, rfl, ti, rfl, vk, rfl, rfl, hm, hsm, hrm, q⟩ := h
    have C_law_term := c_law_term T m
    have C_law_whole_term := c_law_whole_term T (by omega) C_law_term
    have C_law_arms := c_law_arms T (by omega) C_law_term
    have C_law_take := c_law_take (P := P) (w := w) (base := base) T
    have C_law_boxed := c_law_boxed (P := P) (w := w) (base := base) T
    have C_law_sort_of := c_law_sort_of (P := P) (w := w) (base := base) T
    have C_law_small := c_law_small (P := P) (w := w) (base := base) T 5
    have z : sizeLine = 16777216 := by decide
    have hd2 := ti.d2
    have ok := ti.ok
    have hrk : ∀ k, rk rs k < 5 := fun k => by have := rk_le rs k; have := ti.kf; omega
    obtain ⟨pb, bs, rfl, npb, hbs, hbat⟩ := ti.bx
    have hbl : bs.length = G.length := by rw [hbat.length, List.length_map]
    have fewg := ti.g.few
    have kok : okS k = true := vk.okS ok
    have box : ∀ {H' : Hp} (e : Ext [f] H H') (i : Nat) (x : V), bs[i]? = some x → ∃ pr p1, G[i]? = some pr ∧ x = .ref p1 ∧ SqT K H' p1 [.str pr.1, .str pr.2] ∧ Vk rs pr.2 := fun e i x hx => by
      obtain ⟨d, hdx, hat⟩ := (e.ats hbat).get i x hx
      obtain ⟨pr, hkp, rfl⟩ := map_at hdx
      obtain ⟨p1, y1, y2, rfl, hs1, hy1, hy2⟩ := hat.tup2
      obtain rfl := hy1.inv_str
      obtain rfl := hy2.inv_str
      exact ⟨pr, p1, hkp, rfl, hs1, ti.g.vk pr (List.mem_of_getElem? hkp)⟩
    refine ⟨_, (pss_cons (ps_setLc (i := 6) rfl sc_law_term.nd rfl rfl (sw_true rfl rfl rfl (by decide +kernel)) (pi_list (pv 2)) (blkOk_by (N := N_law_term) (sc := defScope s_law_term) (own := [("_law_x", 13), ("_law_told", 14)]) (by decide +kernel)) (fun _ _ _ _ _ => (pg_tupK (n := 2) K rfl (pgs_cons (pg_name (i := 13) sc_law_term.nd rfl (by first | exact Or.inl rfl | exact Or.inr rfl)) (pgs_cons (pg_name (i := 14) sc_law_term.nd rfl (by first | exact Or.inl rfl | exact Or.inr rfl)) pgs_nil)))) (fun _ _ _ _ _ => (pts_one (pt_cmpR op_eq (pv 14) (pv 3) (nomark _)))) (fun _ _ _ _ _ => (pv 13)))
    (pss_cons (ps_set (i := 7) sc_law_term.nd rfl (Or.inl rfl) (pe_c C_law_take (hr.mono (by omega)) rfl (pa_cons (pv 0) (pa_cons pe_int pa_nil))))
    (C8.pss_cut (ps_if (PW.pt (pw_and (pt_cmpR op_gt (pe_callB call_len_seq (by rfl) T.z_len PySem.boot_len (pa_cons (pv 6) pa_nil)) pe_int (nomark _)) (pw_and1 (pt_cmpR op_lt (pv 7) pe_int (nomark _)))))
    (pss_one (ps_ret (pe_c C_law_boxed (hr.mono (by omega)) rfl (pa_cons (pv 0) (pa_cons (pv 6) pa_nil)))))
    pss_nil)
    (pss_cons (ps_set (i := 8) sc_law_term.nd rfl (Or.inl rfl) (pe_c C_law_small (hr.mono (by omega)) rfl (pa_cons (pv 1) (pa_cons (pv 3) pa_nil))))
    (C8.pss_cut (ps_if (PW.pt (pw_and (pt_cmpR op_eq (pv 7) pe_int (nomark _)) (pw_and (pt_cmpR op_gt (pv 5) pe_int (nomark _)) (pw_and1 (pt_cmpR op_gt (pv 4) (pe_op op_add (pe_op op_mul pe_int (pv 8)) pe_int) (nomark _))))))
    (pss_cons (ps_set (i := 9) sc_law_term.nd rfl (Or.inl rfl) (pe_op op_fdivW (pe_op op_sub (pe_op op_sub (pv 4) pe_int) (pe_op op_mul pe_int (pv 8))) pe_int))
    (pss_cons (ps_set (i := 10) sc_law_term.nd rfl (Or.inl rfl) (pe_c C_law_term (hr.mono (by omega)) rfl (pa_cons (pv 0) (pa_cons (pv 1) (pa_cons (pv 2) (pa_cons pe_str (pa_cons (pe_op op_add pe_int (pv 9)) (pa_cons (pe_op op_sub (pv 5) pe_int) pa_nil))))))))
    (pss_cons (ps_set (i := 11) sc_law_term.nd rfl (Or.inl rfl) (pe_c C_law_term (hr.mono (by omega)) rfl (pa_cons (pv 0) (pa_cons (pv 1) (pa_cons (pv 2) (pa_cons (pv 3) (pa_cons (pe_op op_add (pv 8) (pv 9)) (pa_cons (pe_op op_sub (pv 5) pe_int) pa_nil))))))))
    (pss_one (ps_ret (pe_tup (pa_cons pe_str (pa_cons (pv 10) (pa_cons (pv 11) (pa_cons (pe_c C_law_term (hr.mono (by omega)) rfl (pa_cons (pv 0) (pa_cons (pv 1) (pa_cons (pv 2) (pa_cons (pv 3) (pa_cons (pe_op op_add (pv 8) (pv 9)) (pa_cons (pe_op op_sub (pv 5) pe_int) pa_nil))))))) pa_nil))))))))))
    pss_nil)
    (C8.pss_cut (ps_if (PW.pt (pw_and (pt_cmpR op_eq (pv 7) pe_int (nomark _)) (pw_and1 (pt_cmpR op_gt (pv 4) pe_int (nomark _)))))
    (pss_cons (ps_set (i := 12) sc_law_term.nd rfl (Or.inl rfl) (pe_lst pa_nil))
    (pss_cons (ps_for PassesOwn.never rfl (pi_list (pv 2)) (pg_tup rfl (pgs_cons (pg_name (i := 13) sc_law_term.nd rfl (by first | exact Or.inl rfl | exact Or.inr rfl)) (pgs_cons (pg_name (i := 14) sc_law_term.nd rfl (by first | exact Or.inl rfl | exact Or.inr rfl)) pgs_nil)))
    (pss_cons (ps_asg (pe_c C_law_sort_of (hr.mono (by omega)) rfl (pa_cons (pv 1) (pa_cons (pv 14) pa_nil))) (pg_tup rfl (pgs_cons (pg_name (i := 15) sc_law_term.nd rfl (by first | exact Or.inl rfl | exact Or.inr rfl)) (pgs_cons (pg_name (i := 16) sc_law_term.nd rfl (by first | exact Or.inl rfl | exact Or.inr rfl)) pgs_nil))))
    (pss_one (ps_set (i := 12) sc_law_term.nd rfl (Or.inl rfl) (pe_op op_cat (pv 12) (pe_lc rfl sc_law_term.nd (pi_tup (pv 16)) (blkOk_by (N := N_law_term) (sc := defScope s_law_term) (own := [("_law_f", 17), ("_law_part", 19)]) (by decide +kernel)) (fun _ _ _ _ _ => (pg_tupK (n := 2) K rfl (pgs_cons (pg_name (i := 17) sc_law_term.nd rfl (by first | exact Or.inl rfl | exact Or.inr rfl)) (pgs_cons (pg_name (i := 19) sc_law_term.nd rfl (by first | exact Or.inl rfl | exact Or.inr rfl)) pgs_nil)))) (fun _ _ _ _ _ => (pts_one (PW.pt (pw_and (pt_cmpR op_eq (pv 15) pe_str (nomark _)) (pw_and1 (pt_cmpR op_eq (pv 19) (pv 3) (nomark _))))))) (fun _ _ _ _ _ => (pe_tup (pa_cons (pv 13) (pa_cons (pv 17) pa_nil))))))))))
    (pss_one (ps_if (pt_cmpR op_gt (pe_callB call_len_seq (by rfl) T.z_len PySem.boot_len (pa_cons (pv 12) pa_nil)) pe_int (nomark _))
    (pss_cons (ps_asg (pe_ix ix_list (pv 12) (pe_c C_law_take (hr.mono (by omega)) rfl (pa_cons (pv 0) (pa_cons (pe_callB call_len_seq (by rfl) T.z_len PySem.boot_len (pa_cons (pv 12) pa_nil)) pa_nil))) (fun _ _ => rfl)) (pg_tup rfl (pgs_cons (pg_name (i := 13) sc_law_term.nd rfl (by first | exact Or.inl rfl | exact Or.inr rfl)) (pgs_cons (pg_name (i := 17) sc_law_term.nd rfl (by first | exact Or.inl rfl | exact Or.inr rfl)) pgs_nil))))
    (pss_one (ps_ret (pe_tup (pa_cons pe_str (pa_cons (pe_tup (pa_cons pe_str (pa_cons (pv 13) pa_nil))) (pa_cons (pv 17) pa_nil)))))))
    pss_nil))))
    pss_nil)
    (C8.pss_cut (ps_if (PW.pt (pw_and (pt_cmpR op_eq (pv 7) pe_int (nomark _)) (pw_and1 (pt_cmpR op_gt (pv 5) pe_int (nomark _)))))
    (pss_cons (ps_setLc (i := 18) rfl sc_law_term.nd rfl rfl (sw_true rfl rfl rfl (by decide +kernel)) (pi_list (pv 2)) (blkOk_by (N := N_law_term) (sc := defScope s_law_term) (own := [("_law_x", 13), ("_law_told", 14)]) (by decide +kernel)) (fun _ _ _ _ _ => (pg_tupK (n := 2) K rfl (pgs_cons (pg_name (i := 13) sc_law_term.nd rfl (by first | exact Or.inl rfl | exact Or.inr rfl)) (pgs_cons (pg_name (i := 14) sc_law_term.nd rfl (by first | exact Or.inl rfl | exact Or.inr rfl)) pgs_nil)))) (fun _ _ _ _ _ => (pts_one (pt_cmpR op_eq (pe_ix (ix_tupK K) (pe_c C_law_sort_of (hr.mono (by omega)) rfl (pa_cons (pv 1) (pa_cons (pv 14) pa_nil))) pe_int (fun _ _ => rfl)) pe_str (nomark _)))) (fun _ _ _ _ _ => (pv 13)))
    (pss_one (ps_if (pt_cmpR op_gt (pe_callB call_len_seq (by rfl) T.z_len PySem.boot_len (pa_cons (pv 18) pa_nil)) pe_int (nomark _))
    (pss_cons (ps_set (i := 13) sc_law_term.nd rfl (Or.inr rfl) (pe_ix ix_list (pv 18) (pe_c C_law_take (hr.mono (by omega)) rfl (pa_cons (pv 0) (pa_cons (pe_callB call_len_seq (by rfl) T.z_len PySem.boot_len (pa_cons (pv 18) pa_nil)) pa_nil))) (fun _ _ => rfl)))
    (pss_cons (ps_set (i := 16) sc_law_term.nd rfl (Or.inl rfl) (pe_ix ix_tup (pe_c C_law_sort_of (hr.mono (by omega)) rfl (pa_cons (pv 1) (pa_cons (pe_dget (hu_of hr) (pe_callTy (call_dictP rfl) (by rfl) T.z_dict (by decide +kernel) (pa_cons (pv 2) pa_nil)) (pv 13) (fun _ _ => rfl)) pa_nil))) pe_int (fun _ _ => rfl)))
    (pss_one (ps_if (pt_cmpR op_ge (pe_op op_sub (pv 4) pe_int) (pe_op op_mul (pv 8) (pe_callB call_len_seq (by rfl) T.z_len PySem.boot_len (pa_cons (pv 16) pa_nil))) (nomark _))
    (pss_one (ps_ret (pe_tup (pa_cons pe_str (pa_cons (pe_tup (pa_cons pe_str (pa_cons (pv 13) pa_nil))) (pa_cons (pe_c C_law_arms (hr.mono (by omega)) rfl (pa_cons (pv 0) (pa_cons (pv 1) (pa_cons (pv 2) (pa_cons (pv 16) (pa_cons (pv 3) (pa_cons (pe_op op_sub (pv 4) pe_int) (pa_cons (pv 5) pa_nil)))))))) pa_nil))))))
    pss_nil))))
    pss_nil)))
    pss_nil)
    (pss_one (ps_ret (pe_c C_law_whole_term (hr.mono (by omega)) rfl (pa_cons (pv 0) (pa_cons (pv 1) (pa_cons (pv 2) (pa_cons (pv 3) (pa_cons (pv 4) (pa_cons (pv 5) pa_nil)))))))))))))))), ?_⟩
    -- the boxes of the kind
    refine ⟨_, rfl, pb, rfl, ⟨bs, .of hbs⟩, fun D hD => lc_list (K := K) (xs := bs) (fun i H' => Ext [] H H' ∧ ∃ zs : List Str, H' D = some (.lst (zs.map V.str)) ∧ zs.length ≤ i ∧ ∀ x ∈ zs, (x, k) ∈ G) ⟨(Ext.refl _ _).new hD, [], upd_same, Nat.le_refl _, fun _ h => by cases h⟩ (fun i H' _ h => .of (h.1.same _ _ hbs)) ?_ ?_⟩
    · rintro i x H' hx ⟨e1, zs, hDl, hzl, hz⟩
      obtain ⟨pr, p1, hkp, rfl, hs1, -⟩ := box e1.nil i x hx
      have hil := (List.getElem?_eq_some_iff.mp hkp).1
      refine ⟨p1, _, rfl, hs1, rfl, _, _, rfl, _, _, rfl, rfl, rfl, _, rfl, _, rfl, rfl, _, rfl, ite2 (fun hc => ?_) (fun hc => ?_)⟩
      · have e : pr.2 = k := V.str.inj (of_decide_eq_true hc)
        refine ⟨_, rfl, _, hDl, by rw [List.length_map]; omega, e1.own hD, zs ++ [pr.1], by rw [upd_same, List.map_append]; rfl, by rw [List.length_append, List.length_singleton]; omega, fun y hy => ?_⟩
        rcases List.mem_append.mp hy with h | h
        · exact hz y h
        · rw [List.mem_singleton.mp h, ← e]
          exact List.mem_of_getElem? hkp
      · exact ⟨e1, zs, hDl, by omega, hz⟩
    rintro H1 ⟨e1, zs, hDl, hzl, hz⟩
    have f1 := ti.fd.ext e1
    have npD := f1.strs hDl
    refine ⟨_, rfl, f, 6, rfl, rfl, by decide, by decide, f1, fun form H2 fm0 fm1 e2 f2 => ?_⟩
    have e02 := e1.nil.trans e2
    have hD2 := e2.get1 npD hDl
    refine ⟨fun σ' H' => Ext [f] H H' ∧ Fd H' f ∧ ∃ u6 u8 u9 u10 u11 u12 u13 u14 u15 u16 u17 u18 u19, σ' = [some (.ref f), some b, some (.ref pb), some (.str k), some (.int room), some (.int deep), u6, some (.int form), u8, u9, u10, u11, u12, u13, u14, u15, u16, u17, u18, u19], ?_, ?_⟩
    · refine ⟨_, rfl, D, _, rfl, .inl (.of hD2), _, _, rfl, rfl, _, rfl, ite2 (fun hc1 => ?_) (fun hc1 => iteF ?_)⟩
      · refine ⟨_, rfl, _, _, rfl, rfl, _, rfl, ite2 (fun hc2 => ?_) (fun hc2 => ?_)⟩
        · refine ⟨_, rfl, _, rfl, f, zs, rfl, f2, ⟨D, rfl, hD2⟩, ?_, by omega, fun v y H' hy e3 f3 hv => ?_⟩
          · rintro rfl
            exact absurd hc1 (by decide)
          · have hg : lk G y = some k := lk_of ti.g.nd (hz y hy)
            refine q v _ H' (e02.trans e3) f3 hv ⟨.box hg, ?_, ?_⟩
            · have := ti.g.okS (lk_mem hg)
              simp only [boxD, good, goods, Bool.and_eq_true, this, and_true, true_and]
              decide +kernel
            · have := (sm_le (rs := rs) k).1
              simp only [boxD, wt, wts]
              omega
        · exact ⟨e02, f2, _, _, _, _, _, _, _, _, _, _, _, _, _, rfl⟩
      · exact ⟨e02, f2, _, _, _, _, _, _, _, _, _, _, _, _, _, rfl⟩
    rintro σ' H3 ⟨e3, f3, u6, u8, u9, u10, u11, u12, u13, u14, u15, u16, u17, u18, u19, rfl⟩
    refine ⟨_, rfl, _, rfl, rs, k, ok, e3.at_ ti.ks, rfl, vk, hrk k, fun H4 e4 => ?_⟩
    have e04 := e3.trans e4.nil
    have f4 := f3.ext e4
    have sm1 := (sm_le (rs := rs) k).1
    clear e1 e2 f1 f2 e02 hD2 hDl npD hz hzl
    refine ⟨fun σ' H' => Ext [f] H H' ∧ Fd H' f ∧ ∃ u6 u9 u10 u11 u12 u13 u14 u15 u16 u17 u18 u19, σ' = [some (.ref f), some b, some (.ref pb), some (.str k), some (.int room), some (.int deep), u6, some (.int form), some (.int ((smR rs k : Nat) : Int)), u9, u10, u11, u12, u13, u14, u15, u16, u17, u18, u19], ?_, ?_⟩
    · have same : Ext [f] H H4 ∧ Fd H4 f ∧ ∃ v6 v9 v10 v11 v12 v13 v14 v15 v16 v17 v18 v19, [some (V.ref f), some b, some (.ref pb), some (.str k), some (.int room), some (.int deep), u6, some (.int form), some (.int ((smR rs k : Nat) : Int)), u9, u10, u11, u12, u13, u14, u15, u16, u17, u18, u19] = [some (V.ref f), some b, some (.ref pb), some (.str k), some (.int room), some (.int deep), v6, some (.int form), some (.int ((smR rs k : Nat) : Int)), v9, v10, v11, v12, v13, v14, v15, v16, v17, v18, v19] := ⟨e04, f4, _, _, _, _, _, _, _, _, _, _, _, _, rfl⟩
      refine ⟨_, rfl, rfl, _, rfl, ite2 (fun _ => ?_) (fun _ => iteF same)⟩
      refine ⟨_, rfl, _, _, rfl, rfl, _, rfl, ite2 (fun hc2 => ?_) (fun _ => iteF same)⟩
      refine ⟨_, rfl, _, rfl, _, _, rfl, rfl, .inl (by constructor <;> omega), _, _, rfl, rfl, _, _, rfl, rfl, _, rfl, ite2 (fun hc3 => ?_) (fun _ => same)⟩
      have hdp : (0 : Int) < (deep : Int) := of_decide_eq_true hc2
      have hrb : (2 : Int) * ((smR rs k : Nat) : Int) + 1 < (room : Int) := of_decide_eq_true hc3
      obtain ⟨more, hmo⟩ : ∃ more : Nat, ((room : Int) - 2 - 2 * ((smR rs k : Nat) : Int)) / 3 = (more : Int) := ⟨(((room : Int) - 2 - 2 * ((smR rs k : Nat) : Int)) / 3).toNat, by omega⟩
      have hm3 : 3 * more + 2 + 2 * smR rs k ≤ room := by omega
      have hvd : ((deep : Int) - 1) = ((deep - 1 : Nat) : Int) := by omega
      have hv1 : 1 + ((room : Int) - 2 - 2 * ((smR rs k : Nat) : Int)) / 3 = ((1 + more : Nat) : Int) := by omega
      have hv2 : ((smR rs k : Nat) : Int) + ((room : Int) - 2 - 2 * ((smR rs k : Nat) : Int)) / 3 = ((smR rs k + more : Nat) : Int) := by omega
      have k4 := ti.kf
      have rkk := rk_le rs k
      refine ⟨_, rfl, _, _, rfl, rfl, _, rfl, _, _, rfl, rfl, .inl (by constructor <;> omega), _, _, rfl, rfl, _, _, rfl, rfl, wide_div (b := 13) (by decide) (by decide) (by decide) (by decide), ?_⟩
      refine ⟨_, rfl, _, rfl, _, rfl, _, rfl, _, _, rfl, rfl, _, rfl, _, _, rfl, rfl, f, rs, G, "num", 1 + more, deep - 1, rfl, (ti.ext e04 f4).less, rfl, .inl rfl, congrArg V.int hv1, congrArg V.int hvd, ?_, ?_, ?_, fun va ta H5 e5 f5 hta oka => ?_⟩
      · rw [(sz_num ok).2.2]; omega
      · rw [(sz_num ok).2.1]; omega
      · omega
      have e05 := e04.trans e5
      refine ⟨_, rfl, _, rfl, _, rfl, _, rfl, _, rfl, _, rfl, _, _, rfl, rfl, _, rfl, _, _, rfl, rfl, f, rs, G, k, smR rs k + more, deep - 1, rfl, (ti.ext e05 f5).less, rfl, vk, congrArg V.int hv2, congrArg V.int hvd, ?_, ?_, ?_, fun vb tb H6 e6 f6 htb okb => ?_⟩
      · omega
      · omega
      · omega
      have e06 := e05.trans e6
      refine ⟨_, rfl, _, rfl, _, rfl, _, rfl, _, rfl, _, rfl, _, rfl, _, rfl, _, _, rfl, rfl, _, rfl, _, _, rfl, rfl, f, rs, G, k, smR rs k + more, deep - 1, rfl, (ti.ext e06 f6).less, rfl, vk, congrArg V.int hv2, congrArg V.int hvd, ?_, ?_, ?_, fun vc tc H7 e7 f7 htc okc => ?_⟩
      · omega
      · omega
      · omega
      refine ⟨by show 4 ≤ sizeLine; decide, fun p3 hp3 => ?_⟩
      refine q _ (.tuple [.str "if", ta, tb, tc]) _ ((e06.trans e7).new hp3) (f7.new hp3) (At.mk hp3 (.cons (.str _) (.cons ((e6.trans e7).at_ hta) (.cons (e7.at_ htb) (.cons htc .nil))))) ⟨.iff oka.w okb.w okc.w, ?_, ?_⟩
      · simp only [good, goods, Bool.and_eq_true, oka.g, okb.g, okc.g, and_true, true_and]
        decide +kernel
      · have h1 := oka.z
        have h2 := okb.z
        have h3 := okc.z
        simp only [wt, wts]
        omega
    clear e3 f3 e4 f4 e04 u6 u8 u9 u10 u11 u12 u13 u14 u15 u16 u17 u18 u19 H1 H2 H3 H4 zs D hD
    rintro σ' H1 ⟨e1, f1, u6, u9, u10, u11, u12, u13, u14, u15, u16, u17, u18, u19, rfl⟩
    -- a field of a box
    refine ⟨fun σ' H' => Ext [f] H H' ∧ Fd H' f ∧ ∃ u6 u9 u10 u11 u12 u13 u14 u15 u16 u17 u18 u19, σ' = [some (.ref f), some b, some (.ref pb), some (.str k), some (.int room), some (.int deep), u6, some (.int form), some (.int ((smR rs k : Nat) : Int)), u9, u10, u11, u12, u13, u14, u15, u16, u17, u18, u19], ?_, ?_⟩
    · have same : Ext [f] H H1 ∧ Fd H1 f ∧ ∃ v6 v9 v10 v11 v12 v13 v14 v15 v16 v17 v18 v19, [some (V.ref f), some b, some (.ref pb), some (.str k), some (.int room), some (.int deep), u6, some (.int form), some (.int ((smR rs k : Nat) : Int)), u9, u10, u11, u12, u13, u14, u15, u16, u17, u18, u19] = [some (V.ref f), some b, some (.ref pb), some (.str k), some (.int room), some (.int deep), v6, some (.int form), some (.int ((smR rs k : Nat) : Int)), v9, v10, v11, v12, v13, v14, v15, v16, v17, v18, v19] := ⟨e1, f1, _, _, _, _, _, _, _, _, _, _, _, _, rfl⟩
      refine ⟨_, rfl, rfl, _, rfl, ite2 (fun _ => ?_) (fun _ => iteF same)⟩
      refine ⟨_, rfl, _, _, rfl, rfl, _, rfl, ite2 (fun hc2 => ?_) (fun _ => same)⟩
      have hr1 : (1 : Int) < (room : Int) := of_decide_eq_true hc2
      clear same
      refine ⟨by show 0 ≤ sizeLine; decide, fun ph hph => ?_⟩
      have e2 := e1.new (o := .lst []) hph
      refine ⟨_, rfl, pb, rfl, ⟨bs, .of (e2.get1 npb hbs)⟩, for_list (K := K) (xs := bs) (fun i σ H' => Ext [f] H H' ∧ Fd H' f ∧ ∃ (pp : Addr) (vs : List V) (hs : List (Str × Str)), H' pp = some (.lst vs) ∧ pp ≠ f ∧ Ats K H' vs (hs.map prD) ∧ (∀ y ∈ hs, GetOk rs G k y) ∧ hs.length ≤ 4 * i ∧
        ∃ v13 v14 v15 v16 v17 v18 v19, σ = [some (.ref f), some b, some (.ref pb), some (.str k), some (.int room), some (.int deep), u6, some (.int form), some (.int ((smR rs k : Nat) : Int)), u9, u10, u11, some (.ref pp), v13, v14, v15, v16, v17, v18, v19]) ⟨e2, f1.new hph, ph, [], [], upd_same, none_ne f1 hph, .nil, (fun _ h => by cases h), Nat.zero_le _, _, _, _, _, _, _, _, rfl⟩ (fun i σ H' _ h => .of (h.1.get1 npb hbs)) ?_ ?_⟩
      · rintro i x σ H3 hx ⟨e3, f3, pp, vs, hs, hpp, npp, hats, hgo, hhl, v13, v14, v15, v16, v17, v18, v19, rfl⟩
        obtain ⟨pr, p1, hkp, rfl, hs1, vk1⟩ := box e3 i x hx
        have hil := (List.getElem?_eq_some_iff.mp hkp).1
        refine ⟨p1, _, rfl, hs1, rfl, _, _, rfl, _, _, rfl, rfl, ?_⟩
        refine ⟨_, rfl, _, rfl, rs, pr.2, ok, .of (e3.at_ ti.ks), rfl, fun v H4 e4 hv => ?_⟩
        obtain ⟨p2, y1, y2, rfl, hs2, hy1, hy2⟩ := hv.tup2
        obtain rfl := hy1.inv_str
        obtain ⟨p3, ys, rfl, hs3, hd3⟩ := hy2.inv_tup
        have hyl : ys.length = (pts rs pr.2).length := by rw [hd3.length, List.length_map]
        refine ⟨p2, _, rfl, hs2, rfl, _, _, rfl, _, _, rfl, rfl, ?_⟩
        have few4 : (pts rs pr.2).length ≤ 4 := by
          rcases pts_at ok vk1 with ⟨_, _, _, h⟩ | ⟨kd, _, kat, _, h⟩
          · rw [h]; decide
          · rw [h]; exact kat.few
        have hvl : vs.length = hs.length := by rw [hats.length, List.length_map]
        refine ⟨_, rfl, _, rfl, p3, rfl, ⟨ys, hs3⟩, fun D hD => lc_tup (K := K) (xs := ys) (fun j H' => Ext [] H4 H' ∧ ∃ (ws : List V) (gs : List (Str × Str)), H' D = some (.lst ws) ∧ Ats K H' ws (gs.map prD) ∧ (∀ y ∈ gs, GetOk rs G k y) ∧ gs.length ≤ j) ⟨(Ext.refl _ _).new hD, [], [], upd_same, .nil, (fun _ h => by cases h), Nat.le_refl _⟩ (fun j H' _ h => h.1.sqt hs3) ?_ ?_⟩
        · rintro j x H' hx ⟨e5, ws, gs, hDl, hws, hgs, hgl⟩
          obtain ⟨d, hdx, hat⟩ := (e5.ats hd3).get j x hx
          obtain ⟨pt, hkt, rfl⟩ := map_at hdx
          obtain ⟨p5, y1, y2, rfl, hs5, hy1, hy2⟩ := hat.tup2
          obtain rfl := hy1.inv_str
          obtain rfl := hy2.inv_str
          have hjl := (List.getElem?_eq_some_iff.mp hkt).1
          have no : Ext [] H4 H' ∧ ∃ (ws : List V) (gs : List (Str × Str)), H' D = some (.lst ws) ∧ Ats K H' ws (gs.map prD) ∧ (∀ y ∈ gs, GetOk rs G k y) ∧ gs.length ≤ j + 1 := ⟨e5, ws, gs, hDl, hws, hgs, by omega⟩
          refine ⟨p5, _, rfl, hs5, rfl, _, _, rfl, _, _, rfl, rfl, rfl, _, rfl, rfl, _, rfl, ite2 (fun hc3 => ?_) (fun _ => iteF no)⟩
          refine ⟨_, rfl, _, rfl, rfl, _, rfl, ite2 (fun hc4 => ?_) (fun _ => no)⟩
          have hsr : srt rs pr.2 = "rec" := V.str.inj (of_decide_eq_true hc3)
          have hpk : pt.2 = k := V.str.inj (of_decide_eq_true hc4)
          have go : GetOk rs G k (pr.1, pt.1) := by
            rcases pts_at ok vk1 with ⟨_, _, h, _⟩ | ⟨kd, hfk, kat, h1, h2⟩
            · rw [h] at hsr
              exact absurd hsr (by decide +kernel)
            · refine ⟨pr.2, kd, lk_of ti.g.nd (List.mem_of_getElem? hkp), hfk, ?_, ?_⟩
              · cases hb : kd.alt with
                | false => rfl
                | true =>
                  rw [h1, hb] at hsr
                  exact absurd hsr (by decide +kernel)
              · rw [h2] at hkt
                rw [← hpk]
                exact lk_of kat.nd (List.mem_of_getElem? hkt)
          refine ⟨_, rfl, _, rfl, by show 2 ≤ sizeLine; decide, fun p6 hp6 => ?_⟩
          have n6 : D ≠ p6 := ne_of_none hDl hp6
          have h6 : upd H' p6 (.tup [.str pr.1, .str pt.1]) D = some (.lst ws) := by rw [upd_ne n6]; exact hDl
          have at6 : At K (upd H' p6 (.tup [.str pr.1, .str pt.1])) (.ref p6) (prD (pr.1, pt.1)) := At.mk hp6 (.cons (.str _) (.cons (.str _) .nil))
          have ew : Ext [D] (upd H' p6 (.tup [.str pr.1, .str pt.1])) (upd (upd H' p6 (.tup [.str pr.1, .str pt.1])) D (.lst (ws ++ [.ref p6]))) := (Ext.refl _ _).put (by simp) h6
          refine ⟨_, h6, ?_, (e5.new hp6).own hD, ws ++ [.ref p6], gs ++ [(pr.1, pt.1)], upd_same, ?_, fun y hy => ?_, by rw [List.length_append, List.length_singleton]; omega⟩
          · rw [hws.length, List.length_map]
            omega
          · rw [List.map_append]
            exact ew.ats ((((Ext.refl [] H').new hp6).ats hws).snoc at6)
          · rcases List.mem_append.mp hy with h | h
            · exact hgs y h
            · rw [List.mem_singleton.mp h]
              exact go
        · rintro H5 ⟨e5, ws, gs, hDl, hws, hgs, hgl⟩
          have e45 := e4.trans e5
          have e05 := e3.trans e45.nil
          have hwl : ws.length = gs.length := by rw [hws.length, List.length_map]
          refine ⟨pp, D, _, _, rfl, rfl, e45.same _ _ hpp, hDl, by omega, fun p7 hp7 => ?_⟩
          have e7 : Ext [] H5 (upd H5 p7 (.lst (vs ++ ws))) := (Ext.refl _ _).new hp7
          refine ⟨e05.new hp7, (f3.ext e45).new hp7, p7, vs ++ ws, hs ++ gs, upd_same, none_ne (f3.ext e45) hp7, ?_, fun y hy => ?_, by rw [List.length_append]; omega, _, _, _, _, _, _, _, rfl⟩
          · rw [List.map_append]
            exact e7.ats ((e45.ats hats).append hws)
          · rcases List.mem_append.mp hy with h | h
            · exact hgo y h
            · exact hgs y h
      · rintro σ H3 ⟨e3, f3, pp, vs, hs, hpp, npp, hats, hgo, hhl, v13, v14, v15, v16, v17, v18, v19, rfl⟩
        have hvl : vs.length = hs.length := by rw [hats.length, List.length_map]
        refine ⟨_, rfl, pp, _, rfl, .inl (.of hpp), _, _, rfl, rfl, _, rfl, ite2 (fun hc3 => ?_) (fun _ => ⟨e3, f3, _, _, _, _, _, _, _, _, _, _, _, _, rfl⟩)⟩
        have hpos : (0 : Int) < (vs.length : Int) := of_decide_eq_true hc3
        refine ⟨_, rfl, _, rfl, _, rfl, pp, _, rfl, .inl (.of hpp), f, _, rfl, rfl, hpos, by omega, f3, fun d H4 d0 d1 e4 f4 => ?_⟩
        have hdl : d.toNat < hs.length := by omega
        obtain ⟨x, hx, hat⟩ := hats.get' d.toNat (prD hs[d.toNat]) (by rw [List.getElem?_map, List.getElem?_eq_getElem hdl]; rfl)
        have hg := hgo _ (List.getElem_mem hdl)
        generalize hs[d.toNat] = y at hat hg
        obtain ⟨p1, y1, y2, rfl, hs1, hy1, hy2⟩ := hat.tup2
        obtain rfl := hy1.inv_str
        obtain rfl := hy2.inv_str
        refine ⟨pp, _, _, _, rfl, rfl, .of (e4.get1 npp hpp), at_of (j := d.toNat) (by omega) hx, p1, _, rfl, e4.sqt hs1, rfl, _, _, rfl, _, _, rfl, rfl, ?_⟩
        obtain ⟨k', kd, g1, g2, g3, g4⟩ := hg
        have kat := kd_at ok g2
        refine ⟨_, rfl, by show 2 ≤ sizeLine; decide, fun p5 hp5 => ⟨_, rfl, by show 3 ≤ sizeLine; decide, fun p6 hp6 => ?_⟩⟩
        have e6 : Ext [] H4 (upd (upd H4 p5 (.tup [.str "box", .str y.1])) p6 (.tup [.str "get", .ref p5, .str y.2])) := ((Ext.refl _ _).new hp5).new hp6
        refine q _ (.tuple [.str "get", boxD y.1, .str y.2]) _ ((e3.trans e4).trans e6.nil) (f4.ext e6) (At.mk hp6 (.cons (.str _) (.cons (At.mk hp5 (.cons (.str _) (.cons (.str _) .nil))) (.cons (.str _) .nil)))) ⟨.get g1 g2 g3 g4, ?_, ?_⟩
        · have a1 := ti.g.okS (lk_mem g1)
          have a2 := (kat.pn _ (lk_mem g4)).okS
          simp only [boxD, good, goods, Bool.and_eq_true, a1, a2, and_true, true_and]
          decide +kernel
        · simp only [boxD, wt, wts]
          omega
    clear e1 f1 u6 u9 u10 u11 u12 u13 u14 u15 u16 u17 u18 u19 H1
    rintro σ' H1 ⟨e1, f1, u6, u9, u10, u11, u12, u13, u14, u15, u16, u17, u18, u19, rfl⟩
    -- a case
    refine ⟨fun σ' H' => Ext [f] H H' ∧ Fd H' f ∧ ∃ u6 u9 u10 u11 u12 u13 u14 u15 u16 u17 u18 u19, σ' = [some (.ref f), some b, some (.ref pb), some (.str k), some (.int room), some (.int deep), u6, some (.int form), some (.int ((smR rs k : Nat) : Int)), u9, u10, u11, u12, u13, u14, u15, u16, u17, u18, u19], ?_, ?_⟩
    · have same : Ext [f] H H1 ∧ Fd H1 f ∧ ∃ v6 v9 v10 v11 v12 v13 v14 v15 v16 v17 v18 v19, [some (V.ref f), some b, some (.ref pb), some (.str k), some (.int room), some (.int deep), u6, some (.int form), some (.int ((smR rs k : Nat) : Int)), u9, u10, u11, u12, u13, u14, u15, u16, u17, u18, u19] = [some (V.ref f), some b, some (.ref pb), some (.str k), some (.int room), some (.int deep), v6, some (.int form), some (.int ((smR rs k : Nat) : Int)), v9, v10, v11, v12, v13, v14, v15, v16, v17, v18, v19] := ⟨e1, f1, _, _, _, _, _, _, _, _, _, _, _, _, rfl⟩
      refine ⟨_, rfl, rfl, _, rfl, ite2 (fun _ => ?_) (fun _ => iteF same)⟩
      refine ⟨_, rfl, _, _, rfl, rfl, _, rfl, ite2 (fun hc2 => ?_) (fun _ => same)⟩
      have hdp : (0 : Int) < (deep : Int) := of_decide_eq_true hc2
      clear same
      refine ⟨_, rfl, pb, rfl, ⟨bs, .of (e1.get1 npb hbs)⟩, fun D hD => lc_list (K := K) (xs := bs) (fun i H' => Ext [] H1 H' ∧ ∃ zs : List Str, H' D = some (.lst (zs.map V.str)) ∧ zs.length ≤ i ∧ ∀ x ∈ zs, ∃ k' kd, lk G x = some k' ∧ findR rs k' = some kd ∧ kd.alt = true) ⟨(Ext.refl _ _).new hD, [], upd_same, Nat.le_refl _, fun _ h => by cases h⟩ (fun i H' _ h => .of ((e1.trans h.1.nil).get1 npb hbs)) ?_ ?_⟩
      · rintro i x H' hx ⟨e2, zs, hDl, hzl, hz⟩
        obtain ⟨pr, p1, hkp, rfl, hs1, vk1⟩ := box (e1.trans e2.nil) i x hx
        have hil := (List.getElem?_eq_some_iff.mp hkp).1
        refine ⟨p1, _, rfl, hs1, rfl, _, _, rfl, _, _, rfl, rfl, rfl, _, rfl, _, rfl, rs, pr.2, ok, .of ((e1.trans e2.nil).at_ ti.ks), rfl, fun v H4 e4 hv => ?_⟩
        obtain ⟨p2, y1, y2, rfl, hs2, hy1, hy2⟩ := hv.tup2
        obtain rfl := hy1.inv_str
        refine ⟨p2, _, _, _, rfl, rfl, hs2, atI_nat (j := 0) rfl, rfl, _, rfl, ite2 (fun hc3 => ?_) (fun hc3 => ⟨e2.trans e4, zs, e4.same _ _ hDl, by omega, hz⟩)⟩
        have hsr : srt rs pr.2 = "alt" := V.str.inj (of_decide_eq_true hc3)
        refine ⟨_, rfl, _, e4.same _ _ hDl, by rw [List.length_map]; omega, (e2.trans e4).own hD, zs ++ [pr.1], by rw [upd_same, List.map_append]; rfl, by rw [List.length_append, List.length_singleton]; omega, fun y hy => ?_⟩
        rcases List.mem_append.mp hy with h | h
        · exact hz y h
        · rw [List.mem_singleton.mp h]
          rcases pts_at ok vk1 with ⟨_, _, h, _⟩ | ⟨kd, hfk, kat, h1, h2⟩
          · rw [h] at hsr
            exact absurd hsr (by decide +kernel)
          · refine ⟨pr.2, kd, lk_of ti.g.nd (List.mem_of_getElem? hkp), hfk, ?_⟩
            cases hb : kd.alt with
            | true => rfl
            | false =>
              rw [h1, hb] at hsr
              exact absurd hsr (by decide +kernel)
      rintro H2 ⟨e2, zs, hDl, hzl, hz⟩
      have f2 := f1.ext e2
      have e02 := e1.trans e2.nil
      have npD := f2.strs hDl
      refine ⟨_, rfl, D, _, rfl, .inl (.of hDl), _, _, rfl, rfl, _, rfl, ite2 (fun hc3 => ?_) (fun _ => ⟨e02, f2, _, _, _, _, _, _, _, _, _, _, _, _, rfl⟩)⟩
      have hpos : (0 : Int) < ((zs.map V.str).length : Int) := of_decide_eq_true hc3
      have hzz : (zs.map V.str).length = zs.length := List.length_map _
      refine ⟨_, rfl, _, rfl, _, rfl, D, _, rfl, .inl (.of hDl), f, _, rfl, rfl, hpos, by omega, f2, fun d H3 d0 d1 e3 f3 => ?_⟩
      have hdl : d.toNat < zs.length := by omega
      obtain ⟨k', kd, g1, g2, g3⟩ := hz _ (List.getElem_mem hdl)
      have hzx : (zs.map V.str)[d.toNat]? = some (.str zs[d.toNat]) := by rw [List.getElem?_map, List.getElem?_eq_getElem hdl]; rfl
      generalize zs[d.toNat] = x at g1 hzx
      have e03 := e02.trans e3
      refine ⟨D, _, _, _, rfl, rfl, .of (e3.get1 npD hDl), at_of (j := d.toNat) (by omega) hzx, ?_⟩
      obtain ⟨ps, hps, hpd⟩ := paired_kvs (e03.ats hbat)
      refine ⟨_, rfl, _, rfl, pb, ps, kvs G, rfl, .of (by rw [← hps]; exact e03.get1 npb hbs), hpd, fun D2 hD2 => ?_⟩
      have emk : mergeK [] (kvs G) = kvs G := merge_kvs G [] ti.g.nd
      rw [emk]
      have e4 : Ext [] H3 (upd H3 D2 (.dK (kvs G))) := (Ext.refl _ _).new hD2
      have e04 := e03.trans e4.nil
      have hg : DGet (upd H3 D2 (.dK (kvs G))) D2 (.str x) (some (.str k')) := by
        have := DGet.k (k := Sum.inr x) (upd_same (H := H3) (a := D2) (o := .dK (kvs G)))
        rw [val_kvs, g1] at this
        exact this
      refine ⟨_, rfl, D2, _, rfl, hg, rs, k', ok, .of (e04.at_ ti.ks), rfl, fun v H5 e5 hv => ?_⟩
      obtain ⟨p2, y1, y2, rfl, hs2, hy1, hy2⟩ := hv.tup2
      have hpt : pts rs k' = kd.parts := by unfold pts; rw [g2]
      rw [hpt] at hy2
      obtain ⟨p3, ys, rfl, hs3, hd3⟩ := hy2.inv_tup
      have hyl : ys.length = kd.parts.length := by rw [hd3.length, List.length_map]
      have kat := kd_at ok g2
      have few4 := kat.few
      have e05 := e04.trans e5.nil
      have f5 := (f3.ext e4).ext e5
      refine ⟨p2, _, _, _, rfl, rfl, hs2, atI_nat (j := 1) rfl, ?_⟩
      refine ⟨_, rfl, _, _, rfl, rfl, _, rfl, _, rfl, p3, ys, rfl, .inr hs3, _, _, rfl, rfl, .inl (by constructor <;> omega), _, _, rfl, rfl, _, rfl, ite2 (fun hc4 => ?_) (fun _ => ⟨e05, f5, _, _, _, _, _, _, _, _, _, _, _, _, rfl⟩)⟩
      have hle : ((smR rs k : Nat) : Int) * (ys.length : Int) ≤ (room : Int) - 2 := of_decide_eq_true hc4
      have hle2 : smR rs k * kd.parts.length ≤ room - 2 := by
        rw [hyl] at hle
        have : ((smR rs k * kd.parts.length : Nat) : Int) ≤ (room : Int) - 2 := by rw [Int.natCast_mul]; exact hle
        omega
      have hpos2 : 0 < smR rs k * kd.parts.length := Nat.mul_pos (by omega) (List.length_pos_iff.mpr (kat.ne g3))
      obtain ⟨dd, rfl⟩ : ∃ dd, deep = dd + 1 := ⟨deep - 1, by omega⟩
      have hvr : ((room : Int) - 2) = ((room - 2 : Nat) : Int) := by omega
      refine ⟨_, rfl, by show 2 ≤ sizeLine; decide, fun p5 hp5 => ?_⟩
      have e6 : Ext [] H5 (upd H5 p5 (.tup [.str "box", .str x])) := (Ext.refl _ _).new hp5
      have e06 := e05.trans e6.nil
      have f6 := f5.ext e6
      refine ⟨_, rfl, _, rfl, _, rfl, _, rfl, _, rfl, _, rfl, _, _, rfl, rfl, _, rfl, f, rs, G, k, k', kd, room - 2, dd, rfl, ti.ext e06 f6, e6.at_ hy2, g2, g3, rfl, vk, congrArg V.int hvr, rfl, by omega, hle2, by omega, fun va arms H7 e7 f7 hta aok => ?_⟩
      refine ⟨by show 3 ≤ sizeLine; decide, fun p8 hp8 => ?_⟩
      have at5 : At K (upd H5 p5 (.tup [.str "box", .str x])) (.ref p5) (boxD x) := At.mk hp5 (.cons (.str _) (.cons (.str _) .nil))
      refine q _ (.tuple [.str "case", boxD x, .tuple (arms.map armD)]) _ ((e06.trans e7).new hp8) (f7.new hp8) (At.mk hp8 (.cons (.str _) (.cons (e7.at_ at5) (.cons hta .nil)))) ⟨.case g1 g2 g3 aok.ne aok.len aok.nd aok.all aok.bx aok.w, ?_, ?_⟩
      · have a1 := ti.g.okS (lk_mem g1)
        simp only [boxD, good, goods, Bool.and_eq_true, a1, aok.g, and_true, true_and]
        decide +kernel
      · have := aok.z
        simp only [boxD, wt, wts]
        omega
    rintro σ' H2 ⟨e2, f2, u6, u9, u10, u11, u12, u13, u14, u15, u16, u17, u18, u19, rfl⟩
    exact ⟨_, rfl, _, rfl, _, rfl, _, rfl, _, rfl, _, rfl, f, rs, G, k, room, deep, rfl, ti.ext e2 f2, rfl, vk, rfl, rfl, hm, hsm, hrm, fun v t H' e3 f3 hv ho => q v t H' (e2.trans e3) f3 hv ho⟩
end
end Sw

-- part SwG8
set_option Elab.async false
set_option linter.all false
set_option maxRecDepth 100000
set_option maxHeartbeats 4000000
namespace Sw
open PySem PySem.Spec PyProof.Rows L2
/-- an address that is new needs no leave -/
theorem Ext.drop {F : List Addr} {H H1 H2 : Hp} {f : Addr} (e : Ext F H H1) (g : Ext (f :: F) H1 H2) (hf : H f = none) : Ext F H H2 := fun a o q => by
  have n : a ≠ f := ne_of_none q hf
  rcases e a o q with q1 | ⟨m, i, ys, q1⟩
  · rcases g a o q1 with q2 | ⟨m, i, ys, q2⟩
    · exact .inl q2
    · rcases List.mem_cons.mp m with h | h
      · exact absurd h n
      · exact .inr ⟨h, i, ys, q2⟩
  · rcases g a _ q1 with q2 | ⟨_, _, zs, q2⟩
    · exact .inr ⟨m, i, _, q2⟩
    · exact .inr ⟨m, i, zs, q2⟩
structure BxOk (rs : List Kd) (bx : List (Str × Str)) : Prop where
  nd : (bx.map (·.1)).Nodup
  nm : ∀ x ∈ bx, NameP x.1
  vk : ∀ x ∈ bx, Vk rs x.2
  few : bx.length ≤ 5
theorem BxOk.g {rs : List Kd} {bx : List (Str × Str)} (o : BxOk rs bx) : GOk rs 2 bx := ⟨o.nd, o.vk, fun x hx => .inl (o.nm x hx), by have := o.few; omega⟩
/-- channels as the law makes them, among hands of these names -/
structure ChsG (ns : List Str) (rs : List Kd) (hn : Nat) (chs : List Ch) : Prop where
  nm : chs.map Ch.name = (ns.drop 12).take chs.length
  few : chs.length ≤ 5
  src : ∀ c ∈ chs, c.src ∈ ns.take hn
  dst : ∀ c ∈ chs, c.dst ∈ ns.take hn
  vk : ∀ c ∈ chs, Vk rs c.kind
section
variable {P : Program} {w : World} {K : PySem.W.Frag} {mg : Str → Option Value} {base : Heap}
abbrev N_law_new_term : List Str := ["_law_feed_here", "_law_kinds_here", "_law_boxes_here", "_law_kind"]
theorem sc_law_new_term : FnScope N_law_new_term ["_law_feed_here", "_law_kinds_here", "_law_boxes_here", "_law_kind"] (defScope s_law_new_term) := ⟨rfl, rfl, rfl, by decide +kernel, rfl, by decide +kernel, by decide +kernel⟩
-- slots: 0 _law_feed_here, 1 _law_kinds_here, 2 _law_boxes_here, 3 _law_kind
def prNew (K : PySem.W.Frag) : V → V → V → V → Hp → VK → Prop := fun a b c d H Q => ∃ (f : Addr) (rs : List Kd) (G : List (Str × Str)) (k : Str), a = .ref f ∧ TIn K H f b c rs G 2 ∧ d = .str k ∧ Vk rs k ∧ ∀ v t H', Ext [f] H H' → Fd H' f → At K H' v t → TOk rs 15 G k 39 t → Q v H'
theorem c_law_new_term (T : Txt K mg) : Cal P w K mg base 41 "_law_new_term" (S4 (prNew K)) := T.c_law_new_term fun fd F => F.ok4 sc_law_new_term fun cdv A outer s H a b c d Q E hr h => by
  obtain ⟨f, rs, G, k, rfl, ti, rfl, vk, q⟩ := h
  have C_law_take := c_law_take (P := P) (w := w) (base := base) T
  have C_law_small := c_law_small (P := P) (w := w) (base := base) T 5
  have C_law_term := c_law_term (P := P) (w := w) (base := base) T 15
  have hrk : rk rs k ≤ 4 := by have := rk_le rs k; have := ti.kf; omega
  have hsz := sz_le ti.ok vk
  have hsm := (sm_le (rs := rs) k).2
  refine ⟨_, (pss_one (ps_ret (pe_c C_law_term (hr.mono (by omega)) rfl (pa_cons (pv 0) (pa_cons (pv 1) (pa_cons (pv 2) (pa_cons (pv 3) (pa_cons (pe_op op_add (pe_c C_law_small (hr.mono (by omega)) rfl (pa_cons (pv 1) (pa_cons (pv 3) pa_nil))) (pe_c C_law_take (hr.mono (by omega)) rfl (pa_cons (pv 0) (pa_cons pe_int pa_nil)))) (pa_cons pe_int pa_nil))))))))), ?_⟩
  refine ⟨_, rfl, _, rfl, _, rfl, _, rfl, _, rfl, _, rfl, rs, k, ti.ok, ti.ks, rfl, vk, by omega, fun H1 e1 => ?_⟩
  have f1 := ti.fd.ext e1
  refine ⟨_, rfl, f, 10, rfl, rfl, by decide, by decide, f1, fun d H2 d0 d1 e2 f2 => ?_⟩
  have e02 := e1.nil.trans e2
  have hv : ((smR rs k : Nat) : Int) + d = ((smR rs k + d.toNat : Nat) : Int) := by omega
  refine ⟨_, _, rfl, rfl, f, rs, G, k, smR rs k + d.toNat, 2, rfl, ti.ext e02 f2, rfl, vk, congrArg V.int hv, rfl, by omega, by omega, by omega, fun v t H' e3 f3 hvt ok => ?_⟩
  exact q v t H' (e02.trans e3) f3 hvt ⟨ok.w, ok.g, by have := ok.z; omega⟩
abbrev N_law_any_kind : List Str := ["_law_feed_here", "_law_kinds_here", "_law_row"]
theorem sc_law_any_kind : FnScope N_law_any_kind ["_law_feed_here", "_law_kinds_here"] (defScope s_law_any_kind) := ⟨rfl, rfl, rfl, by decide +kernel, rfl, by decide +kernel, by decide +kernel⟩
-- slots: 0 _law_feed_here, 1 _law_kinds_here, 2 _law_row
def prAny (K : PySem.W.Frag) : V → V → Hp → VK → Prop := fun a b H Q => ∃ (f : Addr) (rs : List Kd), a = .ref f ∧ Fd H f ∧ Kds K H b rs ∧ rs.length ≤ 4 ∧ ∀ k H', Vk rs k → Ext [f] H H' → Fd H' f → Q (.str k) H'
theorem c_law_any_kind (T : Txt K mg) : Cal P w K mg base 2 "_law_any_kind" (S2 (prAny K)) := T.c_law_any_kind fun fd F => F.ok2 sc_law_any_kind fun cdv A outer s H a b Q E hr h => by
  obtain ⟨f, rs, rfl, hf, ks, kf, q⟩ := h
  have C_law_take := c_law_take (P := P) (w := w) (base := base) T
  have z : sizeLine = 16777216 := by decide
  obtain ⟨p, xs, rfl, hs, hat⟩ := ks.inv_tup
  have hxl : xs.length = rs.length := by rw [hat.length, List.length_map, List.length_reverse]
  refine ⟨_, (pss_one (ps_ret (pe_ix ix_list (pe_op op_cat (pe_lst (pa_cons pe_str pa_nil)) (pe_lc rfl sc_law_any_kind.nd (pi_tup (pv 1)) (blkOk_by (N := N_law_any_kind) (sc := defScope s_law_any_kind) (own := [("_law_row", 2)]) (by decide +kernel)) (fun _ _ _ _ _ => (pg_name (i := 2) sc_law_any_kind.nd rfl (by first | exact Or.inl rfl | exact Or.inr rfl))) (fun _ _ _ _ _ => pts_nil) (fun _ _ _ _ _ => (pe_ix (ix_tupK K) (pv 2) pe_int (fun _ _ => rfl))))) (pe_c C_law_take (hr.mono (by omega)) rfl (pa_cons (pv 0) (pa_cons (pe_op op_add pe_int (pe_callB call_len_seq (by rfl) T.z_len PySem.boot_len (pa_cons (pv 1) pa_nil))) pa_nil))) (fun _ _ => rfl)))), ?_⟩
  refine ⟨by show 1 ≤ sizeLine; decide, fun p1 hp1 => ?_⟩
  have e4 : Ext [] H (upd H p1 (.lst [.str "num"])) := (Ext.refl _ _).new hp1
  refine ⟨_, rfl, p, rfl, ⟨xs, e4.sqt hs⟩, fun D hD => lc_tup (K := K) (xs := xs) (fun i2 H' => Ext [] (upd H p1 (.lst [.str "num"])) H' ∧ H' D = some (.lst (((rs.reverse.take i2).map Kd.name).map V.str))) ⟨(Ext.refl _ _).new hD, upd_same⟩ (fun i2 H' _ h => (e4.trans h.1).sqt hs) ?_ ?_⟩
  · rintro i2 y H' hy ⟨e5, hDl⟩
    obtain ⟨d', hdx, hat'⟩ := ((e4.trans e5).ats hat).get i2 y hy
    obtain ⟨kd, hkd, rfl⟩ := map_at hdx
    obtain ⟨a1, y1, y2, y3, rfl, hs1, hy1, hy2, hy3⟩ := hat'.tup3
    obtain rfl := hy1.inv_str
    refine ⟨rfl, _, rfl, a1, _, _, _, rfl, rfl, hs1, atI_nat (j := 0) rfl, _, hDl, ?_, e5.own hD, ?_⟩
    · rw [List.length_map, List.length_map, List.length_take, List.length_reverse]
      omega
    · rw [upd_same, List.take_add_one, hkd]
      simp
  rintro H5 ⟨e5, hD5⟩
  rw [hxl, ← List.length_reverse, List.take_length] at hD5
  have e35 := e4.trans e5
  have f5 : Fd H5 f := hf.ext e35
  refine ⟨p1, D, _, _, rfl, rfl, e5.same _ _ upd_same, hD5, ?_, fun p2 hp2 => ?_⟩
  · rw [List.length_map, List.length_map, List.length_reverse]
    show 1 + _ ≤ _
    omega
  have e6 : Ext [] H (upd H5 p2 (.lst ([V.str "num"] ++ ((rs.reverse.map Kd.name).map V.str)))) := e35.new hp2
  refine ⟨_, rfl, _, rfl, p, xs, rfl, .inr (e6.sqt hs), _, _, rfl, rfl, f, _, rfl, rfl, by omega, by omega, f5.new hp2, fun d3 H6 d30 d31 e7 f6 => ?_⟩
  have np2 : p2 ≠ f := none_ne f5 hp2
  have hd3 : d3.toNat < (knames rs).length := by rw [knames_len]; omega
  have hk := List.getElem?_eq_getElem hd3
  have hkm := List.getElem_mem hd3
  generalize (knames rs)[d3.toNat] = k at hk hkm
  refine ⟨p2, _, _, .str k, rfl, rfl, .of (e7.get1 np2 upd_same), at_of (j := d3.toNat) (by omega) ?_, ?_⟩
  · show ((V.str "num") :: ((rs.reverse.map Kd.name).map V.str))[d3.toNat]? = _
    rw [← List.map_cons (f := V.str), List.getElem?_map]
    show Option.map V.str (knames rs)[d3.toNat]? = _
    rw [hk]
    rfl
  exact q k H6 (knames_vk hkm) (e6.nil.trans e7) f6
abbrev N_law_channels : List Str := ["_law_feed_here", "_law_kinds_here", "_law_names_here", "_law_hands_here", "_law_found_here", "_law_k", "_law_ends"]
theorem sc_law_channels : FnScope N_law_channels ["_law_feed_here", "_law_kinds_here", "_law_names_here", "_law_hands_here"] (defScope s_law_channels) := ⟨rfl, rfl, rfl, by decide +kernel, rfl, by decide +kernel, by decide +kernel⟩
-- slots: 0 _law_feed_here, 1 _law_kinds_here, 2 _law_names_here, 3 _law_hands_here, 4 _law_found_here, 5 _law_k, 6 _law_ends
def prChans (K : PySem.W.Frag) : V → V → V → V → Hp → VK → Prop := fun a b c d H Q => ∃ (f : Addr) (rs : List Kd) (ns : List Str) (hn : Nat), a = .ref f ∧ Fd H f ∧ Kds K H b rs ∧ rs.length ≤ 4 ∧ Nl H c ns ∧ ns.length = 26 ∧ d = .int hn ∧ 1 ≤ hn ∧ hn ≤ 4 ∧ ∀ v chs H', Ext [f] H H' → Fd H' f → At K H' v (.tuple (chs.map chD)) → ChsG ns rs hn chs → Q v H'
theorem c_law_channels (T : Txt K mg) : Cal P w K mg base 3 "_law_channels" (S4 (prChans K)) := T.c_law_channels fun fd F => F.ok4 sc_law_channels fun cdv A outer s H a b c d Q E hr h => by
  obtain ⟨f, rs, ns, hn, rfl, hf, ks, kf, ⟨pn, rfl, hpn⟩, nl, rfl, hn1, hn4, q⟩ := h
  have C_law_take := c_law_take (P := P) (w := w) (base := base) T
  have C_law_any_kind := c_law_any_kind (P := P) (w := w) (base := base) T
  have z : sizeLine = 16777216 := by decide
  have npn := hf.strs hpn
  refine ⟨_, (pss_cons (ps_set (i := 4) sc_law_channels.nd rfl (Or.inl rfl) (pe_lst pa_nil))
    (pss_cons (ps_for PassesOwn.never rfl (pi_range1 (by rfl) T.z_range (pa_cons (pe_c C_law_take (hr.mono (by omega)) rfl (pa_cons (pv 0) (pa_cons pe_int pa_nil))) pa_nil)) (pg_name (i := 5) sc_law_channels.nd rfl (by first | exact Or.inl rfl | exact Or.inr rfl))
    (pss_cons (ps_set (i := 6) sc_law_channels.nd rfl (Or.inl rfl) (pe_tup (pa_cons (pe_ix ix_list (pv 2) (pe_c C_law_take (hr.mono (by omega)) rfl (pa_cons (pv 0) (pa_cons (pv 3) pa_nil))) (fun _ _ => rfl)) (pa_cons (pe_ix ix_list (pv 2) (pe_c C_law_take (hr.mono (by omega)) rfl (pa_cons (pv 0) (pa_cons (pv 3) pa_nil))) (fun _ _ => rfl)) pa_nil))))
    (pss_one (ps_expr (pe_bm PySem.F.plainAttrs_list PySem.F.slot_list_append PySem.F.type_list_append mt_append (pv 4) (pa_cons (pe_tup (pa_cons (pe_ix ix_list (pv 2) (pe_op op_add pe_int (pv 5)) (fun _ _ => rfl)) (pa_cons (pe_ix ix_tup (pv 6) pe_int (fun _ _ => rfl)) (pa_cons (pe_ix ix_tup (pv 6) pe_int (fun _ _ => rfl)) (pa_cons (pe_c C_law_any_kind (hr.mono (by omega)) rfl (pa_cons (pv 0) (pa_cons (pv 1) pa_nil))) pa_nil))))) pa_nil))))))
    (pss_one (ps_ret (pe_callTy call_tuple_of (by rfl) T.z_tuple (by decide +kernel) (pa_cons (pv 4) pa_nil)))))), ?_⟩
  refine ⟨by show 0 ≤ sizeLine; decide, fun pk hpk => ?_⟩
  have npf : pk ≠ f := none_ne hf hpk
  have e0 : Ext [f] H (upd H pk (.lst [])) := (Ext.refl _ _).new hpk
  refine ⟨_, rfl, f, 6, rfl, rfl, by decide, by decide, hf.new hpk, fun d H1 d0 d1 e1 f1 => ?_⟩
  obtain ⟨n, rfl⟩ : ∃ n : Nat, d = (n : Int) := ⟨d.toNat, by omega⟩
  refine ⟨_, rfl, by omega, by omega, for_range (n := n) (fun i σ H' => Ext [f] H H' ∧ Fd H' f ∧ ∃ (ys : List V) (chs : List Ch) (u v : Option V), H' pk = some (.lst ys) ∧ Ats K H' ys (chs.map chD) ∧ chs.map Ch.name = (ns.drop 12).take i ∧ (∀ c ∈ chs, c.src ∈ ns.take hn ∧ c.dst ∈ ns.take hn ∧ Vk rs c.kind) ∧
    σ = [some (.ref f), some b, some (.ref pn), some (.int hn), some (.ref pk), u, v]) ⟨e0.trans e1, f1, [], [], _, _, e1.get1 npf upd_same, .nil, rfl, (fun _ h => by cases h), rfl⟩ ?_ ?_⟩
  · rintro i σ H3 hi ⟨e3, f3, ys, chs, u, v, hys, hats, hnm, hch, rfl⟩
    have hcl : chs.length = i := by
      have := congrArg List.length hnm
      rw [List.length_map, List.length_take, List.length_drop] at this
      omega
    have hyl : ys.length = i := by rw [hats.length, List.length_map, hcl]
    have pick : ∀ d : Int, 0 ≤ d → d < (hn : Int) → ∃ y, (ns.map V.str)[d.toNat]? = some (.str y) ∧ y ∈ ns.take hn := fun d d0 d1 => by
      have hlt : d.toNat < ns.length := by omega
      refine ⟨ns[d.toNat], by rw [List.getElem?_map, List.getElem?_eq_getElem hlt]; rfl, ?_⟩
      refine List.mem_iff_getElem?.mpr ⟨d.toNat, ?_⟩
      rw [List.getElem?_take, if_pos (by omega), List.getElem?_eq_getElem hlt]
    refine ⟨_, rfl, _, rfl, _, rfl, f, hn, rfl, rfl, by omega, by omega, f3, fun d4 H4 d40 d41 e4 f4 => ?_⟩
    obtain ⟨y1, hy1, m1⟩ := pick d4 d40 d41
    have e04 := e3.trans e4
    refine ⟨pn, _, _, .str y1, rfl, rfl, .of (e04.get1 npn hpn), at_of (j := d4.toNat) (by omega) hy1, ?_⟩
    refine ⟨_, rfl, _, rfl, _, rfl, f, hn, rfl, rfl, by omega, by omega, f4, fun d5 H5 d50 d51 e5 f5 => ?_⟩
    obtain ⟨y2, hy2, m2⟩ := pick d5 d50 d51
    have e05 := e04.trans e5
    refine ⟨pn, _, _, .str y2, rfl, rfl, .of (e05.get1 npn hpn), at_of (j := d5.toNat) (by omega) hy2, ?_⟩
    refine ⟨by show 2 ≤ sizeLine; decide, fun p6 hp6 => ?_⟩
    have e35 := e4.trans e5
    have e36 : Ext [f] H3 (upd H5 p6 (.tup [.str y1, .str y2])) := e35.new hp6
    have e06 := e3.trans e36
    obtain ⟨y, hy⟩ : ∃ y, ns[12 + i]? = some y := ⟨ns[12 + i]'(by omega), List.getElem?_eq_getElem (by omega)⟩
    refine ⟨_, rfl, .inl ⟨rfl, _, .inl (.inl (e36.get1 npf hys))⟩, _, rfl, _, rfl, _, _, rfl, rfl, pn, _, _, .str y, rfl, rfl, .of (e06.get1 npn hpn), at_of (j := 12 + i) (by omega) (by rw [List.getElem?_map, hy]; rfl), ?_⟩
    refine ⟨_, rfl, p6, _, _, _, rfl, rfl, .of upd_same, atI_nat (j := 0) rfl, _, rfl, p6, _, _, _, rfl, rfl, .of upd_same, atI_nat (j := 1) rfl, ?_⟩
    refine ⟨_, rfl, _, rfl, f, rs, rfl, f5.new hp6, e06.at_ ks, kf, fun k H7 vk e7 f7 => ?_⟩
    refine ⟨by show 4 ≤ sizeLine; decide, fun p8 hp8 => ?_⟩
    have e38 : Ext [f] H3 (upd H7 p8 (.tup [.str y, .str y1, .str y2, .str k])) := (e36.trans e7).new hp8
    have h8 := e38.get1 npf hys
    have at8 : At K (upd H7 p8 (.tup [.str y, .str y1, .str y2, .str k])) (.ref p8) (chD ⟨y, y1, y2, k⟩) := At.mk hp8 (.cons (.str _) (.cons (.str _) (.cons (.str _) (.cons (.str _) .nil))))
    have ew : Ext [pk] (upd H7 p8 (.tup [.str y, .str y1, .str y2, .str k])) (upd (upd H7 p8 (.tup [.str y, .str y1, .str y2, .str k])) pk (.lst (ys ++ [.ref p8]))) := (Ext.refl _ _).put (by simp) h8
    refine ⟨pk, _, _, rfl, rfl, h8, by omega, (e3.trans e38).own hpk, (f7.new hp8).oth npf.symm, ys ++ [.ref p8], chs ++ [⟨y, y1, y2, k⟩], _, _, upd_same, ?_, ?_, fun c hc => ?_, rfl⟩
    · rw [List.map_append]
      exact ew.ats ((e38.ats hats).snoc at8)
    · rw [List.map_append, hnm, List.take_add_one, List.getElem?_drop, hy]
      rfl
    · rcases List.mem_append.mp hc with h | h
      · exact hch c h
      · rw [List.mem_singleton.mp h]
        exact ⟨m1, m2, vk⟩
  · rintro σ H3 ⟨e3, f3, ys, chs, u, v, hys, hats, hnm, hch, rfl⟩
    have hcl : chs.length = n := by
      have := congrArg List.length hnm
      rw [List.length_map, List.length_take, List.length_drop] at this
      omega
    refine ⟨_, rfl, pk, ys, rfl, .inl ⟨.of hys, fun p7 hp7 => ?_⟩⟩
    exact q _ chs _ (e3.new hp7) (f3.new hp7) (At.mk hp7 hats) ⟨by rw [hcl]; exact hnm, by omega, fun c hc => (hch c hc).1, fun c hc => (hch c hc).2.1, fun c hc => (hch c hc).2.2⟩
abbrev N_law_boxes : List Str := ["_law_feed_here", "_law_kinds_here", "_law_channels_here", "_law_h", "_law_names_here", "_law_wants", "_law_c", "_law_come", "_law_to", "_law_kind", "_law_k", "_law_turn"]
theorem sc_law_boxes : FnScope N_law_boxes ["_law_feed_here", "_law_kinds_here", "_law_channels_here", "_law_h", "_law_names_here"] (defScope s_law_boxes) := ⟨rfl, rfl, rfl, by decide +kernel, rfl, by decide +kernel, by decide +kernel⟩
-- slots: 0 _law_feed_here, 1 _law_kinds_here, 2 _law_channels_here, 3 _law_h, 4 _law_names_here*, 5 _law_wants*, 6 _law_c, 7 _law_come, 8 _law_to, 9 _law_kind, 10 _law_k, 11 _law_turn*
def prBoxes (K : PySem.W.Frag) : V → V → V → V → V → Hp → VK → Prop := fun a b c d e H Q => ∃ (f : Addr) (rs : List Kd) (ns : List Str) (chs : List Ch) (h : Str), a = .ref f ∧ Fd H f ∧ Kds K H b rs ∧ rs.length ≤ 4 ∧ At K H c (.tuple (chs.map chD)) ∧ chs.length ≤ 5 ∧ (∀ c ∈ chs, Vk rs c.kind) ∧ d = .str h ∧ Nl H e ns ∧ NsOk ns ∧
  ∀ v bx H', Ext [f] H H' → Fd H' f → At K H' v (prsD bx) → BxOk rs bx → Q v H'
theorem c_law_boxes (T : Txt K mg) : Cal P w K mg base 3 "_law_boxes" (S5 (prBoxes K)) := T.c_law_boxes fun fd F => F.ok5 sc_law_boxes fun cdv A outer s H a b c d e Q E hr h => by
  obtain ⟨f, rs, ns, chs, hh, rfl, hf, ks, kf, hc, cf, cvk, rfl, ⟨pn, rfl, hpn⟩, nok, q⟩ := h
  have C_law_take := c_law_take (P := P) (w := w) (base := base) T
  have C_law_any_kind := c_law_any_kind (P := P) (w := w) (base := base) T
  have z : sizeLine = 16777216 := by decide
  have npn := hf.strs hpn
  obtain ⟨pc, cs, rfl, hs, hcs⟩ := hc.inv_tup
  have hcl : cs.length = chs.length := by rw [hcs.length, List.length_map]
  refine ⟨_, (pss_cons (ps_set (i := 5) sc_law_boxes.nd rfl (Or.inr rfl) (pe_lst pa_nil))
    (pss_cons (ps_for PassesOwn.never rfl (pi_tup (pv 2)) (pg_tup rfl (pgs_cons (pg_name (i := 6) sc_law_boxes.nd rfl (by first | exact Or.inl rfl | exact Or.inr rfl)) (pgs_cons (pg_name (i := 7) sc_law_boxes.nd rfl (by first | exact Or.inl rfl | exact Or.inr rfl)) (pgs_cons (pg_name (i := 8) sc_law_boxes.nd rfl (by first | exact Or.inl rfl | exact Or.inr rfl)) (pgs_cons (pg_name (i := 9) sc_law_boxes.nd rfl (by first | exact Or.inl rfl | exact Or.inr rfl)) pgs_nil)))))
    (pss_one (ps_if (PW.pt (pw_and (pt_cmpR op_eq (pv 8) (pv 3) (nomark _)) (pw_and1 (pt_cmpR op_notIn_seq (pv 9) (pv 5) rfl))))
    (pss_one (ps_expr (pe_bm PySem.F.plainAttrs_list PySem.F.slot_list_append PySem.F.type_list_append mt_append (pv 5) (pa_cons (pv 9) pa_nil))))
    pss_nil)))
    (pss_cons (ps_for PassesOwn.never rfl (pi_range1 (by rfl) T.z_range (pa_cons (pe_c C_law_take (hr.mono (by omega)) rfl (pa_cons (pv 0) (pa_cons pe_int pa_nil))) pa_nil)) (pg_name (i := 10) sc_law_boxes.nd rfl (by first | exact Or.inl rfl | exact Or.inr rfl))
    (pss_one (ps_expr (pe_bm PySem.F.plainAttrs_list PySem.F.slot_list_append PySem.F.type_list_append mt_append (pv 5) (pa_cons (pe_c C_law_any_kind (hr.mono (by omega)) rfl (pa_cons (pv 0) (pa_cons (pv 1) pa_nil))) pa_nil)))))
    (pss_cons (ps_set (i := 11) sc_law_boxes.nd rfl (Or.inr rfl) (pe_op op_fdivW (pe_c C_law_take (hr.mono (by omega)) rfl (pa_cons (pv 0) (pa_cons pe_int pa_nil))) pe_int))
    (pss_one (ps_ret (pe_callTy call_tuple_of (by rfl) T.z_tuple (by decide +kernel) (pa_cons (pe_lc rfl sc_law_boxes.nd (pi_range1 (by rfl) T.z_range (pa_cons (pe_callB (call_min2 rfl) (by rfl) T.z_min (by decide +kernel) (pa_cons pe_int (pa_cons (pe_callB call_len_seq (by rfl) T.z_len PySem.boot_len (pa_cons (pv 5) pa_nil)) pa_nil))) pa_nil)) (blkOk_by (N := N_law_boxes) (sc := defScope s_law_boxes) (own := [("_law_k", 10)]) (by decide +kernel)) (fun _ _ _ _ _ => (pg_name (i := 10) sc_law_boxes.nd rfl (by first | exact Or.inl rfl | exact Or.inr rfl))) (fun _ _ _ _ _ => pts_nil) (fun _ _ _ _ _ => (pe_tup (pa_cons (pe_ix (ix_listK K) (pv 4) (pe_op op_add pe_int (pe_op op_mod (pe_op op_add (pv 10) (pv 11)) pe_int)) (fun _ _ => rfl)) (pa_cons (pe_ix (ix_listK K) (pv 5) (pv 10) (fun _ _ => rfl)) pa_nil))))) pa_nil)))))))), ?_⟩
  refine ⟨by show 0 ≤ sizeLine; decide, fun pw hpw => ?_⟩
  have npf : pw ≠ f := none_ne hf hpw
  have e0 : Ext [f] H (upd H pw (.lst [])) := (Ext.refl _ _).new hpw
  refine ⟨_, rfl, pc, rfl, ⟨cs, e0.sqt hs⟩, for_tup (K := K) (xs := cs) (fun i σ H' => Ext [f] H H' ∧ Fd H' f ∧ ∃ ws : List Str, H' pw = some (.lst (ws.map V.str)) ∧ (∀ k ∈ ws, Vk rs k) ∧ ws.length ≤ i ∧
    ∃ u6 u7 u8 u9 u10 u11, σ = [some (.ref f), some b, some (.ref pc), some (.str hh), some (.ref pn), some (.ref pw), u6, u7, u8, u9, u10, u11]) ⟨e0, hf.new hpw, [], upd_same, (fun _ h => by cases h), Nat.le_refl _, _, _, _, _, _, _, rfl⟩ (fun i σ H' _ h => h.1.sqt hs) ?_ ?_⟩
  · rintro i x σ H3 hx ⟨e3, f3, ws, hws, hwk, hwl, u6, u7, u8, u9, u10, u11, rfl⟩
    obtain ⟨d, hdx, hat⟩ := (e3.ats hcs).get i x hx
    obtain ⟨ch, hkp, rfl⟩ := map_at hdx
    have hil := (List.getElem?_eq_some_iff.mp hkp).1
    obtain ⟨p1, y1, y2, y3, y4, rfl, hs1, hy1, hy2, hy3, hy4⟩ := hat.tup4
    obtain rfl := hy1.inv_str
    obtain rfl := hy2.inv_str
    obtain rfl := hy3.inv_str
    obtain rfl := hy4.inv_str
    have no : Ext [f] H H3 ∧ Fd H3 f ∧ ∃ ws : List Str, H3 pw = some (.lst (ws.map V.str)) ∧ (∀ k ∈ ws, Vk rs k) ∧ ws.length ≤ i + 1 ∧
      ∃ v6 v7 v8 v9 v10 v11, [some (V.ref f), some b, some (.ref pc), some (.str hh), some (.ref pn), some (.ref pw), some (.str ch.name), some (.str ch.src), some (.str ch.dst), some (.str ch.kind), u10, u11] = [some (V.ref f), some b, some (.ref pc), some (.str hh), some (.ref pn), some (.ref pw), v6, v7, v8, v9, v10, v11] := ⟨e3, f3, ws, hws, hwk, by omega, _, _, _, _, _, _, rfl⟩
    refine ⟨p1, _, rfl, hs1, rfl, _, _, rfl, _, _, rfl, _, _, rfl, _, _, rfl, rfl, ?_⟩
    refine ⟨_, rfl, _, rfl, rfl, _, rfl, ite2 (fun _ => ?_) (fun _ => iteF no)⟩
    refine ⟨_, rfl, _, rfl, pw, _, rfl, .inl (.of hws), rfl, by rw [List.all_map]; exact List.all_eq_true.mpr fun _ _ => rfl, _, rfl, ite2 (fun _ => ?_) (fun _ => no)⟩
    refine ⟨_, rfl, .inl ⟨rfl, _, .inl (.inl hws)⟩, _, rfl, pw, _, _, rfl, rfl, hws, by rw [List.length_map]; omega, e3.own hpw, f3.oth npf.symm, ws ++ [ch.kind], by rw [upd_same, List.map_append]; rfl, fun k hk => ?_, by rw [List.length_append, List.length_singleton]; omega, _, _, _, _, _, _, rfl⟩
    rcases List.mem_append.mp hk with h | h
    · exact hwk k h
    · rw [List.mem_singleton.mp h]
      exact cvk ch (List.mem_of_getElem? hkp)
  · rintro σ H3 ⟨e3, f3, ws, hws, hwk, hwl, u6, u7, u8, u9, u10, u11, rfl⟩
    refine ⟨_, rfl, f, 3, rfl, rfl, by decide, by decide, f3, fun d H4 d0 d1 e4 f4 => ?_⟩
    obtain ⟨n, rfl⟩ : ∃ n : Nat, d = (n : Int) := ⟨d.toNat, by omega⟩
    refine ⟨_, rfl, by omega, by omega, for_range (n := n) (fun i σ H' => Ext [f] H H' ∧ Fd H' f ∧ ∃ ws : List Str, H' pw = some (.lst (ws.map V.str)) ∧ (∀ k ∈ ws, Vk rs k) ∧ ws.length ≤ 5 + i ∧
      ∃ u10, σ = [some (.ref f), some b, some (.ref pc), some (.str hh), some (.ref pn), some (.ref pw), u6, u7, u8, u9, u10, u11]) ⟨e3.trans e4, f4, ws, e4.get1 npf hws, hwk, by omega, _, rfl⟩ ?_ ?_⟩
    · rintro i σ H5 hi ⟨e5, f5, ws, hws, hwk, hwl, u10, rfl⟩
      refine ⟨_, rfl, .inl ⟨rfl, _, .inl (.inl hws)⟩, ?_⟩
      refine ⟨_, rfl, _, rfl, f, rs, rfl, f5, e5.at_ ks, kf, fun k H7 vk e7 f7 => ?_⟩
      refine ⟨pw, _, _, rfl, rfl, e7.get1 npf hws, by rw [List.length_map]; omega, (e5.trans e7).own hpw, f7.oth npf.symm, ws ++ [k], by rw [upd_same, List.map_append]; rfl, fun k2 hk => ?_, by rw [List.length_append, List.length_singleton]; omega, _, rfl⟩
      rcases List.mem_append.mp hk with h | h
      · exact hwk k2 h
      · rw [List.mem_singleton.mp h]
        exact vk
    · rintro σ H5 ⟨e5, f5, ws, hws, hwk, hwl, u10, rfl⟩
      refine ⟨_, rfl, f, 4, rfl, rfl, by decide, by decide, f5, fun d H6 d0 d1 e6 f6 => ?_⟩
      have e06 := e5.trans e6
      have hws6 := e6.get1 npf hws
      refine ⟨_, _, rfl, rfl, wide_div (b := 13) (by decide) (by decide) (by decide) (by decide), ?_⟩
      obtain ⟨tn, htn, ht1⟩ : ∃ tn : Nat, d / 2 = (tn : Int) ∧ tn ≤ 1 := ⟨(d / 2).toNat, by omega, by omega⟩
      obtain ⟨n, hn⟩ : ∃ n : Nat, n = min 5 ws.length := ⟨_, rfl⟩
      have hmin : (if (((ws.map V.str).length : Nat) : Int) < 5 then (((ws.map V.str).length : Nat) : Int) else 5) = (n : Int) := by
        rw [List.length_map]
        split <;> omega
      refine ⟨_, rfl, pw, _, rfl, .inl (.of hws6), 5, _, rfl, (n : Int), congrArg (fun z => [V.int z]) hmin, by omega, by omega, fun D hD => lc_range (n := n) (fun i H' => Ext [] H6 H' ∧ ∃ (vs : List V) (bx : List (Str × Str)), H' D = some (.lst vs) ∧ Ats K H' vs (bx.map prD) ∧ bx.map (·.1) = (ns.drop (18 + tn)).take i ∧ bx.length = i ∧ ∀ x ∈ bx, Vk rs x.2) ⟨(Ext.refl _ _).new hD, [], [], upd_same, .nil, rfl, rfl, fun _ h => by cases h⟩ ?_ ?_⟩
      · rintro i H7 hi ⟨e7, vs, bx, hDl, hats, hnm, hbl, hvk⟩
        have nl := nok.len
        have e07 := e06.trans e7.nil
        obtain ⟨y, hy⟩ : ∃ y, ns[18 + tn + i]? = some y := ⟨ns[18 + tn + i]'(by omega), List.getElem?_eq_getElem (by omega)⟩
        obtain ⟨k, hk⟩ : ∃ k, ws[i]? = some k := ⟨ws[i]'(by omega), List.getElem?_eq_getElem (by omega)⟩
        have hix : (18 : Int) + ((0 + (i : Int)) + d / 2) % 6 = ((18 + tn + i : Nat) : Int) := by omega
        have hvl : vs.length = i := by rw [hats.length, List.length_map, hbl]
        refine ⟨rfl, _, rfl, _, rfl, _, rfl, _, _, rfl, rfl, _, _, rfl, rfl, (show (0 : Int) < 6 by decide), _, _, rfl, rfl, pn, _, _, .str y, rfl, rfl, .of (e07.get1 npn hpn), at_of (j := 18 + tn + i) hix (by rw [List.getElem?_map, hy]; rfl), ?_⟩
        refine ⟨_, rfl, _, rfl, pw, _, _, .str k, rfl, rfl, .of (e7.same _ _ hws6), at_of (j := i) (by omega) (by rw [List.getElem?_map, hk]; rfl), by show 2 ≤ sizeLine; decide, fun p8 hp8 => ?_⟩
        have n8 : D ≠ p8 := ne_of_none hDl hp8
        have h8 : upd H7 p8 (.tup [.str y, .str k]) D = some (.lst vs) := by rw [upd_ne n8]; exact hDl
        have at8 : At K (upd H7 p8 (.tup [.str y, .str k])) (.ref p8) (prD (y, k)) := At.mk hp8 (.cons (.str _) (.cons (.str _) .nil))
        have ew : Ext [D] (upd H7 p8 (.tup [.str y, .str k])) (upd (upd H7 p8 (.tup [.str y, .str k])) D (.lst (vs ++ [.ref p8]))) := (Ext.refl _ _).put (by simp) h8
        refine ⟨_, h8, by omega, (e7.new hp8).own hD, vs ++ [.ref p8], bx ++ [(y, k)], upd_same, ?_, ?_, by rw [List.length_append, List.length_singleton, hbl], fun x hx => ?_⟩
        · rw [List.map_append]
          exact ew.ats ((((Ext.refl [] H7).new hp8).ats hats).snoc at8)
        · rw [List.map_append, hnm, List.take_add_one, List.getElem?_drop, hy]
          rfl
        · rcases List.mem_append.mp hx with h | h
          · exact hvk x h
          · rw [List.mem_singleton.mp h]
            exact hwk k (List.mem_of_getElem? hk)
      · rintro H7 ⟨e7, vs, bx, hDl, hats, hnm, hbl, hvk⟩
        refine ⟨D, vs, rfl, .inl ⟨.of hDl, fun p8 hp8 => ?_⟩⟩
        refine q _ bx _ ((e06.trans e7.nil).new hp8) ((f6.ext e7).new hp8) (At.mk hp8 hats) ⟨?_, fun x hx => ?_, hvk, by omega⟩
        · rw [hnm, ← List.drop_drop]
          exact nok.g4.sublist ((List.take_sublist _ _).trans (List.drop_sublist _ _))
        · have : x.1 ∈ bx.map (·.1) := List.mem_map.mpr ⟨x, hx, rfl⟩
          rw [hnm] at this
          exact nok.nm _ (List.mem_of_mem_drop (List.mem_of_mem_take this))
end
end Sw

-- part SwG9
set_option Elab.async false
set_option linter.all false
set_option maxRecDepth 100000
set_option maxHeartbeats 4000000
namespace Sw
open PySem PySem.Spec PyProof.Rows L2
theorem erase_map {α β : Type} (f : α → β) : ∀ (l : List α) (i : Nat), (l.map f).eraseIdx i = (l.eraseIdx i).map f
  | [], _ => rfl
  | _ :: _, 0 => rfl
  | a :: l, i + 1 => by
    rw [List.map_cons, List.eraseIdx_cons_succ, List.eraseIdx_cons_succ, List.map_cons, erase_map f l i]
theorem erase_perm {α : Type} : ∀ {l : List α} {i : Nat} (h : i < l.length), l.Perm (l[i] :: l.eraseIdx i)
  | a :: l, 0, _ => List.Perm.refl _
  | a :: l, i + 1, h => by
    rw [List.eraseIdx_cons_succ, List.getElem_cons_succ]
    exact ((erase_perm (l := l) (i := i) (Nat.lt_of_succ_lt_succ h)).cons a).trans (List.Perm.swap _ _ _)
theorem tin_list {K : PySem.W.Frag} {H : Hp} {f l : Addr} {b : V} {rs : List Kd} {bx : List (Str × Str)} {ys : List V} (hf : Fd H f) (ks : Kds K H b rs) (ok : KsOk rs) (kf : rs.length ≤ 4) (hl : H l = none) (hat : Ats K H ys (bx.map prD)) (o : BxOk rs bx) : TIn K (upd H l (.lst ys)) f b (.ref l) rs bx 2 :=
  have e : Ext [] H (upd H l (.lst ys)) := (Ext.refl _ _).new hl
  ⟨hf.new hl, e.at_ ks, ok, kf, ⟨l, ys, rfl, none_ne hf hl, upd_same, e.ats hat⟩, o.g, Nat.le_refl _⟩
/-- what a row is worth -/
structure RowOk (rs : List Kd) (chs : List Ch) (h : Str) (bx : List (Str × Str)) (r : Row) : Prop where
  t : Typed rs chs h bx r
  g : good (rowD r) = true
  z : wt (rowD r) ≤ 500
theorem Ext.pair {f g : Addr} {H H' : Hp} (e : Ext [f] H H') : Ext [f, g] H H' := e.mono fun a h => by
  rw [List.mem_singleton.mp h]
  exact List.mem_cons_self
section
variable {P : Program} {w : World} {K : PySem.W.Frag} {mg : Str → Option Value} {base : Heap}
abbrev N_law_deal : List Str := ["_law_feed_here", "_law_kinds_here", "_law_channels_here", "_law_h", "_law_boxes_here", "_law_marks", "_law_form", "_law_into", "_law_c", "_law_come", "_law_to", "_law_kind", "_law_out", "_law_x", "_law_told"]
theorem sc_law_deal : FnScope N_law_deal ["_law_feed_here", "_law_kinds_here", "_law_channels_here", "_law_h", "_law_boxes_here", "_law_marks"] (defScope s_law_deal) := ⟨rfl, rfl, rfl, by decide +kernel, rfl, by decide +kernel, by decide +kernel⟩
-- slots: 0 _law_feed_here, 1 _law_kinds_here, 2 _law_channels_here, 3 _law_h*, 4 _law_boxes_here, 5 _law_marks, 6 _law_form, 7 _law_into, 8 _law_c*, 9 _law_come, 10 _law_to*, 11 _law_kind*, 12 _law_out, 13 _law_x, 14 _law_told
def prDeal (K : PySem.W.Frag) : V → V → V → V → V → V → Hp → VK → Prop := fun a b c d e g H Q => ∃ (f pm : Addr) (rs : List Kd) (chs : List Ch) (h : Str) (bx : List (Str × Str)) (ms : List Str), a = .ref f ∧ Fd H f ∧ Kds K H b rs ∧ KsOk rs ∧ rs.length ≤ 4 ∧ At K H c (.tuple (chs.map chD)) ∧ chs.length ≤ 5 ∧ (∀ c ∈ chs, Vk rs c.kind ∧ NameP c.name) ∧
  d = .str h ∧ At K H e (prsD bx) ∧ BxOk rs bx ∧ g = .ref pm ∧ H pm = some (.lst (ms.map V.str)) ∧ ms.length ≤ 6 ∧ (∀ m ∈ ms, NameP m) ∧ ∀ v r ms' H', Ext [f, pm] H H' → Fd H' f → H' pm = some (.lst (ms'.map V.str)) → At K H' v (rowD r) → RowOk rs chs h bx r → (∀ n i, i + 1 < n → Leads n i r) → ms.Perm (r.mark.toList ++ ms') → Q v H'
theorem c_law_deal (T : Txt K mg) : Cal P w K mg base 42 "_law_deal" (S6 (prDeal K)) := T.c_law_deal fun fd F => F.ok6 sc_law_deal fun cdv A outer s H a b c d e g Q E hr h => by
  obtain ⟨f, pm, rs, chs, hh, bx, ms, rfl, hf, ks, ok, kf, hc, cf, cvk, rfl, hb, bok, rfl, hpm, ml, mn, q⟩ := h
  have C_law_take := c_law_take (P := P) (w := w) (base := base) T
  have C_law_new_term := c_law_new_term (P := P) (w := w) (base := base) T
  have z : sizeLine = 16777216 := by decide
  have nmf := hf.strs hpm
  obtain ⟨pc, cs, rfl, hcs, hcat⟩ := hc.inv_tup
  have hcl : cs.length = chs.length := by rw [hcat.length, List.length_map]
  obtain ⟨pb, bs, rfl, hbs, hbat⟩ := hb.inv_tup
  have hbl : bs.length = bx.length := by rw [hbat.length, List.length_map]
  have few := bok.few
  have chan : ∀ {H' : Hp} (e : Ext [f] H H') (i : Nat) (x : V), cs[i]? = some x → ∃ ch p1, chs[i]? = some ch ∧ x = .ref p1 ∧ SqT K H' p1 [.str ch.name, .str ch.src, .str ch.dst, .str ch.kind] := fun e i x hx => by
    obtain ⟨d, hdx, hat⟩ := (e.ats hcat).get i x hx
    obtain ⟨ch, hkp, rfl⟩ := map_at hdx
    obtain ⟨p1, y1, y2, y3, y4, rfl, hs1, hy1, hy2, hy3, hy4⟩ := hat.tup4
    obtain rfl := hy1.inv_str
    obtain rfl := hy2.inv_str
    obtain rfl := hy3.inv_str
    obtain rfl := hy4.inv_str
    exact ⟨ch, p1, hkp, rfl, hs1⟩
  have box : ∀ {H' : Hp} (e : Ext [f] H H') (i : Nat) (x : V), bs[i]? = some x → ∃ pr p1, bx[i]? = some pr ∧ x = .ref p1 ∧ SqT K H' p1 [.str pr.1, .str pr.2] := fun e i x hx => by
    obtain ⟨d, hdx, hat⟩ := (e.ats hbat).get i x hx
    obtain ⟨pr, hkp, rfl⟩ := map_at hdx
    obtain ⟨p1, y1, y2, rfl, hs1, hy1, hy2⟩ := hat.tup2
    obtain rfl := hy1.inv_str
    obtain rfl := hy2.inv_str
    exact ⟨pr, p1, hkp, rfl, hs1⟩
  have cok : ∀ {c : Ch}, c ∈ chs → Sw.okS c.name = true := fun h => (cvk _ h).2.okS
  refine ⟨_, (pss_cons (ps_set (i := 6) sc_law_deal.nd rfl (Or.inl rfl) (pe_c C_law_take (hr.mono (by omega)) rfl (pa_cons (pv 0) (pa_cons pe_int pa_nil))))
    (pss_cons (ps_set (i := 7) sc_law_deal.nd rfl (Or.inl rfl) (pe_lst pa_nil))
    (pss_cons (ps_for PassesOwn.never rfl (pi_tup (pv 2)) (pg_tup rfl (pgs_cons (pg_name (i := 8) sc_law_deal.nd rfl (by first | exact Or.inl rfl | exact Or.inr rfl)) (pgs_cons (pg_name (i := 9) sc_law_deal.nd rfl (by first | exact Or.inl rfl | exact Or.inr rfl)) (pgs_cons (pg_name (i := 10) sc_law_deal.nd rfl (by first | exact Or.inl rfl | exact Or.inr rfl)) (pgs_cons (pg_name (i := 11) sc_law_deal.nd rfl (by first | exact Or.inl rfl | exact Or.inr rfl)) pgs_nil)))))
    (pss_one (ps_set (i := 7) sc_law_deal.nd rfl (Or.inl rfl) (pe_op op_cat (pv 7) (pe_lc rfl sc_law_deal.nd (pi_tup (pv 4)) (blkOk_by (N := N_law_deal) (sc := defScope s_law_deal) (own := [("_law_x", 13), ("_law_told", 14)]) (by decide +kernel)) (fun _ _ _ _ _ => (pg_tupK (n := 2) K rfl (pgs_cons (pg_name (i := 13) sc_law_deal.nd rfl (by first | exact Or.inl rfl | exact Or.inr rfl)) (pgs_cons (pg_name (i := 14) sc_law_deal.nd rfl (by first | exact Or.inl rfl | exact Or.inr rfl)) pgs_nil)))) (fun _ _ _ _ _ => (pts_one (PW.pt (pw_and (pt_cmpR op_eq (pv 10) (pv 3) (nomark _)) (pw_and1 (pt_cmpR op_eq (pv 14) (pv 11) (nomark _))))))) (fun _ _ _ _ _ => (pe_tup (pa_cons (pv 8) (pa_cons (pv 13) pa_nil)))))))))
    (pss_cons (ps_setLc (i := 12) rfl sc_law_deal.nd rfl rfl (sw_true rfl rfl rfl (by decide +kernel)) (pi_tup (pv 2)) (blkOk_by (N := N_law_deal) (sc := defScope s_law_deal) (own := [("_law_c", 8), ("_law_come", 9), ("_law_to", 10), ("_law_kind", 11)]) (by decide +kernel)) (fun _ _ _ _ _ => (pg_tupK (n := 4) K rfl (pgs_cons (pg_name (i := 8) sc_law_deal.nd rfl (by first | exact Or.inl rfl | exact Or.inr rfl)) (pgs_cons (pg_name (i := 9) sc_law_deal.nd rfl (by first | exact Or.inl rfl | exact Or.inr rfl)) (pgs_cons (pg_name (i := 10) sc_law_deal.nd rfl (by first | exact Or.inl rfl | exact Or.inr rfl)) (pgs_cons (pg_name (i := 11) sc_law_deal.nd rfl (by first | exact Or.inl rfl | exact Or.inr rfl)) pgs_nil)))))) (fun _ _ _ _ _ => (pts_one (pt_cmpR op_eq (pv 9) (pv 3) (nomark _)))) (fun _ _ _ _ _ => (pe_tup (pa_cons (pv 8) (pa_cons (pv 11) pa_nil)))))
    (C8.pss_cut (ps_if (PW.pt (pw_and (pt_cmpR op_lt (pv 6) pe_int (nomark _)) (pw_and (pt_cmpR op_gt (pe_callB call_len_seq (by rfl) T.z_len PySem.boot_len (pa_cons (pv 7) pa_nil)) pe_int (nomark _)) (pw_and1 (pt_cmpR op_gt (pe_callB call_len_seq (by rfl) T.z_len PySem.boot_len (pa_cons (pv 5) pa_nil)) pe_int (nomark _))))))
    (pss_cons (ps_asg (pe_ix ix_list (pv 7) (pe_c C_law_take (hr.mono (by omega)) rfl (pa_cons (pv 0) (pa_cons (pe_callB call_len_seq (by rfl) T.z_len PySem.boot_len (pa_cons (pv 7) pa_nil)) pa_nil))) (fun _ _ => rfl)) (pg_tup rfl (pgs_cons (pg_name (i := 8) sc_law_deal.nd rfl (by first | exact Or.inl rfl | exact Or.inr rfl)) (pgs_cons (pg_name (i := 13) sc_law_deal.nd rfl (by first | exact Or.inl rfl | exact Or.inr rfl)) pgs_nil))))
    (pss_one (ps_ret (pe_tup (pa_cons pe_str (pa_cons (pe_bm PySem.F.plainAttrs_list PySem.F.slot_list_pop PySem.F.type_list_pop mt_popAt (pv 5) (pa_cons (pe_c C_law_take (hr.mono (by omega)) rfl (pa_cons (pv 0) (pa_cons (pe_callB call_len_seq (by rfl) T.z_len PySem.boot_len (pa_cons (pv 5) pa_nil)) pa_nil))) pa_nil)) (pa_cons (pv 8) (pa_cons (pv 13) pa_nil))))))))
    pss_nil)
    (C8.pss_cut (ps_if (PW.pt (pw_and (pt_cmpR op_lt (pv 6) pe_int (nomark _)) (pw_and1 (pt_cmpR op_gt (pe_callB call_len_seq (by rfl) T.z_len PySem.boot_len (pa_cons (pv 12) pa_nil)) pe_int (nomark _)))))
    (pss_cons (ps_asg (pe_ix ix_list (pv 12) (pe_c C_law_take (hr.mono (by omega)) rfl (pa_cons (pv 0) (pa_cons (pe_callB call_len_seq (by rfl) T.z_len PySem.boot_len (pa_cons (pv 12) pa_nil)) pa_nil))) (fun _ _ => rfl)) (pg_tup rfl (pgs_cons (pg_name (i := 8) sc_law_deal.nd rfl (by first | exact Or.inl rfl | exact Or.inr rfl)) (pgs_cons (pg_name (i := 11) sc_law_deal.nd rfl (by first | exact Or.inl rfl | exact Or.inr rfl)) pgs_nil))))
    (pss_one (ps_ret (pe_tup (pa_cons pe_str (pa_cons (pv 8) (pa_cons (pe_c C_law_new_term (hr.mono (by omega)) rfl (pa_cons (pv 0) (pa_cons (pv 1) (pa_cons (pe_callTy call_list_of (by rfl) T.z_list (by decide +kernel) (pa_cons (pv 4) pa_nil)) (pa_cons (pv 11) pa_nil))))) pa_nil)))))))
    pss_nil)
    (C8.pss_cut (ps_if (PW.pt (pw_and (pt_cmpR op_lt (pv 6) pe_int (nomark _)) (pw_and1 (pt_cmpR op_gt (pe_callB call_len_seq (by rfl) T.z_len PySem.boot_len (pa_cons (pv 4) pa_nil)) pe_int (nomark _)))))
    (pss_cons (ps_asg (pe_ix ix_tup (pv 4) (pe_c C_law_take (hr.mono (by omega)) rfl (pa_cons (pv 0) (pa_cons (pe_callB call_len_seq (by rfl) T.z_len PySem.boot_len (pa_cons (pv 4) pa_nil)) pa_nil))) (fun _ _ => rfl)) (pg_tup rfl (pgs_cons (pg_name (i := 13) sc_law_deal.nd rfl (by first | exact Or.inl rfl | exact Or.inr rfl)) (pgs_cons (pg_name (i := 11) sc_law_deal.nd rfl (by first | exact Or.inl rfl | exact Or.inr rfl)) pgs_nil))))
    (pss_one (ps_ret (pe_tup (pa_cons pe_str (pa_cons (pv 13) (pa_cons (pe_c C_law_new_term (hr.mono (by omega)) rfl (pa_cons (pv 0) (pa_cons (pv 1) (pa_cons (pe_callTy call_list_of (by rfl) T.z_list (by decide +kernel) (pa_cons (pv 4) pa_nil)) (pa_cons (pv 11) pa_nil))))) pa_nil)))))))
    pss_nil)
    (pss_one (ps_ret (pe_tup (pa_cons pe_str (pa_cons (pe_c C_law_new_term (hr.mono (by omega)) rfl (pa_cons (pv 0) (pa_cons (pv 1) (pa_cons (pe_callTy call_list_of (by rfl) T.z_list (by decide +kernel) (pa_cons (pv 4) pa_nil)) (pa_cons pe_str pa_nil))))) pa_nil)))))))))))), ?_⟩
  refine ⟨_, rfl, f, 8, rfl, rfl, by decide, by decide, hf, fun form H1 d0 d1 e1 f1 => ?_⟩
  refine ⟨by show 0 ≤ sizeLine; decide, fun p0 hp0 => ?_⟩
  have e2 := e1.new (o := .lst []) hp0
  -- what may be taken
  refine ⟨_, rfl, pc, rfl, ⟨cs, e2.sqt hcs⟩, for_tup (K := K) (xs := cs) (fun i σ H' => Ext [f] H H' ∧ Fd H' f ∧ ∃ (pp : Addr) (vs : List V) (hs : List (Str × Str)), H' pp = some (.lst vs) ∧ pp ≠ f ∧ Ats K H' vs (hs.map prD) ∧ (∀ y ∈ hs, ∃ ch ∈ chs, ch.name = y.1 ∧ ch.dst = hh ∧ lk bx y.2 = some ch.kind) ∧ hs.length ≤ 5 * i ∧
    ∃ v8 v9 v10 v11 v12 v13 v14, σ = [some (.ref f), some b, some (.ref pc), some (.str hh), some (.ref pb), some (.ref pm), some (.int form), some (.ref pp), v8, v9, v10, v11, v12, v13, v14]) ⟨e2, f1.new hp0, p0, [], [], upd_same, none_ne f1 hp0, .nil, (fun _ h => by cases h), Nat.zero_le _, _, _, _, _, _, _, _, rfl⟩ (fun i σ H' _ h => h.1.sqt hcs) ?_ ?_⟩
  · rintro i x σ H3 hx ⟨e3, f3, pp, vs, hs, hpp, npp, hats, hgo, hhl, v8, v9, v10, v11, v12, v13, v14, rfl⟩
    obtain ⟨ch, p1, hkp, rfl, hs1⟩ := chan e3 i x hx
    have hil := (List.getElem?_eq_some_iff.mp hkp).1
    refine ⟨p1, _, rfl, hs1, rfl, _, _, rfl, _, _, rfl, _, _, rfl, _, _, rfl, rfl, ?_⟩
    have hvl : vs.length = hs.length := by rw [hats.length, List.length_map]
    refine ⟨_, rfl, _, rfl, pb, rfl, ⟨bs, e3.sqt hbs⟩, fun D hD => lc_tup (K := K) (xs := bs) (fun j H' => Ext [] H3 H' ∧ ∃ (ws : List V) (gs : List (Str × Str)), H' D = some (.lst ws) ∧ Ats K H' ws (gs.map prD) ∧ (∀ y ∈ gs, ∃ ch ∈ chs, ch.name = y.1 ∧ ch.dst = hh ∧ lk bx y.2 = some ch.kind) ∧ gs.length ≤ j) ⟨(Ext.refl _ _).new hD, [], [], upd_same, .nil, (fun _ h => by cases h), Nat.le_refl _⟩ (fun j H' _ h => (e3.trans h.1.nil).sqt hbs) ?_ ?_⟩
    · rintro j x H' hx ⟨e5, ws, gs, hDl, hws, hgs, hgl⟩
      obtain ⟨pr, p5, hkt, rfl, hs5⟩ := box (e3.trans e5.nil) j x hx
      have hjl := (List.getElem?_eq_some_iff.mp hkt).1
      have no : Ext [] H3 H' ∧ ∃ (ws : List V) (gs : List (Str × Str)), H' D = some (.lst ws) ∧ Ats K H' ws (gs.map prD) ∧ (∀ y ∈ gs, ∃ ch ∈ chs, ch.name = y.1 ∧ ch.dst = hh ∧ lk bx y.2 = some ch.kind) ∧ gs.length ≤ j + 1 := ⟨e5, ws, gs, hDl, hws, hgs, by omega⟩
      refine ⟨p5, _, rfl, hs5, rfl, _, _, rfl, _, _, rfl, rfl, rfl, _, rfl, _, rfl, rfl, _, rfl, ite2 (fun hc3 => ?_) (fun _ => iteF no)⟩
      refine ⟨_, rfl, _, rfl, rfl, _, rfl, ite2 (fun hc4 => ?_) (fun _ => no)⟩
      have h1 : ch.dst = hh := V.str.inj (of_decide_eq_true hc3)
      have h2 : pr.2 = ch.kind := V.str.inj (of_decide_eq_true hc4)
      refine ⟨_, rfl, _, rfl, by show 2 ≤ sizeLine; decide, fun p6 hp6 => ?_⟩
      have n6 : D ≠ p6 := ne_of_none hDl hp6
      have h6 : upd H' p6 (.tup [.str ch.name, .str pr.1]) D = some (.lst ws) := by rw [upd_ne n6]; exact hDl
      have at6 : At K (upd H' p6 (.tup [.str ch.name, .str pr.1])) (.ref p6) (prD (ch.name, pr.1)) := At.mk hp6 (.cons (.str _) (.cons (.str _) .nil))
      have ew : Ext [D] (upd H' p6 (.tup [.str ch.name, .str pr.1])) (upd (upd H' p6 (.tup [.str ch.name, .str pr.1])) D (.lst (ws ++ [.ref p6]))) := (Ext.refl _ _).put (by simp) h6
      refine ⟨_, h6, ?_, (e5.new hp6).own hD, ws ++ [.ref p6], gs ++ [(ch.name, pr.1)], upd_same, ?_, fun y hy => ?_, by rw [List.length_append, List.length_singleton]; omega⟩
      · rw [hws.length, List.length_map]
        omega
      · rw [List.map_append]
        exact ew.ats ((((Ext.refl [] H').new hp6).ats hws).snoc at6)
      · rcases List.mem_append.mp hy with h | h
        · exact hgs y h
        · rw [List.mem_singleton.mp h]
          exact ⟨ch, List.mem_of_getElem? hkp, rfl, h1, by rw [← h2]; exact lk_of bok.nd (List.mem_of_getElem? hkt)⟩
    · rintro H5 ⟨e5, ws, gs, hDl, hws, hgs, hgl⟩
      have e05 := e3.trans e5.nil
      have hwl : ws.length = gs.length := by rw [hws.length, List.length_map]
      refine ⟨pp, D, _, _, rfl, rfl, e5.same _ _ hpp, hDl, by omega, fun p7 hp7 => ?_⟩
      have e7 : Ext [] H5 (upd H5 p7 (.lst (vs ++ ws))) := (Ext.refl _ _).new hp7
      refine ⟨e05.new hp7, (f3.ext e5).new hp7, p7, vs ++ ws, hs ++ gs, upd_same, none_ne (f3.ext e5) hp7, ?_, fun y hy => ?_, by rw [List.length_append]; omega, _, _, _, _, _, _, _, rfl⟩
      · rw [List.map_append]
        exact e7.ats ((e5.ats hats).append hws)
      · rcases List.mem_append.mp hy with h | h
        · exact hgo y h
        · exact hgs y h
  clear e1 e2 f1 hp0 H1 p0
  rintro σ H1 ⟨e1, f1, pi, vs, hs, hpi, npi, hvs, hgo, hhl, v8, v9, v10, v11, v12, v13, v14, rfl⟩
  have hvl : vs.length = hs.length := by rw [hvs.length, List.length_map]
  -- what may be sent
  refine ⟨_, rfl, pc, rfl, ⟨cs, e1.sqt hcs⟩, fun D hD => lc_tup (K := K) (xs := cs) (fun j H' => Ext [] H1 H' ∧ ∃ (ws : List V) (gs : List (Str × Str)), H' D = some (.lst ws) ∧ Ats K H' ws (gs.map prD) ∧ (∀ y ∈ gs, ∃ ch ∈ chs, ch.name = y.1 ∧ ch.src = hh ∧ ch.kind = y.2) ∧ gs.length ≤ j) ⟨(Ext.refl _ _).new hD, [], [], upd_same, .nil, (fun _ h => by cases h), Nat.le_refl _⟩ (fun j H' _ h => (e1.trans h.1.nil).sqt hcs) ?_ ?_⟩
  · rintro j x H' hx ⟨e5, ws, gs, hDl, hws, hgs, hgl⟩
    obtain ⟨ch, p5, hkt, rfl, hs5⟩ := chan (e1.trans e5.nil) j x hx
    have hjl := (List.getElem?_eq_some_iff.mp hkt).1
    refine ⟨p5, _, rfl, hs5, rfl, _, _, rfl, _, _, rfl, _, _, rfl, _, _, rfl, rfl, rfl, _, rfl, _, rfl, rfl, _, rfl, ite2 (fun hc3 => ?_) (fun _ => ⟨e5, ws, gs, hDl, hws, hgs, by omega⟩)⟩
    have h1 : ch.src = hh := V.str.inj (of_decide_eq_true hc3)
    refine ⟨_, rfl, _, rfl, by show 2 ≤ sizeLine; decide, fun p6 hp6 => ?_⟩
    have n6 : D ≠ p6 := ne_of_none hDl hp6
    have h6 : upd H' p6 (.tup [.str ch.name, .str ch.kind]) D = some (.lst ws) := by rw [upd_ne n6]; exact hDl
    have at6 : At K (upd H' p6 (.tup [.str ch.name, .str ch.kind])) (.ref p6) (prD (ch.name, ch.kind)) := At.mk hp6 (.cons (.str _) (.cons (.str _) .nil))
    have ew : Ext [D] (upd H' p6 (.tup [.str ch.name, .str ch.kind])) (upd (upd H' p6 (.tup [.str ch.name, .str ch.kind])) D (.lst (ws ++ [.ref p6]))) := (Ext.refl _ _).put (by simp) h6
    refine ⟨_, h6, ?_, (e5.new hp6).own hD, ws ++ [.ref p6], gs ++ [(ch.name, ch.kind)], upd_same, ?_, fun y hy => ?_, by rw [List.length_append, List.length_singleton]; omega⟩
    · rw [hws.length, List.length_map]
      omega
    · rw [List.map_append]
      exact ew.ats ((((Ext.refl [] H').new hp6).ats hws).snoc at6)
    · rcases List.mem_append.mp hy with h | h
      · exact hgs y h
      · rw [List.mem_singleton.mp h]
        exact ⟨ch, List.mem_of_getElem? hkt, rfl, h1, rfl⟩
  rintro H2 ⟨e2, ws, gs, hDl, hws, hgs, hgl⟩
  have hwl : ws.length = gs.length := by rw [hws.length, List.length_map]
  have npD : D ≠ f := none_ne f1 hD
  have e02 := e1.trans e2.nil
  have f2 := f1.ext e2
  have hpi2 := e2.same _ _ hpi
  have hpm2 := e02.get1 nmf hpm
  have hvs2 := e2.ats hvs
  -- a term of a kind over the boxes
  have mid : ∀ {H' : Hp} {l : Addr}, Ext [f] H H' → Fd H' f → H' l = none → TIn K (upd H' l (.lst bs)) f b (.ref l) rs bx 2 := fun e fd hl => tin_list fd (e.at_ ks) ok kf hl (e.ats hbat) bok
  refine ⟨fun σ' H' => H' = H2 ∧ ∃ v8 v9 v10 v11 v13 v14, σ' = [some (.ref f), some b, some (.ref pc), some (.str hh), some (.ref pb), some (.ref pm), some (.int form), some (.ref pi), v8, v9, v10, v11, some (.ref D), v13, v14], ?_, ?_⟩
  · have same : ∃ u8 u9 u10 u11 u13 u14, [some (V.ref f), some b, some (.ref pc), some (.str hh), some (.ref pb), some (.ref pm), some (.int form), some (.ref pi), v8, v9, v10, v11, some (.ref D), v13, v14] = [some (V.ref f), some b, some (.ref pc), some (.str hh), some (.ref pb), some (.ref pm), some (.int form), some (.ref pi), u8, u9, u10, u11, some (.ref D), u13, u14] := ⟨_, _, _, _, _, _, rfl⟩
    refine ⟨_, rfl, _, _, rfl, rfl, _, rfl, ite2 (fun _ => ?_) (fun _ => iteF ⟨rfl, same⟩)⟩
    refine ⟨_, rfl, pi, _, rfl, .inl (.of hpi2), _, _, rfl, rfl, _, rfl, ite2 (fun hc3 => ?_) (fun _ => iteF ⟨rfl, same⟩)⟩
    refine ⟨_, rfl, pm, _, rfl, .inl (.of hpm2), _, _, rfl, rfl, _, rfl, ite2 (fun hc4 => ?_) (fun _ => ⟨rfl, same⟩)⟩
    have hpos : (0 : Int) < (vs.length : Int) := of_decide_eq_true hc3
    have hpos2 : (0 : Int) < ((ms.map V.str).length : Int) := of_decide_eq_true hc4
    have hml : (ms.map V.str).length = ms.length := List.length_map _
    refine ⟨_, rfl, _, rfl, _, rfl, pi, _, rfl, .inl (.of hpi2), f, _, rfl, rfl, hpos, by omega, f2, fun d H4 d0 d1 e4 f4 => ?_⟩
    have hdl : d.toNat < hs.length := by omega
    obtain ⟨x, hx, hat⟩ := hvs2.get' d.toNat (prD hs[d.toNat]) (by rw [List.getElem?_map, List.getElem?_eq_getElem hdl]; rfl)
    have hg := hgo _ (List.getElem_mem hdl)
    generalize hs[d.toNat] = y at hat hg
    obtain ⟨p1, y1, y2, rfl, hs1, hy1, hy2⟩ := hat.tup2
    obtain rfl := hy1.inv_str
    obtain rfl := hy2.inv_str
    refine ⟨pi, _, _, _, rfl, rfl, .of (e4.get1 npi hpi2), at_of (j := d.toNat) (by omega) hx, p1, _, rfl, e4.sqt hs1, rfl, _, _, rfl, _, _, rfl, rfl, ?_⟩
    obtain ⟨ch, hm, h1, h2, h3⟩ := hg
    have hpm4 := e4.get1 nmf hpm2
    refine ⟨_, rfl, .inl ⟨rfl, _, .inl (.inl hpm4)⟩, _, rfl, _, rfl, pm, _, rfl, .inl (.of hpm4), f, _, rfl, rfl, hpos2, by omega, f4, fun d5 H5 d50 d51 e5 f5 => ?_⟩
    have hpm5 := e5.get1 nmf hpm4
    have hd5 : d5.toNat < ms.length := by omega
    refine ⟨pm, _, d5, d5.toNat, .str ms[d5.toNat], rfl, rfl, hpm5, by omega, by omega, PySem.StrLaws.seqIndex_nonneg d50 d51, by rw [List.getElem?_map, List.getElem?_eq_getElem hd5]; rfl, ?_⟩
    refine ⟨_, rfl, _, rfl, by show 4 ≤ sizeLine; decide, fun p6 hp6 => ?_⟩
    have e05 := (e02.trans e4).trans e5
    have er : (ms.map V.str).eraseIdx d5.toNat = (ms.eraseIdx d5.toNat).map V.str := erase_map _ _ _
    have e56 : Ext [f, pm] H5 (upd H5 pm (.lst ((ms.map V.str).eraseIdx d5.toNat))) := (Ext.refl _ _).put (by simp) hpm5
    have hp56 : pm ≠ p6 := ne_of_none upd_same hp6
    refine q _ (.take ms[d5.toNat] y.1 y.2) (ms.eraseIdx d5.toNat) _ ((e05.pair.trans e56).new hp6) ((f5.oth nmf.symm).new hp6) ?_ (At.mk hp6 (.cons (.str _) (.cons (.str _) (.cons (.str _) (.cons (.str _) .nil))))) ⟨⟨ch, hm, h1, h2, h3⟩, ?_, ?_⟩ (fun n i hi => hi) ?_
    · rw [upd_ne hp56, upd_same, er]
    · have a1 := (mn _ (List.getElem_mem hd5)).okS
      have a2 : Sw.okS y.1 = true := by rw [← h1]; exact cok hm
      have a3 : Sw.okS y.2 = true := (bok.nm _ (lk_mem h3)).okS
      simp only [rowD, good, goods, Bool.and_eq_true, a1, a2, a3, and_true, true_and]
      decide +kernel
    · simp only [rowD, wt, wts]
      omega
    · exact erase_perm hd5
  clear v8 v9 v10 v11 v13 v14
  rintro σ' H' ⟨hH, v8, v9, v10, v11, v13, v14, rfl⟩
  subst H'
  refine ⟨fun σ' H' => H' = H2 ∧ ∃ v8 v9 v10 v11 v13 v14, σ' = [some (.ref f), some b, some (.ref pc), some (.str hh), some (.ref pb), some (.ref pm), some (.int form), some (.ref pi), v8, v9, v10, v11, some (.ref D), v13, v14], ?_, ?_⟩
  · have same : ∃ u8 u9 u10 u11 u13 u14, [some (V.ref f), some b, some (.ref pc), some (.str hh), some (.ref pb), some (.ref pm), some (.int form), some (.ref pi), v8, v9, v10, v11, some (.ref D), v13, v14] = [some (V.ref f), some b, some (.ref pc), some (.str hh), some (.ref pb), some (.ref pm), some (.int form), some (.ref pi), u8, u9, u10, u11, some (.ref D), u13, u14] := ⟨_, _, _, _, _, _, rfl⟩
    refine ⟨_, rfl, _, _, rfl, rfl, _, rfl, ite2 (fun _ => ?_) (fun _ => iteF ⟨rfl, same⟩)⟩
    refine ⟨_, rfl, D, _, rfl, .inl (.of hDl), _, _, rfl, rfl, _, rfl, ite2 (fun hc3 => ?_) (fun _ => ⟨rfl, same⟩)⟩
    have hpos : (0 : Int) < (ws.length : Int) := of_decide_eq_true hc3
    refine ⟨_, rfl, _, rfl, _, rfl, D, _, rfl, .inl (.of hDl), f, _, rfl, rfl, hpos, by omega, f2, fun d H4 d0 d1 e4 f4 => ?_⟩
    have hdl : d.toNat < gs.length := by omega
    obtain ⟨x, hx, hat⟩ := hws.get' d.toNat (prD gs[d.toNat]) (by rw [List.getElem?_map, List.getElem?_eq_getElem hdl]; rfl)
    have hg := hgs _ (List.getElem_mem hdl)
    generalize gs[d.toNat] = y at hat hg
    obtain ⟨p1, y1, y2, rfl, hs1, hy1, hy2⟩ := hat.tup2
    obtain rfl := hy1.inv_str
    obtain rfl := hy2.inv_str
    refine ⟨D, _, _, _, rfl, rfl, .of (e4.get1 npD hDl), at_of (j := d.toNat) (by omega) hx, p1, _, rfl, e4.sqt hs1, rfl, _, _, rfl, _, _, rfl, rfl, ?_⟩
    obtain ⟨ch, hm, h1, h2, h3⟩ := hg
    have e04 := e02.trans e4
    have vk : Vk rs y.2 := by rw [← h3]; exact (cvk ch hm).1
    refine ⟨_, rfl, _, rfl, _, rfl, _, rfl, pb, bs, rfl, .inr (e04.sqt hbs), fun l hl => ?_⟩
    refine ⟨_, rfl, f, rs, bx, y.2, rfl, mid e04 f4 hl, rfl, vk, fun v t H5 e5 f5 hv tok => ?_⟩
    refine ⟨by show 3 ≤ sizeLine; decide, fun p6 hp6 => ?_⟩
    have e06 := ((e04.new hl).trans e5).new (o := .tup [.str "send", .str y.1, v]) hp6
    refine q _ (.send y.1 t) ms _ e06.pair (f5.new hp6) (e06.get1 nmf hpm) (At.mk hp6 (.cons (.str _) (.cons (.str _) (.cons hv .nil)))) ⟨⟨ch, hm, h1, h2, by rw [h3]; exact tok.w⟩, ?_, ?_⟩ (fun n i hi => hi) (List.Perm.refl _)
    · have a2 : Sw.okS y.1 = true := by rw [← h1]; exact cok hm
      simp only [rowD, good, goods, Bool.and_eq_true, a2, tok.g, and_true, true_and]
      decide +kernel
    · have := tok.z
      simp only [rowD, wt, wts]
      omega
  clear v8 v9 v10 v11 v13 v14
  rintro σ' H' ⟨hH, v8, v9, v10, v11, v13, v14, rfl⟩
  subst H'
  refine ⟨fun σ' H' => H' = H2 ∧ ∃ v8 v9 v10 v11 v13 v14, σ' = [some (.ref f), some b, some (.ref pc), some (.str hh), some (.ref pb), some (.ref pm), some (.int form), some (.ref pi), v8, v9, v10, v11, some (.ref D), v13, v14], ?_, ?_⟩
  · have same : ∃ u8 u9 u10 u11 u13 u14, [some (V.ref f), some b, some (.ref pc), some (.str hh), some (.ref pb), some (.ref pm), some (.int form), some (.ref pi), v8, v9, v10, v11, some (.ref D), v13, v14] = [some (V.ref f), some b, some (.ref pc), some (.str hh), some (.ref pb), some (.ref pm), some (.int form), some (.ref pi), u8, u9, u10, u11, some (.ref D), u13, u14] := ⟨_, _, _, _, _, _, rfl⟩
    refine ⟨_, rfl, _, _, rfl, rfl, _, rfl, ite2 (fun _ => ?_) (fun _ => iteF ⟨rfl, same⟩)⟩
    refine ⟨_, rfl, pb, _, rfl, .inr (e02.sqt hbs), _, _, rfl, rfl, _, rfl, ite2 (fun hc3 => ?_) (fun _ => ⟨rfl, same⟩)⟩
    have hpos : (0 : Int) < (bs.length : Int) := of_decide_eq_true hc3
    refine ⟨_, rfl, _, rfl, _, rfl, pb, _, rfl, .inr (e02.sqt hbs), f, _, rfl, rfl, hpos, by omega, f2, fun d H4 d0 d1 e4 f4 => ?_⟩
    have e04 := e02.trans e4
    have hdl : d.toNat < bs.length := by omega
    obtain ⟨y, p1, hy, hx, hs1⟩ := box e04 d.toNat _ (List.getElem?_eq_getElem hdl)
    have hym := List.mem_of_getElem? hy
    refine ⟨pb, _, _, .ref p1, rfl, rfl, e04.sqt hbs, at_of (j := d.toNat) (by omega) (by rw [List.getElem?_eq_getElem hdl, hx]), p1, _, rfl, hs1, rfl, _, _, rfl, _, _, rfl, rfl, ?_⟩
    refine ⟨_, rfl, _, rfl, _, rfl, _, rfl, pb, bs, rfl, .inr (e04.sqt hbs), fun l hl => ?_⟩
    refine ⟨_, rfl, f, rs, bx, y.2, rfl, mid e04 f4 hl, rfl, bok.vk y hym, fun v t H5 e5 f5 hv tok => ?_⟩
    refine ⟨by show 3 ≤ sizeLine; decide, fun p6 hp6 => ?_⟩
    have e06 := ((e04.new hl).trans e5).new (o := .tup [.str "set", .str y.1, v]) hp6
    refine q _ (.set y.1 t) ms _ e06.pair (f5.new hp6) (e06.get1 nmf hpm) (At.mk hp6 (.cons (.str _) (.cons (.str _) (.cons hv .nil)))) ⟨⟨y.2, lk_of bok.nd hym, tok.w⟩, ?_, ?_⟩ (fun n i hi => hi) (List.Perm.refl _)
    · have a2 : Sw.okS y.1 = true := (bok.nm y hym).okS
      simp only [rowD, good, goods, Bool.and_eq_true, a2, tok.g, and_true, true_and]
      decide +kernel
    · have := tok.z
      simp only [rowD, wt, wts]
      omega
  clear v8 v9 v10 v11 v13 v14
  rintro σ' H' ⟨hH, v8, v9, v10, v11, v13, v14, rfl⟩
  subst H'
  refine ⟨_, rfl, _, rfl, _, rfl, pb, bs, rfl, .inr (e02.sqt hbs), fun l hl => ?_⟩
  refine ⟨f, rs, bx, "num", rfl, mid e02 f2 hl, rfl, .inl rfl, fun v t H5 e5 f5 hv tok => ?_⟩
  refine ⟨by show 2 ≤ sizeLine; decide, fun p6 hp6 => ?_⟩
  have e06 := ((e02.new hl).trans e5).new (o := .tup [.str "tell", v]) hp6
  refine q _ (.tell t) ms _ e06.pair (f5.new hp6) (e06.get1 nmf hpm) (At.mk hp6 (.cons (.str _) (.cons hv .nil))) ⟨tok.w, ?_, ?_⟩ (fun n i hi => hi) (List.Perm.refl _)
  · simp only [rowD, good, goods, Bool.and_eq_true, tok.g, and_true, true_and]
    decide +kernel
  · have := tok.z
    simp only [rowD, wt, wts]
    omega
end
end Sw

-- part SwG10
set_option Elab.async false
set_option linter.all false
set_option maxRecDepth 100000
set_option maxHeartbeats 4000000
namespace Sw
open PySem PySem.Spec PyProof.Rows L2
structure RwsOk (rs : List Kd) (chs : List Ch) (h : Str) (bx : List (Str × Str)) (rws : List Row) : Prop where
  marks : (rws.filterMap Row.mark).Nodup
  ne : rws ≠ []
  most : rws.length ≤ 10
  leads : ∀ (i : Nat) (r : Row), rws[i]? = some r → Leads rws.length i r
  rows : ∀ r ∈ rws, RowOk rs chs h bx r
/-- the rows so far -/
structure RwsIn (rs : List Kd) (chs : List Ch) (h : Str) (bx : List (Str × Str)) (n i : Nat) (rws : List Row) (ms : List Str) : Prop where
  len : rws.length = i
  nd : (rws.filterMap Row.mark ++ ms).Nodup
  ml : ms.length ≤ 6
  mn : ∀ m ∈ ms, NameP m
  leads : ∀ (j : Nat) (r : Row), rws[j]? = some r → Leads (n + 1) j r
  rows : ∀ r ∈ rws, RowOk rs chs h bx r
theorem snoc_get {α : Type} {l : List α} {a b : α} {j : Nat} (h : (l ++ [a])[j]? = some b) : l[j]? = some b ∨ (j = l.length ∧ b = a) := by
  rcases Nat.lt_or_ge j l.length with h1 | h1
  · rw [List.getElem?_append_left h1] at h
    exact .inl h
  · rw [List.getElem?_append_right h1] at h
    have : j = l.length := by
      have := (List.getElem?_eq_some_iff.mp h).1
      simp at this
      omega
    subst this
    rw [Nat.sub_self] at h
    exact .inr ⟨rfl, (Option.some.inj h).symm⟩
theorem RwsIn.snoc {rs : List Kd} {chs : List Ch} {h : Str} {bx : List (Str × Str)} {n i : Nat} {rws : List Row} {ms ms' : List Str} (o : RwsIn rs chs h bx n i rws ms) {r : Row} (ro : RowOk rs chs h bx r) (hl : Leads (n + 1) i r) (hp : ms.Perm (r.mark.toList ++ ms')) : RwsIn rs chs h bx n (i + 1) (rws ++ [r]) ms' := by
  have hlen := hp.length_eq
  rw [List.length_append] at hlen
  refine ⟨by rw [List.length_append, List.length_singleton, o.len], ?_, by have := o.ml; omega, fun m hm => o.mn m (hp.mem_iff.mpr (List.mem_append_right _ hm)), fun j r' hj => ?_, fun r' hr => ?_⟩
  · have e : (rws ++ [r]).filterMap Row.mark = rws.filterMap Row.mark ++ r.mark.toList := by
      rw [List.filterMap_append]
      cases hm : r.mark <;> simp [hm]
    rw [e, List.append_assoc]
    exact (List.Perm.nodup_iff (hp.append_left _)).mp o.nd
  · rcases snoc_get hj with h | ⟨e, e2⟩
    · exact o.leads j r' h
    · rw [e, e2, o.len]
      exact hl
  · rcases List.mem_append.mp hr with h | h
    · exact o.rows r' h
    · rw [List.mem_singleton.mp h]
      exact ro
theorem RwsIn.done {rs : List Kd} {chs : List Ch} {h : Str} {bx : List (Str × Str)} {n : Nat} {rws : List Row} {ms : List Str} (o : RwsIn rs chs h bx n n rws ms) (hn : n ≤ 9) {r : Row} (ro : RowOk rs chs h bx r) (hl : Leads (n + 1) n r) (hm : r.mark = none) : RwsOk rs chs h bx (rws ++ [r]) := by
  have o2 := o.snoc (ms' := ms) ro hl (by rw [hm]; exact List.Perm.refl _)
  refine ⟨(List.nodup_append.mp o2.nd).1, by simp, by rw [o2.len]; omega, fun i r' hi => ?_, o2.rows⟩
  rw [o2.len]
  exact o2.leads i r' hi
theorem row_go {rs : List Kd} {chs : List Ch} {h : Str} {bx : List (Str × Str)} {k : Nat} (hk : k < 100) : RowOk rs chs h bx (.go k) := by
  refine ⟨trivial, ?_, by simp only [rowD, wt, wts]; omega⟩
  simp only [rowD, good, goods, Bool.and_eq_true, decide_eq_true_eq]
  exact ⟨by decide +kernel, ⟨by omega, by omega⟩, trivial⟩
theorem row_fin {rs : List Kd} {chs : List Ch} {h : Str} {bx : List (Str × Str)} : RowOk rs chs h bx .fin :=
  ⟨trivial, by decide +kernel, by simp only [rowD, wt, wts]; omega⟩
section
variable {P : Program} {w : World} {K : PySem.W.Frag} {mg : Str → Option Value} {base : Heap}
abbrev N_law_rows : List Str := ["_law_feed_here", "_law_kinds_here", "_law_channels_here", "_law_h", "_law_boxes_here", "_law_names_here", "_law_marks", "_law_rows_here", "_law_many", "_law_at", "_law_form", "_law_test"]
theorem sc_law_rows : FnScope N_law_rows ["_law_feed_here", "_law_kinds_here", "_law_channels_here", "_law_h", "_law_boxes_here", "_law_names_here"] (defScope s_law_rows) := ⟨rfl, rfl, rfl, by decide +kernel, rfl, by decide +kernel, by decide +kernel⟩
-- slots: 0 _law_feed_here, 1 _law_kinds_here, 2 _law_channels_here, 3 _law_h, 4 _law_boxes_here, 5 _law_names_here, 6 _law_marks, 7 _law_rows_here, 8 _law_many, 9 _law_at, 10 _law_form, 11 _law_test
def prRows (K : PySem.W.Frag) : V → V → V → V → V → V → Hp → VK → Prop := fun a b c d e g H Q => ∃ (f : Addr) (rs : List Kd) (chs : List Ch) (h : Str) (bx : List (Str × Str)) (ns : List Str), a = .ref f ∧ Fd H f ∧ Kds K H b rs ∧ KsOk rs ∧ rs.length ≤ 4 ∧ At K H c (.tuple (chs.map chD)) ∧ chs.length ≤ 5 ∧ (∀ c ∈ chs, Vk rs c.kind ∧ NameP c.name) ∧
  d = .str h ∧ At K H e (prsD bx) ∧ BxOk rs bx ∧ Nl H g ns ∧ NsOk ns ∧ ∀ v rws H', Ext [f] H H' → Fd H' f → At K H' v (.tuple (rws.map rowD)) → RwsOk rs chs h bx rws → Q v H'
theorem c_law_rows (T : Txt K mg) : Cal P w K mg base 43 "_law_rows" (S6 (prRows K)) := T.c_law_rows fun fd F => F.ok6 sc_law_rows fun cdv A outer s H a b c d e g Q E hr h => by
  obtain ⟨f, rs, chs, hh, bx, ns, rfl, hf, ks, ok, kf, hc, cf, cvk, rfl, hb, bok, ⟨pn, rfl, hpn⟩, nok, q⟩ := h
  have C_law_take := c_law_take (P := P) (w := w) (base := base) T
  have C_law_new_term := c_law_new_term (P := P) (w := w) (base := base) T
  have C_law_deal := c_law_deal (P := P) (w := w) (base := base) T
  have z : sizeLine = 16777216 := by decide
  have nl := nok.len
  obtain ⟨pb, bs, rfl, hbs, hbat⟩ := hb.inv_tup
  refine ⟨_, (pss_cons (ps_set (i := 6) sc_law_rows.nd rfl (Or.inl rfl) (pe_callTy call_list_of (by rfl) T.z_list (by decide +kernel) (pa_cons (pe_slice sl_list (pv 5) (po_some pe_int) (po_some pe_int)) pa_nil)))
    (pss_cons (ps_set (i := 7) sc_law_rows.nd rfl (Or.inl rfl) (pe_lst pa_nil))
    (pss_cons (ps_set (i := 8) sc_law_rows.nd rfl (Or.inl rfl) (pe_op op_add pe_int (pe_c C_law_take (hr.mono (by omega)) rfl (pa_cons (pv 0) (pa_cons pe_int pa_nil)))))
    (pss_cons (ps_for PassesOwn.never rfl (pi_range1 (by rfl) T.z_range (pa_cons (pe_op op_sub (pv 8) pe_int) pa_nil)) (pg_name (i := 9) sc_law_rows.nd rfl (by first | exact Or.inl rfl | exact Or.inr rfl))
    (pss_cons (ps_set (i := 10) sc_law_rows.nd rfl (Or.inl rfl) (pe_c C_law_take (hr.mono (by omega)) rfl (pa_cons (pv 0) (pa_cons pe_int pa_nil))))
    (pss_one (ps_if (pt_cmpR op_lt (pv 10) pe_int (nomark _))
    (pss_cons (ps_set (i := 11) sc_law_rows.nd rfl (Or.inl rfl) (pe_c C_law_new_term (hr.mono (by omega)) rfl (pa_cons (pv 0) (pa_cons (pv 1) (pa_cons (pe_callTy call_list_of (by rfl) T.z_list (by decide +kernel) (pa_cons (pv 4) pa_nil)) (pa_cons pe_str pa_nil))))))
    (pss_one (ps_expr (pe_bm PySem.F.plainAttrs_list PySem.F.slot_list_append PySem.F.type_list_append mt_append (pv 7) (pa_cons (pe_tup (pa_cons pe_str (pa_cons (pv 11) (pa_cons (pe_c C_law_take (hr.mono (by omega)) rfl (pa_cons (pv 0) (pa_cons (pv 8) pa_nil))) pa_nil)))) pa_nil)))))
    (pss_one (ps_if (pt_cmpR op_eq (pv 10) pe_int (nomark _))
    (pss_one (ps_expr (pe_bm PySem.F.plainAttrs_list PySem.F.slot_list_append PySem.F.type_list_append mt_append (pv 7) (pa_cons (pe_ix ix_list (pe_lst (pa_cons (pe_tup (pa_cons pe_str pa_nil)) (pa_cons (pe_tup (pa_cons pe_str (pa_cons (pe_c C_law_take (hr.mono (by omega)) rfl (pa_cons (pv 0) (pa_cons (pv 8) pa_nil))) pa_nil))) pa_nil))) (pe_c C_law_take (hr.mono (by omega)) rfl (pa_cons (pv 0) (pa_cons pe_int pa_nil))) (fun _ _ => rfl)) pa_nil))))
    (pss_one (ps_expr (pe_bm PySem.F.plainAttrs_list PySem.F.slot_list_append PySem.F.type_list_append mt_append (pv 7) (pa_cons (pe_c C_law_deal (hr.mono (by omega)) rfl (pa_cons (pv 0) (pa_cons (pv 1) (pa_cons (pv 2) (pa_cons (pv 3) (pa_cons (pv 4) (pa_cons (pv 6) pa_nil))))))) pa_nil))))))))))
    (pss_cons (ps_if (pt_cmpR op_gt (pe_c C_law_take (hr.mono (by omega)) rfl (pa_cons (pv 0) (pa_cons pe_int pa_nil))) pe_int (nomark _))
    (pss_one (ps_ret (pe_op op_catA (pe_callTy call_tuple_of (by rfl) T.z_tuple (by decide +kernel) (pa_cons (pv 7) pa_nil)) (pe_tup (pa_cons (pe_tup (pa_cons pe_str (pa_cons (pe_c C_law_take (hr.mono (by omega)) rfl (pa_cons (pv 0) (pa_cons (pv 8) pa_nil))) pa_nil))) pa_nil)))))
    pss_nil)
    (pss_one (ps_ret (pe_op op_catA (pe_callTy call_tuple_of (by rfl) T.z_tuple (by decide +kernel) (pa_cons (pv 7) pa_nil)) (pe_tup (pa_cons (pe_tup (pa_cons pe_str pa_nil)) pa_nil)))))))))), ?_⟩
  refine ⟨_, rfl, 20, rfl, 26, rfl, pn, _, rfl, .of hpn, fun pz hpz => ⟨pz, _, rfl, .inl (.of upd_same), fun pm hpm => ?_⟩⟩
  have ez : cutV (ns.map V.str) (some 20) (some 26) = ((ns.drop 20).take 6).map V.str := by
    rw [show (some 20 : Option Int) = some ((20 : Nat) : Int) from rfl, show (some 26 : Option Int) = some ((26 : Nat) : Int) from rfl, cut_mid, List.map_take, List.map_drop]
  rw [ez]
  refine ⟨by show 0 ≤ sizeLine; decide, fun pr hpr => ?_⟩
  have eA : Ext [] H (upd H pz (.lst (((ns.drop 20).take 6).map V.str))) := (Ext.refl _ _).new hpz
  rw [ez] at hpm
  have eB := eA.new (o := .lst (((ns.drop 20).take 6).map V.str)) hpm
  have eC := eB.new (o := .lst []) hpr
  have fC := hf.ext eC
  have hpm0 : H pm = none := eA.free hpm
  have hpr0 : H pr = none := eB.free hpr
  have hpmC : upd (upd (upd H pz (.lst (((ns.drop 20).take 6).map V.str))) pm (.lst (((ns.drop 20).take 6).map V.str))) pr (.lst []) pm = some (.lst (((ns.drop 20).take 6).map V.str)) := by
    rw [upd_ne (ne_of_none upd_same hpr)]
    exact upd_same
  have nmr : pm ≠ pr := ne_of_none upd_same hpr
  have nrf : pr ≠ f := none_ne hf hpr0
  have nmf : pm ≠ f := none_ne hf hpm0
  have hprC : upd (upd (upd H pz (.lst (((ns.drop 20).take 6).map V.str))) pm (.lst (((ns.drop 20).take 6).map V.str))) pr (.lst []) pr = some (.lst []) := upd_same
  generalize upd (upd (upd H pz (.lst (((ns.drop 20).take 6).map V.str))) pm (.lst (((ns.drop 20).take 6).map V.str))) pr (.lst []) = HC at eC fC hpmC hprC
  refine ⟨_, rfl, f, 10, rfl, rfl, by decide, by decide, fC, fun d H1 d0 d1 e1 f1 => ?_⟩
  obtain ⟨n, rfl⟩ : ∃ n : Nat, d = (n : Int) := ⟨d.toNat, by omega⟩
  have hn9 : n ≤ 9 := by omega
  have e01 : Ext [f] H H1 := eC.nil.trans e1
  have hvn : ((1 : Int) + (n : Int)) - 1 = (n : Int) := by omega
  have in0 : RwsIn rs chs hh bx n 0 [] ((ns.drop 20).take 6) := by
    refine ⟨rfl, ?_, by rw [List.length_take]; omega, fun m hm => nok.nm m (List.mem_of_mem_drop (List.mem_of_mem_take hm)), (fun j r h => by simp at h), (fun r h => by cases h)⟩
    have : ns.drop 20 = (ns.drop 18).drop 2 := by rw [List.drop_drop]
    rw [this]
    exact nok.g4.sublist ((List.take_sublist _ _).trans (List.drop_sublist _ _))
  have st2 : (2 : Nat) ≤ sizeLine := by decide
  have st1 : (1 : Nat) ≤ sizeLine := by decide
  refine ⟨_, _, rfl, rfl, ?_⟩
  refine ⟨_, rfl, _, _, rfl, rfl, (n : Int), congrArg (fun z => [V.int z]) hvn, by omega, by omega, for_range (n := n) (fun i σ H' => Ext [f] H H' ∧ Fd H' f ∧ ∃ (ys : List V) (rws : List Row) (ms : List Str), H' pr = some (.lst ys) ∧ Ats K H' ys (rws.map rowD) ∧ H' pm = some (.lst (ms.map V.str)) ∧ RwsIn rs chs hh bx n i rws ms ∧
    ∃ v9 v10 v11, σ = [some (.ref f), some b, some c, some (.str hh), some (.ref pb), some (.ref pn), some (.ref pm), some (.ref pr), some (.int (1 + (n : Int))), v9, v10, v11]) ⟨e01, f1, [], [], _, e1.get1 nrf hprC, .nil, e1.get1 nmf hpmC, in0, _, _, _, rfl⟩ ?_ ?_⟩
  · rintro i σ H3 hi ⟨e3, f3, ys, rws, ms, hys, hats, hpm3, rin, v9, v10, v11, rfl⟩
    have hyl : ys.length = i := by rw [hats.length, List.length_map, rin.len]
    -- the end of a turn: a row that is laid, at heaps that come of this one
    have fin : ∀ (H5 : Hp) (v : V) (r : Row) (ms' : List Str), Ext [f, pm] H3 H5 → Ext [f] H H5 → Fd H5 f → H5 pm = some (.lst (ms'.map V.str)) → At K H5 v (rowD r) → RowOk rs chs hh bx r → Leads (n + 1) i r → ms.Perm (r.mark.toList ++ ms') → ∀ w9 w10 w11, Ext [f] H (upd H5 pr (.lst (ys ++ [v]))) ∧ Fd (upd H5 pr (.lst (ys ++ [v]))) f ∧ ∃ (ys' : List V) (rws : List Row) (ms : List Str), upd H5 pr (.lst (ys ++ [v])) pr = some (.lst ys') ∧ Ats K (upd H5 pr (.lst (ys ++ [v]))) ys' (rws.map rowD) ∧ upd H5 pr (.lst (ys ++ [v])) pm = some (.lst (ms.map V.str)) ∧ RwsIn rs chs hh bx n (i + 1) rws ms ∧
      ∃ v9 v10 v11, [some (.ref f), some b, some c, some (.str hh), some (.ref pb), some (.ref pn), some (.ref pm), some (.ref pr), some (.int (1 + (n : Int))), w9, w10, w11] = [some (.ref f), some b, some c, some (.str hh), some (.ref pb), some (.ref pn), some (.ref pm), some (.ref pr), some (.int (1 + (n : Int))), v9, v10, v11] := fun H5 v r ms' e5 e05 f5 hpm5 hv ro hl hp w9 w10 w11 => by
      have h5 : H5 pr = some (.lst ys) := e5.get (by simp [nrf, nmr.symm]) hys
      have ew : Ext [pr] H5 (upd H5 pr (.lst (ys ++ [v]))) := (Ext.refl _ _).put (by simp) h5
      refine ⟨e05.own hpr0, f5.oth nrf.symm, ys ++ [v], rws ++ [r], ms', upd_same, ?_, by rw [upd_ne nmr]; exact hpm5, rin.snoc ro hl hp, _, _, _, rfl⟩
      rw [List.map_append]
      exact ew.ats ((e5.ats hats).snoc hv)
    have getr : ∀ {H5 : Hp}, Ext [f] H3 H5 → H5 pr = some (.lst ys) := fun e => e.get1 nrf hys
    have getm : ∀ {H5 : Hp}, Ext [f] H3 H5 → H5 pm = some (.lst (ms.map V.str)) := fun e => e.get1 nmf hpm3
    have szl : ys.length < sizeLine := by omega
    refine ⟨_, rfl, f, 16, rfl, rfl, by decide, by decide, f3, fun form H4 d0 d1 e4 f4 => ?_⟩
    have e04 := e3.trans e4
    refine ⟨_, rfl, _, _, rfl, rfl, _, rfl, ite2 (fun _ => ?_) (fun _ => ?_)⟩
    · refine ⟨_, rfl, _, rfl, _, rfl, pb, bs, rfl, .inr (e04.sqt hbs), fun l hl => ?_⟩
      refine ⟨f, rs, bx, "num", rfl, tin_list f4 (e04.at_ ks) ok kf hl (e04.ats hbat) bok, rfl, .inl rfl, fun v t H5 e5 f5 hv tok => ?_⟩
      have e35 := (e4.new (o := .lst bs) hl).trans e5
      refine ⟨_, rfl, .inl ⟨rfl, _, .inl (.inl (getr e35))⟩, _, rfl, _, rfl, _, rfl, f, _, rfl, rfl, by omega, by omega, f5, fun k H6 k0 k1 e6 f6 => ?_⟩
      obtain ⟨kk, rfl⟩ : ∃ kk : Nat, k = (kk : Int) := ⟨k.toNat, by omega⟩
      refine ⟨by show 3 ≤ sizeLine; decide, fun p8 hp8 => ?_⟩
      have e38 := (e35.trans e6).new (o := .tup [.str "if", v, .int (kk : Int)]) hp8
      refine ⟨pr, _, _, rfl, rfl, getr e38, szl, fin _ _ (.iff t kk) ms e38.pair (e3.trans e38) (f6.new hp8) (getm e38) (At.mk hp8 (.cons (.str _) (.cons (e6.at_ hv) (.cons (.int _) .nil)))) ⟨tok.w, ?_, ?_⟩ ⟨by omega, by omega⟩ (List.Perm.refl _) _ _ _⟩
      · simp only [rowD, good, goods, Bool.and_eq_true, decide_eq_true_eq, tok.g]
        exact ⟨by decide +kernel, trivial, ⟨by omega, by omega⟩, trivial⟩
      · have := tok.z
        simp only [rowD, wt, wts]
        omega
    refine ⟨_, rfl, rfl, _, rfl, ite2 (fun _ => ?_) (fun _ => ?_)⟩
    · refine ⟨_, rfl, .inl ⟨rfl, _, .inl (.inl (getr e4))⟩, by show 1 ≤ sizeLine; decide, fun p1 hp1 => ?_⟩
      have e31 := e4.new (o := .tup [.str "end"]) hp1
      refine ⟨_, rfl, _, rfl, f, _, rfl, rfl, by omega, by omega, f4.new hp1, fun k H6 k0 k1 e6 f6 => ?_⟩
      obtain ⟨kk, rfl⟩ : ∃ kk : Nat, k = (kk : Int) := ⟨k.toNat, by omega⟩
      refine ⟨by show 2 ≤ sizeLine; decide, fun p2 hp2 => ⟨by show 2 ≤ sizeLine; decide, fun p3 hp3 => ?_⟩⟩
      have e36 := e31.trans e6
      have at1 : At K H6 (.ref p1) (rowD .fin) := e6.at_ (At.mk hp1 (.cons (.str _) .nil))
      have at2 : At K (upd H6 p2 (.tup [.str "go", .int (kk : Int)])) (.ref p2) (rowD (.go kk)) := At.mk hp2 (.cons (.str _) (.cons (.int _) .nil))
      have e62 : Ext [] H6 (upd H6 p2 (.tup [.str "go", .int (kk : Int)])) := (Ext.refl _ _).new hp2
      have e23 : Ext [] (upd H6 p2 (.tup [.str "go", .int (kk : Int)])) (upd (upd H6 p2 (.tup [.str "go", .int (kk : Int)])) p3 (.lst [.ref p1, .ref p2])) := (Ext.refl _ _).new hp3
      have np3 : p3 ≠ f := none_ne (f6.new hp2) hp3
      refine ⟨_, rfl, f, 2, rfl, rfl, by decide, by decide, (f6.new hp2).new hp3, fun d H7 d0 d1 e7 f7 => ?_⟩
      have e37 := (e36.trans (e62.trans e23).nil).trans e7
      rcases (by omega : d = 0 ∨ d = 1) with rfl | rfl
      · refine ⟨p3, _, _, _, rfl, rfl, .of (e7.get1 np3 upd_same), atI_nat (j := 0) rfl, ?_⟩
        exact ⟨pr, _, _, rfl, rfl, getr e37, szl, fin _ _ .fin ms e37.pair (e3.trans e37) f7 (getm e37) (e7.at_ ((e62.trans e23).at_ at1)) row_fin trivial (List.Perm.refl _) _ _ _⟩
      · refine ⟨p3, _, _, _, rfl, rfl, .of (e7.get1 np3 upd_same), atI_nat (j := 1) rfl, ?_⟩
        exact ⟨pr, _, _, rfl, rfl, getr e37, szl, fin _ _ (.go kk) ms e37.pair (e3.trans e37) f7 (getm e37) (e7.at_ (e23.at_ at2)) (row_go (by omega)) (show kk < n + 1 by omega) (List.Perm.refl _) _ _ _⟩
    · refine ⟨_, rfl, .inl ⟨rfl, _, .inl (.inl (getr e4))⟩, _, rfl, _, rfl, _, rfl, _, rfl, _, rfl, _, rfl, ?_⟩
      refine ⟨f, pm, rs, chs, hh, bx, ms, rfl, f4, e04.at_ ks, ok, kf, e04.at_ hc, cf, cvk, rfl, .tup (e04.sqt hbs) (e04.ats hbat), bok, rfl, getm e4, rin.ml, rin.mn, fun v r ms' H5 e5 f5 hpm5 hv ro hl hp => ?_⟩
      have e35 : Ext [f, pm] H3 H5 := e4.pair.trans e5
      have e05 : Ext [f] H H5 := e04.drop (f := pm) (e5.mono fun a h => (List.Perm.swap pm f []).mem_iff.mp h) hpm0
      exact ⟨pr, _, _, rfl, rfl, e35.get (by simp [nrf, nmr.symm]) hys, szl, fin _ _ r ms' e35 e05 f5 hpm5 hv ro (hl _ _ (by omega)) hp _ _ _⟩
  · rintro σ H3 ⟨e3, f3, ys, rws, ms, hys, hats, hpm3, rin, v9, v10, v11, rfl⟩
    have hyl : ys.length = n := by rw [hats.length, List.length_map, rin.len]
    refine ⟨_, rfl, f, 4, rfl, rfl, by decide, by decide, f3, fun d H4 d0 d1 e4 f4 => ?_⟩
    have hys4 := e4.get1 nrf hys
    have hats4 := e4.ats hats
    have e04 := e3.trans e4
    refine ⟨_, _, rfl, rfl, _, rfl, ite2 (fun _ => ?_) (fun _ => ?_)⟩
    · refine ⟨_, rfl, pr, ys, rfl, .inl ⟨.of hys4, fun p5 hp5 => ?_⟩⟩
      have e45 : Ext [] H4 (upd H4 p5 (.tup ys)) := (Ext.refl _ _).new hp5
      refine ⟨_, rfl, _, rfl, f, _, rfl, rfl, by omega, by omega, f4.new hp5, fun k H6 k0 k1 e6 f6 => ?_⟩
      obtain ⟨kk, rfl⟩ : ∃ kk : Nat, k = (kk : Int) := ⟨k.toNat, by omega⟩
      refine ⟨by show 2 ≤ sizeLine; decide, fun p7 hp7 => ⟨by show 1 ≤ sizeLine; decide, fun p8 hp8 => ?_⟩⟩
      have at7 : At K (upd H6 p7 (.tup [.str "go", .int (kk : Int)])) (.ref p7) (rowD (.go kk)) := At.mk hp7 (.cons (.str _) (.cons (.int _) .nil))
      have e67 : Ext [] H6 (upd H6 p7 (.tup [.str "go", .int (kk : Int)])) := (Ext.refl _ _).new hp7
      have e78 : Ext [] (upd H6 p7 (.tup [.str "go", .int (kk : Int)])) (upd (upd H6 p7 (.tup [.str "go", .int (kk : Int)])) p8 (.tup [.ref p7])) := (Ext.refl _ _).new hp8
      have e48 := (e45.nil.trans e6).trans (e67.trans e78).nil
      have e08 := e04.trans e48
      have f8 := (f6.new (o := .tup [.str "go", .int (kk : Int)]) hp7).new (o := .tup [.ref p7]) hp8
      have at8 := e78.at_ at7
      have hs5 : SqT K (upd (upd H6 p7 (.tup [.str "go", .int (kk : Int)])) p8 (.tup [.ref p7])) p5 ys := (e6.trans (e67.trans e78).nil).sqt (.of upd_same)
      have fin := rin.done hn9 (row_go (k := kk) (by omega)) (show kk < n + 1 by omega) rfl
      refine ⟨p5, p8, ys, [.ref p7], rfl, rfl, hs5, .of upd_same, by show ys.length + 1 ≤ sizeLine; omega, fun hy => ?_, (fun _ h => by cases h), fun _ _ p9 hp9 => ?_⟩
      · refine q _ (rws ++ [.go kk]) _ e08 f8 (.tup (.of upd_same) ?_) fin
        rw [List.map_append]
        have := (e48.ats hats4).append (Ats.cons at8 .nil)
        have e9 : ys ++ [V.ref p7] = [V.ref p7] := by rw [hy]; rfl
        rw [e9] at this
        exact this
      · refine q _ (rws ++ [.go kk]) _ (e08.new hp9) (f8.new hp9) (At.mk hp9 ?_) fin
        rw [List.map_append]
        exact (e48.ats hats4).append (.cons at8 .nil)
    · refine ⟨_, rfl, pr, ys, rfl, .inl ⟨.of hys4, fun p5 hp5 => ?_⟩⟩
      have e45 : Ext [] H4 (upd H4 p5 (.tup ys)) := (Ext.refl _ _).new hp5
      refine ⟨by show 1 ≤ sizeLine; decide, fun p7 hp7 => ⟨by show 1 ≤ sizeLine; decide, fun p8 hp8 => ?_⟩⟩
      have at7 : At K (upd (upd H4 p5 (.tup ys)) p7 (.tup [.str "end"])) (.ref p7) (rowD .fin) := At.mk hp7 (.cons (.str _) .nil)
      have e57 : Ext [] (upd H4 p5 (.tup ys)) (upd (upd H4 p5 (.tup ys)) p7 (.tup [.str "end"])) := (Ext.refl _ _).new hp7
      have e78 : Ext [] (upd (upd H4 p5 (.tup ys)) p7 (.tup [.str "end"])) (upd (upd (upd H4 p5 (.tup ys)) p7 (.tup [.str "end"])) p8 (.tup [.ref p7])) := (Ext.refl _ _).new hp8
      have e48 := e45.trans (e57.trans e78)
      have e08 := e04.trans e48.nil
      have f8 := f4.ext e48
      have at8 := e78.at_ at7
      have hs5 : SqT K (upd (upd (upd H4 p5 (.tup ys)) p7 (.tup [.str "end"])) p8 (.tup [.ref p7])) p5 ys := (e57.trans e78).sqt (.of upd_same)
      have fin := rin.done hn9 (row_fin) (show Leads (n + 1) n .fin from trivial) rfl
      refine ⟨p5, p8, ys, [.ref p7], rfl, rfl, hs5, .of upd_same, by show ys.length + 1 ≤ sizeLine; omega, fun hy => ?_, (fun _ h => by cases h), fun _ _ p9 hp9 => ?_⟩
      · refine q _ (rws ++ [.fin]) _ e08 f8 (.tup (.of upd_same) ?_) fin
        rw [List.map_append]
        have := (e48.ats hats4).append (Ats.cons at8 .nil)
        have e9 : ys ++ [V.ref p7] = [V.ref p7] := by rw [hy]; rfl
        rw [e9] at this
        exact this
      · refine q _ (rws ++ [.fin]) _ (e08.new hp9) (f8.new hp9) (At.mk hp9 ?_) fin
        rw [List.map_append]
        exact (e48.ats hats4).append (.cons at8 .nil)
end
end Sw

-- part SwG11
set_option Elab.async false
set_option linter.all false
set_option maxRecDepth 100000
set_option maxHeartbeats 4000000
namespace Sw
open PySem PySem.Spec PyProof.Rows L2
/-- a make as the law makes it -/
structure MkG (ns : List Str) (m : Mak) : Prop where
  kg : KdsG ns m.rs
  hs1 : m.hs ≠ []
  hl : m.hs.length ≤ 4
  hnm : m.hs.map Hd.name = ns.take m.hs.length
  cg : ChsG ns m.rs m.hs.length m.chs
  hd : ∀ h ∈ m.hs, BxOk m.rs h.boxes ∧ RwsOk m.rs m.chs h.name h.boxes h.rows
theorem take_nd {α : Type} {ns : List α} {n i : Nat} (h : (ns.take n).Nodup) (hi : i ≤ n) : (ns.take i).Nodup := by
  have e : ns.take i = (ns.take n).take i := by rw [List.take_take, Nat.min_eq_left hi]
  rw [e]
  exact h.sublist (List.take_sublist _ _)
theorem ChsG.nameP {ns : List Str} {rs : List Kd} {hn : Nat} {chs : List Ch} (g : ChsG ns rs hn chs) (nok : NsOk ns) : ∀ c ∈ chs, NameP c.name := fun c hc => by
  have : c.name ∈ chs.map Ch.name := List.mem_map.mpr ⟨c, hc, rfl⟩
  rw [g.nm] at this
  exact nok.nm _ (List.mem_of_mem_drop (List.mem_of_mem_take this))
theorem MkG.ok {ns : List Str} {m : Mak} (g : MkG ns m) (nok : NsOk ns) : MkOk m := by
  have k4 := g.kg.few
  have h4 := g.hl
  have c5 := g.cg.few
  refine ⟨g.kg.ok, by omega, by rw [g.hnm]; exact take_nd nok.g1 (by omega), fun h hh => ⟨?_, fun b hb => (g.hd h hh).1.nm b hb⟩, h4, ?_, g.cg.nameP nok, by omega, fun c hc => ⟨by rw [g.hnm]; exact g.cg.src c hc, by rw [g.hnm]; exact g.cg.dst c hc, g.cg.vk c hc⟩, fun h hh => ?_⟩
  · have : h.name ∈ m.hs.map Hd.name := List.mem_map.mpr ⟨h, hh, rfl⟩
    rw [g.hnm] at this
    exact nok.nm _ (List.mem_of_mem_take this)
  · rw [g.cg.nm]
    exact take_nd nok.g3 (by omega)
  · obtain ⟨b, r⟩ := g.hd h hh
    exact ⟨b.nd, b.vk, b.few, r.marks, r.ne, by have := r.most; omega, r.leads, fun x hx => (r.rows x hx).t, fun x hx => ⟨(r.rows x hx).g, (r.rows x hx).z⟩⟩
section
variable {P : Program} {w : World} {K : PySem.W.Frag} {mg : Str → Option Value} {base : Heap}
abbrev N_law_hands : List Str := ["_law_script", "_law_at", "_law_kinds_here", "_law_channels_here", "_law_many", "_law_names_here", "_law_found_here", "_law_k", "_law_feed_here", "_law_boxes_here"]
theorem sc_law_hands : FnScope N_law_hands ["_law_script", "_law_at", "_law_kinds_here", "_law_channels_here", "_law_many", "_law_names_here"] (defScope s_law_hands) := ⟨rfl, rfl, rfl, by decide +kernel, rfl, by decide +kernel, by decide +kernel⟩
-- slots: 0 _law_script, 1 _law_at, 2 _law_kinds_here, 3 _law_channels_here, 4 _law_many, 5 _law_names_here, 6 _law_found_here, 7 _law_k, 8 _law_feed_here, 9 _law_boxes_here
def prHands (K : PySem.W.Frag) : V → V → V → V → V → V → Hp → VK → Prop := fun a b c d e g H Q => ∃ (s : Addr) (is : List Int) (k : Int) (rs : List Kd) (chs : List Ch) (hn : Nat) (ns : List Str), a = .ref s ∧ SqL K H s (is.map V.int) ∧ is.length ≤ 63 ∧ b = .int k ∧ 0 ≤ k ∧ k ≤ 100 ∧ Kds K H c rs ∧ KdsG ns rs ∧
  At K H d (.tuple (chs.map chD)) ∧ ChsG ns rs hn chs ∧ e = .int hn ∧ 1 ≤ hn ∧ hn ≤ 4 ∧ Nl H g ns ∧ NsOk ns ∧ ∀ v m H', Ext [] H H' → At K H' v (mkD m) → MkG ns m → Q v H'
theorem c_law_hands (T : Txt K mg) : Cal P w K mg base 44 "_law_hands" (S6 (prHands K)) := T.c_law_hands fun fd F => F.ok6 sc_law_hands fun cdv A outer s0 H a b c d e g Q E hr h => by
  obtain ⟨s, is, k, rs, chs, hn, ns, rfl, hsc, isl, rfl, k0, k1, ks, kg, hc, cg, rfl, hn1, hn4, ⟨pn, rfl, hpn⟩, nok, q⟩ := h
  have C_law_feed := c_law_feed (P := P) (w := w) (base := base) T
  have C_law_boxes := c_law_boxes (P := P) (w := w) (base := base) T
  have C_law_rows := c_law_rows (P := P) (w := w) (base := base) T
  have z : sizeLine = 16777216 := by decide
  have nl := nok.len
  have cnm := cg.nameP nok
  refine ⟨_, (pss_cons (ps_set (i := 6) sc_law_hands.nd rfl (Or.inl rfl) (pe_lst pa_nil))
    (pss_cons (ps_for PassesOwn.never rfl (pi_range1 (by rfl) T.z_range (pa_cons (pv 4) pa_nil)) (pg_name (i := 7) sc_law_hands.nd rfl (by first | exact Or.inl rfl | exact Or.inr rfl))
    (pss_cons (ps_set (i := 8) sc_law_hands.nd rfl (Or.inl rfl) (pe_c C_law_feed (hr.mono (by omega)) rfl (pa_cons (pv 0) (pa_cons (pe_op op_add (pv 1) (pv 7)) pa_nil))))
    (pss_cons (ps_set (i := 9) sc_law_hands.nd rfl (Or.inl rfl) (pe_c C_law_boxes (hr.mono (by omega)) rfl (pa_cons (pv 8) (pa_cons (pv 2) (pa_cons (pv 3) (pa_cons (pe_ix ix_list (pv 5) (pv 7) (fun _ _ => rfl)) (pa_cons (pv 5) pa_nil)))))))
    (pss_one (ps_expr (pe_bm PySem.F.plainAttrs_list PySem.F.slot_list_append PySem.F.type_list_append mt_append (pv 6) (pa_cons (pe_tup (pa_cons (pe_ix ix_list (pv 5) (pv 7) (fun _ _ => rfl)) (pa_cons (pv 9) (pa_cons (pe_c C_law_rows (hr.mono (by omega)) rfl (pa_cons (pv 8) (pa_cons (pv 2) (pa_cons (pv 3) (pa_cons (pe_ix ix_list (pv 5) (pv 7) (fun _ _ => rfl)) (pa_cons (pv 9) (pa_cons (pv 5) pa_nil))))))) pa_nil)))) pa_nil)))))))
    (pss_one (ps_ret (pe_tup (pa_cons (pv 2) (pa_cons (pv 3) (pa_cons (pe_callTy call_tuple_of (by rfl) T.z_tuple (by decide +kernel) (pa_cons (pv 6) pa_nil)) pa_nil)))))))), ?_⟩
  refine ⟨by show 0 ≤ sizeLine; decide, fun ph hph => ?_⟩
  have e0 : Ext [] H (upd H ph (.lst [])) := (Ext.refl _ _).new hph
  refine ⟨_, rfl, (hn : Int), rfl, by omega, by omega, for_range (n := hn) (fun i σ H' => Ext [] H H' ∧ ∃ (ys : List V) (hs : List Hd), H' ph = some (.lst ys) ∧ Ats K H' ys (hs.map hdD) ∧ hs.map Hd.name = ns.take i ∧ hs.length = i ∧ (∀ h ∈ hs, BxOk rs h.boxes ∧ RwsOk rs chs h.name h.boxes h.rows) ∧
    ∃ v7 v8 v9, σ = [some (.ref s), some (.int k), some c, some d, some (.int (hn : Int)), some (.ref pn), some (.ref ph), v7, v8, v9]) ⟨e0, [], [], upd_same, .nil, rfl, rfl, (fun _ h => by cases h), _, _, _, rfl⟩ ?_ ?_⟩
  · rintro i σ H3 hi ⟨e3, ys, hs, hys, hats, hnm, hsl, hok, v7, v8, v9, rfl⟩
    have hyl : ys.length = i := by rw [hats.length, List.length_map, hsl]
    obtain ⟨y, hy⟩ : ∃ y, ns[i]? = some y := ⟨ns[i]'(by omega), List.getElem?_eq_getElem (by omega)⟩
    have hix : ∀ {H' : Hp}, H' pn = some (.lst (ns.map V.str)) → ∃ p xs i' x, V.ref pn = .ref p ∧ V.int (0 + (i : Int)) = .int i' ∧ SqL K H' p xs ∧ atI xs i' = some x ∧ x = .str y := fun h => ⟨pn, _, _, _, rfl, rfl, .of h, at_of (j := i) (by omega) (by rw [List.getElem?_map, hy]; rfl), rfl⟩
    have hat : atI (ns.map V.str) (0 + (i : Int)) = some (.str y) := at_of (j := i) (by omega) (by rw [List.getElem?_map, hy]; rfl)
    refine ⟨_, rfl, _, rfl, _, rfl, _, _, rfl, rfl, s, is, _, rfl, rfl, e3.sql (by simp) hsc, isl, by omega, by omega, fun f H4 hfn e4 f4 => ?_⟩
    have e04 := e3.trans e4
    have hpn4 := e04.same _ _ hpn
    have npn := f4.strs hpn4
    have hf0 : H f = none := e3.free hfn
    have nph : ph ≠ f := ne_of_none hys hfn
    refine ⟨_, rfl, _, rfl, _, rfl, _, rfl, _, rfl, pn, _, _, _, rfl, rfl, .of hpn4, hat, _, rfl, ?_⟩
    refine ⟨f, rs, ns, chs, y, rfl, f4, e04.at_ ks, kg.few, e04.at_ hc, cg.few, cg.vk, rfl, ⟨pn, rfl, hpn4⟩, nok, fun v bx H5 e5 f5 hbv bok => ?_⟩
    have e05 : Ext [f] H H5 := e04.nil.trans e5
    have hpn5 := e5.get1 npn hpn4
    have hys5 := e5.get1 nph (e4.same _ _ hys)
    refine ⟨_, rfl, .inl ⟨rfl, _, .inl (.inl hys5)⟩, _, rfl, _, rfl, pn, _, _, _, rfl, rfl, .of hpn5, hat, _, rfl, ?_⟩
    refine ⟨_, rfl, _, rfl, _, rfl, _, rfl, _, rfl, pn, _, _, _, rfl, rfl, .of hpn5, hat, _, rfl, _, rfl, ?_⟩
    refine ⟨f, rs, chs, y, bx, ns, rfl, f5, e05.at_ ks, kg.ok, kg.few, e05.at_ hc, cg.few, fun c hc => ⟨cg.vk c hc, cnm c hc⟩, rfl, hbv, bok, ⟨pn, rfl, hpn5⟩, nok, fun v2 rws H6 e6 f6 hrv rok => ?_⟩
    refine ⟨by show 3 ≤ sizeLine; decide, fun p8 hp8 => ?_⟩
    have e46 := e5.trans e6
    have e06 : Ext [] H H6 := e04.drop e46 hf0
    have e07 := e06.new (o := .tup [.str y, v, v2]) hp8
    have e48 := e46.new (o := .tup [.str y, v, v2]) hp8
    have h8 := e48.get1 nph (e4.same _ _ hys)
    have at8 : At K (upd H6 p8 (.tup [.str y, v, v2])) (.ref p8) (hdD ⟨y, bx, rws⟩) := At.mk hp8 (.cons (.str _) (.cons (e6.at_ hbv) (.cons hrv .nil)))
    have ew : Ext [ph] (upd H6 p8 (.tup [.str y, v, v2])) (upd (upd H6 p8 (.tup [.str y, v, v2])) ph (.lst (ys ++ [.ref p8]))) := (Ext.refl _ _).put (by simp) h8
    refine ⟨ph, _, _, rfl, rfl, h8, by omega, e07.own hph, ys ++ [.ref p8], hs ++ [⟨y, bx, rws⟩], upd_same, ?_, ?_, by rw [List.length_append, List.length_singleton, hsl], fun h hh => ?_, _, _, _, rfl⟩
    · rw [List.map_append]
      exact ew.ats ((e48.ats (e4.ats hats)).snoc at8)
    · rw [List.map_append, hnm, List.take_add_one, hy]
      rfl
    · rcases List.mem_append.mp hh with h1 | h1
      · exact hok h h1
      · rw [List.mem_singleton.mp h1]
        exact ⟨bok, rok⟩
  · rintro σ H3 ⟨e3, ys, hs, hys, hats, hnm, hsl, hok, v7, v8, v9, rfl⟩
    refine ⟨_, rfl, _, rfl, _, rfl, ph, ys, rfl, .inl ⟨.of hys, fun p7 hp7 => ⟨by show 3 ≤ sizeLine; decide, fun p8 hp8 => ?_⟩⟩⟩
    have e4 : Ext [] H3 (upd H3 p7 (.tup ys)) := (Ext.refl _ _).new hp7
    have e04 := e3.trans e4
    refine q _ ⟨rs, chs, hs⟩ _ (e04.new hp8) (At.mk hp8 (.cons (e04.at_ ks) (.cons (e04.at_ hc) (.cons (At.mk hp7 hats) .nil)))) ⟨kg, ?_, by show hs.length ≤ 4; omega, by show hs.map Hd.name = ns.take hs.length; rw [hsl]; exact hnm, by show ChsG ns rs hs.length chs; rw [hsl]; exact cg, hok⟩
    intro e
    have e : hs = [] := e
    rw [e] at hsl
    simp at hsl
    omega
abbrev N_law_make : List Str := ["_law_script", "_law_at", "_law_names_here", "_law_kinds_here", "_law_feed_here", "_law_hands_here"]
theorem sc_law_make : FnScope N_law_make ["_law_script", "_law_at", "_law_names_here"] (defScope s_law_make) := ⟨rfl, rfl, rfl, by decide +kernel, rfl, by decide +kernel, by decide +kernel⟩
-- slots: 0 _law_script, 1 _law_at, 2 _law_names_here, 3 _law_kinds_here, 4 _law_feed_here, 5 _law_hands_here
def prMake (K : PySem.W.Frag) : V → V → V → Hp → VK → Prop := fun a b c H Q => ∃ (s : Addr) (is : List Int) (k : Int) (ns : List Str), a = .ref s ∧ SqL K H s (is.map V.int) ∧ is.length ≤ 63 ∧ b = .int k ∧ 0 ≤ k ∧ k ≤ 50 ∧ Nl H c ns ∧ NsOk ns ∧ ∀ v m H', Ext [] H H' → At K H' v (mkD m) → MkG ns m → Q v H'
theorem c_law_make (T : Txt K mg) : Cal P w K mg base 45 "_law_make" (S3 (prMake K)) := T.c_law_make fun fd F => F.ok3 sc_law_make fun cdv A outer s0 H a b c Q E hr h => by
  obtain ⟨s, is, k, ns, rfl, hsc, isl, rfl, k0, k1, ⟨pn, rfl, hpn⟩, nok, q⟩ := h
  have C_law_take := c_law_take (P := P) (w := w) (base := base) T
  have C_law_feed := c_law_feed (P := P) (w := w) (base := base) T
  have C_law_kinds := c_law_kinds (P := P) (w := w) (base := base) T
  have C_law_channels := c_law_channels (P := P) (w := w) (base := base) T
  have C_law_hands := c_law_hands (P := P) (w := w) (base := base) T
  refine ⟨_, (pss_cons (ps_set (i := 3) sc_law_make.nd rfl (Or.inl rfl) (pe_c C_law_kinds (hr.mono (by omega)) rfl (pa_cons (pe_c C_law_feed (hr.mono (by omega)) rfl (pa_cons (pv 0) (pa_cons (pv 1) pa_nil))) (pa_cons (pv 2) pa_nil))))
    (pss_cons (ps_set (i := 4) sc_law_make.nd rfl (Or.inl rfl) (pe_c C_law_feed (hr.mono (by omega)) rfl (pa_cons (pv 0) (pa_cons (pe_op op_add (pv 1) pe_int) pa_nil))))
    (pss_cons (ps_set (i := 5) sc_law_make.nd rfl (Or.inl rfl) (pe_op op_add pe_int (pe_c C_law_take (hr.mono (by omega)) rfl (pa_cons (pv 4) (pa_cons pe_int pa_nil)))))
    (pss_one (ps_ret (pe_c C_law_hands (hr.mono (by omega)) rfl (pa_cons (pv 0) (pa_cons (pe_op op_add (pv 1) pe_int) (pa_cons (pv 3) (pa_cons (pe_c C_law_channels (hr.mono (by omega)) rfl (pa_cons (pv 4) (pa_cons (pv 3) (pa_cons (pv 2) (pa_cons (pv 5) pa_nil))))) (pa_cons (pv 5) (pa_cons (pv 2) pa_nil)))))))))))), ?_⟩
  refine ⟨_, rfl, _, rfl, s, is, _, rfl, rfl, hsc, isl, by omega, by omega, fun f H1 hf e1 f1 => ?_⟩
  have hpn1 := e1.same _ _ hpn
  refine ⟨_, rfl, f, ns, rfl, f1, ⟨pn, rfl, hpn1⟩, nok, fun v rs H2 e2 ks kg => ?_⟩
  have e02 : Ext [] H H2 := e1.drop e2 hf
  have hpn2 := e02.same _ _ hpn
  refine ⟨_, rfl, _, rfl, _, _, rfl, rfl, s, is, _, rfl, rfl, e02.sql (by simp) hsc, isl, by omega, by omega, fun f2 H3 hf2 e3 g3 => ?_⟩
  have e03 := e02.trans e3
  refine ⟨_, rfl, f2, 4, rfl, rfl, by decide, by decide, g3, fun d H4 d0 d1 e4 g4 => ?_⟩
  have hf20 : H f2 = none := e02.free hf2
  have e04 : Ext [] H H4 := e03.drop e4 hf20
  obtain ⟨n, rfl⟩ : ∃ n : Nat, d = (n : Int) := ⟨d.toNat, by omega⟩
  have hvn : (1 : Int) + (n : Int) = ((1 + n : Nat) : Int) := by omega
  refine ⟨_, _, rfl, rfl, ?_⟩
  refine ⟨_, rfl, _, rfl, _, _, rfl, rfl, _, rfl, ?_⟩
  refine ⟨_, rfl, _, rfl, _, rfl, _, rfl, f2, rs, ns, 1 + n, rfl, g4, (e3.nil.trans e4).at_ ks, kg.few, ⟨pn, rfl, e04.same _ _ hpn⟩, nok.len, congrArg V.int hvn, by omega, by omega, fun vc chs H5 e5 g5 hc cg => ?_⟩
  have e05 : Ext [] H H5 := e03.drop (e4.trans e5) hf20
  exact ⟨_, rfl, _, rfl, s, is, _, rs, chs, 1 + n, ns, rfl, e05.sql (by simp) hsc, isl, rfl, by omega, by omega, ((e3.nil.trans e4).trans e5).at_ ks, kg, hc, cg, congrArg V.int hvn, by omega, by omega, ⟨pn, rfl, e05.same _ _ hpn⟩, nok, fun v m H6 e6 hm mg => q v m H6 (e05.trans e6) hm mg⟩
end
end Sw

-- part SwG12
set_option Elab.async false
set_option linter.all false
set_option maxRecDepth 100000
set_option maxHeartbeats 4000000
namespace Sw
open PySem PySem.Spec PyProof.Rows L2
/-! ## the wide make, plain -/
def tellR (k : Nat) : Row := .tell (.tuple [.str "num", .int (k : Int)])
def wideRows (rws : List Row) : List Row := rws.dropLast ++ ((List.range (24 - rws.length)).map tellR) ++ rws.drop (rws.length - 1)
def wideHd (h : Hd) : Hd := ⟨h.name, h.boxes, wideRows h.rows⟩
structure Wd (ns : List Str) where
  y4 : Str
  y5 : Str
  y8 : Str
  y9 : Str
  y17 : Str
  e4 : ns[4]? = some y4
  e5 : ns[5]? = some y5
  e8 : ns[8]? = some y8
  e9 : ns[9]? = some y9
  e17 : ns[17]? = some y17
def Wd.k4 {ns : List Str} (w : Wd ns) : Kd := ⟨w.y4, false, []⟩
def Wd.k5 {ns : List Str} (w : Wd ns) : Kd := ⟨w.y5, true, [(w.y8, "num"), (w.y9, w.y4)]⟩
def Wd.mk2 {ns : List Str} (w : Wd ns) (m : Mak) (hl hf : Str) : Mak := ⟨w.k5 :: w.k4 :: m.rs, m.chs ++ [⟨w.y17, hl, hf, w.y5⟩], m.hs.map wideHd⟩
theorem last_split {α : Type} {l : List α} (h : l ≠ []) : ∃ a x, l = a ++ [x] := ⟨l.dropLast, l.getLast h, (List.dropLast_concat_getLast h).symm⟩
theorem wide_split {a : List Row} {x : Row} : wideRows (a ++ [x]) = a ++ ((List.range (23 - a.length)).map tellR) ++ [x] := by
  unfold wideRows
  rw [List.dropLast_concat, List.length_append, List.length_singleton, Nat.add_sub_cancel, List.drop_left]
  congr 4
  omega
theorem Leads.up {n i : Nat} {r : Row} (h : Leads n i r) (hn : n ≤ 24) (hi : i + 1 < 24) : Leads 24 i r := by
  cases r with
  | go k => exact Nat.lt_of_lt_of_le h hn
  | iff e k => exact ⟨Nat.lt_of_lt_of_le h.1 hn, hi⟩
  | fin => trivial
  | set x e => exact hi
  | send c e => exact hi
  | take l c x => exact hi
  | tell e => exact hi
theorem Leads.last {n : Nat} {r : Row} (h : Leads (n + 1) n r) (hn : n + 1 ≤ 24) : Leads 24 23 r := by
  cases r with
  | go k => exact Nat.lt_of_lt_of_le h hn
  | iff e k => exact absurd h.2 (Nat.lt_irrefl _)
  | fin => trivial
  | set x e => exact absurd h (Nat.lt_irrefl _)
  | send c e => exact absurd h (Nat.lt_irrefl _)
  | take l c x => exact absurd h (Nat.lt_irrefl _)
  | tell e => exact absurd h (Nat.lt_irrefl _)
theorem Typed.more {rs rs' : List Kd} {chs chs' : List Ch} (hm : ∀ k kd, findR rs k = some kd → findR rs' k = some kd) (hc : ∀ c ∈ chs, c ∈ chs') {h : Str} {G : List (Str × Str)} {r : Row} (t : Typed rs chs h G r) : Typed rs' chs' h G r := by
  cases r with
  | set x e =>
    obtain ⟨k, h1, h2⟩ := t
    exact ⟨k, h1, h2.more hm⟩
  | send c e =>
    obtain ⟨ch, h1, h2, h3, h4⟩ := t
    exact ⟨ch, hc _ h1, h2, h3, h4.more hm⟩
  | take l c x =>
    obtain ⟨ch, h1, h2, h3, h4⟩ := t
    exact ⟨ch, hc _ h1, h2, h3, h4⟩
  | tell e => exact WT.more hm t
  | go k => trivial
  | iff e k => exact WT.more hm t
  | fin => trivial
theorem tell_ok {k : Nat} (hk : k < 100) : good (rowD (tellR k)) = true ∧ wt (rowD (tellR k)) ≤ 500 := by
  refine ⟨?_, by simp only [tellR, rowD, wt, wts]; omega⟩
  simp only [tellR, rowD, good, goods, Bool.and_eq_true, decide_eq_true_eq]
  exact ⟨by decide +kernel, ⟨by decide +kernel, ⟨by omega, by omega⟩, trivial⟩, trivial⟩
theorem wide_ok {ns : List Str} (w : Wd ns) (nok : NsOk ns) {m : Mak} (g : MkG ns m) {hl hf : Str} (h1 : hl ∈ m.hs.map Hd.name) (h2 : hf ∈ m.hs.map Hd.name) : MkOk (w.mk2 m hl hf) := by
  have ok := g.ok nok
  have kf := g.kg.few
  have cf := g.cg.few
  have in4 : ∀ kd ∈ m.rs, kd.name ∈ ns.take 4 := fun kd hk => by
    have : kd.name ∈ m.rs.reverse.map Kd.name := List.mem_map.mpr ⟨kd, List.mem_reverse.mpr hk, rfl⟩
    rw [g.kg.nm] at this
    have e : ns.take m.rs.length = (ns.take 4).take m.rs.length := by rw [List.take_take, Nat.min_eq_left kf]
    rw [e] at this
    exact List.mem_of_mem_take this
  have n4 : w.y4 ∉ ns.take 4 := nd_new nok.g1 (by decide) w.e4
  have n5 : w.y5 ∉ ns.take 5 := nd_new nok.g1 (by decide) w.e5
  have t45 : ∀ x ∈ ns.take 4, x ∈ ns.take 5 := fun x hx => by
    have e : ns.take 4 = (ns.take 5).take 4 := by rw [List.take_take]; rfl
    rw [e] at hx
    exact List.mem_of_mem_take hx
  have m4 : w.y4 ∈ ns.take 5 := by
    refine List.mem_iff_getElem?.mpr ⟨4, ?_⟩
    rw [List.getElem?_take, if_pos (by decide)]
    exact w.e4
  have nmP : ∀ {i : Nat} {y : Str}, ns[i]? = some y → NameP y := fun h => nok.nm _ (List.mem_of_getElem? h)
  have o4 : KdOk m.rs w.k4 := ⟨nmP w.e4, fun k hk e => n4 (by rw [show w.y4 = k.name from e.symm]; exact in4 k hk), List.nodup_nil, (fun _ h => by cases h), (fun _ h => by cases h), Nat.zero_le _, (fun h => by cases h), by simp [szOf, Wd.k4]⟩
  have n89 : w.y8 ≠ w.y9 := fun e => by
    have i8 : ((ns.drop 8).take 4)[0]? = some w.y8 := by rw [List.getElem?_take, if_pos (by decide), List.getElem?_drop]; exact w.e8
    have i9 : ((ns.drop 8).take 4)[1]? = some w.y8 := by rw [List.getElem?_take, if_pos (by decide), List.getElem?_drop, e]; exact w.e9
    exact absurd (nd_ix nok.g2 i8 i9) (by decide)
  have n54 : w.y4 ≠ w.y5 := fun e => n5 (e ▸ m4)
  have o5 : KdOk (w.k4 :: m.rs) w.k5 := by
    refine ⟨nmP w.e5, fun k hk e => ?_, ?_, fun p hp => ?_, fun p hp => ?_, by show 2 ≤ 4; decide, (fun _ => by simp [Wd.k5]), ?_⟩
    · rcases List.mem_cons.mp hk with rfl | hk
      · exact n54 e
      · exact n5 (by rw [show w.y5 = k.name from e.symm]; exact t45 _ (in4 k hk))
    · show [w.y8, w.y9].Nodup
      simp [n89]
    · rcases List.mem_cons.mp hp with rfl | hp
      · exact nmP w.e8
      · rcases List.mem_cons.mp hp with rfl | hp
        · exact nmP w.e9
        · cases hp
    · rcases List.mem_cons.mp hp with rfl | hp
      · exact .inl rfl
      · rcases List.mem_cons.mp hp with rfl | hp
        · exact .inr ⟨w.k4, List.mem_cons_self, rfl⟩
        · cases hp
    · have s0 : szR (w.k4 :: m.rs) "num" = 1 := (sz_num (rs := w.k4 :: m.rs) ⟨g.kg.ok, o4⟩).1
      have s4 : szR (w.k4 :: m.rs) w.y4 = 1 := (if_pos (show w.k4.name = w.y4 from rfl)).trans rfl
      simp only [Wd.k5, szOf, List.map_cons, List.map_nil, s0, s4, maxL]
      decide
  have kok : KsOk (w.k5 :: w.k4 :: m.rs) := ⟨⟨g.kg.ok, o4⟩, o5⟩
  have fm : ∀ k kd, findR m.rs k = some kd → findR (w.k5 :: w.k4 :: m.rs) k = some kd := fun k kd h => by
    have hk := find_name h
    have h4 : w.y4 ≠ k := fun e => n4 (by rw [e, ← hk.2]; exact in4 kd hk.1)
    have h5 : w.y5 ≠ k := fun e => n5 (by rw [e, ← hk.2]; exact t45 _ (in4 kd hk.1))
    unfold findR
    rw [if_neg (show ¬ w.k5.name = k from h5)]
    unfold findR
    rw [if_neg (show ¬ w.k4.name = k from h4)]
    exact h
  have vm : ∀ {k}, Vk m.rs k → Vk (w.k5 :: w.k4 :: m.rs) k := fun v => v.cons.cons
  have hnm : (m.hs.map wideHd).map Hd.name = m.hs.map Hd.name := by rw [List.map_map]; rfl
  refine ⟨kok, by show m.rs.length + 1 + 1 ≤ 6; omega, by show ((m.hs.map wideHd).map Hd.name).Nodup; rw [hnm]; exact ok.hn, fun h hh => ?_, by show (m.hs.map wideHd).length ≤ 4; rw [List.length_map]; exact g.hl, ?_, fun c hc => ?_, ?_, fun c hc => ?_, fun h hh => ?_⟩
  · obtain ⟨h0, hm, rfl⟩ := List.mem_map.mp hh
    exact ok.hp h0 hm
  · show ((m.chs ++ [_]).map Ch.name).Nodup
    rw [List.map_append]
    refine List.nodup_append.mpr ⟨ok.cn, by simp, fun a ha b hb e => ?_⟩
    rw [List.map_singleton, List.mem_singleton] at hb
    subst e
    rw [g.cg.nm] at ha
    have e2 : (ns.drop 12).take m.chs.length = ((ns.drop 12).take 5).take m.chs.length := by rw [List.take_take, Nat.min_eq_left cf]
    rw [e2] at ha
    have ha := List.mem_of_mem_take ha
    rw [hb] at ha
    exact nd_new (i := 5) nok.g3 (by decide) (by rw [List.getElem?_drop]; exact w.e17) ha
  · rcases List.mem_append.mp hc with h | h
    · exact ok.cp c h
    · rw [List.mem_singleton.mp h]
      exact nmP w.e17
  · show (m.chs ++ [_]).length ≤ 6
    rw [List.length_append, List.length_singleton]
    omega
  · show ChOk _ ((m.hs.map wideHd).map Hd.name) c
    rw [hnm]
    rcases List.mem_append.mp hc with h | h
    · have := ok.ch c h
      exact ⟨this.src, this.dst, vm this.kind⟩
    · rw [List.mem_singleton.mp h]
      exact ⟨h1, h2, .inr ⟨w.k5, List.mem_cons_self, rfl⟩⟩
  · obtain ⟨h0, hm, rfl⟩ := List.mem_map.mp hh
    obtain ⟨bok, rok⟩ := g.hd h0 hm
    obtain ⟨a, x, hax⟩ := last_split rok.ne
    have hal : a.length ≤ 9 := by
      have := rok.most
      rw [hax, List.length_append, List.length_singleton] at this
      omega
    have hw : (wideHd h0).rows = a ++ ((List.range (23 - a.length)).map tellR) ++ [x] := by
      show wideRows h0.rows = _
      rw [hax, wide_split]
    have hlen : (wideHd h0).rows.length = 24 := by
      rw [hw, List.length_append, List.length_append, List.length_map, List.length_range, List.length_singleton]
      omega
    have hmem : ∀ r ∈ (wideHd h0).rows, r ∈ h0.rows ∨ ∃ k < 23, r = tellR k := fun r hr => by
      rw [hw] at hr
      rcases List.mem_append.mp hr with h | h
      · rcases List.mem_append.mp h with h | h
        · exact .inl (by rw [hax]; exact List.mem_append_left _ h)
        · obtain ⟨k, hk, rfl⟩ := List.mem_map.mp h
          exact .inr ⟨k, by have := List.mem_range.mp hk; omega, rfl⟩
      · exact .inl (by rw [hax]; exact List.mem_append_right _ h)
    refine ⟨bok.nd, fun b hb => vm (bok.vk b hb), bok.few, ?_, fun e => by rw [e] at hlen; simp at hlen, by rw [hlen]; decide, fun i r hi => ?_, fun r hr => ?_, fun r hr => ?_⟩
    · have hmk := rok.marks
      rw [hax, List.filterMap_append] at hmk
      have h0' : ((List.range (23 - a.length)).map tellR).filterMap Row.mark = [] := by
        refine List.filterMap_eq_nil_iff.mpr fun r hr => ?_
        obtain ⟨k, _, rfl⟩ := List.mem_map.mp hr
        rfl
      rw [hw, List.filterMap_append, List.filterMap_append, h0', List.append_nil]
      exact hmk
    · rw [hlen]
      have hilt : i < 24 := by
        have := (List.getElem?_eq_some_iff.mp hi).1
        omega
      rw [hw] at hi
      rcases Nat.lt_or_ge i a.length with h | h
      · rw [List.append_assoc, List.getElem?_append_left h] at hi
        have := rok.leads i r (by rw [hax, List.getElem?_append_left h]; exact hi)
        exact this.up (by have := rok.most; omega) (by omega)
      · rcases snoc_get hi with h2 | ⟨h2, h3⟩
        · rw [List.getElem?_append_right h] at h2
          obtain ⟨k, _, rfl⟩ := List.mem_map.mp (List.mem_of_getElem? h2)
          have := (List.getElem?_eq_some_iff.mp h2).1
          rw [List.length_map, List.length_range] at this
          show i + 1 < 24
          omega
        · rw [List.length_append, List.length_map, List.length_range] at h2
          have h23 : i = 23 := by omega
          have hx := rok.leads a.length x (by rw [hax, List.getElem?_append_right (Nat.le_refl _), Nat.sub_self]; rfl)
          rw [hax, List.length_append, List.length_singleton] at hx
          rw [h3, h23]
          exact hx.last (by omega)
    · rcases hmem r hr with h | ⟨k, hk, rfl⟩
      · exact (rok.rows r h).t.more fm fun c hc => List.mem_append_left _ hc
      · exact WT.num _ (by omega) (by omega)
    · rcases hmem r hr with h | ⟨k, hk, rfl⟩
      · exact ⟨(rok.rows r h).g, (rok.rows r h).z⟩
      · exact tell_ok (by omega)
end Sw

-- part SwG13
set_option Elab.async false
set_option linter.all false
set_option maxRecDepth 100000
set_option maxHeartbeats 4000000
namespace Sw
open PySem PySem.Spec PyProof.Rows L2
section
variable {K : PySem.W.Frag} {H : Hp} {Q : VK}
theorem cat_one {a b : Addr} {xs ys : List V} (ha : SqT K H a xs) (hb : SqT K H b ys) (hz : xs.length + ys.length ≤ sizeLine) (q : ∀ p H', Ext [] H H' → SqT K H' p (xs ++ ys) → Q (.ref p) H') : rCatA K (.ref a) (.ref b) H Q :=
  ⟨a, b, xs, ys, rfl, rfl, ha, hb, hz, fun h => q b H (Ext.refl _ _) (by rw [h]; exact hb), fun _ h => q a H (Ext.refl _ _) (by rw [h, List.append_nil]; exact ha), fun _ _ p hp => q p _ ((Ext.refl _ _).new hp) (.of upd_same)⟩
theorem sl_one {a : Addr} {xs : List V} {lo hi : Option Int} (ha : SqT K H a xs) (q : ∀ p H', Ext [] H H' → SqT K H' p (cutV xs lo hi) → Q (.ref p) H') : rSlA K (.ref a) lo hi H Q := by
  refine ⟨a, xs, rfl, ha, fun ⟨h1, h2⟩ => q a H (Ext.refl _ _) ?_, fun _ p hp => q p _ ((Ext.refl _ _).new hp) (.of upd_same)⟩
  have e : cutV xs lo hi = xs := by
    unfold cutV
    rw [h1, h2, List.drop_zero, Nat.sub_zero, List.take_length]
  rw [e]
  exact ha
end
theorem sIx_m1 (n d : Nat) (hn : 1 ≤ n) : HT.sIx n d (some (-1)) = n - 1 := by
  show (if (-1 : Int) < 0 then ((-1 : Int) + (n : Int)).toNat else min (-1 : Int).toNat n) = n - 1
  rw [if_pos (by decide)]
  omega
theorem cut_init (vi : List V) (v : V) : cutV (vi ++ [v]) none (some (-1)) = vi := by
  unfold cutV
  rw [HT.sIx_none, sIx_m1 _ _ (by simp), List.drop_zero, Nat.sub_zero, List.length_append, List.length_singleton, Nat.add_sub_cancel, List.take_left]
theorem cut_last (vi : List V) (v : V) : cutV (vi ++ [v]) (some (-1)) none = [v] := by
  unfold cutV
  rw [HT.sIx_none, sIx_m1 _ _ (by simp), List.length_append, List.length_singleton, Nat.add_sub_cancel, List.drop_left]
  simp
theorem Ats.split {K : PySem.W.Frag} {H : Hp} : ∀ {ds : List PyData} {d : PyData} {vs : List V}, Ats K H vs (ds ++ [d]) → ∃ vi v, vs = vi ++ [v] ∧ Ats K H vi ds ∧ At K H v d
  | [], d, _, .cons h .nil => ⟨[], _, rfl, .nil, h⟩
  | e :: ds, d, _, .cons h t => by
    obtain ⟨vi, v, rfl, h1, h2⟩ := Ats.split t
    exact ⟨_ :: vi, v, rfl, .cons h h1, h2⟩
section
variable {P : Program} {w : World} {K : PySem.W.Frag} {mg : Str → Option Value} {base : Heap}
abbrev N_law_wide : List Str := ["_law_make_here", "_law_names_here", "_law_more", "_law_h", "_law_found_here", "_law_name", "_law_boxes_here", "_law_rows_here", "_law_tells", "_law_k"]
theorem sc_law_wide : FnScope N_law_wide ["_law_make_here", "_law_names_here"] (defScope s_law_wide) := ⟨rfl, rfl, rfl, by decide +kernel, rfl, by decide +kernel, by decide +kernel⟩
-- slots: 0 _law_make_here, 1 _law_names_here, 2 _law_more, 3 _law_h, 4 _law_found_here, 5 _law_name, 6 _law_boxes_here, 7 _law_rows_here, 8 _law_tells, 9 _law_k
def prWide (K : PySem.W.Frag) : V → V → Hp → VK → Prop := fun a b H Q => ∃ (m : Mak) (ns : List Str), At K H a (mkD m) ∧ MkG ns m ∧ Nl H b ns ∧ NsOk ns ∧ ∀ v m' H', Ext [] H H' → At K H' v (mkD m') → MkOk m' → Q v H'
theorem c_law_wide (T : Txt K mg) : Cal P w K mg base 1 "_law_wide" (S2 (prWide K)) := T.c_law_wide fun fd F => F.ok2 sc_law_wide fun cdv A outer s0 H a b Q E hr h => by
  obtain ⟨m, ns, ha, g, ⟨pn, rfl, hpn⟩, nok, q⟩ := h
  have z : sizeLine = 16777216 := by decide
  have nl := nok.len
  have some_at : ∀ i, i < 26 → ∃ y, ns[i]? = some y := fun i h => ⟨ns[i]'(by omega), List.getElem?_eq_getElem (by omega)⟩
  obtain ⟨y4, en4⟩ := some_at 4 (by decide)
  obtain ⟨y5, en5⟩ := some_at 5 (by decide)
  obtain ⟨y8, en8⟩ := some_at 8 (by decide)
  obtain ⟨y9, en9⟩ := some_at 9 (by decide)
  obtain ⟨y17, en17⟩ := some_at 17 (by decide)
  have mapat : ∀ {i : Nat} {y : Str}, ns[i]? = some y → (ns.map V.str)[i]? = some (.str y) := fun h => by rw [List.getElem?_map, h]; rfl
  obtain ⟨pa, v1, v2, v3, rfl, hs0, a1, a2, a3⟩ := ha.tup3
  obtain ⟨pk, xk, rfl, hsk, hak⟩ := a1.inv_tup
  obtain ⟨pc, xc, rfl, hsc, hac⟩ := a2.inv_tup
  obtain ⟨ph, xh, rfl, hsh, hah⟩ := a3.inv_tup
  have ks4 := g.kg.few
  have cf5 := g.cg.few
  have hl4 := g.hl
  have hkl : xk.length = m.rs.length := by rw [hak.length, List.length_map, List.length_reverse]
  have hcl : xc.length = m.chs.length := by rw [hac.length, List.length_map]
  have hhl : xh.length = m.hs.length := by rw [hah.length, List.length_map]
  refine ⟨_, (pss_cons (ps_set (i := 2) sc_law_wide.nd rfl (Or.inl rfl) (pe_tup (pa_cons (pe_tup (pa_cons (pe_ix ix_list (pv 1) pe_int (fun _ _ => rfl)) (pa_cons pe_str (pa_cons (pe_tup pa_nil) pa_nil)))) (pa_cons (pe_tup (pa_cons (pe_ix ix_list (pv 1) pe_int (fun _ _ => rfl)) (pa_cons pe_str (pa_cons (pe_tup (pa_cons (pe_tup (pa_cons (pe_ix ix_list (pv 1) pe_int (fun _ _ => rfl)) (pa_cons pe_str pa_nil))) (pa_cons (pe_tup (pa_cons (pe_ix ix_list (pv 1) pe_int (fun _ _ => rfl)) (pa_cons (pe_ix ix_list (pv 1) pe_int (fun _ _ => rfl)) pa_nil))) pa_nil))) pa_nil)))) pa_nil))))
    (pss_cons (ps_set (i := 3) sc_law_wide.nd rfl (Or.inl rfl) (pe_ix ix_tup (pe_ix ix_tup (pe_ix ix_tup (pv 0) pe_int (fun _ _ => rfl)) (pe_un un_neg pe_int) (fun _ _ => rfl)) pe_int (fun _ _ => rfl)))
    (pss_cons (ps_set (i := 4) sc_law_wide.nd rfl (Or.inl rfl) (pe_lst pa_nil))
    (pss_cons (ps_for PassesOwn.never rfl (pi_tup (pe_ix ix_tup (pv 0) pe_int (fun _ _ => rfl))) (pg_tup rfl (pgs_cons (pg_name (i := 5) sc_law_wide.nd rfl (by first | exact Or.inl rfl | exact Or.inr rfl)) (pgs_cons (pg_name (i := 6) sc_law_wide.nd rfl (by first | exact Or.inl rfl | exact Or.inr rfl)) (pgs_cons (pg_name (i := 7) sc_law_wide.nd rfl (by first | exact Or.inl rfl | exact Or.inr rfl)) pgs_nil))))
    (pss_cons (ps_setLc (i := 8) rfl sc_law_wide.nd rfl rfl (sw_true rfl rfl rfl (by decide +kernel)) (pi_range1 (by rfl) T.z_range (pa_cons (pe_op op_sub pe_int (pe_callB call_len_seq (by rfl) T.z_len PySem.boot_len (pa_cons (pv 7) pa_nil))) pa_nil)) (blkOk_by (N := N_law_wide) (sc := defScope s_law_wide) (own := [("_law_k", 9)]) (by decide +kernel)) (fun _ _ _ _ _ => (pg_name (i := 9) sc_law_wide.nd rfl (by first | exact Or.inl rfl | exact Or.inr rfl))) (fun _ _ _ _ _ => pts_nil) (fun _ _ _ _ _ => (pe_tup (pa_cons pe_str (pa_cons (pe_tup (pa_cons pe_str (pa_cons (pv 9) pa_nil))) pa_nil)))))
    (pss_one (ps_expr (pe_bm PySem.F.plainAttrs_list PySem.F.slot_list_append PySem.F.type_list_append mt_append (pv 4) (pa_cons (pe_tup (pa_cons (pv 5) (pa_cons (pv 6) (pa_cons (pe_op op_catA (pe_op op_catA (pe_slice sl_tupA (pv 7) po_none (po_some (pe_un un_neg pe_int))) (pe_callTy call_tuple_of (by rfl) T.z_tuple (by decide +kernel) (pa_cons (pv 8) pa_nil))) (pe_slice sl_tupA (pv 7) (po_some (pe_un un_neg pe_int)) po_none)) pa_nil)))) pa_nil))))))
    (pss_one (ps_ret (pe_tup (pa_cons (pe_op op_catA (pe_ix ix_tup (pv 0) pe_int (fun _ _ => rfl)) (pv 2)) (pa_cons (pe_op op_catA (pe_ix ix_tup (pv 0) pe_int (fun _ _ => rfl)) (pe_tup (pa_cons (pe_tup (pa_cons (pe_ix ix_list (pv 1) pe_int (fun _ _ => rfl)) (pa_cons (pv 3) (pa_cons (pe_ix ix_tup (pe_ix ix_tup (pe_ix ix_tup (pv 0) pe_int (fun _ _ => rfl)) pe_int (fun _ _ => rfl)) pe_int (fun _ _ => rfl)) (pa_cons (pe_ix ix_list (pv 1) pe_int (fun _ _ => rfl)) pa_nil))))) pa_nil))) (pa_cons (pe_callTy call_tuple_of (by rfl) T.z_tuple (by decide +kernel) (pa_cons (pv 4) pa_nil)) pa_nil)))))))))), ?_⟩
  refine ⟨_, rfl, pn, _, _, _, rfl, rfl, .of hpn, atI_nat (j := 4) (mapat en4), by show 0 ≤ sizeLine; decide, fun p1 hp1 => ⟨by show 3 ≤ sizeLine; decide, fun p2 hp2 => ?_⟩⟩
  have x1 : Ext [] H (upd H p1 (.tup [])) := (Ext.refl _ _).new hp1
  have t1 : At K (upd H p1 (.tup [])) (.ref p1) (.tuple []) := At.mk hp1 .nil
  have t2 : At K (upd (upd H p1 (.tup [])) p2 (.tup [.str y4, .str "rec", .ref p1])) (.ref p2) (kdD ⟨y4, false, []⟩) := At.mk hp2 (.cons (.str _) (.cons (.str _) (.cons t1 .nil)))
  have x2 := x1.new (o := .tup [.str y4, .str "rec", .ref p1]) hp2
  generalize upd (upd H p1 (.tup [])) p2 (.tup [.str y4, .str "rec", .ref p1]) = H2 at t2 x2
  have hpn2 := x2.same _ _ hpn
  refine ⟨_, rfl, pn, _, _, _, rfl, rfl, .of hpn2, atI_nat (j := 5) (mapat en5), _, rfl, pn, _, _, _, rfl, rfl, .of hpn2, atI_nat (j := 8) (mapat en8), by show 2 ≤ sizeLine; decide, fun p3 hp3 => ?_⟩
  have x3 : Ext [] H2 (upd H2 p3 (.tup [.str y8, .str "num"])) := (Ext.refl _ _).new hp3
  have t3 : At K (upd H2 p3 (.tup [.str y8, .str "num"])) (.ref p3) (prD (y8, "num")) := At.mk hp3 (.cons (.str _) (.cons (.str _) .nil))
  generalize upd H2 p3 (.tup [.str y8, .str "num"]) = H3 at x3 t3
  have hpn3 := x3.same _ _ hpn2
  refine ⟨_, rfl, pn, _, _, _, rfl, rfl, .of hpn3, atI_nat (j := 9) (mapat en9), _, rfl, pn, _, _, _, rfl, rfl, .of hpn3, atI_nat (j := 4) (mapat en4), by show 2 ≤ sizeLine; decide, fun p4 hp4 => ?_⟩
  have x4 : Ext [] H3 (upd H3 p4 (.tup [.str y9, .str y4])) := (Ext.refl _ _).new hp4
  have t4 : At K (upd H3 p4 (.tup [.str y9, .str y4])) (.ref p4) (prD (y9, y4)) := At.mk hp4 (.cons (.str _) (.cons (.str _) .nil))
  have t34 := x4.at_ t3
  have x24 := x3.trans x4
  generalize upd H3 p4 (.tup [.str y9, .str y4]) = H4 at x4 t4 t34 x24
  refine ⟨by show 2 ≤ sizeLine; decide, fun p5 hp5 => ⟨by show 3 ≤ sizeLine; decide, fun p6 hp6 => ⟨by show 2 ≤ sizeLine; decide, fun p7 hp7 => ?_⟩⟩⟩
  have t5 : At K (upd H4 p5 (.tup [.ref p3, .ref p4])) (.ref p5) (prsD [(y8, "num"), (y9, y4)]) := At.mk hp5 (.cons t34 (.cons t4 .nil))
  have x45 : Ext [] H4 (upd H4 p5 (.tup [.ref p3, .ref p4])) := (Ext.refl _ _).new hp5
  generalize upd H4 p5 (.tup [.ref p3, .ref p4]) = H5 at t5 x45 hp6 hp7
  have t6 : At K (upd H5 p6 (.tup [.str y5, .str "alt", .ref p5])) (.ref p6) (kdD ⟨y5, true, [(y8, "num"), (y9, y4)]⟩) := At.mk hp6 (.cons (.str _) (.cons (.str _) (.cons t5 .nil)))
  have x56 : Ext [] H5 (upd H5 p6 (.tup [.str y5, .str "alt", .ref p5])) := (Ext.refl _ _).new hp6
  generalize upd H5 p6 (.tup [.str y5, .str "alt", .ref p5]) = H6 at t6 x56 hp7
  have x26 := (x24.trans x45).trans x56
  have x67 : Ext [] H6 (upd H6 p7 (.tup [.ref p2, .ref p6])) := (Ext.refl _ _).new hp7
  have smore : SqT K (upd H6 p7 (.tup [.ref p2, .ref p6])) p7 [.ref p2, .ref p6] := .of upd_same
  have amore : Ats K (upd H6 p7 (.tup [.ref p2, .ref p6])) [.ref p2, .ref p6] [kdD ⟨y4, false, []⟩, kdD ⟨y5, true, [(y8, "num"), (y9, y4)]⟩] := .cons (x67.at_ (x26.at_ t2)) (.cons (x67.at_ t6) .nil)
  have x07 := (x2.trans x26).trans x67
  generalize upd H6 p7 (.tup [.ref p2, .ref p6]) = H7 at x67 smore amore x07
  -- the last hand and the first one
  obtain ⟨hi, hl, hhs⟩ := last_split g.hs1
  have hah2 := hah
  rw [hhs, List.map_append] at hah2
  obtain ⟨vi, vl, hxh, -, hvl⟩ := hah2.split
  obtain ⟨pl, l1, l2, l3, rfl, hsl, al1, -, -⟩ := hvl.tup3
  obtain rfl := al1.inv_str
  obtain ⟨hf, hfr⟩ : ∃ hf, m.hs[0]? = some hf := by
    cases hq : m.hs with
    | nil => exact absurd hq g.hs1
    | cons a l => exact ⟨a, rfl⟩
  obtain ⟨vf, hvf, hatf⟩ := hah.get' 0 (hdD hf) (by rw [List.getElem?_map, hfr]; rfl)
  obtain ⟨pf, f1, f2, f3, rfl, hsf, af1, -, -⟩ := hatf.tup3
  obtain rfl := af1.inv_str
  have hlast : atI xh (-1) = some (.ref pl) := by rw [hxh]; exact atI_last _ _
  refine ⟨_, rfl, pa, _, _, _, rfl, rfl, x07.sqt hs0, atI_nat (j := 2) rfl, _, rfl, ph, _, _, _, rfl, rfl, x07.sqt hsh, hlast, pl, _, _, _, rfl, rfl, x07.sqt hsl, atI_nat (j := 0) rfl, ?_⟩
  refine ⟨by show 0 ≤ sizeLine; decide, fun pg hpg => ?_⟩
  have x08 := x07.new (o := .lst []) hpg
  have x78 : Ext [] H7 (upd H7 pg (.lst [])) := (Ext.refl _ _).new hpg
  refine ⟨_, rfl, pa, _, _, _, rfl, rfl, x08.sqt hs0, atI_nat (j := 2) rfl, ph, rfl, ⟨xh, x08.sqt hsh⟩, for_tup (K := K) (xs := xh) (fun i σ H' => Ext [] H7 H' ∧ ∃ (ys : List V), H' pg = some (.lst ys) ∧ Ats K H' ys (((m.hs.take i).map wideHd).map hdD) ∧ ys.length = i ∧
    ∃ v5 v6 v7 v8 v9, σ = [some (.ref pa), some (.ref pn), some (.ref p7), some (.str hl.name), some (.ref pg), v5, v6, v7, v8, v9]) ⟨x78, [], upd_same, .nil, rfl, _, _, _, _, _, rfl⟩ (fun i σ H' _ h => (x07.trans h.1).sqt hsh) ?_ ?_⟩
  · rintro i x σ H8 hx ⟨e8, ys, hys, hats, hyl, v5, v6, v7, v8, v9, rfl⟩
    obtain ⟨d, hdx, hat⟩ := ((x07.trans e8).ats hah).get i x hx
    obtain ⟨hd, hkp, rfl⟩ := map_at hdx
    have hil := (List.getElem?_eq_some_iff.mp hkp).1
    obtain ⟨px, w1, w2, w3, rfl, hsx, aw1, aw2, aw3⟩ := hat.tup3
    obtain rfl := aw1.inv_str
    obtain ⟨pr, xr, rfl, hsr, har⟩ := aw3.inv_tup
    have rok := (g.hd hd (List.mem_of_getElem? hkp)).2
    have rmost := rok.most
    have hrl : xr.length = hd.rows.length := by rw [har.length, List.length_map]
    obtain ⟨ra, rx, hra⟩ := last_split rok.ne
    have har2 := har
    rw [hra, List.map_append] at har2
    obtain ⟨ri, rl, hxr, hri, hrlast⟩ := har2.split
    have hral : ra.length ≤ 9 := by
      rw [hra, List.length_append, List.length_singleton] at rmost
      omega
    have hril : ri.length = ra.length := by rw [hri.length, List.length_map]
    refine ⟨px, _, rfl, hsx, rfl, _, _, rfl, _, _, rfl, _, _, rfl, rfl, ?_⟩
    have hnv : (24 : Int) - (xr.length : Int) = ((23 - ra.length : Nat) : Int) := by
      rw [hxr, List.length_append, List.length_singleton, hril]
      omega
    refine ⟨_, rfl, pr, xr, rfl, .inr hsr, _, _, rfl, rfl, ((23 - ra.length : Nat) : Int), congrArg (fun z => [V.int z]) hnv, by omega, by omega, fun D hD => lc_range (n := 23 - ra.length) (fun j H' => Ext [] H8 H' ∧ ∃ vs : List V, H' D = some (.lst vs) ∧ Ats K H' vs (((List.range j).map tellR).map rowD)) ⟨(Ext.refl _ _).new hD, [], upd_same, .nil⟩ ?_ ?_⟩
    · rintro j H' hj ⟨e9, vs, hDl, hvs⟩
      have hvl : vs.length = j := by rw [hvs.length, List.length_map, List.length_map, List.length_range]
      refine ⟨rfl, _, rfl, by show 2 ≤ sizeLine; decide, fun q1 hq1 => ⟨by show 2 ≤ sizeLine; decide, fun q2 hq2 => ?_⟩⟩
      have ej : (0 : Int) + (j : Int) = (j : Int) := by omega
      have s1 : At K (upd H' q1 (.tup [.str "num", .int (0 + (j : Int))])) (.ref q1) (.tuple [.str "num", .int (j : Int)]) := At.mk hq1 (.cons (.str _) (.cons (by rw [ej]; exact .int _) .nil))
      have s2 : At K (upd (upd H' q1 (.tup [.str "num", .int (0 + (j : Int))])) q2 (.tup [.str "tell", .ref q1])) (.ref q2) (rowD (tellR j)) := At.mk hq2 (.cons (.str _) (.cons s1 .nil))
      have y2 : Ext [] H' (upd (upd H' q1 (.tup [.str "num", .int (0 + (j : Int))])) q2 (.tup [.str "tell", .ref q1])) := ((Ext.refl _ _).new hq1).new hq2
      have h6 := y2.same _ _ hDl
      have ew : Ext [D] (upd (upd H' q1 (.tup [.str "num", .int (0 + (j : Int))])) q2 (.tup [.str "tell", .ref q1])) (upd (upd (upd H' q1 (.tup [.str "num", .int (0 + (j : Int))])) q2 (.tup [.str "tell", .ref q1])) D (.lst (vs ++ [.ref q2]))) := (Ext.refl _ _).put (by simp) h6
      refine ⟨_, h6, by omega, (e9.trans y2).own hD, vs ++ [.ref q2], upd_same, ?_⟩
      rw [List.range_succ, List.map_append, List.map_append]
      exact ew.ats ((y2.ats hvs).snoc s2)
    rintro H9 ⟨e9, vs, hDl, hvs⟩
    have hvsl : vs.length = 23 - ra.length := by rw [hvs.length, List.length_map, List.length_map, List.length_range]
    have hys9 := e9.same _ _ hys
    refine ⟨_, rfl, .inl ⟨rfl, _, .inl (.inl hys9)⟩, _, rfl, _, rfl, _, rfl, _, rfl, _, rfl, ?_⟩
    refine sl_one (e9.sqt hsr) fun q1 HA eA hq1 => ?_
    rw [hxr, cut_init] at hq1
    have e9A := e9.trans eA
    refine ⟨_, rfl, D, vs, rfl, .inl ⟨.of (eA.same _ _ hDl), fun q2 hq2 => ?_⟩⟩
    have eAB : Ext [] HA (upd HA q2 (.tup vs)) := (Ext.refl _ _).new hq2
    refine cat_one (eAB.sqt hq1) (.of upd_same) (by omega) fun q3 HB eB hq3 => ?_
    have e9B := (e9A.trans eAB).trans eB
    refine ⟨_, rfl, _, rfl, _, rfl, ?_⟩
    dsimp only [tNoPart]
    refine sl_one (e9B.sqt hsr) fun q4 HC eC hq4 => ?_
    rw [hxr, cut_last] at hq4
    have e9C := e9B.trans eC
    refine cat_one (eC.sqt hq3) hq4 (by rw [List.length_append, List.length_singleton]; omega) fun q5 HD eD hq5 => ?_
    have e9D := e9C.trans eD
    refine ⟨by show 3 ≤ sizeLine; decide, fun q6 hq6 => ?_⟩
    have e8E := e9D.new (o := .tup [.str hd.name, w2, .ref q5]) hq6
    have sv : Ats K HD (ri ++ vs ++ [rl]) ((wideRows hd.rows).map rowD) := by
      have e89 : Ext [] H9 HD := (((eA.trans eAB).trans eB).trans eC).trans eD
      rw [hra, wide_split, List.map_append, List.map_append]
      exact ((e9D.ats hri).append (e89.ats hvs)).append (.cons (e9D.at_ hrlast) .nil)
    have at6 : At K (upd HD q6 (.tup [.str hd.name, w2, .ref q5])) (.ref q6) (hdD (wideHd hd)) := At.mk hq6 (.cons (.str _) (.cons (e9D.at_ aw2) (.cons (.tup hq5 sv) .nil)))
    have h6 := e8E.same _ _ hys
    have ew : Ext [pg] (upd HD q6 (.tup [.str hd.name, w2, .ref q5])) (upd (upd HD q6 (.tup [.str hd.name, w2, .ref q5])) pg (.lst (ys ++ [.ref q6]))) := (Ext.refl _ _).put (by simp) h6
    refine ⟨pg, _, _, rfl, rfl, h6, by omega, (e8.trans e8E).own hpg, ys ++ [.ref q6], upd_same, ?_, by rw [List.length_append, List.length_singleton, hyl], _, _, _, _, _, rfl⟩
    rw [List.take_add_one, hkp, List.map_append, List.map_append]
    exact ew.ats ((e8E.ats hats).snoc at6)
  · rintro σ H8 ⟨e8, ys, hys, hats, hyl, v5, v6, v7, v8, v9, rfl⟩
    rw [hhl, List.take_length] at hats
    have x9 := x07.trans e8
    refine ⟨_, rfl, pa, _, _, _, rfl, rfl, x9.sqt hs0, atI_nat (j := 0) rfl, _, rfl, ?_⟩
    refine cat_one (x9.sqt hsk) (e8.sqt smore) (by show xk.length + 2 ≤ _; omega) fun q1 HA eA hq1 => ?_
    have xA := x9.trans eA
    have hpnA := xA.same _ _ hpn
    refine ⟨_, rfl, pa, _, _, _, rfl, rfl, xA.sqt hs0, atI_nat (j := 1) rfl, ?_⟩
    refine ⟨_, rfl, pn, _, _, _, rfl, rfl, .of hpnA, atI_nat (j := 17) (mapat en17), _, rfl, _, rfl, pa, _, _, _, rfl, rfl, xA.sqt hs0, atI_nat (j := 2) rfl, ph, _, _, _, rfl, rfl, xA.sqt hsh, atI_nat (j := 0) hvf, pf, _, _, _, rfl, rfl, xA.sqt hsf, atI_nat (j := 0) rfl, _, rfl, pn, _, _, _, rfl, rfl, .of hpnA, atI_nat (j := 5) (mapat en5), by show 4 ≤ sizeLine; decide, fun q2 hq2 => ⟨by show 1 ≤ sizeLine; decide, fun q3 hq3 => ?_⟩⟩
    have at2 : At K (upd HA q2 (.tup [.str y17, .str hl.name, .str hf.name, .str y5])) (.ref q2) (chD ⟨y17, hl.name, hf.name, y5⟩) := At.mk hq2 (.cons (.str _) (.cons (.str _) (.cons (.str _) (.cons (.str _) .nil))))
    have xA2 : Ext [] HA (upd HA q2 (.tup [.str y17, .str hl.name, .str hf.name, .str y5])) := (Ext.refl _ _).new hq2
    have x23 : Ext [] (upd HA q2 (.tup [.str y17, .str hl.name, .str hf.name, .str y5])) (upd (upd HA q2 (.tup [.str y17, .str hl.name, .str hf.name, .str y5])) q3 (.tup [.ref q2])) := (Ext.refl _ _).new hq3
    have xA3 := xA2.trans x23
    have at3 := x23.at_ at2
    refine cat_one ((xA.trans xA3).sqt hsc) (.of upd_same) (by show xc.length + 1 ≤ _; omega) fun q4 HB eB hq4 => ?_
    have xAB := xA3.trans eB
    have xB := xA.trans xAB
    refine ⟨_, rfl, pg, ys, rfl, .inl ⟨.of ((eA.trans xAB).same _ _ hys), fun q5 hq5 => ⟨by show 3 ≤ sizeLine; decide, fun q6 hq6 => ?_⟩⟩⟩
    have xB5 : Ext [] HB (upd HB q5 (.tup ys)) := (Ext.refl _ _).new hq5
    have hs1 : hl ∈ m.hs := by rw [hhs]; exact List.mem_append_right _ List.mem_cons_self
    have hs2 : hf ∈ m.hs := List.mem_of_getElem? hfr
    have ok := wide_ok ⟨y4, y5, y8, y9, y17, en4, en5, en8, en9, en17⟩ nok g (List.mem_map.mpr ⟨hl, hs1, rfl⟩) (List.mem_map.mpr ⟨hf, hs2, rfl⟩)
    refine q _ _ _ ((xB.trans xB5).new hq6) (At.mk hq6 (.cons (.tup ((xAB.trans xB5).sqt hq1) ?_) (.cons (.tup (xB5.sqt hq4) ?_) (.cons (At.mk hq5 ?_) .nil)))) ok
    · have hrev : (Wd.mk2 (⟨y4, y5, y8, y9, y17, en4, en5, en8, en9, en17⟩ : Wd ns) m hl.name hf.name).rs.reverse.map kdD = m.rs.reverse.map kdD ++ [kdD ⟨y4, false, []⟩, kdD ⟨y5, true, [(y8, "num"), (y9, y4)]⟩] := by
        show ((_ :: _ :: m.rs).reverse).map kdD = _
        rw [List.reverse_cons, List.reverse_cons, List.append_assoc, List.map_append]
        rfl
      rw [hrev]
      exact ((xB.trans xB5).ats hak).append ((((e8.trans eA).trans xAB).trans xB5).ats amore)
    · have hch : (Wd.mk2 (⟨y4, y5, y8, y9, y17, en4, en5, en8, en9, en17⟩ : Wd ns) m hl.name hf.name).chs.map chD = m.chs.map chD ++ [chD ⟨y17, hl.name, hf.name, y5⟩] := by
        show (m.chs ++ [_]).map chD = _
        rw [List.map_append]
        rfl
      rw [hch]
      exact ((xB.trans xB5).ats hac).append (.cons ((eB.trans xB5).at_ at3) .nil)
    · exact (eA.trans xAB).ats hats
end
end Sw

-- part SwG14
set_option Elab.async false
set_option linter.all false
set_option maxRecDepth 100000
set_option maxHeartbeats 4000000
namespace Sw
open PySem PySem.Spec PyProof.Rows L2
mutual
theorem good_eqv : ∀ d : PyData, good d = true → PyData.eqv d d = true
  | .int i, _ => by simp [PyData.eqv]
  | .str x, _ => by simp [PyData.eqv]
  | .tuple xs, h => by
    simp only [good] at h
    rw [PyData.eqv]
    exact goods_eqv xs h
  | .none, h => by simp [good] at h
  | .bool _, h => by simp [good] at h
  | .list _, h => by simp [good] at h
  | .dict _, h => by simp [good] at h
theorem goods_eqv : ∀ xs : List PyData, goods xs = true → PyData.eqvAll xs xs = true
  | [], _ => by simp [PyData.eqvAll]
  | x :: xs, h => by
    simp only [goods, Bool.and_eq_true] at h
    rw [PyData.eqvAll, good_eqv x h.1, goods_eqv xs h.2]
    rfl
end
theorem ne_same {K : PySem.W.Frag} {H : Hp} {x y : V} {d : PyData} {Q : VK} (hx : At K H x d) (hy : At K H y d) (hg : good d = true) (hd : d.depth ≤ 64) (q : Q (.bl false) H) : rNeD K x y H Q := by
  have sh : SeqAt.shaped d = true := Bool.and_eq_true_iff.mpr ⟨good_lay d hg, decide_eq_true hd⟩
  refine ⟨d, d, hx.toDp, hy.toDp, sh, sh, ?_⟩
  rw [good_eqv d hg]
  exact q
theorem mark_inj : ∀ {rows : List Row} {i j : Nat} {r r' : Row} {l : Str}, (rows.filterMap Row.mark).Nodup → rows[i]? = some r → rows[j]? = some r' → r.mark = some l → r'.mark = some l → i = j
  | [], i, j, r, r', l, _, h, _, _, _ => by simp at h
  | a :: rows, 0, 0, r, r', l, _, _, _, _, _ => rfl
  | a :: rows, 0, j + 1, r, r', l, hn, h1, h2, m1, m2 => by
    obtain rfl := Option.some.inj h1
    rw [List.filterMap_cons, m1] at hn
    exact absurd (List.mem_filterMap.mpr ⟨r', List.mem_of_getElem? (show rows[j]? = some r' from h2), m2⟩) (List.nodup_cons.mp hn).1
  | a :: rows, i + 1, 0, r, r', l, hn, h1, h2, m1, m2 => by
    obtain rfl := Option.some.inj h2
    rw [List.filterMap_cons, m2] at hn
    exact absurd (List.mem_filterMap.mpr ⟨r, List.mem_of_getElem? (show rows[i]? = some r from h1), m1⟩) (List.nodup_cons.mp hn).1
  | a :: rows, i + 1, j + 1, r, r', l, hn, h1, h2, m1, m2 => by
    have hn2 : (rows.filterMap Row.mark).Nodup := by
      rw [List.filterMap_cons] at hn
      split at hn
      · exact hn
      · exact (List.nodup_cons.mp hn).2
    exact congrArg Nat.succ (mark_inj hn2 h1 h2 m1 m2)
theorem MarkIs.one {rows : List Row} {l : Str} {v u : V} (hn : (rows.filterMap Row.mark).Nodup) (h : MarkIs rows l v) (g : MarkIs rows l u) : v = u := by
  rcases h with ⟨i, r, h1, h2, rfl⟩ | ⟨h1, rfl⟩
  · rcases g with ⟨j, r', g1, g2, rfl⟩ | ⟨g1, rfl⟩
    · rw [mark_inj hn h1 g1 h2 g2]
    · exact absurd h2 (g1 r (List.mem_of_getElem? h1))
  · rcases g with ⟨j, r', g1, g2, rfl⟩ | ⟨g1, rfl⟩
    · exact absurd g2 (h1 r' (List.mem_of_getElem? g1))
    · rfl
theorem MarkIs.scal {rows : List Row} {l : Str} {v : V} (h : MarkIs rows l v) : scal v v = true := by
  rcases h with ⟨i, r, h1, h2, rfl⟩ | ⟨h1, rfl⟩ <;> rfl
theorem MarkIs.flat {rows : List Row} {l : Str} {v : V} (h : MarkIs rows l v) {K : PySem.W.Frag} {H : Hp} : ∃ t, TyX K H v t ∧ PySem.W.kitOne K t (.type "bool") = some false := by
  rcases h with ⟨i, r, h1, h2, rfl⟩ | ⟨h1, rfl⟩
  · exact ⟨_, .base (.int _), kit_ty (a := "int") (by decide +kernel)⟩
  · exact ⟨_, .base .non, kit_ty (a := "NoneType") (by decide +kernel)⟩
/-- the marks of the first rows, in a dict -/
def MkD (rows : List Row) (kv : List (Key × V)) : Prop := kv.length ≤ rows.length ∧ ∀ l, MarkIs rows l ((valV kv (Sum.inr l)).getD .non)
theorem MkD.skip {rows : List Row} {kv : List (Key × V)} (h : MkD rows kv) {r : Row} (hr : ∀ l, r.mark ≠ some l) : MkD (rows ++ [r]) kv := by
  refine ⟨by have := h.1; rw [List.length_append, List.length_singleton]; omega, fun l => ?_⟩
  rcases h.2 l with ⟨i, r', h1, h2, h3⟩ | ⟨h1, h3⟩
  · exact .inl ⟨i, r', by rw [List.getElem?_append_left (List.getElem?_eq_some_iff.mp h1).1]; exact h1, h2, h3⟩
  · refine .inr ⟨fun r' hr' => ?_, h3⟩
    rcases List.mem_append.mp hr' with h | h
    · exact h1 r' h
    · rw [List.mem_singleton.mp h]
      exact hr l
theorem MkD.put {rows : List Row} {kv : List (Key × V)} (h : MkD rows kv) {r : Row} {l : Str} (hr : r.mark = some l) (hn : ((rows ++ [r]).filterMap Row.mark).Nodup) : MkD (rows ++ [r]) (putK kv (Sum.inr l) (.int (rows.length : Nat))) := by
  refine ⟨by have := h.1; have := length_putK kv (Sum.inr l) (.int (rows.length : Nat)); rw [List.length_append, List.length_singleton]; omega, fun l2 => ?_⟩
  rw [valV_put]
  by_cases e : (Sum.inr l2 : Key) = Sum.inr l
  · rw [if_pos e]
    obtain rfl := Sum.inr.inj e
    exact .inl ⟨rows.length, r, by rw [List.getElem?_append_right (Nat.le_refl _), Nat.sub_self]; rfl, hr, rfl⟩
  · rw [if_neg e]
    rcases h.2 l2 with ⟨i, r', h1, h2, h3⟩ | ⟨h1, h3⟩
    · exact .inl ⟨i, r', by rw [List.getElem?_append_left (List.getElem?_eq_some_iff.mp h1).1]; exact h1, h2, h3⟩
    · refine .inr ⟨fun r' hr' => ?_, h3⟩
      rcases List.mem_append.mp hr' with h | h
      · exact h1 r' h
      · rw [List.mem_singleton.mp h, hr]
        exact fun e2 => e (by rw [Option.some.inj e2])
section
variable {P : Program} {w : World} {K : PySem.W.Frag} {mg : Str → Option Value} {base : Heap}
abbrev N_law_found : List Str := ["_law_make_here", "_law_names_here", "_law_kinds_here", "_law_channels_here", "_law_hands_here", "_law_channel", "_law_hand", "_law_marks", "_law_k", "_law_row", "_law_l", "_law_found_here"]
theorem sc_law_found : FnScope N_law_found ["_law_make_here", "_law_names_here"] (defScope s_law_found) := ⟨rfl, rfl, rfl, by decide +kernel, rfl, by decide +kernel, by decide +kernel⟩
-- slots: 0 _law_make_here, 1 _law_names_here, 2 _law_kinds_here, 3 _law_channels_here, 4 _law_hands_here, 5 _law_channel, 6 _law_hand, 7 _law_marks, 8 _law_k, 9 _law_row, 10 _law_l, 11 _law_found_here
def prFound (K : PySem.W.Frag) : V → V → Hp → VK → Prop := fun a b H Q => ∃ (m : Mak) (ns : List Str), At K H a (mkD m) ∧ MkOk m ∧ Nl H b ns ∧ ∀ H', Ext [] H H' → Q (.bl true) H'
theorem c_law_found (T : Txt K mg) : Cal P w K mg base 4 "_law_found" (S2 (prFound K)) := T.c_law_found fun fd F => F.ok2 sc_law_found fun cdv A outer s0 H a b Q E hr h => by
  obtain ⟨m, ns, ha, ok, ⟨pn, rfl, hpn⟩, q⟩ := h
  have C_channel_of := c_channel_of (P := P) (w := w) (base := base) T
  have C_hand_of := c_hand_of (P := P) (w := w) (base := base) T
  have C_mark_row := c_mark_row (P := P) (w := w) (base := base) T
  have z : sizeLine = 16777216 := by decide
  have ha0 := ha
  obtain ⟨pa, v1, v2, v3, rfl, hs0, a1, a2, a3⟩ := ha.tup3
  obtain ⟨pc, xc, rfl, hsc, hac⟩ := a2.inv_tup
  obtain ⟨ph, xh, rfl, hsh, hah⟩ := a3.inv_tup
  have okn : ∀ n ∈ m.hs.map Hd.name, okS n = true := fun n hn => by
    obtain ⟨h, hh, rfl⟩ := List.mem_map.mp hn
    exact (ok.hp h hh).1.okS
  have chg : ∀ c ∈ m.chs, good (chD c) = true ∧ (chD c).depth ≤ 64 := fun c hc => by
    have a := ok.ch c hc
    exact ⟨by simp [chD, good, goods, (ok.cp c hc).okS, okn _ a.src, okn _ a.dst, a.kind.okS ok.ks], by simp [chD, PyData.depth, PyData.depthAll]⟩
  have hdg : ∀ h ∈ m.hs, good (hdD h) = true ∧ (hdD h).depth ≤ 64 := fun h hh =>
    ⟨hd_good ok.ks (ok.hd h hh) (ok.hp h hh).1 (ok.hp h hh).2, Nat.le_trans (hd_depth (ok.hd h hh)) (by decide)⟩
  refine ⟨_, (pss_cons (ps_asg (pv 0) (pg_tup rfl (pgs_cons (pg_name (i := 2) sc_law_found.nd rfl (by first | exact Or.inl rfl | exact Or.inr rfl)) (pgs_cons (pg_name (i := 3) sc_law_found.nd rfl (by first | exact Or.inl rfl | exact Or.inr rfl)) (pgs_cons (pg_name (i := 4) sc_law_found.nd rfl (by first | exact Or.inl rfl | exact Or.inr rfl)) pgs_nil)))))
    (pss_cons (ps_for PassesOwn.never rfl (pi_tup (pv 3)) (pg_name (i := 5) sc_law_found.nd rfl (by first | exact Or.inl rfl | exact Or.inr rfl))
    (pss_one (ps_if (pt_cmpR (op_neD hr.units) (pe_c C_channel_of (hr.mono (by omega)) rfl (pa_cons (pv 0) (pa_cons (pe_ix ix_tup (pv 5) pe_int (fun _ _ => rfl)) pa_nil))) (pv 5) (nomark _))
    (pss_one (ps_ret pe_bl))
    pss_nil)))
    (pss_cons (ps_for PassesOwn.never rfl (pi_tup (pv 4)) (pg_name (i := 6) sc_law_found.nd rfl (by first | exact Or.inl rfl | exact Or.inr rfl))
    (pss_cons (ps_if (pt_cmpR (op_neD hr.units) (pe_c C_hand_of (hr.mono (by omega)) rfl (pa_cons (pv 0) (pa_cons (pe_ix ix_tup (pv 6) pe_int (fun _ _ => rfl)) pa_nil))) (pv 6) (nomark _))
    (pss_one (ps_ret pe_bl))
    pss_nil)
    (pss_cons (ps_set (i := 7) sc_law_found.nd rfl (Or.inl rfl) pe_dnewK)
    (pss_cons (ps_for PassesOwn.never rfl (pi_enumT (by rfl) T.z_enumerate (pa_cons (pe_ix ix_tup (pv 6) pe_int (fun _ _ => rfl)) pa_nil)) (pg_tup rfl (pgs_cons (pg_name (i := 8) sc_law_found.nd rfl (by first | exact Or.inl rfl | exact Or.inr rfl)) (pgs_cons (pg_name (i := 9) sc_law_found.nd rfl (by first | exact Or.inl rfl | exact Or.inr rfl)) pgs_nil)))
    (pss_one (ps_if (pt_cmpR op_eq (pe_ix ix_tup (pv 9) pe_int (fun _ _ => rfl)) pe_str (nomark _))
    (pss_one (ps_dput (hu_of hr) (pv 7) (pe_ix ix_tup (pv 9) pe_int (fun _ _ => rfl)) (pv 8) rfl))
    pss_nil)))
    (pss_one (ps_for PassesOwn.never rfl (pi_list (pv 1)) (pg_name (i := 10) sc_law_found.nd rfl (by first | exact Or.inl rfl | exact Or.inr rfl))
    (pss_cons (ps_set (i := 11) sc_law_found.nd rfl (Or.inl rfl) (pe_c C_mark_row (hr.mono (by omega)) rfl (pa_cons (pv 0) (pa_cons (pe_ix ix_tup (pv 6) pe_int (fun _ _ => rfl)) (pa_cons (pv 10) pa_nil)))))
    (pss_one (ps_if (PW.pt (pw_or (pt_cmpR op_ne (pv 11) (pe_dget1 (hu_of hr) (pv 7) (pv 10) ⟨rfl, rfl, rfl, rfl⟩) (nomark _)) (pw_or1 (pt_val (pe_callB call_isi (by rfl) T.z_isinstance (by decide +kernel) (pa_cons (pv 11) (pa_cons (pe_bltn (v := .ty "bool") (u := .type "bool") (by rfl) T.z_bool (by decide +kernel) rfl) pa_nil)))))))
    (pss_one (ps_ret pe_bl))
    pss_nil)))))))))
    (pss_one (ps_ret pe_bl))))), ?_⟩
  refine ⟨_, rfl, pa, _, rfl, hs0, rfl, _, _, rfl, _, _, rfl, _, _, rfl, rfl, ?_⟩
  refine ⟨_, rfl, pc, rfl, ⟨xc, hsc⟩, for_tup (K := K) (xs := xc) (fun i σ H' => H' = H ∧ ∃ v5 v6 v7 v8 v9 v10 v11, σ = [some (.ref pa), some (.ref pn), some v1, some (.ref pc), some (.ref ph), v5, v6, v7, v8, v9, v10, v11]) ⟨rfl, _, _, _, _, _, _, _, rfl⟩ (fun i σ H' _ h => by rw [h.1]; exact hsc) ?_ ?_⟩
  · rintro i x σ H' hx ⟨hH, v5, v6, v7, v8, v9, v10, v11, rfl⟩
    subst H'
    obtain ⟨d, hdx, hat⟩ := hac.get i x hx
    obtain ⟨ch, hkp, rfl⟩ := map_at hdx
    have hcm := List.mem_of_getElem? hkp
    have hat0 := hat
    obtain ⟨p1, y1, y2, y3, y4, rfl, hs1, hy1, hy2, hy3, hy4⟩ := hat.tup4
    obtain rfl := hy1.inv_str
    have hf : m.chs.find? (fun x => decide (x.name = ch.name)) = some ch := find_nd (f := Ch.name) ok.cn hcm
    refine ⟨_, rfl, _, rfl, p1, _, _, _, rfl, rfl, hs1, atI_nat (j := 0) rfl, m, ch.name, ha0, rfl, fun c v hc hv => ?_, fun h => absurd (hf.symm.trans h) (by simp)⟩
    rw [hf] at hc
    cases hc
    refine ⟨_, rfl, ?_⟩
    refine ne_same hv hat0 (chg ch hcm).1 (chg ch hcm).2 ?_
    exact ⟨_, rfl, ite2 (fun h => absurd h Bool.false_ne_true) (fun _ => ⟨rfl, _, _, _, _, _, _, _, rfl⟩)⟩
  rintro σ H' ⟨hH, v5, v6, v7, v8, v9, v10, v11, rfl⟩
  subst H'
  refine ⟨_, rfl, ph, rfl, ⟨xh, hsh⟩, for_tup (K := K) (xs := xh) (fun i σ H' => Ext [] H H' ∧ ∃ v5 v6 v7 v8 v9 v10 v11, σ = [some (.ref pa), some (.ref pn), some v1, some (.ref pc), some (.ref ph), v5, v6, v7, v8, v9, v10, v11]) ⟨Ext.refl _ _, _, _, _, _, _, _, _, rfl⟩ (fun i σ H' _ h => h.1.sqt hsh) ?_ ?_⟩
  · clear v5 v6 v7 v8 v9 v10 v11
    rintro i x σ H1 hx ⟨e1, v5, v6, v7, v8, v9, v10, v11, rfl⟩
    obtain ⟨d, hdx, hat⟩ := (e1.ats hah).get i x hx
    obtain ⟨hd, hkp, rfl⟩ := map_at hdx
    have hhm := List.mem_of_getElem? hkp
    have hat0 := hat
    obtain ⟨p1, y1, y2, y3, rfl, hs1, hy1, hy2, hy3⟩ := hat.tup3
    obtain rfl := hy1.inv_str
    obtain ⟨pr, xr, rfl, hsr, har⟩ := hy3.inv_tup
    have hrl : xr.length = hd.rows.length := by rw [har.length, List.length_map]
    have ho := ok.hd hd hhm
    have most := ho.most
    have hf : m.hs.find? (fun x => decide (x.name = hd.name)) = some hd := find_nd (f := Hd.name) ok.hn hhm
    refine ⟨_, rfl, _, rfl, p1, _, _, _, rfl, rfl, hs1, atI_nat (j := 0) rfl, m, hd.name, e1.at_ ha0, rfl, fun c v hc hv => ?_, fun h => absurd (hf.symm.trans h) (by simp)⟩
    rw [hf] at hc
    cases hc
    refine ⟨_, rfl, ?_⟩
    refine ne_same hv hat0 (hdg hd hhm).1 (hdg hd hhm).2 ?_
    refine ⟨_, rfl, ite2 (fun h => absurd h Bool.false_ne_true) (fun _ => ?_)⟩
    refine fun D hD => ?_
    have hD0 : H D = none := e1.free hD
    have e2 := e1.new (o := .dK []) hD
    refine ⟨_, rfl, p1, _, _, _, rfl, rfl, ((Ext.refl [] H1).new hD).sqt hs1, atI_nat (j := 2) rfl, pr, xr, rfl, ((Ext.refl [] H1).new hD).sqt hsr, for_enumT (xs := xr) (fun i σ H' => Ext [] H H' ∧ Ext [] H1 H' ∧ (∃ kv, H' D = some (.dK kv) ∧ MkD (hd.rows.take i) kv) ∧ ∃ v5 v8 v9 v10 v11, σ = [some (.ref pa), some (.ref pn), some v1, some (.ref pc), some (.ref ph), v5, some (.ref p1), some (.ref D), v8, v9, v10, v11]) ⟨e2, (Ext.refl [] H1).new hD, ⟨[], upd_same, Nat.zero_le _, fun l => .inr ⟨(fun r h => by simp at h), rfl⟩⟩, _, _, _, _, _, rfl⟩ (fun i σ H' h => h.2.1.sqt hsr) ?_ ?_⟩
    · rintro j x TT σ H3 hx ⟨e3, e13, ⟨kv, hkv, mkd⟩, v5, v8, v9, v10, v11, rfl⟩ hT
      obtain ⟨d, hdx, hatr⟩ := (e13.ats har).get j x hx
      obtain ⟨r, hrw, rfl⟩ := map_at hdx
      have hjl := (List.getElem?_eq_some_iff.mp hrw).1
      obtain ⟨pq, ys, rfl, hsq, hyq⟩ := row_at hatr
      have e34 : Ext [] H3 (upd H3 TT (.tup [.int (j : Nat), .ref pq])) := (Ext.refl _ _).new hT
      have hkv4 := e34.same _ _ hkv
      have etk : hd.rows.take (j + 1) = hd.rows.take j ++ [r] := by rw [List.take_add_one, hrw]; rfl
      have hjlen : (hd.rows.take j).length = j := by rw [List.length_take]; omega
      refine ⟨TT, _, rfl, .of upd_same, rfl, _, _, rfl, _, _, rfl, rfl, ?_⟩
      refine ⟨_, rfl, pq, _, _, _, rfl, rfl, e34.sqt hsq, atI_nat (j := 0) rfl, rfl, _, rfl, ite2 (fun hc => ?_) (fun hc => ?_)⟩
      · have ew : r.word = "take" := V.str.inj (of_decide_eq_true hc)
        obtain ⟨l, hl⟩ := word_mark.mp ew
        obtain ⟨zs, rfl⟩ := rest_mark hyq hl
        have hsub : ((hd.rows.take j ++ [r]).filterMap Row.mark).Nodup := by
          rw [← etk]
          exact ho.marks.sublist ((List.take_sublist _ _).filterMap _)
        have mk2 := mkd.put hl hsub
        rw [hjlen] at mk2
        have kvl := mkd.1
        rw [hjlen] at kvl
        refine ⟨_, rfl, _, rfl, _, rfl, pq, _, _, _, rfl, rfl, e34.sqt hsq, atI_nat (j := 1) rfl, D, _, rfl, DPut.k (k := Sum.inr l) hkv4 (by omega), (e3.trans e34).own hD0, (e13.trans e34).own hD, ⟨_, upd_same, by rw [etk]; exact mk2⟩, _, _, _, _, _, rfl⟩
      · refine ⟨e3.trans e34, e13.trans e34, ⟨kv, hkv4, ?_⟩, _, _, _, _, _, rfl⟩
        rw [etk]
        refine mkd.skip fun l hl => hc ?_
        exact decide_eq_true (congrArg V.str (word_mark.mpr ⟨l, hl⟩))
    · rintro σ H3 ⟨e3, e13, ⟨kv, hkv, mkd⟩, v5, v8, v9, v10, v11, rfl⟩
      rw [hrl, List.take_length] at mkd
      have hpn3 := e3.same _ _ hpn
      refine ⟨_, rfl, pn, rfl, ⟨_, .of hpn3⟩, for_list (K := K) (xs := ns.map V.str) (fun i σ H' => Ext [] H H' ∧ Ext [] H3 H' ∧ ∃ v5 v8 v9 v10 v11, σ = [some (.ref pa), some (.ref pn), some v1, some (.ref pc), some (.ref ph), v5, some (.ref p1), some (.ref D), v8, v9, v10, v11]) ⟨e3, Ext.refl _ _, _, _, _, _, _, rfl⟩ (fun i σ H' _ h => .of (h.1.same _ _ hpn)) ?_ ?_⟩
      · clear v5 v8 v9 v10 v11
        rintro j x σ H4 hx ⟨e4, e34, v5, v8, v9, v10, v11, rfl⟩
        obtain ⟨l, -, rfl⟩ : ∃ l, ns[j]? = some l ∧ .str l = x := by
          rw [List.getElem?_map] at hx
          cases hq : ns[j]? with
          | none => rw [hq] at hx; cases hx
          | some l => rw [hq] at hx; exact ⟨l, rfl, Option.some.inj hx⟩
        have e14 := e13.trans e34
        refine ⟨_, rfl, _, rfl, p1, _, _, _, rfl, rfl, e14.sqt hs1, atI_nat (j := 0) rfl, _, rfl, m, hd, l, e4.at_ ha0, ok.hn, hhm, rfl, rfl, fun v H5 hv e5 => ?_⟩
        have hD5 := e5.same _ _ (e34.same _ _ hkv)
        have hg : DGet H5 D (.str l) (valV kv (Sum.inr l)) := DGet.k (k := Sum.inr l) hD5
        have hu := mkd.2 l
        have hvu := MarkIs.one ho.marks hv hu
        obtain ⟨t, ht1, ht2⟩ := hv.flat (K := K) (H := H5)
        have hds : (!decide (v = (valV kv (Sum.inr l)).getD .non)) = false := by rw [decide_eq_true hvu]; rfl
        refine ⟨_, rfl, _, rfl, D, rfl, .inl ⟨_, .inl hD5⟩, _, rfl, _, hg, by rw [← hvu]; exact hv.scal, _, rfl, ?_⟩
        rw [hds]
        refine iteF ?_
        refine ⟨_, rfl, v, .ty "bool", t, _, false, rfl, .ty _, ht1, ht2, _, rfl, ite2 (fun h => absurd h Bool.false_ne_true) (fun _ => ?_)⟩
        exact ⟨e4.trans e5, e34.trans e5, _, _, _, _, _, rfl⟩
      · rintro σ H4 ⟨e4, e34, v5, v8, v9, v10, v11, rfl⟩
        exact ⟨e4, _, _, _, _, _, _, _, rfl⟩
  · clear v5 v6 v7 v8 v9 v10 v11
    rintro σ H1 ⟨e1, v5, v6, v7, v8, v9, v10, v11, rfl⟩
    exact q H1 e1
end
end Sw

-- part SwEnd
set_option Elab.async false
set_option linter.all false
set_option maxRecDepth 100000
set_option maxHeartbeats 4000000
namespace Sw
open PySem PySem.Spec PyProof.Rows L2
/-! ## the law's own call, at the claim's caller: no repr is under way there -/
section
variable {P : Program} {w : World} {K : PySem.W.Frag} {mg mb : Str → Option Value}
/-- the script as it may be tracked: untouched, or one of the text's own -/
theorem track {s : Shared} {a : Addr} {vs : List Value} {ns : List Int} (KX : K.In s.heap) (ha : s.heap.get? a = some { cls := .type "list", data := .seq vs.toArray }) (hi : IntsAre vs ns) (hl : ns.length ≤ sizeLine) :
    ∃ H : Hp, (∀ b u, H b = some u → b = a ∧ K.lookup a = none ∧ u = .frz { cls := .type "list", data := .seq vs.toArray } (.lst (ns.map V.int))) ∧ HOk P w H s.heap ∧ SqL K H a (ns.map V.int) := by
  have rv := vals_ints hi
  cases hk : K.lookup a with
  | some o =>
    have e := KX a o hk
    rw [ha] at e
    obtain rfl := Option.some.inj e
    exact ⟨fun _ => none, fun b u e => (by cases e), fun b u e => (by cases e), .inr ⟨_, vs.toArray, _, hk, rfl, rfl, rfl, by rw [List.size_toArray, hi.length]; exact hl, by simpa using rv⟩⟩
  | none =>
    refine ⟨upd (fun _ => none) a (.frz { cls := .type "list", data := .seq vs.toArray } (.lst (ns.map V.int))), fun b u e => ?_, fun b u e => ?_, .inl (.inr ⟨_, upd_same⟩)⟩
    · by_cases hb : b = a
      · subst hb
        rw [upd_same] at e
        exact ⟨rfl, rfl, (Option.some.inj e).symm⟩
      · rw [upd_ne hb] at e
        cases e
    · by_cases hb : b = a
      · subst hb
        rw [upd_same] at e
        obtain rfl := Option.some.inj e
        exact ⟨ha, by rw [List.length_map]; exact hl, vs, _, rv, ha⟩
      · rw [upd_ne hb] at e
        cases e
theorem law_at {k : Nat} {x p : Str} {N : List Str} {params : Arguments} {body : List Stmt} {scope : Scope} {fa a : Addr} {fd : FuncData} {s : Shared} {vs : List Value} {ns : List Int}
    (KX : K.In s.heap) (hns : s.heap.Ns mainGlobals mg) (hb : s.heap.Ns builtinsNs mb) (hbb : ∀ x : Str, x ≠ "__name__" → mb x = bootBuiltins x) (hlim : s.heap.NoLimit) (hg : s.gens = #[])
    (ha : s.heap.get? a = some { cls := .type "list", data := .seq vs.toArray }) (hi : IntsAre vs ns) (hl : ns.length ≤ sizeLine) (hr : Room (k + 1) callerA)
    (F : FunD K x x params body scope [] [] fa fd) (S : FnScope N [p] scope) (hbind : ∀ (s : Shared) (u : Value), BindsTo s fd ⟨[u], []⟩ [(p, u)])
    (go : ∀ (base : Heap) (cdv : Value) (H : Hp) (Q : VK), (∀ H', Q (.bl true) H') → SqL K H a (ns.map V.int) → Room k (callerA.deeper (envOfC x scope s.heap.objs.size fa cdv)) →
      ∃ t, PSs (cxOf CX0 P w K mg base N x scope fa cdv callerA [] s H (fun _ _ _ => False)) body t ∧ t { nx := fun _ H' => Q .non H', rt := Q } (start N [.ref a]) H) :
    codeAny (model P w) callerA (.call (.ref fa) ⟨[.ref a], []⟩) (fun r s' => r = .ok (.ret (.bool true)) ∧ OldK s.heap s'.heap ∧ s'.os = s.os ∧ AllBare s'.gens) s := by
  obtain ⟨H, hH, hok, hS⟩ := track (P := P) (w := w) KX ha hi hl
  have free : ∀ {b : Addr} {o : Obj}, s.heap.get? b = some o → (∀ n, o.data ≠ .seq vs.toArray n) → H b = none := fun {b o} e hd => by
    cases q : H b with
    | none => rfl
    | some u =>
      obtain ⟨rfl, _⟩ := hH b u q
      rw [ha] at e
      obtain rfl := Option.some.inj e
      exact absurd rfl (hd _)
  have ns_of : ∀ {b : Addr} {m : Str → Option Value}, s.heap.Ns b m → (hidT s.heap H).Ns b m := by
    rintro b m ⟨o, es, ep, e, d, r⟩
    exact ⟨o, es, ep, hidT_get e (free e fun n h => by rw [d] at h; cases h), d, r⟩
  have kin : K.In (hidT s.heap H) := fun b o e => hidT_get (KX b o e) (by
    cases q : H b with
    | none => rfl
    | some u =>
      obtain ⟨rfl, h, _⟩ := hH b u q
      rw [h] at e
      cases e)
  have e0 : Env0 P w K mg (hidT s.heap H) callerA [] s H := by
    refine ⟨rfl, ⟨kin, ns_of hns, ⟨mb, ns_of hb, hbb⟩, ?_⟩, fun b o e => of_hidT e, Nat.le_of_eq (hidT_size _ _), trivial, fun b h => ?_, hok, .of_eq hg⟩
    · obtain ⟨mc, h1, h2⟩ := hlim
      exact ⟨mc, ns_of h1, h2⟩
    · cases h
  obtain ⟨oc, od, dV, kV, doc, pm, an, cdv, ct, osl, rfl, lk, hcd, -, -⟩ := F.ex
  obtain ⟨t, ht, hq⟩ := go (hidT s.heap H) cdv H (fun v _ => v = .bl true) (fun _ => rfl) hS (hr.deeper _)
  refine Att.call_fn KX hlim lk hcd hr.depth (hbind s (.ref a)) ?_ (fun s1 ic => ?_) S.co S.gen S.kind
  · rcases S.par p List.mem_cons_self with e | e <;> simp [e]
  · have I := inv_start (CX := CX0) (P := P) (w := w) (K := K) (mg := mg) (E := fun _ _ _ => False) (cd := cdv) (f := fa) S hr.hd e0 (vs := [.ref a]) (us := [.ref a]) rfl (.cons rfl .nil) ic
    refine wpAny_mono (ht.run [] s1 _ H _ I hq) (fun fl s' hs => ?_) fun e s' hs => ?_
    · have done : ∀ {σ' : L2.St} {H' : Hp} {v : V} {u : Value}, Inv (cxOf CX0 P w K mg (hidT s.heap H) N x scope fa cdv callerA [] s H fun _ _ _ => False) [] σ' H' s' → RelV v u → v = .bl true → (u = Value.bool true) ∧ OldK s.heap s'.heap ∧ s'.os = s.os ∧ AllBare s'.gens := fun {σ' H' v u} J rv e => by
        subst e
        obtain rfl : u = Value.bool true := rv
        refine ⟨rfl, OldK.of_keep fun b o h => ?_, J.os, J.bare⟩
        have un : Un (frs []) [] H H' s.heap s'.heap := J.base
        cases q : H b with
        | none => exact un.keep b o h q (by intro z; cases z) (by intro z; cases z)
        | some u =>
          obtain ⟨rfl, -, rfl⟩ := hH b u q
          have q2 := J.hok b _ (un.frzs b _ _ q)
          rw [ha] at h
          obtain rfl := Option.some.inj h
          exact q2.1
      cases fl with
      | ret u =>
        obtain ⟨v, σ', H', J, rv, e⟩ := hs
        obtain ⟨rfl, h⟩ := done J rv e
        exact ⟨rfl, h⟩
      | next =>
        obtain ⟨σ', H', J, e⟩ := hs
        cases e
      | brk =>
        obtain ⟨_, _, _, e⟩ := hs
        exact False.elim e
      | cont =>
        obtain ⟨_, _, _, e⟩ := hs
        exact False.elim e
    · exact wpAny_mono hs (fun _ _ h => False.elim h) fun _ _ h => False.elim h
end
end Sw

-- part SwLaw
set_option Elab.async false
set_option linter.all false
set_option maxRecDepth 100000
set_option maxHeartbeats 4000000
namespace Sw
open PySem PySem.Spec PyProof.Rows L2
theorem mixed_ok {ns : List Str} (nok : NsOk ns) : NsOk (ns.take 8 ++ ns.take 4 ++ ns.take 6 ++ ns.take 8) := by
  have nl := nok.len
  have l8 : (ns.take 8).length = 8 := by rw [List.length_take]; omega
  have l4 : (ns.take 4).length = 4 := by rw [List.length_take]; omega
  have l6 : (ns.take 6).length = 6 := by rw [List.length_take]; omega
  refine ⟨by simp only [List.length_append, l8, l4, l6], fun n hn => ?_, ?_, ?_, ?_, ?_⟩
  · simp only [List.mem_append] at hn
    rcases hn with ((h | h) | h) | h <;> exact nok.nm n (List.mem_of_mem_take h)
  · rw [List.append_assoc, List.append_assoc, List.take_left' l8]
    exact nok.g1
  · rw [List.append_assoc, List.append_assoc, List.drop_left' l8, List.take_left' l4]
    exact take_nd nok.g1 (by decide)
  · rw [List.append_assoc, List.drop_left' (by rw [List.length_append, l8, l4]), List.take_left' l6]
    exact take_nd nok.g1 (by decide)
  · rw [List.drop_left' (by simp only [List.length_append, l8, l4, l6])]
    exact nok.g1
theorem empty_ok : MkOk ⟨[], [], []⟩ :=
  ⟨trivial, Nat.zero_le _, List.nodup_nil, (fun _ h => by cases h), Nat.zero_le _, List.nodup_nil, (fun _ h => by cases h), Nat.zero_le _, (fun _ h => by cases h), (fun _ h => by cases h)⟩
section
variable {P : Program} {w : World} {K : PySem.W.Frag} {mg : Str → Option Value} {base : Heap}
abbrev N_law : List Str := ["_law_script", "_law_names_here", "_law_make_here", "_law_other", "_law_kept"]
theorem sc_law : FnScope N_law ["_law_script"] (defScope s_law) := ⟨rfl, rfl, rfl, by decide +kernel, rfl, by decide +kernel, by decide +kernel⟩
-- slots: 0 _law_script, 1 _law_names_here, 2 _law_make_here, 3 _law_other, 4 _law_kept
theorem law_body (T : Txt K mg) {f a : Addr} {cdv : Value} {s : Shared} {H : Hp} {Q : VK} {is : List Int} (q : ∀ H', Q (.bl true) H') (hS : SqL K H a (is.map V.int)) (isl : is.length ≤ 63)
    (hr : Room 60 (callerA.deeper (envOfC "law" (defScope s_law) s.heap.objs.size f cdv))) :
    ∃ t, PSs (cxOf CX0 P w K mg base N_law "law" (defScope s_law) f cdv callerA [] s H (fun _ _ _ => False)).nox (defBody s_law) t ∧ t { nx := fun _ H' => Q .non H', rt := Q } (start N_law [.ref a]) H := by
  have hG : (callerA.deeper (envOfC "law" (defScope s_law) s.heap.objs.size f cdv)).guards = some [] := rfl
  have C_law_take := c_law_take (P := P) (w := w) (base := base) T
  have C_law_feed := c_law_feed (P := P) (w := w) (base := base) T
  have C_law_names := c_law_names (P := P) (w := w) (base := base) T
  have C_law_make := c_law_make (P := P) (w := w) (base := base) T
  have C_law_wide := c_law_wide (P := P) (w := w) (base := base) T
  have C_law_found := c_law_found (P := P) (w := w) (base := base) T
  have C_look := c_look (P := P) (w := w) (base := base) T
  have z : sizeLine = 16777216 := by decide
  have e9 : (10 : Int) ^ (9 : Int).toNat = 1000000000 := by decide
  have hp : CPow 10 9 := ⟨by decide, by decide, by decide⟩
  refine ⟨_, (pss_cons (ps_set (i := 1) sc_law.nd rfl (Or.inl rfl) (pe_c C_law_names (hr.mono (by omega)) rfl (pa_cons (pe_c C_law_take (hr.mono (by omega)) rfl (pa_cons (pe_c C_law_feed (hr.mono (by omega)) rfl (pa_cons (pv 0) (pa_cons pe_int pa_nil))) (pa_cons (pe_op op_pow pe_int pe_int) pa_nil))) (pa_cons pe_int pa_nil))))
    (C8.pss_cut (ps_if (pt_cmpR op_eq (pe_c C_law_take (hr.mono (by omega)) rfl (pa_cons (pe_c C_law_feed (hr.mono (by omega)) rfl (pa_cons (pv 0) (pa_cons pe_int pa_nil))) (pa_cons pe_int pa_nil))) pe_int (nomark _))
    (pss_one (ps_set (i := 1) sc_law.nd rfl (Or.inl rfl) (pe_op op_cat (pe_op op_cat (pe_op op_cat (pe_slice sl_list (pv 1) po_none (po_some pe_int)) (pe_slice sl_list (pv 1) po_none (po_some pe_int))) (pe_slice sl_list (pv 1) po_none (po_some pe_int))) (pe_slice sl_list (pv 1) po_none (po_some pe_int)))))
    pss_nil)
    (pss_cons (ps_set (i := 2) sc_law.nd rfl (Or.inl rfl) (pe_c C_law_make (hr.mono (by omega)) rfl (pa_cons (pv 0) (pa_cons pe_int (pa_cons (pv 1) pa_nil)))))
    (C8.pss_cut (ps_if (pt_cmpR op_eq (pe_c C_law_take (hr.mono (by omega)) rfl (pa_cons (pe_c C_law_feed (hr.mono (by omega)) rfl (pa_cons (pv 0) (pa_cons pe_int pa_nil))) (pa_cons pe_int pa_nil))) pe_int (nomark _))
    (pss_one (ps_set (i := 2) sc_law.nd rfl (Or.inl rfl) (pe_c C_law_wide (hr.mono (by omega)) rfl (pa_cons (pv 2) (pa_cons (pv 1) pa_nil)))))
    pss_nil)
    (pss_cons (ps_set (i := 3) sc_law.nd rfl (Or.inl rfl) (pe_c C_law_make (hr.mono (by omega)) rfl (pa_cons (pv 0) (pa_cons pe_int (pa_cons (pv 1) pa_nil)))))
    (pss_cons (ps_set (i := 4) sc_law.nd rfl (Or.inl rfl) (pe_callB (call_reprD hG hr.units) (by rfl) T.z_repr (by decide +kernel) (pa_cons (pv 2) pa_nil)))
    (pss_cons (ps_if (PW.pt (pw_or (pt_cmpR op_notBl (pe_c C_look (hr.mono (by omega)) rfl (pa_cons (pv 2) pa_nil)) pe_bl (nomark _)) (pw_or (pt_cmpR op_notBl (pe_c C_look (hr.mono (by omega)) rfl (pa_cons (pv 3) pa_nil)) pe_bl (nomark _)) (pw_or1 (pt_cmpR op_notBl (pe_c C_look (hr.mono (by omega)) rfl (pa_cons (pv 2) pa_nil)) pe_bl (nomark _))))))
    (pss_one (ps_ret pe_bl))
    pss_nil)
    (pss_one (ps_ret (pe_and (pe_c C_law_found (hr.mono (by omega)) rfl (pa_cons (pv 2) (pa_cons (pv 1) pa_nil))) (pe_and (pe_cmpR op_eq (pe_callB (call_reprD hG hr.units) (by rfl) T.z_repr (by decide +kernel) (pa_cons (pv 2) pa_nil)) (pv 4) (nomark _)) (pe_one (pe_cmpR op_isBl (pe_c C_look (hr.mono (by omega)) rfl (pa_cons (pe_tup (pa_cons (pe_tup pa_nil) (pa_cons (pe_tup pa_nil) (pa_cons (pe_tup pa_nil) pa_nil)))) pa_nil)) pe_bl (nomark _)))))))))))))), ?_⟩
  refine ⟨_, rfl, a, is, _, rfl, rfl, hS, isl, by decide, by decide, fun f0 H1 hf0 e1 f1 => ?_⟩
  refine ⟨_, _, rfl, rfl, hp, f0, 1000000000, rfl, (show V.int ((10 : Int) ^ (9 : Int).toNat) = V.int 1000000000 by rw [e9]), by decide, by decide, f1, fun d H2 d0 d1 e2 f2 => ?_⟩
  refine ⟨d, rfl, rfl, d0, d1, fun pn ns H3 hpn0 e3 hpn nok => ?_⟩
  have x3 : Ext [] H H3 := (e1.drop e2 hf0).trans e3
  -- the names, in one of eight the same ones
  refine ⟨fun σ' H' => Ext [] H H' ∧ ∃ v ns, Nl H' v ns ∧ NsOk ns ∧ ∃ v2 v3 v4, σ' = [some (.ref a), some v, v2, v3, v4], ?_, ?_⟩
  · refine ⟨_, rfl, a, is, _, rfl, rfl, x3.sql (by simp) hS, isl, by decide, by decide, fun f4 H4 hf4 e4 g4 => ?_⟩
    refine ⟨f4, 8, rfl, rfl, by decide, by decide, g4, fun d H5 d0 d1 e5 g5 => ?_⟩
    have x35 : Ext [] H3 H5 := e4.drop e5 hf4
    have x5 := x3.trans x35
    have hpn5 := x35.same _ _ hpn
    have nl := nok.len
    refine ⟨rfl, _, rfl, ite2 (fun _ => ?_) (fun _ => ⟨x5, _, ns, ⟨pn, rfl, hpn5⟩, nok, _, _, _, rfl⟩)⟩
    have cut : ∀ n : Nat, cutV (ns.map V.str) none (some (n : Int)) = (ns.take n).map V.str := fun n => by rw [cut_to, List.map_take]
    have c8 := cut 8
    have c4 := cut 4
    have c6 := cut 6
    refine ⟨_, rfl, 8, rfl, pn, _, rfl, .of hpn5, fun p1 hp1 => ?_⟩
    have y1 : Ext [] H5 (upd H5 p1 (.lst (cutV (ns.map V.str) none (some 8)))) := (Ext.refl _ _).new hp1
    have g1 : upd H5 p1 (.lst (cutV (ns.map V.str) none (some 8))) p1 = some (.lst ((ns.take 8).map V.str)) := by rw [upd_same]; exact congrArg (fun z => some (HO.lst z)) c8
    generalize upd H5 p1 (.lst (cutV (ns.map V.str) none (some 8))) = J1 at y1 g1
    refine ⟨_, rfl, 4, rfl, pn, _, rfl, .of (y1.same _ _ hpn5), fun p2 hp2 => ?_⟩
    have y2 : Ext [] J1 (upd J1 p2 (.lst (cutV (ns.map V.str) none (some 4)))) := (Ext.refl _ _).new hp2
    have g2 : upd J1 p2 (.lst (cutV (ns.map V.str) none (some 4))) p2 = some (.lst ((ns.take 4).map V.str)) := by rw [upd_same]; exact congrArg (fun z => some (HO.lst z)) c4
    generalize upd J1 p2 (.lst (cutV (ns.map V.str) none (some 4))) = J2 at y2 g2
    have y12 := y1.trans y2
    refine ⟨p1, p2, _, _, rfl, rfl, y2.same _ _ g1, g2, by simp only [List.length_map, List.length_take]; omega, fun p3 hp3 => ?_⟩
    have y3 : Ext [] J2 (upd J2 p3 (.lst ((ns.take 8).map V.str ++ (ns.take 4).map V.str))) := (Ext.refl _ _).new hp3
    have g3 : upd J2 p3 (.lst ((ns.take 8).map V.str ++ (ns.take 4).map V.str)) p3 = some (.lst ((ns.take 8 ++ ns.take 4).map V.str)) := by rw [upd_same, List.map_append]
    generalize upd J2 p3 (.lst ((ns.take 8).map V.str ++ (ns.take 4).map V.str)) = J3 at y3 g3
    have y13 := y12.trans y3
    refine ⟨_, rfl, 6, rfl, pn, _, rfl, .of (y13.same _ _ hpn5), fun p4 hp4 => ?_⟩
    have y4 : Ext [] J3 (upd J3 p4 (.lst (cutV (ns.map V.str) none (some 6)))) := (Ext.refl _ _).new hp4
    have g4 : upd J3 p4 (.lst (cutV (ns.map V.str) none (some 6))) p4 = some (.lst ((ns.take 6).map V.str)) := by rw [upd_same]; exact congrArg (fun z => some (HO.lst z)) c6
    generalize upd J3 p4 (.lst (cutV (ns.map V.str) none (some 6))) = J4 at y4 g4
    have y14 := y13.trans y4
    refine ⟨p3, p4, _, _, rfl, rfl, y4.same _ _ g3, g4, by simp only [List.length_map, List.length_append, List.length_take]; omega, fun p5 hp5 => ?_⟩
    have y5 : Ext [] J4 (upd J4 p5 (.lst ((ns.take 8 ++ ns.take 4).map V.str ++ (ns.take 6).map V.str))) := (Ext.refl _ _).new hp5
    have g5 : upd J4 p5 (.lst ((ns.take 8 ++ ns.take 4).map V.str ++ (ns.take 6).map V.str)) p5 = some (.lst ((ns.take 8 ++ ns.take 4 ++ ns.take 6).map V.str)) := by rw [upd_same]; simp only [List.map_append]
    generalize upd J4 p5 (.lst ((ns.take 8 ++ ns.take 4).map V.str ++ (ns.take 6).map V.str)) = J5 at y5 g5
    have y15 := y14.trans y5
    refine ⟨_, rfl, 8, rfl, pn, _, rfl, .of (y15.same _ _ hpn5), fun p6 hp6 => ?_⟩
    have y6 : Ext [] J5 (upd J5 p6 (.lst (cutV (ns.map V.str) none (some 8)))) := (Ext.refl _ _).new hp6
    have g6 : upd J5 p6 (.lst (cutV (ns.map V.str) none (some 8))) p6 = some (.lst ((ns.take 8).map V.str)) := by rw [upd_same]; exact congrArg (fun z => some (HO.lst z)) c8
    generalize upd J5 p6 (.lst (cutV (ns.map V.str) none (some 8))) = J6 at y6 g6
    have y16 := y15.trans y6
    refine ⟨p5, p6, _, _, rfl, rfl, y6.same _ _ g5, g6, by simp only [List.length_map, List.length_append, List.length_take]; omega, fun p7 hp7 => ?_⟩
    refine ⟨(x5.trans y16).new hp7, _, _, ⟨p7, rfl, by rw [upd_same]; simp only [List.map_append]⟩, mixed_ok nok, _, _, _, rfl⟩
  clear x3 hpn nok e3 hpn0 e2 f2 d0 d1 e1 f1 hf0
  rintro σ' H3 ⟨x3, vn, ns, ⟨pn, rfl, hpn⟩, nok, v2, v3, v4, rfl⟩
  -- a make
  refine ⟨_, rfl, _, rfl, a, is, 2, ns, rfl, x3.sql (by simp) hS, isl, rfl, by decide, by decide, ⟨pn, rfl, hpn⟩, nok, fun vm m H4 e4 hm mg => ?_⟩
  have x4 := x3.trans e4
  have hpn4 := e4.same _ _ hpn
  refine ⟨fun σ' H' => Ext [] H4 H' ∧ ∃ v m, At K H' v (mkD m) ∧ MkOk m ∧ ∃ v3 v4, σ' = [some (.ref a), some (.ref pn), some v, v3, v4], ?_, ?_⟩
  · refine ⟨_, rfl, a, is, _, rfl, rfl, x4.sql (by simp) hS, isl, by decide, by decide, fun f5 H5 hf5 e5 g5 => ?_⟩
    refine ⟨f5, 16, rfl, rfl, by decide, by decide, g5, fun d H6 d0 d1 e6 g6 => ?_⟩
    have x46 : Ext [] H4 H6 := e5.drop e6 hf5
    refine ⟨rfl, _, rfl, ite2 (fun _ => ?_) (fun _ => ⟨x46, _, m, x46.at_ hm, mg.ok nok, _, _, rfl⟩)⟩
    exact ⟨_, rfl, _, rfl, m, ns, x46.at_ hm, mg, ⟨pn, rfl, x46.same _ _ hpn4⟩, nok, fun v m' H7 e7 hv ok => ⟨x46.trans e7, v, m', hv, ok, _, _, rfl⟩⟩
  rintro σ' H5 ⟨e5, vm, m, hm, mok, v3, v4, rfl⟩
  have x5 := x4.trans e5
  have hpn5 := e5.same _ _ hpn4
  refine ⟨_, rfl, _, rfl, a, is, 9, ns, rfl, x5.sql (by simp) hS, isl, rfl, by decide, by decide, ⟨pn, rfl, hpn5⟩, nok, fun vo mo H6 e6 ho og => ?_⟩
  have hm6 := e6.at_ hm
  have hpn6 := e6.same _ _ hpn5
  have ook := og.ok nok
  have sh := mk_shown mok
  have shw := good_show _ sh.1
  have ndc := good_nodict _ sh.1
  obtain ⟨pm, xm, rfl, -, -⟩ := hm6.inv_tup
  refine ⟨_, rfl, pm, mkD m, rfl, hm6.toDp, shw, ndc, by have := sh.2.1; omega, sh.2.2, ?_⟩
  refine ⟨_, rfl, m, mok, hm6, fun H7 e7 => ?_⟩
  refine ⟨_, _, rfl, rfl, _, rfl, ite2 (fun h => absurd h (by decide)) (fun _ => ?_)⟩
  refine ⟨_, rfl, mo, ook, e7.at_ ho, fun H8 e8 => ?_⟩
  refine ⟨_, _, rfl, rfl, _, rfl, ite2 (fun h => absurd h (by decide)) (fun _ => ?_)⟩
  have x68 := e7.trans e8
  refine ⟨_, rfl, m, mok, x68.at_ hm6, fun H9 e9' => ?_⟩
  refine ⟨_, _, rfl, rfl, _, rfl, ite2 (fun h => absurd h (by decide)) (fun _ => ?_)⟩
  have x69 := x68.trans e9'
  refine ⟨_, rfl, _, rfl, m, ns, x69.at_ hm6, mok, ⟨pn, rfl, x69.same _ _ hpn6⟩, fun HA eA => ?_⟩
  have x6A := x69.trans eA
  refine ⟨_, rfl, ite2 (fun _ => ?_) (fun h => absurd rfl h)⟩
  refine ⟨_, rfl, pm, mkD m, rfl, (x6A.at_ hm6).toDp, shw, ndc, by have := sh.2.1; omega, sh.2.2, _, rfl, rfl, _, rfl, ite2 (fun _ => ?_) (fun h => absurd (decide_eq_true rfl) h)⟩
  refine ⟨by show 0 ≤ sizeLine; decide, fun p1 hp1 => ⟨by show 0 ≤ sizeLine; decide, fun p2 hp2 => ⟨by show 0 ≤ sizeLine; decide, fun p3 hp3 => ⟨by show 3 ≤ sizeLine; decide, fun p4 hp4 => ?_⟩⟩⟩⟩
  have t1 : At K (upd HA p1 (.tup [])) (.ref p1) (.tuple []) := At.mk hp1 .nil
  have t2 : At K (upd (upd HA p1 (.tup [])) p2 (.tup [])) (.ref p2) (.tuple []) := At.mk hp2 .nil
  have t3 : At K (upd (upd (upd HA p1 (.tup [])) p2 (.tup [])) p3 (.tup [])) (.ref p3) (.tuple []) := At.mk hp3 .nil
  have y2 : Ext [] (upd HA p1 (.tup [])) (upd (upd HA p1 (.tup [])) p2 (.tup [])) := (Ext.refl _ _).new hp2
  have y3 : Ext [] (upd (upd HA p1 (.tup [])) p2 (.tup [])) (upd (upd (upd HA p1 (.tup [])) p2 (.tup [])) p3 (.tup [])) := (Ext.refl _ _).new hp3
  have t4 : At K (upd (upd (upd (upd HA p1 (.tup [])) p2 (.tup [])) p3 (.tup [])) p4 (.tup [.ref p1, .ref p2, .ref p3])) (.ref p4) (mkD ⟨[], [], []⟩) := At.mk hp4 (.cons ((y2.trans y3).at_ t1) (.cons (y3.at_ t2) (.cons t3 .nil)))
  refine ⟨⟨[], [], []⟩, empty_ok, t4, fun HB eB => ⟨_, _, rfl, rfl, ?_⟩⟩
  exact q HB
end
end Sw

-- part SwCall
set_option Elab.async false
set_option linter.all false
set_option maxRecDepth 100000
set_option maxHeartbeats 4000000
namespace Sw
open PySem PySem.Spec PyProof.Rows L2
/-- the law's call answers True, whatever the script -/
theorem law_fin {P : Program} {w : World} {K : PySem.W.Frag} {mg mb : Str → Option Value} {f a : Addr} {s : Shared} {vs : List Value} {ns : List Int}
    (KX : K.In s.heap) (hns : s.heap.Ns mainGlobals mg) (hb : s.heap.Ns builtinsNs mb) (hbb : ∀ x : Str, x ≠ "__name__" → mb x = bootBuiltins x) (hlim : s.heap.NoLimit) (hg : s.gens = #[])
    (ha : s.heap.get? a = some { cls := .type "list", data := .seq vs.toArray }) (hi : IntsAre vs ns) (hl : ns.length ≤ 63) (c : He.SaysD fa fn K) (hmg : mg ("law" : Str) = some (.ref f)) :
    codeAny (model P w) callerA (.call (.ref f) ⟨[.ref a], []⟩) (fun r s' => r = .ok (.ret (.bool true)) ∧ OldK s.heap s'.heap ∧ s'.os = s.os ∧ AllBare s'.gens) s := by
  have T : Txt K mg := ⟨c, _, KX, hns⟩
  obtain ⟨fd, F⟩ := c.def_ 56 rfl
  have e := hmg.symm.trans (He.glo_ok KX hns (c.fact 36 (f := .glo "law") rfl))
  cases e
  have hbind := FunD.bindsA (ps := ["_law_script"]) F fun _ _ _ _ _ _ us hl => match us, hl with | [_], _ => rfl
  refine law_at (k := 60) KX hns hb hbb hlim hg ha hi (Nat.le_trans hl (by decide)) ⟨rfl, by decide, by decide⟩ F sc_law (fun s v => hbind s [v] rfl) fun base cdv H Q q hS hr => ?_
  obtain ⟨t, h1, h2⟩ := law_body (P := P) (w := w) (base := base) (H := H) (Q := Q) T q hS hl hr
  exact ⟨t, h1.nox, h2⟩
end Sw

-- part SwFin
set_option Elab.async false
set_option linter.all false
set_option maxRecDepth 100000
set_option maxHeartbeats 0
open PySem PySem.W PySem.Calls PyProof.Rows
theorem PySem.Challenge.cw_swapstride_k27_whole_makes_let_by_holds : PySem.Challenge.rw_swapstride_k27_whole_makes_let_by.Holds := by
  w_on; o_law
  refine HandSHeadRun.head_any (r := Sw.R) (q := view Sw.R.prog [77]) (H := Sw.hk) (ob := Sw.ob) (M := 6000) (loose := Sw.looseAll) (d := HandSHeadRun.topDef Sw.R.prog 77) (kwd := []) Sw.ob_eq
    (by kernel_rfl) (fun s => by kernel_rfl) Sw.run (by kernel_rfl) (by kernel_rfl) (by kernel_rfl) (by rfl) (by first | assumption | decide +kernel) (by decide +kernel) ⟨rfl, rfl, rfl, rfl, rfl, by decide +kernel⟩ ?hw ?hc
  case hw => w_witness2
  case hc =>
    refine Att.attach_call (l := PySem.Challenge.rw_swapstride_k27_whole_makes_let_by) (n := 63) rfl (by kernel_rfl) fun w s₀ s₁ mg mb fa o pm cd doc a vs ns G Y ho hd hcd hmg0 hobj hints hlen hg => ?_
    obtain ⟨K, KX, c⟩ := Y
    have hmg : mg ("law" : PySem.Str) = some (.ref fa) := by
      have e : (HandSHeadRun.topDef Sw.R.prog 77).name = ("law" : PySem.Str) := by kernel_rfl
      rw [← e]
      exact hmg0
    exact Sw.law_fin KX G.T.g G.T.b G.T.builtins G.T.nolimit hg hobj hints hlen c hmg
