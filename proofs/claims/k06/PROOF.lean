import PyProof.Rows.All
import HandS.ForMost
import HandS.ForExc
import HandS.Conv
import HandS.IsInst
import HandS.Codes
import HandS.Defaults
import HandS.DictTup
import HandS.Deep
import HandS.TupAny
import HandS.Wide
import HandS.Gcd
import HandS.Flow
import HandS.Zip
import HandS.Rev
import HandS.ExcInit
import HandS.ExcField
import HandS.TryMany
import HandS.Steps
import HandS.Walk
import HandS.Head0
import HandS.Head1
import HandS.Head2
import HandS.HeadEnd
import HandS.HeadHook1
import HandS.HeadHook2
import HandS.HeadHook3
import HandS.HeadHook4
import KE.SortData
import KE.HD3
import PySem.Challenge.RW_alreadytold_k06_whole_days_worked_one_by
import KE.GoesMore
import KE.KDictWalk
import KE.KDictCopyH
set_option Elab.async false
set_option linter.all false
set_option maxRecDepth 100000
set_option maxHeartbeats 4000000
namespace K6
open PySem PySem.Spec PyProof.Rows L2
/-! ### the text by places -/
def top (i : Nat) : Stmt := PySem.Challenge.pw_alreadytold_k06_whole_days_worked_one_by.main.body.getD i (.Pass ⟨0, 0, 0, 0⟩)
def dd (at_ : Str × Option Str) (name qual : Str) (st : Stmt) (dfl : List He.Dv) : He.DefD := ⟨at_, name, qual, defArgs st, defBody st, defScope st, dfl, []⟩
abbrev s_NoFilling_init : Stmt := inClass (top 4) 0
abbrev d_NoFilling_init : He.DefD := dd ("NoFilling", some "__init__") "__init__" "NoFilling.__init__" s_NoFilling_init []
abbrev s_BadBox_init : Stmt := inClass (top 5) 0
abbrev d_BadBox_init : He.DefD := dd ("BadBox", some "__init__") "__init__" "BadBox.__init__" s_BadBox_init []
abbrev s_BadChart_init : Stmt := inClass (top 6) 0
abbrev d_BadChart_init : He.DefD := dd ("BadChart", some "__init__") "__init__" "BadChart.__init__" s_BadChart_init []
abbrev s_BadIns_init : Stmt := inClass (top 7) 0
abbrev d_BadIns_init : He.DefD := dd ("BadIns", some "__init__") "__init__" "BadIns.__init__" s_BadIns_init []
abbrev s_BadPost_init : Stmt := inClass (top 8) 0
abbrev d_BadPost_init : He.DefD := dd ("BadPost", some "__init__") "__init__" "BadPost.__init__" s_BadPost_init []
abbrev s_is_whole : Stmt := top 12
abbrev d_is_whole : He.DefD := dd ("is_whole", none) "is_whole" "is_whole" s_is_whole [.non, .non]
abbrev s_is_ratio : Stmt := top 13
abbrev d_is_ratio : He.DefD := dd ("is_ratio", none) "is_ratio" "is_ratio" s_is_ratio []
abbrev s_in_lowest_terms : Stmt := top 14
abbrev d_in_lowest_terms : He.DefD := dd ("in_lowest_terms", none) "in_lowest_terms" "in_lowest_terms" s_in_lowest_terms []
abbrev s_plus : Stmt := top 15
abbrev d_plus : He.DefD := dd ("plus", none) "plus" "plus" s_plus []
abbrev s_times : Stmt := top 16
abbrev d_times : He.DefD := dd ("times", none) "times" "times" s_times []
abbrev s_sum_of : Stmt := top 17
abbrev d_sum_of : He.DefD := dd ("sum_of", none) "sum_of" "sum_of" s_sum_of []
abbrev s_is_name : Stmt := top 20
abbrev d_is_name : He.DefD := dd ("is_name", none) "is_name" "is_name" s_is_name []
abbrev s_is_wire : Stmt := top 21
abbrev d_is_wire : He.DefD := dd ("is_wire", none) "is_wire" "is_wire" s_is_wire []
abbrev s_count_fillings : Stmt := top 22
abbrev d_count_fillings : He.DefD := dd ("count_fillings", none) "count_fillings" "count_fillings" s_count_fillings []
abbrev s_first_wrong : Stmt := top 23
abbrev d_first_wrong : He.DefD := dd ("first_wrong", none) "first_wrong" "first_wrong" s_first_wrong [.bl false]
abbrev s_is_filling : Stmt := top 24
abbrev d_is_filling : He.DefD := dd ("is_filling", none) "is_filling" "is_filling" s_is_filling []
abbrev s_filling_number : Stmt := top 25
abbrev d_filling_number : He.DefD := dd ("filling_number", none) "filling_number" "filling_number" s_filling_number []
abbrev s_checked_wires : Stmt := top 27
abbrev d_checked_wires : He.DefD := dd ("checked_wires", none) "checked_wires" "checked_wires" s_checked_wires []
abbrev s_is_chance_row : Stmt := top 28
abbrev d_is_chance_row : He.DefD := dd ("is_chance_row", none) "is_chance_row" "is_chance_row" s_is_chance_row []
abbrev s_checked_entry : Stmt := top 29
abbrev d_checked_entry : He.DefD := dd ("checked_entry", none) "checked_entry" "checked_entry" s_checked_entry []
abbrev s_Box_init : Stmt := inClass (top 30) 0
abbrev d_Box_init : He.DefD := dd ("Box", some "__init__") "__init__" "Box.__init__" s_Box_init []
abbrev s_Box_made_by : Stmt := inClass (top 30) 3
abbrev d_Box_made_by : He.DefD := dd ("Box", some "made_by") "made_by" "Box.made_by" s_Box_made_by []
abbrev s_checked_wires_of_chart : Stmt := top 32
abbrev d_checked_wires_of_chart : He.DefD := dd ("checked_wires_of_chart", none) "checked_wires_of_chart" "checked_wires_of_chart" s_checked_wires_of_chart []
abbrev s_checked_boxes : Stmt := top 33
abbrev d_checked_boxes : He.DefD := dd ("checked_boxes", none) "checked_boxes" "checked_boxes" s_checked_boxes []
abbrev s_checked_outs : Stmt := top 34
abbrev d_checked_outs : He.DefD := dd ("checked_outs", none) "checked_outs" "checked_outs" s_checked_outs []
abbrev s_making_days : Stmt := top 35
abbrev d_making_days : He.DefD := dd ("making_days", none) "making_days" "making_days" s_making_days []
abbrev s_letter_names : Stmt := top 36
abbrev d_letter_names : He.DefD := dd ("letter_names", none) "letter_names" "letter_names" s_letter_names []
abbrev s_Chart_init : Stmt := inClass (top 37) 0
abbrev d_Chart_init : He.DefD := dd ("Chart", some "__init__") "__init__" "Chart.__init__" s_Chart_init []
abbrev s_check_ins : Stmt := top 38
abbrev d_check_ins : He.DefD := dd ("check_ins", none) "check_ins" "check_ins" s_check_ins [.bl false]
abbrev s_check_post : Stmt := top 39
abbrev d_check_post : He.DefD := dd ("check_post", none) "check_post" "check_post" s_check_post []
abbrev s_worths_at : Stmt := top 41
abbrev d_worths_at : He.DefD := dd ("worths_at", none) "worths_at" "worths_at" s_worths_at []
abbrev s_boxes_by_day : Stmt := top 42
abbrev d_boxes_by_day : He.DefD := dd ("boxes_by_day", none) "boxes_by_day" "boxes_by_day" s_boxes_by_day []
abbrev s_worked_on : Stmt := top 43
abbrev d_worked_on : He.DefD := dd ("worked_on", none) "worked_on" "worked_on" s_worked_on []
abbrev s_worked : Stmt := top 44
abbrev d_worked : He.DefD := dd ("worked", none) "worked" "worked" s_worked []
abbrev s_law_hand : Stmt := top 46
abbrev d_law_hand : He.DefD := dd ("_law_hand", none) "_law_hand" "_law_hand" s_law_hand []
abbrev s_law_mixed : Stmt := top 47
abbrev d_law_mixed : He.DefD := dd ("_law_mixed", none) "_law_mixed" "_law_mixed" s_law_mixed []
abbrev s_law_take : Stmt := top 48
abbrev d_law_take : He.DefD := dd ("_law_take", none) "_law_take" "_law_take" s_law_take []
abbrev s_law_part : Stmt := top 49
abbrev d_law_part : He.DefD := dd ("_law_part", none) "_law_part" "_law_part" s_law_part []
abbrev s_law_ratio : Stmt := top 50
abbrev d_law_ratio : He.DefD := dd ("_law_ratio", none) "_law_ratio" "_law_ratio" s_law_ratio []
abbrev s_law_plus : Stmt := top 51
abbrev d_law_plus : He.DefD := dd ("_law_plus", none) "_law_plus" "_law_plus" s_law_plus []
abbrev s_law_times : Stmt := top 52
abbrev d_law_times : He.DefD := dd ("_law_times", none) "_law_times" "_law_times" s_law_times []
abbrev s_law_many : Stmt := top 53
abbrev d_law_many : He.DefD := dd ("_law_many", none) "_law_many" "_law_many" s_law_many []
abbrev s_law_filling : Stmt := top 54
abbrev d_law_filling : He.DefD := dd ("_law_filling", none) "_law_filling" "_law_filling" s_law_filling []
abbrev s_law_fillings : Stmt := top 55
abbrev d_law_fillings : He.DefD := dd ("_law_fillings", none) "_law_fillings" "_law_fillings" s_law_fillings []
abbrev s_law_number : Stmt := top 56
abbrev d_law_number : He.DefD := dd ("_law_number", none) "_law_number" "_law_number" s_law_number []
abbrev s_law_name : Stmt := top 57
abbrev d_law_name : He.DefD := dd ("_law_name", none) "_law_name" "_law_name" s_law_name []
abbrev s_law_sizes : Stmt := top 58
abbrev d_law_sizes : He.DefD := dd ("_law_sizes", none) "_law_sizes" "_law_sizes" s_law_sizes []
abbrev s_law_some : Stmt := top 59
abbrev d_law_some : He.DefD := dd ("_law_some", none) "_law_some" "_law_some" s_law_some []
abbrev s_law_entry : Stmt := top 60
abbrev d_law_entry : He.DefD := dd ("_law_entry", none) "_law_entry" "_law_entry" s_law_entry []
abbrev s_law_chart : Stmt := top 61
abbrev d_law_chart : He.DefD := dd ("_law_chart", none) "_law_chart" "_law_chart" s_law_chart []
abbrev s_law_box : Stmt := top 62
abbrev d_law_box : He.DefD := dd ("_law_box", none) "_law_box" "_law_box" s_law_box []
abbrev s_law_built : Stmt := top 63
abbrev d_law_built : He.DefD := dd ("_law_built", none) "_law_built" "_law_built" s_law_built []
abbrev s_law_letters : Stmt := top 64
abbrev d_law_letters : He.DefD := dd ("_law_letters", none) "_law_letters" "_law_letters" s_law_letters []
abbrev s_law_ins : Stmt := top 65
abbrev d_law_ins : He.DefD := dd ("_law_ins", none) "_law_ins" "_law_ins" s_law_ins []
abbrev s_law_size : Stmt := top 66
abbrev d_law_size : He.DefD := dd ("_law_size", none) "_law_size" "_law_size" s_law_size []
abbrev s_law_posts : Stmt := top 67
abbrev d_law_posts : He.DefD := dd ("_law_posts", none) "_law_posts" "_law_posts" s_law_posts []
abbrev s_law_all_ins : Stmt := top 68
abbrev d_law_all_ins : He.DefD := dd ("_law_all_ins", none) "_law_all_ins" "_law_all_ins" s_law_all_ins []
abbrev s_law_days : Stmt := top 69
abbrev d_law_days : He.DefD := dd ("_law_days", none) "_law_days" "_law_days" s_law_days []
abbrev s_law_step : Stmt := top 70
abbrev d_law_step : He.DefD := dd ("_law_step", none) "_law_step" "_law_step" s_law_step []
abbrev s_law_tuples : Stmt := top 71
abbrev d_law_tuples : He.DefD := dd ("_law_tuples", none) "_law_tuples" "_law_tuples" s_law_tuples []
abbrev s_law_odd : Stmt := top 72
abbrev d_law_odd : He.DefD := dd ("_law_odd", none) "_law_odd" "_law_odd" s_law_odd []
abbrev s_law_rid : Stmt := top 73
abbrev d_law_rid : He.DefD := dd ("_law_rid", none) "_law_rid" "_law_rid" s_law_rid []
abbrev s_law_lists : Stmt := top 74
abbrev d_law_lists : He.DefD := dd ("_law_lists", none) "_law_lists" "_law_lists" s_law_lists []
abbrev s_law_whole : Stmt := top 75
abbrev d_law_whole : He.DefD := dd ("_law_whole", none) "_law_whole" "_law_whole" s_law_whole []
abbrev s_law_wrong_place : Stmt := top 76
abbrev d_law_wrong_place : He.DefD := dd ("_law_wrong_place", none) "_law_wrong_place" "_law_wrong_place" s_law_wrong_place []
abbrev s_law_spoilt_row : Stmt := top 77
abbrev d_law_spoilt_row : He.DefD := dd ("_law_spoilt_row", none) "_law_spoilt_row" "_law_spoilt_row" s_law_spoilt_row []
abbrev s_law_worked : Stmt := top 78
abbrev d_law_worked : He.DefD := dd ("_law_worked", none) "_law_worked" "_law_worked" s_law_worked []
abbrev s_law : Stmt := top 79
abbrev d_law : He.DefD := dd ("law", none) "law" "law" s_law []
def fn0 : List He.DefD := [d_NoFilling_init, d_BadBox_init, d_BadChart_init, d_BadIns_init, d_BadPost_init, d_is_whole, d_is_ratio, d_in_lowest_terms, d_plus, d_times, d_sum_of, d_is_name, d_is_wire, d_count_fillings, d_first_wrong, d_is_filling, d_filling_number, d_checked_wires, d_is_chance_row, d_checked_entry]
def fn1 : List He.DefD := [d_Box_init, d_Box_made_by, d_checked_wires_of_chart, d_checked_boxes, d_checked_outs, d_making_days, d_letter_names, d_Chart_init, d_check_ins, d_check_post, d_worths_at, d_boxes_by_day, d_worked_on, d_worked, d_law_hand, d_law_mixed, d_law_take, d_law_part, d_law_ratio, d_law_plus]
def fn2 : List He.DefD := [d_law_times, d_law_many, d_law_filling, d_law_fillings, d_law_number, d_law_name, d_law_sizes, d_law_some, d_law_entry, d_law_chart, d_law_box, d_law_built, d_law_letters, d_law_ins, d_law_size, d_law_posts, d_law_all_ins, d_law_days, d_law_step, d_law_tuples]
def fn3 : List He.DefD := [d_law_odd, d_law_rid, d_law_lists, d_law_whole, d_law_wrong_place, d_law_spoilt_row, d_law_worked, d_law]
def fn : List He.DefD := fn0 ++ fn1 ++ fn2 ++ fn3
def fa0 : List He.Fa := [.glo "is_whole", .glo "is_ratio", .glo "in_lowest_terms", .glo "plus", .glo "times", .glo "sum_of", .glo "is_name", .glo "is_wire", .glo "count_fillings", .glo "first_wrong", .glo "is_filling", .glo "filling_number", .glo "checked_wires", .glo "is_chance_row", .glo "checked_entry", .glo "checked_wires_of_chart", .glo "checked_boxes", .glo "checked_outs", .glo "making_days", .glo "letter_names"]
def fa1 : List He.Fa := [.glo "check_ins", .glo "check_post", .glo "worths_at", .glo "boxes_by_day", .glo "worked_on", .glo "worked", .glo "_law_hand", .glo "_law_mixed", .glo "_law_take", .glo "_law_part", .glo "_law_ratio", .glo "_law_plus", .glo "_law_times", .glo "_law_many", .glo "_law_filling", .glo "_law_fillings", .glo "_law_number", .glo "_law_name", .glo "_law_sizes", .glo "_law_some"]
def fa2 : List He.Fa := [.glo "_law_entry", .glo "_law_chart", .glo "_law_box", .glo "_law_built", .glo "_law_letters", .glo "_law_ins", .glo "_law_size", .glo "_law_posts", .glo "_law_all_ins", .glo "_law_days", .glo "_law_step", .glo "_law_tuples", .glo "_law_odd", .glo "_law_rid", .glo "_law_lists", .glo "_law_whole", .glo "_law_wrong_place", .glo "_law_spoilt_row", .glo "_law_worked", .glo "law"]
def fa3 : List He.Fa := [.free "len", .free "isinstance", .free "range", .free "int", .free "abs", .free "min", .free "max", .free "list", .free "tuple", .free "dict", .free "zip", .free "enumerate", .free "sorted", .free "any", .free "all", .free "bool", .free "str", .glo "Box", .glo "Chart", .glo "BadIns"]
def fa4 : List He.Fa := [.glo "BadPost", .glo "ZERO", .glo "ONE", .cls "Box", .cls "Chart", .str "SMALL" "abcdefghijklmnopqrstuvwxyz", .mkr "Box", .mkr "Chart", .meth "Box" "made_by", .noat "Box" "day", .noat "Box" "takes", .noat "Box" "take_sizes", .noat "Box" "makes", .noat "Box" "make_sizes", .noat "Box" "entries", .noat "Chart" "wires", .noat "Chart" "boxes", .noat "Chart" "outs", .noat "Chart" "letters", .noat "Chart" "letter_sizes"]
def fa5 : List He.Fa := [.noat "Chart" "ins", .noat "Chart" "in_sizes", .noat "BadIns" "index", .noat "BadPost" "index", .exm "BadIns" "BadIns" true, .exm "BadPost" "BadIns" false, .exm "BadPost" "BadPost" true]
def fa : List He.Fa := fa0 ++ fa1 ++ fa2 ++ fa3 ++ fa4 ++ fa5
def loose0 : List PySem.Str := ["_wall", "__name__", "LetterError", "NoFilling", "BadBox", "BadChart", "BadIns", "BadPost", "ZERO", "ONE", "is_whole", "is_ratio", "in_lowest_terms", "plus", "times", "sum_of", "SMALL", "is_name", "is_wire", "count_fillings", "first_wrong", "is_filling", "filling_number", "checked_wires", "is_chance_row", "checked_entry", "Box", "checked_wires_of_chart", "checked_boxes", "checked_outs"]
def loose1 : List PySem.Str := ["making_days", "letter_names", "Chart", "check_ins", "check_post", "worths_at", "boxes_by_day", "worked_on", "worked", "_law_hand", "_law_mixed", "_law_take", "_law_part", "_law_ratio", "_law_plus", "_law_times", "_law_many", "_law_filling", "_law_fillings", "_law_number", "_law_name", "_law_sizes", "_law_some", "_law_entry", "_law_chart", "_law_box", "_law_built", "_law_letters", "_law_ins", "_law_size"]
def loose2 : List PySem.Str := ["_law_posts", "_law_all_ins", "_law_days", "_law_step", "_law_tuples", "_law_odd", "_law_rid", "_law_lists", "_law_whole", "_law_wrong_place", "_law_spoilt_row", "_law_worked"]
def loose : List PySem.Str := loose0 ++ loose1 ++ loose2
end K6

set_option Elab.async false
set_option linter.all false
set_option maxRecDepth 100000
set_option maxHeartbeats 4000000
namespace K6
open PySem PySem.Spec PyProof.Rows L2
open AutoSeq1 (wpAny_loadPart')
/-! ### enumerate of a tuple -/
theorem enumNewT (t : Addr) (its : Array Value) (n : Nat) (dc : Option Addr) (sl : Array (Option Value)) :
    Meets (Builtin.«enumerate.__new__» ⟨[.type "enumerate", .ref t], []⟩) (fun _ R s => s.heap.get? t = some { cls := .type "tuple", dict := dc, data := .seq its n, slots := sl } ∧
      R (.ok (.ret (.ref (s.heap.push { cls := .type "tuple_iterator", data := .fields #[.ref t, .int 0 0] }).objs.size)))
        { s with heap := (s.heap.push { cls := .type "tuple_iterator", data := .fields #[.ref t, .int 0 0] }).push { cls := .type "enumerate", data := .fields #[.none, .bool false, .ref s.heap.objs.size, rawInt 0, .none, .none] } }) :=
  .of_wp fun prog w A R s h => by
    obtain ⟨hp, g, d, tk, os⟩ := s
    obtain ⟨ht, h⟩ := h
    have hsub := sub_enumerate
    have hT : Heap.IsTuple (Shared.heap ⟨hp, g, d, tk, os⟩) t its := ⟨_, ht, rfl, n, rfl⟩
    wp_walk using wpAny_loadPart' ht
    refine wpAny_stack_any fun st => wpAny_pure ?_
    split
    · rename_i c _ _ _ _ _
      cases (c == Value.type "enumerate") <;>
      · wp_walk using wpAny_loadPart' ht, wpAny_pyIter_tuple hT
        exact ⟨_, rfl, h⟩
    · wp_walk using wpAny_loadPart' ht, wpAny_pyIter_tuple hT
      exact ⟨_, rfl, h⟩
theorem callEnumT {prog : Program} {w : World} {A : Around} {E : Value → Shared → Prop} {s : Shared} {t : Addr} {its : Array Value} {Q : Value → Shared → Prop} (hT : s.heap.IsTuple t its)
    (h : ∀ h', IsEnum h' (s.heap.objs.size + 1) s.heap.objs.size 0 .none → h'.IsTupleIter s.heap.objs.size t 0 → h'.objs.size = s.heap.objs.size + 2 →
      (∀ b o, s.heap.get? b = some o → h'.get? b = some o) → Q (.ref (s.heap.objs.size + 1)) { s with heap := h' }) :
    wpAny (model prog w) A (call (.type "enumerate") [.ref t]) Q E s := by
  obtain ⟨⟨c, dc, dt, sl⟩, ht, hc, n, hd⟩ := hT
  have hc' : c = .type "tuple" := hc
  have hd' : dt = .seq its n := hd
  subst hc' hd'
  refine callType_new F.called_enumerate (by decide) (F.typeCall_enumerate_1 _) (F.newCall_enumerate_1 _) (fun obj => F.args_object_init_2 obj _) F.entry_enumerate_new (enumNewT t its n dc sl) ⟨ht, ?_⟩
  have hz : (s.heap.push { cls := .type "tuple_iterator", data := .fields #[.ref t, .int 0 0] }).objs.size = s.heap.objs.size + 1 := Heap.size_push ..
  show _ ∧ _
  rw [hz]
  have he : IsEnum ((s.heap.push { cls := .type "tuple_iterator", data := .fields #[.ref t, .int 0 0] }).push { cls := .type "enumerate", data := .fields #[.none, .bool false, .ref s.heap.objs.size, rawInt 0, .none, .none] })
      (s.heap.objs.size + 1) s.heap.objs.size 0 .none := by
    have q := Heap.get?_push_size (s.heap.push { cls := .type "tuple_iterator", data := .fields #[.ref t, .int 0 0] }) (o := { cls := .type "enumerate", data := .fields #[.none, .bool false, .ref s.heap.objs.size, rawInt 0, .none, .none] }) rfl
    rw [hz] at q
    exact q
  exact ⟨⟨_, he, rfl⟩, h _ he ⟨_, Heap.get?_push_of_some _ (Heap.get?_push_size _ rfl), rfl, rfl⟩ (by rw [Heap.size_push, hz]) fun b o x => Heap.get?_push_of_some _ (Heap.get?_push_of_some _ x)⟩
/-- the tuple at a as it stands at each turn, each item in a new pair -/
def IteT (K : PySem.W.Frag) (a : Addr) : It where
  go := fun i H => ∃ (xs : List V) (x : V), SqT K H a xs ∧ xs[i]? = some x
  yld := fun i H v H' => ∃ T x, v = .ref T ∧ H T = none ∧ H' = upd H T (.tup [.int (i : Nat), x]) ∧ ∀ xs, SqT K H a xs → xs[i]? = some x
  stop := fun i H => ∃ xs : List V, SqT K H a xs ∧ xs.length = i
theorem turnEnumT {P : Program} {w : World} {K : PySem.W.Frag} {elts : List Expr} {kk : Nat} {tpos : Pos} (a e it : Addr) :
    Turn P w K (.Tuple elts kk tpos) (IteT K a) [e, it] e (fun i h => (∃ old, IsEnum h e it ((i : Nat) : Int) old) ∧ h.IsTupleIter it a i ∧ e ≠ it ∧ a ≠ it ∧ a ≠ e) where
  mem := by simp
  obj := fun i h st b hb => by
    obtain ⟨⟨old, he⟩, ⟨o, ho, _, hd⟩, _⟩ := st
    rcases (show b = e ∨ b = it by simpa using hb) with z | z
    · rw [z]
      exact ⟨_, he, fun v q => nomatch q⟩
    · exact ⟨o, by rw [z]; exact ho, fun v q => by rw [hd] at q; cases q⟩
  keep := fun i h h' st k => by
    obtain ⟨⟨old, he⟩, hi, hne⟩ := st
    exact ⟨⟨old, k e (by simp) _ he⟩, hi.at fun o q => k it (by simp) o q, hne⟩
  item := by
    intro X hP hw hK hc i pins s σ H E I hf st hg
    subst hP hw hK
    obtain ⟨⟨old, he⟩, hit, hne, hai, hae⟩ := st
    obtain ⟨xs, x, hq, hx⟩ := hg
    obtain ⟨its, rv, p, hz⟩ := I.tuple hq
    obtain ⟨u, hu, ru⟩ := rv.get hx
    have hel : e < s.heap.objs.size := Heap.lt_size he
    have hil : it < s.heap.objs.size := by
      obtain ⟨_, q, _⟩ := hit
      exact Heap.lt_size q
    have hlt : i < its.toArray.size := by
      have := (List.getElem?_eq_some_iff.mp hu).1
      simpa using this
    refine wpAny_pyNext_enum_itemD (Draws.tuple (A := X.A.in1) (show X.A.in1.handled = none from I.ok.hd hc) it a hai its.toArray) he ⟨hit, show s.heap.IsTuple a its.toArray from p⟩ hlt hne (by simp [hne, Ne.symm hae]) fun y h' tk hy ho hst hT hsz hk => ?_
    have hyu : y = u := by
      have hy' : its.toArray[i]? = some y := hy
      rw [show its.toArray[i]? = some u by simpa using hu] at hy'
      exact (Option.some.inj hy').symm
    subst hyu
    refine ⟨_, rfl, wpAny_letOwnedTupleGo_enum (s := { s with heap := h', toks := tk + 1 }) ho fun h'' he' sb => ?_⟩
    have hT2 : h''.get? s.heap.objs.size = some { cls := .type "tuple", data := .seq #[.int i tk, y] } := (sb.2 _ (Nat.ne_of_gt hel)).trans hT
    have new : ObjOk X.prog X.w (upd H s.heap.objs.size (.tup [.int (i : Nat), x])) h'' s.heap.objs.size (.tup [.int (i : Nat), x]) := ⟨by show 2 ≤ sizeLine; decide, [.int i tk, y], .cons ⟨_, rfl⟩ (.cons ru .nil), ⟨_, hT2, rfl, _, rfl⟩⟩
    have I1 : Inv X pins σ (upd H s.heap.objs.size (.tup [.int (i : Nat), x])) { s with heap := h'', toks := tk + 1 } :=
      I.turnedNew (ch := [e, it]) (fun b ob hb q => (sb.2 b (fun z => hb (by simp [z]))).trans (hk b ob (fun z => hb (by simp [z])) (fun z => hb (by simp [z])) q)) hf (Nat.le_refl _) new
    refine ⟨.ref s.heap.objs.size, _, I1, rfl, ⟨_, x, rfl, I.hok.fresh (Nat.le_refl _), rfl, fun ys hy => by rw [I.tuple_inj hy hq]; exact hx⟩, ⟨⟨y, ?_⟩, hst.1.at fun o q => (sb.2 it (Ne.symm hne)).trans q, hne, hai, hae⟩, fun b hb => ?_⟩
    · rw [show ((i + 1 : Nat) : Int) = (i : Int) + 1 by omega]
      exact he'
    · have hb' : b < s.heap.objs.size := by
        rcases (show b = e ∨ b = it by simpa using hb) with z | z
        · rw [z]; exact hel
        · rw [z]; exact hil
      rw [upd_ne (Nat.ne_of_lt hb')]
      exact (hf b hb).1
  done := by
    intro X hP hw hK hc i pins s σ H E I hf st hg
    subst hP hw hK
    obtain ⟨⟨old, he⟩, hit, hne, hai, hae⟩ := st
    obtain ⟨xs, hq, hx⟩ := hg
    obtain ⟨its, rv, p, hz⟩ := I.tuple hq
    obtain ⟨f0, f1, f2, f3, f4, f5⟩ := hf it (by simp)
    have hl := rv.length
    have hi : i = its.toArray.size := by
      rw [List.size_toArray]
      omega
    subst hi
    exact wpAny_pyNext_enum_endD (Draws.tuple (A := X.A.in1) (show X.A.in1.handled = none from I.ok.hd hc) it a hai its.toArray) he ⟨hit, p⟩ fun h' eb => ⟨rfl, I.turned (t' := s.toks) (fun b o hb q => eb b o hb q) f0 f1 f3 f4 f5⟩
  self := fun A i s Q E st h => let ⟨⟨_, he⟩, _⟩ := st; wpAny_pyIter_enum he h
theorem walkEnumT {K : PySem.W.Frag} {a : Addr} {xs : List V} : Walk (IteT K a) xs.length (fun H => SqT K H a xs) (YPair (fun i => some (.int (i : Nat))) (fun i => xs[i]?)) where
  goes := fun i _ hi q => ⟨xs, xs[i], q, by simp [hi]⟩
  stops := fun _ q => ⟨xs, q, rfl⟩
  yields := fun _ _ _ _ _ q y => by
    obtain ⟨T, x, e1, e2, e3, e4⟩ := y
    exact ⟨T, _, x, e1, e2, e3, rfl, e4 xs q⟩
def iEnumA (K : PySem.W.Frag) (ta : TA) : TI := fun σ H R => ta σ H fun vs H1 => ∃ a xs, vs = [.ref a] ∧ ((SqL K H1 a xs ∧ R (Ite K a) H1) ∨ (SqT K H1 a xs ∧ R (IteT K a) H1))
/-- enumerate of a list or a tuple -/
theorem pi_enumA {X : Cx} {e : Expr} {ta : TA} {p pos tpos : Pos} {elts : List Expr} {kk : Nat} (hg : Gl X "enumerate") (hm : X.mg "enumerate" = none) (ha : PA X [e] ta) (hs : starEach [e] X.env = [(false, eval e X.env)] := by rfl) :
    PI X (.Tuple elts kk tpos) (.Call (.Name "enumerate" p) [e] [] pos) (iEnumA X.K ta) := by
  refine ⟨fun pins s σ H R I h => ?_⟩
  refine Call_ (ld_blt I hg hm boot_enumerate (PyProof.Rows.callWith_type1 (thn (ha.run pos pins s σ H _ I h) fun us s1 ⟨vs, H1, I1, r1, a, xs, ex, q1⟩ => ?_) hs rfl))
  subst ex
  cases r1 with
  | cons r rr =>
    cases rr
    cases r
    have fr : ∀ b, b ∈ [s1.heap.objs.size + 1, s1.heap.objs.size] → FpOk X pins H1 b := fun b hb => by
      have hle : s1.heap.objs.size ≤ b := by
        rcases (show b = s1.heap.objs.size + 1 ∨ b = s1.heap.objs.size by simpa using hb) with z | z
        · rw [z]; exact Nat.le_add_right _ _
        · rw [z]; exact Nat.le_refl _
      exact I1.fpOk hle (I1.hok.fresh hle)
    rcases q1 with ⟨hq, q⟩ | ⟨hq, q⟩
    · obtain ⟨its, rv, p', hz⟩ := I1.list hq
      refine call_enumerate_list p'.isList fun h' he hit hsz hk => wpAny_pyIter_enum he ?_
      exact ⟨s1.heap.objs.size + 1, [s1.heap.objs.size + 1, s1.heap.objs.size], _, _, H1, rfl, I1.kept (t' := s1.toks) hk, turn_enum a (s1.heap.objs.size + 1) s1.heap.objs.size, ⟨⟨.none, he⟩, hit, Nat.succ_ne_self _⟩, fr, q⟩
    · obtain ⟨its, rv, p', hz⟩ := I1.tuple hq
      have hlt : a < s1.heap.objs.size := p'.lt
      refine callEnumT (show s1.heap.IsTuple a its.toArray from p') fun h' he hit hsz hk => wpAny_pyIter_enum he ?_
      exact ⟨s1.heap.objs.size + 1, [s1.heap.objs.size + 1, s1.heap.objs.size], _, _, H1, rfl, I1.kept (t' := s1.toks) hk, turnEnumT a (s1.heap.objs.size + 1) s1.heap.objs.size, ⟨⟨.none, he⟩, hit, Nat.succ_ne_self _, Nat.ne_of_lt hlt, Nat.ne_of_lt (Nat.lt_succ_of_lt hlt)⟩, fr, q⟩
/-- over a list or a tuple -/
def iSeq (K : PySem.W.Frag) (tl : TE) : TI := fun σ H R => tl σ H fun x H1 => ∃ a xs, x = .ref a ∧ ((SqL K H1 a xs ∧ R (Itl K a) H1) ∨ (SqT K H1 a xs ∧ R (Itt K a) H1))
end K6

set_option Elab.async false
set_option linter.all false
set_option maxRecDepth 100000
set_option maxHeartbeats 4000000
namespace K6
open PySem PySem.Spec PyProof.Rows L2
/-! ### {**d} -/
section
variable {prog : Program} {w : World} {κ : Type} [DecidableEq κ] {knd : KeyKind prog w κ} {A : Around} {E : Value → Shared → Prop} {s : Shared}
theorem putFresh {d : Addr} {kvs : List (κ × Value)} {k : κ} {key v : Value} {Q : Unit → Shared → Prop} (hkey : knd.is k key = true) (hm : s.heap.DictOf knd d kvs) (hk : k ∉ kvs.map (·.1)) (hz : kvs.length ≤ sizeLine)
    (hQ : ∀ h', h'.DictOf knd d (kvs ++ [(k, v)]) → Heap.SameBut d s.heap h' → Q () { s with heap := h' }) : wpAny (model prog w) A (dictPut d (knd.hash k) key v) Q E s := by
  obtain ⟨o, es, ep, ho, hc, hd, hks, hp, hn⟩ := hm
  have hes : es.size ≤ sizeLine := by
    have e1 := hp.length
    have e2 : es.toList.length = es.size := by simp
    omega
  unfold dictPut
  refine wpAny_bind (wpAny_dictFind_of hkey ho hd hks ?_)
  have hidx : (es.findIdx? fun e => knd.is k e.key) = kvs.findIdx? fun kv => decide (kv.1 = k) := by
    have q := hp.findIdx k
    obtain ⟨l⟩ := es
    simpa using q
  cases hi : es.findIdx? fun e => knd.is k e.key with
  | some i =>
    exfalso
    obtain ⟨kv, hkv, he⟩ := List.any_eq_true.mp (any_of_findIdx_some (hidx ▸ hi))
    exact hk (List.mem_map.mpr ⟨kv, hkv, of_decide_eq_true he⟩)
  | none =>
    refine wpAny_updateDictKeys (hz := hes) ho hd (hQ _ ⟨_, _, ep + 1, Heap.get?_update_self _ ho (Obj.isFreed_of_dict (Obj.data_mapDictKeys hd _)), hc.mapDictKeys _, Obj.data_mapDictKeys hd _, hks.push hkey _, ?_, ?_⟩ (Heap.SameBut.update ..))
    · have q := hp.append hkey (knd.hash k) v
      obtain ⟨l⟩ := es
      simpa using q
    · rw [List.map_append, List.nodup_append]
      refine ⟨hn, by simp, ?_⟩
      intro a ha b hb
      simp only [List.map_cons, List.map_nil, List.mem_singleton] at hb
      subst hb
      exact fun e => hk (e ▸ ha)
theorem keys_noref {es : Array DictEntry} {k : κ} {v : Value} (h : knd.is k v = true) : ∀ a, v ≠ .ref a := fun a e => by
  have q := knd.byValue k v h
  subst e
  cases q
theorem mergeFresh {d o : Addr} {more : List (κ × Value)} {Q : Unit → Shared → Prop} (hdo : d ≠ o) (hoS : (o == sysModules) = false) (hd : s.heap.DictOf knd d []) (ho : s.heap.DictOf knd o more) (hz : more.length ≤ sizeLine)
    (hQ : ∀ h', h'.DictOf knd d more → Heap.SameBut d s.heap h' → Q () { s with heap := h' }) : wpAny (model prog w) A (mergeMapping d (.ref o) false) Q E s := by
  obtain ⟨od, esd, epd, hod, hcd, hdd, hkd, hpd, hnd⟩ := id hd
  obtain ⟨oo, eso, epo, hoo, hco, hdo', hko, hpo, hno⟩ := id ho
  have hlen : more.length = eso.size := by
    rw [← hpo.length]
    simp
  have hed : esd.isEmpty = true := by
    have q := hpd.length
    simp at q
    simp [q]
  unfold mergeMapping
  dsimp only
  refine wpAny_bind (wpAny_isInstance ho.typeIs isSubtype_dict_dict ?_)
  simp only [if_true]
  refine wpAny_bind (wpAny_specialOf ho.typeIs F.slot_dict_iter.lookup (wpAny_bind (wpAny_pure ?_)))
  simp only [beq_self_eq_true]
  rw [if_neg (by rw [hoS]; exact Bool.false_ne_true)]
  refine wpAny_bind (wpAny_dictEntries hod hdd ?_)
  simp only [hed, if_true]
  refine wpAny_bind (wpAny_dictEntries hoo hdo' ?_)
  rw [← Array.forIn_toList]
  refine wpAny_bind (wpAny_forIn_list _ (fun rest _ s' => s' = s ∧ ∀ e ∈ rest, e ∈ eso.toList) _ ?_ ?_ _ _ ⟨rfl, fun e h => h⟩)
  · rintro e rest b s' ⟨rfl, hall⟩
    obtain ⟨k, hk, hh⟩ := hko e (by simpa using hall e List.mem_cons_self)
    have nr := keys_noref (es := eso) hk
    split
    · rename_i a ea
      exact absurd ea (nr a)
    · exact wpAny_pure ⟨rfl, fun e' h => hall e' (List.mem_cons_of_mem _ h)⟩
  · rintro b s' ⟨rfl, -⟩
    refine wpAny_bind (wpAny_dictEntries hoo hdo' ?_)
    refine wpAny_bind (wpAny_dictEpoch hoo hdo' ?_)
    refine wpAny_bind ?_
    refine wpAny_forIn_list _ (fun rest _ s'' => ∃ h' i, s'' = { s' with heap := h' } ∧ rest = List.range' i (eso.size - i) ∧ i ≤ eso.size ∧ h'.DictOf knd d (more.take i) ∧ h'.get? o = some oo ∧ Heap.SameBut d s'.heap h') _ ?_ ?_ _ _
      ⟨s'.heap, 0, rfl, by rw [List.range_eq_range', Nat.sub_zero], Nat.zero_le _, by simpa using hd, hoo, Heap.SameBut.refl _ _⟩
    · rintro x rest b s'' ⟨h', i, rfl, hr, hi, hd', hoo', hs'⟩
      have hlt : i < eso.size := by
        rcases Nat.lt_or_ge i eso.size with h | h
        · exact h
        · rw [Nat.sub_eq_zero_of_le h] at hr
          simp at hr
      obtain ⟨rfl, hrest⟩ : x = i ∧ rest = List.range' (i + 1) (eso.size - (i + 1)) := by
        have e : eso.size - i = (eso.size - (i + 1)) + 1 := by omega
        rw [e, List.range'_succ] at hr
        injection hr with h1 h2
        exact ⟨h1, h2⟩
      refine wpAny_bind (wpAny_dictEntries hoo' hdo' ?_)
      rw [Array.getElem?_eq_getElem hlt]
      obtain ⟨kv, hkv⟩ : ∃ kv, more[x]? = some kv := ⟨more[x]'(by rw [hlen]; exact hlt), List.getElem?_eq_getElem _⟩
      obtain ⟨k, v⟩ := kv
      obtain ⟨hkey, hval⟩ := hpo.get? (e := eso[x]) (by simp [hlt]) hkv
      obtain ⟨k', hkey', hhash⟩ := hko eso[x] (Array.getElem_mem hlt)
      obtain rfl : k' = k := knd.inj _ _ _ hkey' hkey
      dsimp only
      rw [if_neg Bool.false_ne_true, hhash, hval]
      have hlx : x < more.length := by omega
      have hnew : k' ∉ (more.take x).map (·.1) := fun hm => by
        rw [List.map_take] at hm
        obtain ⟨j, hj, ej⟩ := List.mem_iff_getElem.mp hm
        have hj2 : j < x ∧ j < more.length := by
          simp at hj
          omega
        rw [List.getElem_take, List.getElem_map] at ej
        have ex : (more.map (·.1))[x]'(by simpa using hlx) = k' := by
          rw [List.getElem_map]
          have q := List.getElem?_eq_getElem hlx
          rw [hkv] at q
          rw [← Option.some.inj q]
        have ej2 : (more.map (·.1))[j]'(by simpa using hj2.2) = k' := by
          rw [List.getElem_map]
          exact ej
        have := (List.getElem_inj hno).mp (ej2.trans ex.symm)
        omega
      refine wpAny_bind (wpAny_holding (putFresh hkey hd' hnew (by rw [List.length_take]; omega) fun h'' hd'' hs'' => ?_))
      have hoo'' : h''.get? o = some oo := (hs''.2 o (Ne.symm hdo)).trans hoo'
      refine wpAny_bind (wpAny_dictEpoch hoo'' hdo' ?_)
      rw [if_neg (by simp)]
      exact wpAny_pure ⟨h'', x + 1, rfl, hrest, hlt, by rw [List.take_add_one, hkv]; exact hd'', hoo'', hs'.trans hs''⟩
    · rintro b s'' ⟨h', i, rfl, hr, hi, hd', hoo', hs'⟩
      have hin : i = eso.size := by
        rcases Nat.lt_or_ge i eso.size with h | h
        · have e : eso.size - i = (eso.size - (i + 1)) + 1 := by omega
          rw [e, List.range'_succ] at hr
          exact nomatch hr
        · exact Nat.le_antisymm hi h
      refine wpAny_pure (hQ h' ?_ hs')
      rw [hin, ← hlen, List.take_length] at hd'
      exact hd'
end
/-- {**d} -/
def tDStar (td : TE) : TE := fun σ H Q => ∀ p, H p = none → td σ (upd H p (.dK [])) fun x H1 => H1 p = some (.dK []) ∧ ∃ (a : Addr) (kvs : List (Key × V)), x = .ref a ∧ a ≠ p ∧ Rd H1 a (.dK kvs) ∧ Q (.ref p) (upd H1 p (.dK kvs))
theorem pe_dstar {X : Cx} {e : Expr} {td : TE} {pos : Pos} (he : PE X e td) : PE X (.Dict [none] [e] pos) (tDStar td) := by
  refine ⟨fun pins s σ H Q I h => ?_⟩
  rw [arm_eval_Dict]
  refine wpAny_bind (wpAny_standAt ?_)
  show wpAny _ _ (dictDisplay [(none, do let x ← eval e X.env; standAt pos; pure x)]) _ _ _
  unfold dictDisplay
  dsimp only
  simp only [List.forIn_cons, List.forIn_nil, List.isEmpty_nil, if_true, pure_bind, bind_assoc, bind_pure_comp]
  refine wpAny_bind (wpAny_alloc ?_)
  have hn : H s.heap.objs.size = none := I.hok.fresh (Nat.le_refl _)
  have hm : (s.heap.objs.size == sysModules) = false := beq_eq_false_iff_ne.mpr (Nat.ne_of_gt I.big)
  have hne : ∀ (b : Addr) (o : Obj), s.heap.get? b = some o → (s.heap.push { cls := .type "dict", data := .dict #[] }).get? b = some o := fun b o e => Heap.get?_push_of_some _ e
  have I1 : L2.Inv X pins σ (upd H s.heap.objs.size (.dK [])) { s with heap := s.heap.push { cls := .type "dict", data := .dict #[] } } :=
    I.laid (t' := s.toks) hne (Nat.le_refl _) (show ObjOk X.prog X.w _ _ _ (.dK []) from ⟨Nat.zero_le _, hm, [], .nil, Heap.DictOf.new s.heap⟩)
  refine wpAny_bind (wpAny_holding (wpAny_bind (thn (he.run pins _ σ _ _ I1 (h _ hn)) fun u s2 hh => ?_)))
  obtain ⟨x, H2, I2, rx, hp, a, kvs, ex, hap, hr, q⟩ := hh
  subst ex
  cases (show u = Value.ref a from rx)
  refine wpAny_map (wpAny_standAt ?_)
  refine wpAny_bind (wpAny_map (wpAny_onRaise (wpAny_tryCatch (wpAny_onRaise (wpAny_holding ?_)))))
  obtain ⟨z, lo, vs, rel, dd⟩ := dk_rd I2.hok hr
  obtain ⟨z0, lo0, vs0, rel0, dd0⟩ := dk_rd I2.hok (.inl hp)
  cases rel0
  refine mergeFresh (Ne.symm hap) lo dd0 dd (by rw [← rel.length]; exact z) fun h' d' hs => ?_
  refine wpAny_bind (wpAny_pure ?_)
  refine wpAny_bind (wpAny_pure ?_)
  have J : L2.Inv X pins σ (upd H2 s.heap.objs.size (.dK kvs)) { s2 with heap := h' } :=
    I2.write (t' := s2.toks) (x := s.heap.objs.size) (e := s.heap.objs.size) (o := .dK kvs) (by rw [hp]; exact True.intro) (.inl rfl) (fun b o hb q => (hs.2 b hb).trans q)
      (by obtain ⟨o, _, _, ho, _⟩ := d'; exact ⟨o, ho⟩) (show ObjOk X.prog X.w _ _ _ (.dK kvs) from ⟨z, hm, vs, rel, d'⟩)
  exact wpAny_pure ⟨.ref s.heap.objs.size, _, J, rfl, q⟩
end K6

set_option Elab.async false
set_option linter.all false
set_option maxRecDepth 100000
set_option maxHeartbeats 4000000
namespace K6
open PySem PySem.Spec PyProof.Rows L2
open AutoSeq1 (wpAny_loadPart' idx_int sub_tuple_tuple sub_list_list sub_tuple_list sub_list_tuple) in
theorem extTup (l : Addr) (xs : Array Value) (n : Nat) (b : Addr) (ys : Array Value) (n2 : Nat) (dc : Option Addr) (sl : Array (Option Value)) (h0 : ¬(!xs.isEmpty && Builtin.List.listTooLong (xs.size + ys.size)) = true) (h1 : xs.size ≤ sizeLine) (h2 : xs.size + ys.size ≤ sizeLine + 1) :
    Meets (Builtin.«list.extend» ⟨[.ref l, .ref b], []⟩) (fun _ R s => s.heap.get? l = some { cls := .type "list", dict := none, data := .seq xs n, slots := #[] } ∧ s.heap.get? b = some { cls := .type "tuple", dict := dc, data := .seq ys n2, slots := sl } ∧
      R (.ok (.ret Value.none)) { s with heap := s.heap.update l (Obj.mapSeq fun x => x ++ ys), toks := s.toks }) :=
  .of_wp fun prog w A R s h => by
    obtain ⟨hp, g, d, tk, os⟩ := s
    obtain ⟨hl, hb, h⟩ := h
    have f1 := idx_int
    have f2 := AutoSeq1.sub_tuple_tuple
    have f3 := AutoSeq1.sub_list_list
    have f4 := AutoSeq1.sub_tuple_list
    have f5 := AutoSeq1.sub_list_tuple
    have hz' : (xs ++ ys).size ≤ sizeLine + 1 := by
      rw [Array.size_append]
      exact h2
    wp_walk using (wpAny_updateSeq hl rfl (hz := h1) (_hz' := hz')), wpAny_loadPart' hl, wpAny_loadPart' hb
    exact ⟨_, rfl, h⟩
section
variable {X : Cx}
/-! ### a for over a list or a tuple -/
theorem pi_seq {tg l : Expr} {tl : TE} (hl : PE X l tl) : PI X tg l (iSeq X.K tl) := by
  refine ⟨fun pins s σ H R I h => ?_⟩
  refine thn (hl.run pins s σ H _ I h) fun v s1 ⟨x, H1, I1, r1, a, xs, ex, q1⟩ => ?_
  subst ex
  cases r1
  have fr : ∀ b, b ∈ [s1.heap.objs.size] → FpOk X pins H1 b := fun b hb => by
    rw [List.mem_singleton.mp hb]
    exact I1.fpOk (Nat.le_refl _) (I1.hok.fresh (Nat.le_refl _))
  rcases q1 with ⟨hq, q⟩ | ⟨hq, q⟩
  · obtain ⟨its, rv, p, hz⟩ := I1.list hq
    refine wpAny_pyIter_list p.isList ⟨s1.heap.objs.size, [s1.heap.objs.size], _, _, H1, rfl, I1.kept (t' := s1.toks) fun b o e => Heap.get?_push_of_some _ e, turn_list a _, ⟨_, Heap.get?_push_size _ rfl, rfl, rfl⟩, fr, q⟩
  · obtain ⟨its, rv, p, hz⟩ := I1.tuple hq
    refine wpAny_pyIter_tuple (show s1.heap.IsTuple a its.toArray from p) ⟨s1.heap.objs.size, [s1.heap.objs.size], _, _, H1, rfl, I1.kept (t' := s1.toks) fun b o e => Heap.get?_push_of_some _ e, turn_tuple a _, ⟨_, Heap.get?_push_size _ rfl, rfl, rfl⟩, fr, q⟩
/-! ### x in a list or tuple of data -/
theorem roomS {A : Around} {d : PyData} {ds : List PyData} (sd : SeqAt.shaped d = true) (hu : A.units + 65 < cLine) : A.units + 1 + min (PyData.depthAll ds) d.depth < cLine := room_in_shaped sd hu
def rInT (K : PySem.W.Frag) : R2 := fun x y H Q => ∃ d ds, Dp K H x d ∧ Dp K H y (.tuple ds) ∧ SeqAt.shaped d = true ∧ SeqAt.shaped (.tuple ds) = true ∧ Q (.bl (ds.any fun z => PyData.eqv z d)) H
def rNotInT (K : PySem.W.Frag) : R2 := fun x y H Q => ∃ d ds, Dp K H x d ∧ Dp K H y (.tuple ds) ∧ SeqAt.shaped d = true ∧ SeqAt.shaped (.tuple ds) = true ∧ Q (.bl (!ds.any fun z => PyData.eqv z d)) H
theorem op_inDT (hu : X.A.units + 65 < cLine) : OpR X (compareOp .In) (rInT X.K) := by
  intro pins s σ H x y v u Q I rx ry ⟨d, ds, hd, he, sd, se, q⟩
  obtain ⟨as, r1⟩ := hd.reads I d x v rx
  obtain ⟨bs, r2⟩ := he.reads I (.tuple ds) y u ry
  exact SeqAt.in_tuple_reads r2 r1 (SeqAt.canLay_of_shaped se) (SeqAt.canLay_of_shaped sd) (roomS sd hu) ⟨.bl _, H, I, rfl, q⟩
theorem op_notInDT (hu : X.A.units + 65 < cLine) : OpR X (compareOp .NotIn) (rNotInT X.K) := by
  intro pins s σ H x y v u Q I rx ry ⟨d, ds, hd, he, sd, se, q⟩
  obtain ⟨as, r1⟩ := hd.reads I d x v rx
  obtain ⟨bs, r2⟩ := he.reads I (.tuple ds) y u ry
  exact SeqAt.notIn_tuple_reads r2 r1 (SeqAt.canLay_of_shaped se) (SeqAt.canLay_of_shaped sd) (roomS sd hu) ⟨.bl _, H, I, rfl, q⟩
/-! ### l.extend(tuple) -/
def rExtT (K : PySem.W.Frag) : V → List V → Hp → VK → Prop := fun x vs H Q => ∃ l b xs zs, x = .ref l ∧ vs = [.ref b] ∧ H l = some (.lst xs) ∧ SqT K H b zs ∧ xs.length + zs.length ≤ sizeLine ∧ Q .non (upd H l (.lst (xs ++ zs)))
theorem mt_extT : MtM X "list.extend" (rExtT X.K) := by
  intro pins s σ H x vs v us Q I rx rv ⟨l, b, xs, zs, e1, e2, hH, hB, hz, q⟩
  subst e1 e2
  cases rx
  obtain ⟨u, rfl, ru⟩ := rv.one
  cases ru
  obtain ⟨z, its, n, r, hl, e⟩ := I.lstM hH
  obtain ⟨its2, r2, ⟨o2, ho2, hc2, n2, hd2⟩, z2⟩ := I.tuple hB
  obtain ⟨c2, dc2, dt2, sl2⟩ := o2
  have hl1 := r.length
  have hl2 := r2.length
  have hsz : its.toArray.size + its2.toArray.size ≤ sizeLine := by
    rw [List.size_toArray, List.size_toArray]
    omega
  have hlong : ¬ (!its.toArray.isEmpty && Builtin.List.listTooLong (its.toArray.size + its2.toArray.size)) = true := by
    rw [notLongL hsz, Bool.and_false]
    exact Bool.false_ne_true
  have hc : c2 = .type "tuple" := hc2
  have hd : dt2 = .seq its2.toArray n2 := hd2
  subst hc hd
  refine call_meets F.slot_list_extend ⟨_, e, rfl⟩ F.entry_list_extend (F.args_list_extend_2 _ _) (extTup l its.toArray n b its2.toArray n2 _ _ hlong (by rw [List.size_toArray]; omega) (by omega)) ⟨e, ho2, ?_⟩
  refine ⟨.non, _, I.lset (its' := its ++ its2) hH e (by simp) (r.append r2) ?_, rfl, q⟩
  rw [List.length_append]
  omega
end
/-! ### sorted of data -/
section
variable {X : Cx}
open PySem.W
/-- sorted(xs), xs data that compare: the sorted data's values at a new list -/
def rSortD (K : PySem.W.Frag) {β : Type} (enc : β → PyData) (R : Hp → V → β → Prop) : List V → Hp → VK → Prop := fun vs H Q => ∃ (a : Addr) (xs : List V) (bs : List β), vs = [V.ref a] ∧ SqL K H a xs ∧ Paired (R H) xs bs ∧ (∀ x b, R H x b → Dp K H x (enc b)) ∧
  AllAlike (bs.map enc) ∧ Sortable (bs.map enc) ∧ (∀ b ∈ bs, (enc b).depth ≤ 8) ∧ ∀ (ys : List V) (p : Addr), Paired (R H) ys (bs.mergeSort (dataLe false enc)) → H p = none → Q (.ref p) (upd H p (.lst ys))
theorem each_of {H : Hp} {β : Type} {R : Hp → V → β → Prop} : ∀ {xs : List V} {us : List Value} {bs : List β}, Vals xs us → Paired (R H) xs bs → EachIs (fun v b => ∃ x, RelV x v ∧ R H x b) us bs
  | _, _, _, .nil, .nil => .nil
  | _, _, _, .cons r t, .cons p q => .cons ⟨_, r, p⟩ (each_of t q)
theorem of_each {H : Hp} {β : Type} {R : Hp → V → β → Prop} : ∀ {us : List Value} {bs : List β}, EachIs (fun v b => ∃ x, RelV x v ∧ R H x b) us bs → ∃ xs, Vals xs us ∧ Paired (R H) xs bs
  | _, _, .nil => ⟨[], .nil, .nil⟩
  | _, _, .cons ⟨x, r, p⟩ t => by
    obtain ⟨xs, h1, h2⟩ := of_each t
    exact ⟨x :: xs, .cons r h1, .cons p h2⟩
theorem each_mono {α β : Type} {R S : α → β → Prop} (f : ∀ a b, R a b → S a b) : ∀ {us : List α} {bs : List β}, EachIs R us bs → EachIs S us bs
  | _, _, .nil => .nil
  | _, _, .cons p t => .cons (f _ _ p) (each_mono f t)
theorem cr_sortD {β : Type} {enc : β → PyData} {R : Hp → V → β → Prop} (hu : X.A.units + 64 < cLine) : CallR X (.builtin "sorted") (rSortD X.K enc R) := by
  intro pins s σ H vs us Q I r ⟨a, xs, bs, e1, hS, hP, hD, hal, hso, hdp, q⟩
  subst e1
  obtain ⟨its, rv, hl, hz⟩ := I.list hS
  rw [Vals.ref1 r]
  have hlen : bs.length = its.length := by rw [← Paired.length hP, rv.length]
  have e := each_of rv hP
  have hbz : bs.length ≤ sizeLine := by rw [hlen, ← rv.length]; exact hz
  have er : EachIs (fun v b => ∃ as, Reads s.heap v (enc b) as) its bs := each_mono (fun v b ⟨x, rx, hx⟩ => (hD x b hx).reads I (enc b) x v rx) e
  refine sorted_data (A := X.A) hl.isList e er hal hso hbz (fun b hb => ?_) fun out hol ho => ?_
  · have := hdp b hb
    omega
  · obtain ⟨ys, ry, hy⟩ := of_each ho
    obtain ⟨ep, he'⟩ := PyProof.Rows.sortedAll_at s.heap its out.toArray
    have hyl : ys.length ≤ sizeLine := by rw [ry.length, hol]; exact hbz
    exact ⟨.ref _, upd H (s.heap.objs.size + 1) (.lst ys), I.laid (t' := s.toks) (fun _ _ => PyProof.Rows.sortedAll_old) (Nat.le_succ _) ⟨hyl, out, ep, ry, he'⟩, rfl, q ys _ hy (I.hok.fresh (Nat.le_succ _))⟩
end
end K6

set_option Elab.async false
set_option linter.all false
set_option maxRecDepth 100000
set_option maxHeartbeats 4000000
namespace K6
open PySem PySem.Spec PyProof.Rows L2
section
variable {X : Cx}
/-! ### list(d.values()), d a dict with tuple keys -/
/-- the view d.values() at p -/
def valuesO (p d : Addr) : HO := .ext fun h => h.IsValuesView p d
theorem valuesO_ok {P : Program} {w : World} {H : Hp} {h : Heap} {p d : Addr} (e : h.get? p = some { cls := .type "dict_values", data := .fields #[.ref d] }) : ObjOk P w H h p (valuesO p d) :=
  ⟨⟨_, e, rfl, rfl⟩, ⟨_, e⟩, fun _ _ ⟨o, ho, r⟩ k => ⟨o, k o ho, r⟩⟩
def rValsT : V → List V → Hp → VK → Prop := fun x xs H Q => ∃ (a : Addr) (kvs : List (List L2.Key × V)), x = .ref a ∧ xs = [] ∧ H a = some (.dT kvs) ∧ ∀ p, H p = none → Q (.ref p) (upd H p (valuesO p a))
theorem mt_valsT : MtR X "dict.values" rValsT := by
  intro pins s σ H x xs v us Q I rx rxs ⟨a, kvs, e1, e2, ha, q⟩
  subst e1 e2
  cases rx
  cases rxs
  obtain ⟨z, hd, xs', rel, o, es, ep, ho, hx, hdat, _⟩ := dt_of I.hok ha
  have hr : s.heap.DictRaw a es ep := ⟨o, ho, hx, hdat⟩
  refine call_meetsIn PySem.F.slot_dict_values hr.typeIs PySem.F.entry_dict_values (PySem.F.args_dict_values_1 _) (meets_dict_values_raw (prog := X.prog) (w := X.w) a hd) ⟨⟨es, ep, hr⟩, ?_⟩
  exact ⟨.ref s.heap.objs.size, _, I.laid (t' := s.toks) (fun b u e => Heap.get?_push_of_some _ e) (Nat.le_refl _) (valuesO_ok (Heap.get?_push_size _ rfl)), rfl, q _ (I.hok.fresh (Nat.le_refl _))⟩
def rListVT : List V → Hp → VK → Prop := fun xs H Q => ∃ (p d : Addr) (kvs : List (List L2.Key × V)), xs = [V.ref p] ∧ H p = some (valuesO p d) ∧ Rd H d (.dT kvs) ∧ ∀ l, H l = none → Q (.ref l) (upd H l (.lst (kvs.map (·.2))))
theorem vals_dT {H : Hp} {P : Program} {w : World} : ∀ {kvs : List (List L2.Key × V)} {ks : List (List L2.Key × Addr × Value)}, Paired (fun (p : List L2.Key × V) (q : List L2.Key × Addr × Value) => p.1 = q.1 ∧ H q.2.1 = some (.tup (p.1.map kV)) ∧ RelV p.2 q.2.2) kvs ks → Vals (kvs.map (·.2)) (ks.map fun x => x.2.2)
  | _, _, .nil => .nil
  | _, _, .cons r t => .cons r.2.2 (vals_dT (P := P) (w := w) t)
theorem call_list_vT (hc : X.calm = true) : CallR X (.type "list") rListVT := by
  intro pins s σ H xs us Q I r ⟨p, d, kvs, e1, hp, hd, q⟩
  subst e1
  obtain ⟨u, rfl, rx⟩ := r.one
  cases rx
  have view : s.heap.IsValuesView p d := (show ObjOk X.prog X.w H s.heap p (valuesO p d) from I.hok p _ hp).1
  obtain ⟨z, hs, ks, pr, o, es, ep, ho, hx, hdt, he, hn⟩ := (show ObjOk X.prog X.w H s.heap d (.dT kvs) from hd.ok I.hok)
  have l1 : es.size = ks.length := size_of_entries he
  have l2 : kvs.length = ks.length := Paired.length pr
  have hr : s.heap.DictRaw d es ep := ⟨o, ho, hx, hdt⟩
  refine PySem.W.kdl_call (PySem.KdlSrc.rawValues (r := p) (es := es) (ep := ep)) (I.ok.hd hc) ⟨view, hr⟩ (by omega) fun h' tk acc' c' kp e it => ?_
  have ea : acc'.toList = ks.map fun x => x.2.2 := by
    apply List.ext_getElem?
    intro j
    have hl : acc'.toList.length = ks.length := by
      rw [Array.length_toList, it.1]
      exact l1
    rw [List.getElem?_map]
    cases hj : acc'.toList[j]? with
    | none =>
      have h1 := List.getElem?_eq_none_iff.mp hj
      rw [List.getElem?_eq_none (by omega)]
      all_goals rfl
    | some v =>
      obtain ⟨hi, hv⟩ := it.2 j v (by rw [← Array.getElem?_toList]; exact hj)
      have qe := entry_at he j
      rw [Array.getElem?_eq_getElem hi] at qe
      cases hb : ks[j]? with
      | none =>
        rw [hb] at qe
        cases qe
      | some b =>
        rw [hb] at qe
        have e2 : es[j] = entryOfKey (tupleKind (mixKind X.prog X.w)) b := Option.some.inj qe
        rw [hv, e2]
        all_goals rfl
  have rv : Vals (kvs.map (·.2)) acc'.toList := by
    rw [ea]
    exact vals_dT (P := X.prog) (w := X.w) pr
  have hz : (kvs.map (·.2)).length ≤ sizeLine := by
    rw [List.length_map]
    omega
  refine ⟨.ref s.heap.objs.size, _, I.laid (t' := tk) (o := .lst (kvs.map (·.2))) kp (Nat.le_refl _) ?_, rfl, q _ (I.hok.fresh (Nat.le_refl _))⟩
  exact ⟨hz, acc'.toList, c', rv, by rw [Array.toArray_toList]; exact e⟩
end
end K6

set_option Elab.async false
set_option linter.all false
set_option maxRecDepth 100000
set_option maxHeartbeats 4000000
namespace K6
open PySem PySem.Spec PyProof.Rows L2
/-! ### try: .. with clauses «except C as n», one of which takes what comes -/
abbrev Ends.noName (D : Ends) (i : Nat) : Ends where
  nx := fun σ' H' => D.nx (σ'.set i none) H'
  rt := D.rt
  bk := fun σ' H' => D.bk (σ'.set i none) H'
  ct := fun σ' H' => D.ct (σ'.set i none) H'
abbrev Suite := Addr → Value → Option Addr → TS
def wCl (K : PySem.W.Frag) (i : Nat) (D : Ends) : List (Value × Suite) → WX
  | [] => fun _ _ _ _ => False
  | (c, ts) :: r => fun cls d σ H => ∃ b, PySem.W.exmOne K cls c = some b ∧ (b = true → ∀ a, H a = none → ts a cls d (Ends.noName D i) (σ.set i (some (.ref a))) H) ∧ (b = false → wCl K i D r cls d σ H)
inductive ClOk (X : Cx) (n : Str) : List ExceptHandler → List (Value × Suite) → Prop
  | nil : ClOk X n [] []
  | cons {x : Str} {c : Value} {ts : Suite} {b₀ : Stmt} {rest : List Stmt} {np hp : Pos} {hds : List ExceptHandler} {l : List (Value × Suite)} (hc : Names X x c)
      (su : ∀ (a : Addr) (oe : Obj) (cls : Value) (d : Option Addr) (pn : List (Addr × Obj)), Zc cls d oe → (∃ vs, oe.data = .fields vs) → PSs (X.suite a ((a, oe) :: pn)) (b₀ :: rest) (ts a cls d)) (r : ClOk X n hds l) :
      ClOk X n (.ExceptHandler (some (.Name x np)) (some n) (b₀ :: rest) hp :: hds) ((c, ts) :: l)
section
variable {X : Cx} {n : Str} {i : Nat} {body : List Stmt} {h₀ : ExceptHandler} {hds : List ExceptHandler} {l : List (Value × Suite)} {pos : Pos} {tb : WX → TS}
theorem ps_try_cl (hs : X.stack = X.env :: X.outer) (hf : X.env.frame = some X.env.locals) (hN : X.N.Nodup) (hi : X.N[i]? = some n) (hln : X.env.kindOf n = some .local)
    (hb : ∀ (W : WX) (pn : List (Addr × Obj)) (xe : Value → Shared → Prop), Takes (X.tr pn xe) W → PassesOwn (model X.prog X.w) X.A X.env xe → PSs (X.tr pn xe) body (tb W)) (hh : ClOk X n (h₀ :: hds) l) :
    PS X (.Try body (h₀ :: hds) [] [] pos) (fun D σ H => tb (wCl X.K i D l) D σ H) := by
  refine ⟨fun pins s σ H D I h => ?_⟩
  have ok := I.ok
  have fr : X.A.frames = some (X.env :: X.outer) := by
    rw [ok.frames, hs]
  refine wpAny_Try_except ?_
  refine wpAny_mono ((hb (wCl X.K i D l) (X.pn ++ pins) (fun e s₁ => wpAny (model X.prog X.w) X.A (noteFrame e X.env) (fun _ s₂ => wpAny (model X.prog X.w) X.A (setFlight e none)
    (fun _ s₃ => wpAny (model X.prog X.w) X.A (handleBy e X.env (h₀ :: hds)) (SP X pins D) X.xe s₃) X.xe s₂) X.xe s₁) (fun u s' xx => ?_) PassesOwn.looking).run [] s σ H D (I.toTry _) h) (fun f s1 hsp => ?_) (fun _ _ he => he)
  · obtain ⟨a, B, sI, pins', σ', H', cls, d, rfl, J', nb, up, sky, na, os, ag, w⟩ := xx
    have J : Inv X pins σ' H' sI := J'.ofTry ok
    rw [hs] at sky
    show wpAny (model X.prog X.w) X.A (noteFrame (.ref a) X.env) _ _ _
    refine Sky.land Zc.steady fr hf sky fun h3 fl3 up3 => ?_
    have J3 : Inv X pins σ' H' { s' with heap := h3 } := J.landed nb fl3.1 (up.trans up3) os ag
    obtain ⟨oe3, vs3, he3, hz3, hd3⟩ := fl3.there
    have nfr : a ∉ frs (X.env :: X.outer) := fun hm => by
      obtain ⟨_, o', e', hnf⟩ := fl3.2.2.1.mem hm
      rw [he3] at e'
      cases e'
      exact hnf _ hd3
    have nL : a ≠ X.env.locals := fun z => nfr (List.mem_filterMap.mpr ⟨X.env, List.mem_cons_self, by rw [hf, z]⟩)
    have nF : a ∉ X.fs := fun hm => by
      obtain ⟨e, he, q⟩ := List.mem_filterMap.mp hm
      exact nfr (List.mem_filterMap.mpr ⟨e, List.mem_cons_of_mem _ he, q⟩)
    have S3 := J3.suite he3 hd3 na nL nF
    have all : ∀ {hds' : List ExceptHandler} {l' : List (Value × Suite)}, ClOk X n hds' l' → wCl X.K i D l' cls d σ' H' → wpAny (model X.prog X.w) X.A (handleBy (.ref a) X.env hds') (SP X pins D) X.xe { s' with heap := h3 } := by
      intro hds' l' hk
      induction hk with
      | nil => exact fun w => w.elim
      | @cons x c ts b₀ rest np hp hds2 l2 hc su r ih =>
        intro ⟨b, hb1, hyes, hno⟩
        refine wpAny_handleBy_cons (codeAny_handlers_test ?_) (by intro q; cases q)
        have LT : PySem.W.Looks (model X.prog X.w) h3 (typeOf (.ref a)) cls := fun A Q E s k q => wpAny_typeOf_ref (k _ _ he3) (by rw [hz3.1]; exact q)
        have LM := PySem.W.exm_one (M := model X.prog X.w) J3.kIn LT hb1
        have named : ∀ {Q : Value → Shared → Prop} {E : Value → Shared → Prop}, Q c { s' with heap := h3 } → wpAny (model X.prog X.w) (X.A.mark (some (.ref a))) (eval (.Name x np) X.env) Q E { s' with heap := h3 } := fun {Q E} q => by
          obtain ⟨hg, hdb, hm | ⟨hm, hv, hnn⟩⟩ := hc
          · exact ld_glob (X := X.suite a ((a, oe3) :: (X.pn ++ pins))) S3 hg hm q hdb
          · exact ld_blt (X := X.suite a ((a, oe3) :: (X.pn ++ pins))) S3 hg hm hv q hnn hdb
        refine named (LM.here ?_)
        cases b with
        | false =>
          show wpAny _ X.A (handleBy (.ref a) X.env hds2) _ _ _
          exact ih (hno rfl)
        | true =>
          refine codeAny_handlers_suite_as (HandSPX.lands_againZ fl3 fun h4 fl4 up4 => ?_)
          have J4 : Inv X pins σ' H' { s' with heap := h4 } := J.landed nb fl4.1 ((up.trans up3).trans up4) os ag
          obtain ⟨oe4, vs4, he4, hz4, hd4⟩ := fl4.there
          refine store_ok (X := X.suite a ((a, oe4) :: (X.pn ++ pins))) (v := .ref a) (J4.suite he4 hd4 na nL nF) hN hi (.inl hln) rfl (fun s5 S5 => ?_) (.inr hln)
          refine wpAny_mono ((su a oe4 cls d (X.pn ++ pins) hz4 ⟨_, hd4⟩).run [] s5 _ H' _ S5 (hyes rfl a na)) (fun f s6 hsp => ?_) (fun _ _ z => z.elim)
          have fin : ∀ {σ6 : L2.St} {H6 : Hp} {Q : Shared → Prop}, Inv (X.suite a ((a, oe4) :: (X.pn ++ pins))) [] σ6 H6 s6 → (∀ s7, Inv X pins (σ6.set i none) H6 s7 → Q s7) →
            wpAny (model X.prog X.w) X.A (do bindName X.env n .none; unbindBehindTheSuite X.env n hp) (fun _ s7 => Q s7) X.xe s6 := fun {σ6 H6 Q} S6 hq => gone_ok (S6.unsuite ok) hN hi hln hq
          cases f with
          | ret u =>
            obtain ⟨v6, σ6, H6, S6, r6, q6⟩ := hsp
            exact fin S6 fun s7 J7 => ⟨_, _, _, J7, r6, q6⟩
          | _ =>
            obtain ⟨σ6, H6, S6, q6⟩ := hsp
            exact fin S6 fun s7 J7 => ⟨_, _, J7, q6⟩
    exact all hh w
  · cases f with
    | next =>
      obtain ⟨σ', H', J', q⟩ := hsp
      exact wpAny_execs_nil ⟨σ', H', J'.ofTry ok, q⟩
    | ret u =>
      obtain ⟨v, σ', H', J', r, q⟩ := hsp
      exact ⟨v, σ', H', J'.ofTry ok, r, q⟩
    | _ =>
      obtain ⟨σ', H', J', q⟩ := hsp
      exact ⟨σ', H', J'.ofTry ok, q⟩
end
end K6

set_option Elab.async false
set_option linter.all false
set_option maxRecDepth 100000
set_option maxHeartbeats 4000000
namespace K6
open PySem PySem.Spec PyProof.Rows L2
theorem bt_len : bootBuiltins "len" = some (.builtin "len") := by decide +kernel
theorem bt_isinstance : bootBuiltins "isinstance" = some (.builtin "isinstance") := by decide +kernel
theorem bt_range : bootBuiltins "range" = some (.type "range") := by decide +kernel
theorem bt_int : bootBuiltins "int" = some (.type "int") := by decide +kernel
theorem bt_abs : bootBuiltins "abs" = some (.builtin "abs") := by decide +kernel
theorem bt_min : bootBuiltins "min" = some (.builtin "min") := by decide +kernel
theorem bt_max : bootBuiltins "max" = some (.builtin "max") := by decide +kernel
theorem bt_list : bootBuiltins "list" = some (.type "list") := by decide +kernel
theorem bt_tuple : bootBuiltins "tuple" = some (.type "tuple") := by decide +kernel
theorem bt_dict : bootBuiltins "dict" = some (.type "dict") := by decide +kernel
theorem bt_zip : bootBuiltins "zip" = some (.type "zip") := by decide +kernel
theorem bt_enumerate : bootBuiltins "enumerate" = some (.type "enumerate") := by decide +kernel
theorem bt_sorted : bootBuiltins "sorted" = some (.builtin "sorted") := by decide +kernel
theorem bt_any : bootBuiltins "any" = some (.builtin "any") := by decide +kernel
theorem bt_all : bootBuiltins "all" = some (.builtin "all") := by decide +kernel
theorem bt_bool : bootBuiltins "bool" = some (.type "bool") := by decide +kernel
theorem bt_str : bootBuiltins "str" = some (.type "str") := by decide +kernel
/-- a def of the module by its name -/
def FnH (K : PySem.W.Frag) (mg : Str → Option Value) (x : Str) (st : Stmt) (dvs : List V) : Prop := ∃ f fd, FunD K x x (defArgs st) (defBody st) (defScope st) dvs [] f fd ∧ mg x = some (.ref f)
/-- a method of a class -/
def MtH (K : PySem.W.Frag) (x m q : Str) (st : Stmt) : Prop := ∃ fd, FunD K m q (defArgs st) (defBody st) (defScope st) [] [] (He.fAd K (x, some m)) fd
def oexB (K : PySem.W.Frag) (C : Addr) (bm : List Value) : Bool := match K.lookup C with
  | some ⟨.type "type", _, .cls cd, sl⟩ => (match cd.mro, sl.toList with
    | .ref C' :: bm', [_, _, _, _, some (.builtin n), _] => decide (C' = C) && (decide (n = "ValueError.__new__") && (!cd.hasDel && (cd.hasDict && (PySem.HandSPX.refsVE bm'))))
    | _, _ => false)
  | _ => false
def kitsB (K : PySem.W.Frag) (x : Str) : Bool := decide (PySem.W.findIn K (.ref (He.ga K x)) "__class__" = some (some (.builtin "object.__class__"))) && (decide (PySem.W.specialIn K (.builtin "object.__class__") "__get__" = some (some (.builtin "getset_descriptor.__get__"))) && (decide (PySem.W.takesIn K (.builtin "object.__class__") = some true) &&
  (decide (PySem.W.mroIn K (He.ga K x) (.type "object") = some true) && decide (PySem.W.kitOne K (.ref (He.ga K x)) (.ref (He.ga K x)) = some true))))
def excB (K : PySem.W.Frag) (x : Str) : Bool := oexB K (He.ga K x) [] && (decide (PySem.W.findIn K (.ref (He.ga K x)) "__setattr__" = some (some (.builtin "object.__setattr__"))) && (decide (PySem.W.subIn K (.ref (He.ga K x)) (.type "BaseException") = some true) &&
  (decide (PySem.W.typeIn K (.ref (He.ga K x)) = some (.type "type")) && (PySem.W.keepIn K (.ref (He.ga K x)) && (xfB K (He.ga K x) && (decide (PySem.W.findIn K (.ref (He.ga K x)) "__init__" = some (some (.ref (He.ma K (He.ga K x) "__init__")))) && decide (PySem.W.typeIn K (.ref (He.ma K (He.ga K x) "__init__")) = some (.type "function"))))))))
def exB (K : PySem.W.Frag) : Bool := decide (PySem.W.nsIn K mainGlobals "gcd" = some (some (.builtin "math.gcd"))) && (He.tupB K "ZERO" [.int 0, .int 1] && (He.tupB K "ONE" [.int 1, .int 1] && (kitsB K "Box" && (excB K "BadIns" && excB K "BadPost"))))
structure ExcT (K : PySem.W.Frag) (mg : Str → Option Value) (x : Str) (C f : Addr) : Prop where
  mgC : mg x = some (.ref C)
  oex : OexC K C
  xf : XfC K C
  iC : PySem.W.findIn K (.ref C) "__init__" = some (some (.ref f))
  tI : PySem.W.typeIn K (.ref f) = some (.type "function")
  no : PySem.W.findIn K (.ref C) "index" = some none
structure Tx (K : PySem.W.Frag) (mg : Str → Option Value) : Prop where
  len : mg "len" = none
  isinstance : mg "isinstance" = none
  range : mg "range" = none
  int : mg "int" = none
  abs : mg "abs" = none
  min : mg "min" = none
  max : mg "max" = none
  list : mg "list" = none
  tuple : mg "tuple" = none
  dict : mg "dict" = none
  zip : mg "zip" = none
  enumerate : mg "enumerate" = none
  sorted : mg "sorted" = none
  any : mg "any" = none
  all : mg "all" = none
  bool : mg "bool" = none
  str : mg "str" = none
  gcd : mg "gcd" = some (.builtin "math.gcd")
  ZERO : ∃ a, mg "ZERO" = some (.ref a) ∧ ∀ H, SqT K H a [.int 0, .int 1]
  ONE : ∃ a, mg "ONE" = some (.ref a) ∧ ∀ H, SqT K H a [.int 1, .int 1]
  SMALL : ∃ t, mg "SMALL" = some (.str "abcdefghijklmnopqrstuvwxyz" t)
  f_is_whole : FnH K mg "is_whole" s_is_whole [.non, .non]
  f_is_ratio : FnH K mg "is_ratio" s_is_ratio []
  f_in_lowest_terms : FnH K mg "in_lowest_terms" s_in_lowest_terms []
  f_plus : FnH K mg "plus" s_plus []
  f_times : FnH K mg "times" s_times []
  f_sum_of : FnH K mg "sum_of" s_sum_of []
  f_is_name : FnH K mg "is_name" s_is_name []
  f_is_wire : FnH K mg "is_wire" s_is_wire []
  f_count_fillings : FnH K mg "count_fillings" s_count_fillings []
  f_first_wrong : FnH K mg "first_wrong" s_first_wrong [.bl false]
  f_is_filling : FnH K mg "is_filling" s_is_filling []
  f_filling_number : FnH K mg "filling_number" s_filling_number []
  f_checked_wires : FnH K mg "checked_wires" s_checked_wires []
  f_is_chance_row : FnH K mg "is_chance_row" s_is_chance_row []
  f_checked_entry : FnH K mg "checked_entry" s_checked_entry []
  f_checked_wires_of_chart : FnH K mg "checked_wires_of_chart" s_checked_wires_of_chart []
  f_checked_boxes : FnH K mg "checked_boxes" s_checked_boxes []
  f_checked_outs : FnH K mg "checked_outs" s_checked_outs []
  f_making_days : FnH K mg "making_days" s_making_days []
  f_letter_names : FnH K mg "letter_names" s_letter_names []
  f_check_ins : FnH K mg "check_ins" s_check_ins [.bl false]
  f_check_post : FnH K mg "check_post" s_check_post []
  f_worths_at : FnH K mg "worths_at" s_worths_at []
  f_boxes_by_day : FnH K mg "boxes_by_day" s_boxes_by_day []
  f_worked_on : FnH K mg "worked_on" s_worked_on []
  f_worked : FnH K mg "worked" s_worked []
  f_law_hand : FnH K mg "_law_hand" s_law_hand []
  f_law_mixed : FnH K mg "_law_mixed" s_law_mixed []
  f_law_take : FnH K mg "_law_take" s_law_take []
  f_law_part : FnH K mg "_law_part" s_law_part []
  f_law_ratio : FnH K mg "_law_ratio" s_law_ratio []
  f_law_plus : FnH K mg "_law_plus" s_law_plus []
  f_law_times : FnH K mg "_law_times" s_law_times []
  f_law_many : FnH K mg "_law_many" s_law_many []
  f_law_filling : FnH K mg "_law_filling" s_law_filling []
  f_law_fillings : FnH K mg "_law_fillings" s_law_fillings []
  f_law_number : FnH K mg "_law_number" s_law_number []
  f_law_name : FnH K mg "_law_name" s_law_name []
  f_law_sizes : FnH K mg "_law_sizes" s_law_sizes []
  f_law_some : FnH K mg "_law_some" s_law_some []
  f_law_entry : FnH K mg "_law_entry" s_law_entry []
  f_law_chart : FnH K mg "_law_chart" s_law_chart []
  f_law_box : FnH K mg "_law_box" s_law_box []
  f_law_built : FnH K mg "_law_built" s_law_built []
  f_law_letters : FnH K mg "_law_letters" s_law_letters []
  f_law_ins : FnH K mg "_law_ins" s_law_ins []
  f_law_size : FnH K mg "_law_size" s_law_size []
  f_law_posts : FnH K mg "_law_posts" s_law_posts []
  f_law_all_ins : FnH K mg "_law_all_ins" s_law_all_ins []
  f_law_days : FnH K mg "_law_days" s_law_days []
  f_law_step : FnH K mg "_law_step" s_law_step []
  f_law_tuples : FnH K mg "_law_tuples" s_law_tuples []
  f_law_odd : FnH K mg "_law_odd" s_law_odd []
  f_law_rid : FnH K mg "_law_rid" s_law_rid []
  f_law_lists : FnH K mg "_law_lists" s_law_lists []
  f_law_whole : FnH K mg "_law_whole" s_law_whole []
  f_law_wrong_place : FnH K mg "_law_wrong_place" s_law_wrong_place []
  f_law_spoilt_row : FnH K mg "_law_spoilt_row" s_law_spoilt_row []
  f_law_worked : FnH K mg "_law_worked" s_law_worked []
  f_law : FnH K mg "law" s_law []
  mgBox : mg "Box" = some (.ref (He.ga K "Box"))
  clBox : Cls K (He.ga K "Box")
  mkBox : Mk K (He.ga K "Box") (He.fAd K ("Box", some "__init__"))
  nBox_day : NoAttr K (He.ga K "Box") "day"
  nBox_takes : NoAttr K (He.ga K "Box") "takes"
  nBox_take_sizes : NoAttr K (He.ga K "Box") "take_sizes"
  nBox_makes : NoAttr K (He.ga K "Box") "makes"
  nBox_make_sizes : NoAttr K (He.ga K "Box") "make_sizes"
  nBox_entries : NoAttr K (He.ga K "Box") "entries"
  iBox : MtH K "Box" "__init__" "Box.__init__" s_Box_init
  mgChart : mg "Chart" = some (.ref (He.ga K "Chart"))
  clChart : Cls K (He.ga K "Chart")
  mkChart : Mk K (He.ga K "Chart") (He.fAd K ("Chart", some "__init__"))
  nChart_wires : NoAttr K (He.ga K "Chart") "wires"
  nChart_boxes : NoAttr K (He.ga K "Chart") "boxes"
  nChart_outs : NoAttr K (He.ga K "Chart") "outs"
  nChart_letters : NoAttr K (He.ga K "Chart") "letters"
  nChart_letter_sizes : NoAttr K (He.ga K "Chart") "letter_sizes"
  nChart_ins : NoAttr K (He.ga K "Chart") "ins"
  nChart_in_sizes : NoAttr K (He.ga K "Chart") "in_sizes"
  iChart : MtH K "Chart" "__init__" "Chart.__init__" s_Chart_init
  mBox : Meth K (He.ga K "Box") "made_by" (He.fAd K ("Box", some "made_by"))
  fBox : MtH K "Box" "made_by" "Box.made_by" s_Box_made_by
  insBox : C8.InsC K (He.ga K "Box")
  eBadIns : ExcT K mg "BadIns" (He.ga K "BadIns") (He.fAd K ("BadIns", some "__init__"))
  iBadIns : MtH K "BadIns" "__init__" "BadIns.__init__" s_BadIns_init
  eBadPost : ExcT K mg "BadPost" (He.ga K "BadPost") (He.fAd K ("BadPost", some "__init__"))
  iBadPost : MtH K "BadPost" "__init__" "BadPost.__init__" s_BadPost_init
  xII : PySem.W.exmOne K (.ref (He.ga K "BadIns")) (.ref (He.ga K "BadIns")) = some true
  xPI : PySem.W.exmOne K (.ref (He.ga K "BadPost")) (.ref (He.ga K "BadIns")) = some false
  xPP : PySem.W.exmOne K (.ref (He.ga K "BadPost")) (.ref (He.ga K "BadPost")) = some true
section
variable {K : PySem.W.Frag} {h : Heap} {mg : Str → Option Value}
theorem oexB_ok {C : Addr} (c : oexB K C [] = true) (sa : PySem.W.findIn K (.ref C) "__setattr__" = some (some (.builtin "object.__setattr__"))) (e : PySem.W.subIn K (.ref C) (.type "BaseException") = some true) (t : PySem.W.typeIn K (.ref C) = some (.type "type")) (k : PySem.W.keepIn K (.ref C) = true) : OexC K C := by
  refine ⟨?_, sa, e, t, k⟩
  unfold oexB at c
  split at c
  · rename_i dd cd sl ho
    split at c
    · rename_i C' bm k0 k1 k2 k3 n k5 hm hs
      simp only [Bool.and_eq_true, decide_eq_true_eq, Bool.not_eq_true'] at c
      obtain ⟨rfl, rfl, hdel, hdi, hv⟩ := c
      obtain ⟨nm, bs, mro, ns, qn, hd, sn, sub, ab, col, del⟩ := cd
      dsimp only at hm hdel hdi hv
      subst hm hdel hdi
      have hsl : sl = #[k0, k1, k2, k3, some (.builtin "ValueError.__new__"), k5] := by
        obtain ⟨l⟩ := sl
        simp only at hs
        rw [hs]
      subst hsl
      exact ⟨nm, qn, ns, bs, bm, sn, sub, ab, col, dd, k0, k1, k2, k3, k5, ho, hv⟩
    · cases c
  · cases c
theorem fnH_of (X : K.In h) (G : h.Ns mainGlobals mg) (c : He.SaysD fa fn K) {d : He.DefD} {x : Str} {st : Stmt} {dfl : List He.Dv} {dvs : List V} (i j : Nat) (hd : fn[i]? = some (dd (x, none) x x st dfl) := by rfl) (hf : fa[j]? = some (.glo x) := by rfl) (hv : dfl.map (He.Dv.v K) = dvs := by rfl) : FnH K mg x st dvs := by
  obtain ⟨fd, F⟩ := c.def_ i hd
  subst hv
  exact ⟨_, fd, F, He.glo_ok X G (c.fact j hf)⟩
theorem mtH_of (c : He.SaysD fa fn K) {x m q : Str} {st : Stmt} (i : Nat) (hd : fn[i]? = some (dd (x, some m) m q st []) := by rfl) : MtH K x m q st := by
  obtain ⟨fd, F⟩ := c.def_ i hd
  exact ⟨fd, F⟩
theorem excT_of (X : K.In h) (G : h.Ns mainGlobals mg) (c : He.SaysD fa fn K) {x : Str} (j n : Nat) (e : excB K x = true) (hf : fa[j]? = some (.glo x) := by rfl) (hn : fa[n]? = some (.noat x "index") := by rfl) : ExcT K mg x (He.ga K x) (He.fAd K (x, some "__init__")) := by
  obtain ⟨e1, e⟩ := He.ba e
  obtain ⟨e2, e⟩ := He.ba e
  obtain ⟨e3, e⟩ := He.ba e
  obtain ⟨e4, e⟩ := He.ba e
  obtain ⟨e5, e⟩ := He.ba e
  obtain ⟨e6, e⟩ := He.ba e
  obtain ⟨e7, e8⟩ := He.ba e
  have a2 := of_decide_eq_true e2
  have a3 := of_decide_eq_true e3
  have a4 := of_decide_eq_true e4
  exact ⟨He.glo_ok X G (c.fact j hf), oexB_ok e1 a2 a3 a4 e5, xfB_ok e6, of_decide_eq_true e7, of_decide_eq_true e8, He.noat_ok (c.fact n hn)⟩
theorem tup_of (X : K.In h) (G : h.Ns mainGlobals mg) {x : Str} {a : Addr} {vs : List He.Dv} (g : mg x = some (.ref a)) (ea : a = He.ga K x) (c : He.tupB K x vs = true) : ∃ a, mg x = some (.ref a) ∧ ∀ H, SqT K H a (vs.map (He.Dv.v K)) := ⟨_, g, fun H => by rw [ea]; exact He.tupB_ok c H⟩
theorem tx_of (X : K.In h) (G : h.Ns mainGlobals mg) (c : He.SaysD fa fn K) (e : exB K = true) : Tx K mg := by
  obtain ⟨e1, e⟩ := He.ba e
  obtain ⟨e2, e⟩ := He.ba e
  obtain ⟨e3, e⟩ := He.ba e
  obtain ⟨e4, e⟩ := He.ba e
  obtain ⟨e5, e6⟩ := He.ba e
  obtain ⟨k1, k⟩ := He.ba e4
  obtain ⟨k2, k⟩ := He.ba k
  obtain ⟨k3, k⟩ := He.ba k
  obtain ⟨k4, k5⟩ := He.ba k
  exact {
    len := He.free_ok X G (c.fact 60 (f := .free "len") rfl)
    isinstance := He.free_ok X G (c.fact 61 (f := .free "isinstance") rfl)
    range := He.free_ok X G (c.fact 62 (f := .free "range") rfl)
    int := He.free_ok X G (c.fact 63 (f := .free "int") rfl)
    abs := He.free_ok X G (c.fact 64 (f := .free "abs") rfl)
    min := He.free_ok X G (c.fact 65 (f := .free "min") rfl)
    max := He.free_ok X G (c.fact 66 (f := .free "max") rfl)
    list := He.free_ok X G (c.fact 67 (f := .free "list") rfl)
    tuple := He.free_ok X G (c.fact 68 (f := .free "tuple") rfl)
    dict := He.free_ok X G (c.fact 69 (f := .free "dict") rfl)
    zip := He.free_ok X G (c.fact 70 (f := .free "zip") rfl)
    enumerate := He.free_ok X G (c.fact 71 (f := .free "enumerate") rfl)
    sorted := He.free_ok X G (c.fact 72 (f := .free "sorted") rfl)
    any := He.free_ok X G (c.fact 73 (f := .free "any") rfl)
    all := He.free_ok X G (c.fact 74 (f := .free "all") rfl)
    bool := He.free_ok X G (c.fact 75 (f := .free "bool") rfl)
    str := He.free_ok X G (c.fact 76 (f := .free "str") rfl)
    gcd := PySem.W.mg_of X G (of_decide_eq_true e1)
    ZERO := ⟨_, He.glo_ok X G (c.fact 81 (f := .glo "ZERO") rfl), fun H => He.tupB_ok e2 H⟩
    ONE := ⟨_, He.glo_ok X G (c.fact 82 (f := .glo "ONE") rfl), fun H => He.tupB_ok e3 H⟩
    SMALL := He.str_ok X G (c.fact 85 (f := .str "SMALL" "abcdefghijklmnopqrstuvwxyz") rfl)
    f_is_whole := fnH_of X G c (d := d_is_whole) 5 0
    f_is_ratio := fnH_of X G c (d := d_is_ratio) 6 1
    f_in_lowest_terms := fnH_of X G c (d := d_in_lowest_terms) 7 2
    f_plus := fnH_of X G c (d := d_plus) 8 3
    f_times := fnH_of X G c (d := d_times) 9 4
    f_sum_of := fnH_of X G c (d := d_sum_of) 10 5
    f_is_name := fnH_of X G c (d := d_is_name) 11 6
    f_is_wire := fnH_of X G c (d := d_is_wire) 12 7
    f_count_fillings := fnH_of X G c (d := d_count_fillings) 13 8
    f_first_wrong := fnH_of X G c (d := d_first_wrong) 14 9
    f_is_filling := fnH_of X G c (d := d_is_filling) 15 10
    f_filling_number := fnH_of X G c (d := d_filling_number) 16 11
    f_checked_wires := fnH_of X G c (d := d_checked_wires) 17 12
    f_is_chance_row := fnH_of X G c (d := d_is_chance_row) 18 13
    f_checked_entry := fnH_of X G c (d := d_checked_entry) 19 14
    f_checked_wires_of_chart := fnH_of X G c (d := d_checked_wires_of_chart) 22 15
    f_checked_boxes := fnH_of X G c (d := d_checked_boxes) 23 16
    f_checked_outs := fnH_of X G c (d := d_checked_outs) 24 17
    f_making_days := fnH_of X G c (d := d_making_days) 25 18
    f_letter_names := fnH_of X G c (d := d_letter_names) 26 19
    f_check_ins := fnH_of X G c (d := d_check_ins) 28 20
    f_check_post := fnH_of X G c (d := d_check_post) 29 21
    f_worths_at := fnH_of X G c (d := d_worths_at) 30 22
    f_boxes_by_day := fnH_of X G c (d := d_boxes_by_day) 31 23
    f_worked_on := fnH_of X G c (d := d_worked_on) 32 24
    f_worked := fnH_of X G c (d := d_worked) 33 25
    f_law_hand := fnH_of X G c (d := d_law_hand) 34 26
    f_law_mixed := fnH_of X G c (d := d_law_mixed) 35 27
    f_law_take := fnH_of X G c (d := d_law_take) 36 28
    f_law_part := fnH_of X G c (d := d_law_part) 37 29
    f_law_ratio := fnH_of X G c (d := d_law_ratio) 38 30
    f_law_plus := fnH_of X G c (d := d_law_plus) 39 31
    f_law_times := fnH_of X G c (d := d_law_times) 40 32
    f_law_many := fnH_of X G c (d := d_law_many) 41 33
    f_law_filling := fnH_of X G c (d := d_law_filling) 42 34
    f_law_fillings := fnH_of X G c (d := d_law_fillings) 43 35
    f_law_number := fnH_of X G c (d := d_law_number) 44 36
    f_law_name := fnH_of X G c (d := d_law_name) 45 37
    f_law_sizes := fnH_of X G c (d := d_law_sizes) 46 38
    f_law_some := fnH_of X G c (d := d_law_some) 47 39
    f_law_entry := fnH_of X G c (d := d_law_entry) 48 40
    f_law_chart := fnH_of X G c (d := d_law_chart) 49 41
    f_law_box := fnH_of X G c (d := d_law_box) 50 42
    f_law_built := fnH_of X G c (d := d_law_built) 51 43
    f_law_letters := fnH_of X G c (d := d_law_letters) 52 44
    f_law_ins := fnH_of X G c (d := d_law_ins) 53 45
    f_law_size := fnH_of X G c (d := d_law_size) 54 46
    f_law_posts := fnH_of X G c (d := d_law_posts) 55 47
    f_law_all_ins := fnH_of X G c (d := d_law_all_ins) 56 48
    f_law_days := fnH_of X G c (d := d_law_days) 57 49
    f_law_step := fnH_of X G c (d := d_law_step) 58 50
    f_law_tuples := fnH_of X G c (d := d_law_tuples) 59 51
    f_law_odd := fnH_of X G c (d := d_law_odd) 60 52
    f_law_rid := fnH_of X G c (d := d_law_rid) 61 53
    f_law_lists := fnH_of X G c (d := d_law_lists) 62 54
    f_law_whole := fnH_of X G c (d := d_law_whole) 63 55
    f_law_wrong_place := fnH_of X G c (d := d_law_wrong_place) 64 56
    f_law_spoilt_row := fnH_of X G c (d := d_law_spoilt_row) 65 57
    f_law_worked := fnH_of X G c (d := d_law_worked) 66 58
    f_law := fnH_of X G c (d := d_law) 67 59
    mgBox := He.glo_ok X G (c.fact 77 (f := .glo "Box") rfl)
    clBox := He.cls_ok (c.fact 83 (f := .cls "Box") rfl)
    mkBox := He.mkr_ok (c.fact 86 (f := .mkr "Box") rfl)
    nBox_day := He.noat_ok (c.fact 89 (f := .noat "Box" "day") rfl)
    nBox_takes := He.noat_ok (c.fact 90 (f := .noat "Box" "takes") rfl)
    nBox_take_sizes := He.noat_ok (c.fact 91 (f := .noat "Box" "take_sizes") rfl)
    nBox_makes := He.noat_ok (c.fact 92 (f := .noat "Box" "makes") rfl)
    nBox_make_sizes := He.noat_ok (c.fact 93 (f := .noat "Box" "make_sizes") rfl)
    nBox_entries := He.noat_ok (c.fact 94 (f := .noat "Box" "entries") rfl)
    iBox := mtH_of c 20
    mgChart := He.glo_ok X G (c.fact 78 (f := .glo "Chart") rfl)
    clChart := He.cls_ok (c.fact 84 (f := .cls "Chart") rfl)
    mkChart := He.mkr_ok (c.fact 87 (f := .mkr "Chart") rfl)
    nChart_wires := He.noat_ok (c.fact 95 (f := .noat "Chart" "wires") rfl)
    nChart_boxes := He.noat_ok (c.fact 96 (f := .noat "Chart" "boxes") rfl)
    nChart_outs := He.noat_ok (c.fact 97 (f := .noat "Chart" "outs") rfl)
    nChart_letters := He.noat_ok (c.fact 98 (f := .noat "Chart" "letters") rfl)
    nChart_letter_sizes := He.noat_ok (c.fact 99 (f := .noat "Chart" "letter_sizes") rfl)
    nChart_ins := He.noat_ok (c.fact 100 (f := .noat "Chart" "ins") rfl)
    nChart_in_sizes := He.noat_ok (c.fact 101 (f := .noat "Chart" "in_sizes") rfl)
    iChart := mtH_of c 27
    mBox := He.meth_ok (c.fact 88 (f := .meth "Box" "made_by") rfl)
    fBox := mtH_of c 21
    insBox := ⟨He.cls_ok (c.fact 83 (f := .cls "Box") rfl), of_decide_eq_true k1, of_decide_eq_true k2, of_decide_eq_true k3, of_decide_eq_true k4, of_decide_eq_true k5⟩
    eBadIns := excT_of X G c 79 102 e5
    iBadIns := mtH_of c 3
    eBadPost := excT_of X G c 80 103 e6
    iBadPost := mtH_of c 4
    xII := He.exm_ok (c.fact 104 (f := .exm "BadIns" "BadIns" true) rfl)
    xPI := He.exm_ok (c.fact 105 (f := .exm "BadPost" "BadIns" false) rfl)
    xPP := He.exm_ok (c.fact 106 (f := .exm "BadPost" "BadPost" true) rfl)
  }
end
end K6

set_option Elab.async false
set_option linter.all false
set_option maxRecDepth 100000
set_option maxHeartbeats 0
namespace K6X
open K6 PySem PySem.Spec PyProof.Rows L2 HeadRun
abbrev R : PySem.W.OpenRow := PySem.W.OpenLaw.row PySem.Challenge.rw_alreadytold_k06_whole_days_worked_one_by
/-- where what is told stands: the module's names, its defs with their code, its classes -/
def at0 : List Addr := [3, 59, 79, 98, 117, 136, 155, 158, 159, 167, 174, 181, 188, 195, 202, 207, 214, 221, 229, 236, 243, 248, 255, 260, 311, 320, 325, 330, 337, 344, 395, 407, 414, 419, 424, 429, 434, 441, 448, 455, 462, 469, 476, 483, 490, 497, 502, 509, 516, 523, 530, 537, 542, 547, 552, 557, 562, 567, 574, 581, 586, 591, 596, 603, 610, 617, 624, 631, 638, 645, 650]
def at1 : List Addr := [58, 78, 97, 116, 135, 154, 166, 160, 173, 180, 187, 194, 201, 206, 213, 220, 228, 222, 235, 242, 247, 254, 259, 310, 319, 324, 329, 336, 343, 394, 406, 400, 413, 418, 423, 428, 433, 440, 447, 454, 461, 468, 475, 482, 489, 496, 501, 508, 515, 522, 529, 536, 541, 546, 551, 556, 561, 566, 573, 580, 585, 590, 595, 602, 609, 616, 623, 630, 637, 644, 649]
def at2 : List Addr := [76, 95, 114, 133, 152, 272, 294, 356, 75, 94, 113, 132, 151, 271, 293, 355]
def ats : List Addr := at0 ++ at1 ++ at2
def obsL (g : Addr → Option Obj) : He.AlX := (He.obsT fa fn [] (He.frT g ats), exB (He.frT g ats))
theorem says_of {w : World} {h : Heap} (e : obsL h.get? = He.valX fn [] w) : He.SaysX fa fn [] [] exB w h (He.frT h.get? ats) :=
  ⟨congrArg (fun z : He.AlX => z.1) e, congrArg (fun z : He.AlX => z.2) e, fun _ hp => (nomatch hp), fun _ hp => (nomatch hp), fun _ hp => (nomatch hp)⟩
def hk : PySem.W.Hook where
  α := He.AlX
  obs := fun s => obsL s.heap.get?
  val := fun w => He.valX fn [] w
  says := fun w h => ∃ K : PySem.W.Frag, K.In h ∧ He.SaysX fa fn [] [] exB w h K
  of := fun _ _ e => ⟨_, He.frT_in, says_of e⟩
  keeps := fun _ _ _ ⟨K, hK, c⟩ k => ⟨K, PySem.W.Frag.In.keeps hK k, ⟨c.t, c.more, c.hd, c.out, fun _ hp => (nomatch hp)⟩⟩
def ob (s : PySem.W.SharedT) : He.AlX := obsL (HeadRun.getT s)
theorem ob_eq (s : PySem.W.SharedT) : ob s = hk.obs s.abs := by
  have e : HeadRun.getT s = s.abs.heap.get? := funext (HeadRun.getT_eq s)
  unfold ob
  rw [e] <;> rfl
theorem run (w : World) : HeadRun.RunEqI R (PySem.W.view R.prog [0, 79]) hk ob 6000 loose w := by
  unfold HeadRun.RunEqI
  kernel_rfl
end K6X


set_option Elab.async false
set_option linter.all false
set_option maxRecDepth 100000
set_option maxHeartbeats 4000000
namespace K6
open PySem PySem.Spec PyProof.Rows L2
/-! ### what a value stands for -/
abbrev Rl (α : Type) := Hp → V → α → Prop
class Up {α : Type} (R : Rl α) : Prop where
  up : ∀ {G G' : Hp} {v : V} {x : α}, Same G G' → R G v x → R G' v x
def rInt : Rl Int := fun _ v i => v = .int i
def rStr : Rl Str := fun _ v z => v = .str z
def rBl : Rl Bool := fun _ v b => v = .bl b
theorem sqt_up {K : PySem.W.Frag} {H H' : Hp} {a : Addr} {xs : List V} (e : Same H H') (h : SqT K H a xs) : SqT K H' a xs := by
  rcases h with (h | ⟨o, h⟩) | h
  · exact .inl (.inl (e _ _ h))
  · exact .inl (.inr ⟨o, e _ _ h⟩)
  · exact .inr h
instance : Up rInt := ⟨fun _ h => h⟩
instance : Up rStr := ⟨fun _ h => h⟩
instance : Up rBl := ⟨fun _ h => h⟩
section
variable {α β γ : Type}
theorem paired_up {R : Rl α} [Up R] {G G' : Hp} (e : Same G G') {vs : List V} {xs : List α} (h : Paired (R G) vs xs) : Paired (R G') vs xs := Paired.mapP h fun _ _ => Up.up e
theorem paired_at {F : β → α → Prop} : ∀ {vs : List β} {xs : List α} {i : Nat} {v : β}, Paired F vs xs → vs[i]? = some v → ∃ x, xs[i]? = some x ∧ F v x
  | _, _, _, _, .nil, h => by cases h
  | _, _, 0, _, .cons r t, h => by
    have e := Option.some.inj h
    subst e
    exact ⟨_, rfl, r⟩
  | _, _, i + 1, _, .cons r t, h => paired_at (i := i) t h
theorem paired_to {F : β → α → Prop} : ∀ {vs : List β} {xs : List α} {i : Nat} {x : α}, Paired F vs xs → xs[i]? = some x → ∃ v, vs[i]? = some v ∧ F v x
  | _, _, _, _, .nil, h => by cases h
  | _, _, 0, _, .cons r t, h => by
    have e := Option.some.inj h
    subst e
    exact ⟨_, rfl, r⟩
  | _, _, i + 1, _, .cons r t, h => paired_to (i := i) t h
theorem paired_snoc {F : β → α → Prop} : ∀ {vs : List β} {xs : List α} {v : β} {x : α}, Paired F vs xs → F v x → Paired F (vs ++ [v]) (xs ++ [x])
  | _, _, _, _, .nil, h => .cons h .nil
  | _, _, _, _, .cons r t, h => .cons r (paired_snoc t h)
theorem paired_app {F : β → α → Prop} : ∀ {vs ws : List β} {xs ys : List α}, Paired F vs xs → Paired F ws ys → Paired F (vs ++ ws) (xs ++ ys)
  | _, _, _, _, .nil, h => h
  | _, _, _, _, .cons r t, h => .cons r (paired_app t h)
theorem paired_map {F : V → β → Prop} (f : α → β) : ∀ {vs : List V} {xs : List α}, Paired (fun v x => F v (f x)) vs xs → Paired F vs (xs.map f)
  | _, _, .nil => .nil
  | _, _, .cons r t => .cons r (paired_map f t)
theorem paired_ints : ∀ {vs : List V} {ns : List Int} {G : Hp}, Paired (rInt G) vs ns → vs = ns.map V.int
  | _, _, _, .nil => rfl
  | _, _, _, .cons r t => by rw [List.map_cons, ← paired_ints t, show _ = V.int _ from r]
theorem ints_paired {G : Hp} : ∀ ns : List Int, Paired (rInt G) (ns.map V.int) ns
  | [] => .nil
  | n :: ns => .cons rfl (ints_paired ns)
theorem paired_strs : ∀ {vs : List V} {ns : List Str} {G : Hp}, Paired (rStr G) vs ns → vs = ns.map V.str
  | _, _, _, .nil => rfl
  | _, _, _, .cons r t => by rw [List.map_cons, ← paired_strs t, show _ = V.str _ from r]
theorem strs_paired {G : Hp} : ∀ ns : List Str, Paired (rStr G) (ns.map V.str) ns
  | [] => .nil
  | n :: ns => .cons rfl (strs_paired ns)
variable (K : PySem.W.Frag)
/-- a list of things, a tuple of things -/
def rL (R : Rl α) : Rl (List α) := fun G v xs => ∃ a vs, v = .ref a ∧ SqL K G a vs ∧ Paired (R G) vs xs
def rT (R : Rl α) : Rl (List α) := fun G v xs => ∃ a vs, v = .ref a ∧ SqT K G a vs ∧ Paired (R G) vs xs
/-- a couple, a triple -/
def rP (R : Rl α) (S : Rl β) : Rl (α × β) := fun G v x => ∃ a u w, v = .ref a ∧ SqT K G a [u, w] ∧ R G u x.1 ∧ S G w x.2
def rP3 (R : Rl α) (S : Rl β) (T : Rl γ) : Rl (α × β × γ) := fun G v x => ∃ a u w z, v = .ref a ∧ SqT K G a [u, w, z] ∧ R G u x.1 ∧ S G w x.2.1 ∧ T G z x.2.2
instance {R : Rl α} [Up R] : Up (rL K R) := ⟨fun e ⟨a, vs, h1, h2, h3⟩ => ⟨a, vs, h1, e.seq h2, paired_up e h3⟩⟩
instance {R : Rl α} [Up R] : Up (rT K R) := ⟨fun e ⟨a, vs, h1, h2, h3⟩ => ⟨a, vs, h1, sqt_up e h2, paired_up e h3⟩⟩
instance {R : Rl α} {S : Rl β} [Up R] [Up S] : Up (rP K R S) := ⟨fun e ⟨a, u, w, h1, h2, h3, h4⟩ => ⟨a, u, w, h1, sqt_up e h2, Up.up e h3, Up.up e h4⟩⟩
instance {R : Rl α} {S : Rl β} {T : Rl γ} [Up R] [Up S] [Up T] : Up (rP3 K R S T) := ⟨fun e ⟨a, u, w, z, h1, h2, h3, h4, h5⟩ => ⟨a, u, w, z, h1, sqt_up e h2, Up.up e h3, Up.up e h4, Up.up e h5⟩⟩
end
/-! ### how the heap goes on: G what stands still, H all -/
structure Gr (M : Addr → Prop) (G H G' H' : Hp) : Prop where
  gg : Same G G'
  gh : Same G' H'
  hh : ∀ a o, ¬ M a → H a = some o → H' a = some o
  dm : ∀ a, H' a = none → H a = none
  nw : ∀ a o, G' a = some o → G a = none → H a = none ∨ ∃ xs, H a = some (.tup xs)
  tp : ∀ a xs, H' a = some (.tup xs) → H a = none ∨ H a = some (.tup xs)
abbrev M0 : Addr → Prop := fun _ => False
section
variable {M : Addr → Prop} {G0 H0 G H G' H' : Hp} {p l : Addr} {o : HO}
theorem Same.none {A B : Hp} (e : Same A B) {a : Addr} (h : B a = none) : A a = none := e.free h
theorem same_new (h : H p = none) : Same H (upd H p o) := fun b x e => by
  rw [upd_ne (ne_of_none e h)]
  exact e
theorem Gr.refl (h : Same G H) : Gr M G H G H := ⟨.refl _, h, fun _ _ _ e => e, fun _ e => e, fun a o e n => (by rw [e] at n; cases n), fun _ _ e => .inr e⟩
theorem Gr.trans (a : Gr M G0 H0 G H) (b : Gr M G H G' H') : Gr M G0 H0 G' H' where
  gg := a.gg.trans b.gg
  gh := b.gh
  hh := fun c o n e => b.hh c o n (a.hh c o n e)
  dm := fun c e => a.dm c (b.dm c e)
  nw := fun c o e n => by
    cases q : G c with
    | none =>
      rcases b.nw c o e q with z | ⟨xs, z⟩
      · exact .inl (a.dm c z)
      · exact (a.tp c xs z).imp id fun z => ⟨xs, z⟩
    | some u => exact a.nw c u q n
  tp := fun c xs e => by
    rcases b.tp c xs e with z | z
    · exact .inl (a.dm c z)
    · exact a.tp c xs z
theorem Gr.up {M' : Addr → Prop} (a : Gr M G H G' H') (h : ∀ c, M c → M' c) : Gr M' G H G' H' := ⟨a.gg, a.gh, fun c o n e => a.hh c o (fun z => n (h c z)) e, a.dm, a.nw, a.tp⟩
theorem Gr.of0 (a : Gr M0 G H G' H') : Gr M G H G' H' := a.up fun _ h => h.elim
/-- all that was stands -/
theorem Gr.to (a : Gr M G0 H0 G H) : Same G0 H := a.gg.trans a.gh
theorem Gr.all (a : Gr M0 G0 H0 G H) : Same H0 H := fun c o e => a.hh c o (fun z => z) e
/-- only new things, none of them sealed -/
theorem Gr.same (a : Gr M G0 H0 G H) (e : Same H H') : Gr M G0 H0 G H' := ⟨a.gg, a.gh.trans e, fun c o n h => e c o (a.hh c o n h), fun c h => a.dm c (e.free h), a.nw, fun c xs z => by
  cases q : H c with
  | none => exact .inl (a.dm c q)
  | some u =>
    have := e c u q
    rw [z] at this
    exact a.tp c xs (by rw [q, ← Option.some.inj this])⟩
/-- a new thing that stands still -/
theorem Gr.seal (a : Gr M G0 H0 G H) (h : H p = none) : Gr M G0 H0 (upd G p o) (upd H p o) where
  gg := a.gg.trans (same_new (a.gh.free h))
  gh := fun b x e => by
    by_cases hb : b = p
    · subst hb
      rw [upd_same] at e ⊢
      exact e
    · rw [upd_ne hb] at e ⊢
      exact a.gh b x e
  hh := fun c u n e => same_new h c u (a.hh c u n e)
  dm := fun c e => a.dm c ((same_new h).free e)
  nw := fun c u e n => by
    by_cases hc : c = p
    · subst hc
      exact .inl (a.dm c h)
    · rw [upd_ne hc] at e
      exact a.nw c u e n
  tp := fun c xs e => by
    by_cases hc : c = p
    · subst hc
      exact .inl (a.dm c h)
    · rw [upd_ne hc] at e
      exact a.tp c xs e
theorem Gr.new (a : Gr M G0 H0 G H) (h : H p = none) : Gr M G0 H0 G (upd H p o) := a.same (same_new h)
/-- a thing of ours is written -/
theorem Gr.write (a : Gr M G0 H0 G H) (h0 : H0 l = none) (hg : G l = none) : Gr M G0 H0 G (upd H l o) where
  gg := a.gg
  gh := fun b x e => by
    rw [upd_ne (ne_of_none e hg)]
    exact a.gh b x e
  hh := fun c u n e => by
    rw [upd_ne (ne_of_none e h0)]
    exact a.hh c u n e
  dm := fun c e => by
    by_cases hc : c = l
    · rw [hc]
      exact h0
    · rw [upd_ne hc] at e
      exact a.dm c e
  nw := a.nw
  tp := fun c xs e => by
    by_cases hc : c = l
    · rw [hc]
      exact .inl h0
    · rw [upd_ne hc] at e
      exact a.tp c xs e
/-- a thing that may change is written -/
theorem Gr.writeM (a : Gr M G0 H0 G H) (hm : M l) (hx : H l ≠ none) (hg : G l = none) (ho : ∀ xs, o ≠ .tup xs := by intro _ z; cases z) : Gr M G0 H0 G (upd H l o) where
  gg := a.gg
  gh := fun b x e => by
    rw [upd_ne (ne_of_none e hg)]
    exact a.gh b x e
  hh := fun c u n e => by
    rw [upd_ne (fun z => n (by rw [z]; exact hm))]
    exact a.hh c u n e
  dm := fun c e => by
    by_cases hc : c = l
    · subst hc
      rw [upd_same] at e
      cases e
    · rw [upd_ne hc] at e
      exact a.dm c e
  nw := a.nw
  tp := fun c xs e => by
    by_cases hc : c = l
    · subst hc
      rw [upd_same] at e
      exact absurd (Option.some.inj e) (ho xs)
    · rw [upd_ne hc] at e
      exact a.tp c xs e
/-- a thing of ours stands still from now on -/
theorem Gr.shut (a : Gr M G0 H0 G H) (h0 : H0 l = none) (hg : G l = none) (hl : H l = some o) : Gr M G0 H0 (upd G l o) H where
  gg := a.gg.trans (same_new hg)
  gh := fun b x e => by
    by_cases hb : b = l
    · subst hb
      rw [upd_same] at e
      rw [hl, ← e]
    · rw [upd_ne hb] at e
      exact a.gh b x e
  hh := a.hh
  dm := a.dm
  nw := fun c u e n => by
    by_cases hc : c = l
    · rw [hc]
      exact .inl h0
    · rw [upd_ne hc] at e
      exact a.nw c u e n
  tp := a.tp
/-- a tuple stands still in any case -/
theorem Gr.shutT {xs : List V} (a : Gr M G0 H0 G H) (hl : H l = some (.tup xs)) : ∃ G', Gr M G0 H0 G' H ∧ Same G G' ∧ G' l = some (.tup xs) := by
  cases hg : G l with
  | some u =>
    have := a.gh l u hg
    rw [hl] at this
    exact ⟨G, a, .refl _, by rw [hg, ← Option.some.inj this]⟩
  | none =>
    refine ⟨upd G l (.tup xs), ⟨a.gg.trans (same_new hg), fun b x e => ?_, a.hh, a.dm, fun c u e n => ?_, a.tp⟩, same_new hg, upd_same⟩
    · by_cases hb : b = l
      · subst hb
        rw [upd_same] at e
        rw [hl, ← e]
      · rw [upd_ne hb] at e
        exact a.gh b x e
    · by_cases hc : c = l
      · subst hc
        exact (a.tp c xs hl).imp id fun z => ⟨xs, z⟩
      · rw [upd_ne hc] at e
        exact a.nw c u e n
/-- what may change was born in between -/
theorem Gr.born {M' : Addr → Prop} (a : Gr M G0 H0 G H) (b : Gr M' G H G' H') (h : ∀ c, M' c → H0 c = none ∨ M c) : Gr M G0 H0 G' H' where
  gg := a.gg.trans b.gg
  gh := b.gh
  hh := fun c o n e => b.hh c o (fun z => (h c z).elim (fun y => by rw [y] at e; cases e) n) (a.hh c o n e)
  dm := fun c e => a.dm c (b.dm c e)
  nw := fun c o e n => by
    cases q : G c with
    | none =>
      rcases b.nw c o e q with z | ⟨xs, z⟩
      · exact .inl (a.dm c z)
      · exact (a.tp c xs z).imp id fun z => ⟨xs, z⟩
    | some u => exact a.nw c u q n
  tp := fun c xs e => by
    rcases b.tp c xs e with z | z
    · exact .inl (a.dm c z)
    · exact a.tp c xs z
/-- what is ours and open stays open -/
theorem Gr.open_ (a : Gr M G H G' H') (hl : H l = some o) (hg : G l = none) (ho : ∀ xs, o ≠ .tup xs := by intro _ z; cases z) : G' l = none := by
  cases q : G' l with
  | none => rfl
  | some u =>
    rcases a.nw l u q hg with z | ⟨xs, z⟩
    · rw [hl] at z
      cases z
    · rw [hl] at z
      exact absurd (Option.some.inj z) (ho xs)
end
/-! ### heaps: short words -/
theorem upd_at {H : Hp} {p : Addr} {o : HO} : upd H p o p = some o := upd_same
theorem small_of {n : Nat} (h : n ≤ 100000) : n ≤ sizeLine := Nat.le_trans h (by decide)
theorem small_lt {n : Nat} (h : n ≤ 100000) : n < sizeLine := Nat.lt_of_le_of_lt h (by decide)
/-! ### the kind of a thing -/
inductive Kd where
  | int | bl | non | str | lst | tup | dic
  deriving DecidableEq
def Kd.nm : Kd → String
  | .int => "int"
  | .bl => "bool"
  | .non => "NoneType"
  | .str => "str"
  | .lst => "list"
  | .tup => "tuple"
  | .dic => "dict"
/-- isinstance of two kinds -/
def Kd.isa : Kd → Kd → Bool
  | .int, .int => true
  | .bl, .bl => true
  | .bl, .int => true
  | .non, .non => true
  | .str, .str => true
  | .lst, .lst => true
  | .tup, .tup => true
  | .dic, .dic => true
  | _, _ => false
inductive Th (K : PySem.W.Frag) (H : Hp) : V → Kd → Prop
  | int (i : Int) : Th K H (.int i) .int
  | bl (b : Bool) : Th K H (.bl b) .bl
  | non : Th K H .non .non
  | str (z : Str) : Th K H (.str z) .str
  | lst {a : Addr} {xs : List V} (h : SqL K H a xs) : Th K H (.ref a) .lst
  | tup {a : Addr} {xs : List V} (h : SqT K H a xs) : Th K H (.ref a) .tup
  | dic {a : Addr} {kvs : List (Key × V)} (h : H a = some (.dK kvs)) : Th K H (.ref a) .dic
theorem Th.up {K : PySem.W.Frag} {H H' : Hp} {v : V} {t : Kd} (e : Same H H') (h : Th K H v t) : Th K H' v t := by
  cases h with
  | int i => exact .int i
  | bl b => exact .bl b
  | non => exact .non
  | str z => exact .str z
  | lst h => exact .lst (e.seq h)
  | tup h => exact .tup (sqt_up e h)
  | dic h => exact .dic (e _ _ h)
theorem Th.ty {K : PySem.W.Frag} {H : Hp} {v : V} {t : Kd} (h : Th K H v t) : TyX K H v (.type t.nm) := by
  cases h with
  | int i => exact .base (.int i)
  | bl b => exact .base (.bl b)
  | non => exact .base .non
  | str z => exact .base (.str z)
  | lst h =>
    rcases h with (h | ⟨o, h⟩) | ⟨o, its, n, hk, hc, _⟩
    · exact .base (.lst h)
    · exact .base (.frz h)
    · exact .kList hk hc
  | tup h =>
    rcases h with (h | ⟨o, h⟩) | ⟨o, its, n, hk, hc, _⟩
    · exact .base (.tup h)
    · exact .fTuple h
    · exact .kTuple hk hc
  | dic h => exact .base (.dK h)
theorem kit_isa {K : PySem.W.Frag} (t c : Kd) (hc : c ≠ .non) : PySem.W.kitOne K (.type t.nm) (.type c.nm) = some (t.isa c) := by
  cases c <;> first | exact absurd rfl hc | (cases t <;> exact kit_ty (by decide +kernel))
/-- isinstance(x, C) -/
theorem isi_th {K : PySem.W.Frag} {H : Hp} {x : V} {t : Kd} {Q : VK} (c : Kd) (h : Th K H x t) (q : Q (.bl (t.isa c)) H) (hc : c ≠ .non := by decide) : rIsi K [x, .ty c.nm] H Q :=
  ⟨x, _, _, _, _, rfl, .ty _, h.ty, kit_isa t c hc, q⟩
/-- isinstance(x, (list, tuple)), the tuple just laid at p -/
theorem isi_th2 {K : PySem.W.Frag} {H : Hp} {x : V} {t : Kd} {Q : VK} {p : Addr} (c d : Kd) (h : Th K H x t) (hp : H p = some (.tup [.ty c.nm, .ty d.nm])) (q : Q (.bl (t.isa c || t.isa d)) H) (hc : c ≠ .non := by decide) (hd : d ≠ .non := by decide) : rIsiT K [x, .ref p] H Q := by
  refine ⟨x, p, _, _, [.type c.nm, .type d.nm], _, rfl, hp, .cons (.ty _) (.cons (.ty _) .nil), h.ty, ?_, q⟩
  refine kitAny_cons (kit_isa t c hc) (fun e => ?_) (fun e => ?_)
  · rw [e, Bool.false_or]
    exact kitAny_cons (kit_isa t d hd) (fun e => by rw [e]; exact kitAny_nil) (fun e => e)
  · rw [e, Bool.true_or]
/-! ### a def by its name -/
section
variable {P : Program} {w : World} {K : PySem.W.Frag} {mg : Str → Option Value} {base : Heap}

theorem mkCal {x : Str} {st : Stmt} {N ps : List Str} {k : Nat} {sp : Sp} (h : FnH K mg x st []) (S : FnScope N ps (defScope st))
    (bd : ∀ (kV doc pm : Value) (an : Option Addr) (cdv ct : Value) (us : List Value), us.length = ps.length → bindArgs (PySem.W.fnOf x x (defArgs st) (defBody st) (defScope st) .none kV doc pm an cdv ct) ⟨us, []⟩ = pure (ps.zip us))
    (len : ∀ vs H Q E, sp vs H Q E → vs.length = ps.length)
    (body : ∀ (f : Addr) (cdv : Value) (A : Around) (outer : List Env) (s : Shared) (H : Hp) (vs : List V) (Q : VK) (E : XK), Room k (A.deeper (envOfC x (defScope st) s.heap.objs.size f cdv)) → sp vs H Q E →
      ∃ t, PSs (cxOf CX0 P w K mg base N x (defScope st) f cdv A outer s H E).nox (defBody st) t ∧ t { nx := fun _ H' => Q .non H', rt := Q } (start N vs) H) : C8.Cal P w K mg base (k + 1) x sp [] := by
  obtain ⟨f, fd, F, hm⟩ := h
  refine ⟨f, fd, ps, [], F.ok S len fun cdv A outer s H vs Q E hr h => ?_, hm, F.kp, F.bindsN bd, .nil⟩
  obtain ⟨t, h1, h2⟩ := body f cdv A outer s H vs Q E hr h
  exact ⟨t, h1.nox, h2⟩
/-- with defaults: the last ones of dvs fill up -/
theorem mkCalD {x : Str} {st : Stmt} {N ps : List Str} {k : Nat} {sp : Sp} {dvs : List V} (n j : Nat) (hd : dvs ≠ []) (hn : n + (dvs.length - j) = ps.length) (h : FnH K mg x st dvs) (S : FnScope N ps (defScope st))
    (bd : ∀ (T : Addr) (kV doc pm : Value) (an : Option Addr) (cdv ct : Value) (us its : List Value), us.length = n → its.length = dvs.length →
      ∃ q, bindArgs (PySem.W.fnOf x x (defArgs st) (defBody st) (defScope st) (.ref T) kV doc pm an cdv ct) ⟨us, []⟩ = seqItems? (.ref T) >>= q ∧ q (some its.toArray) = pure (ps.zip (us ++ its.drop j)))
    (len : ∀ vs H Q E, sp vs H Q E → vs.length = ps.length)
    (body : ∀ (f : Addr) (cdv : Value) (A : Around) (outer : List Env) (s : Shared) (H : Hp) (vs : List V) (Q : VK) (E : XK), Room k (A.deeper (envOfC x (defScope st) s.heap.objs.size f cdv)) → sp vs H Q E →
      ∃ t, PSs (cxOf CX0 P w K mg base N x (defScope st) f cdv A outer s H E).nox (defBody st) t ∧ t { nx := fun _ H' => Q .non H', rt := Q } (start N vs) H) : C8.Cal P w K mg base (k + 1) x sp (dvs.drop j) := by
  obtain ⟨f, fd, F, hm⟩ := h
  obtain ⟨ds, hv, hb⟩ := F.binds1 n j hd hn bd
  refine ⟨f, fd, ps, ds, F.ok S len fun cdv A outer s H vs Q E hr h => ?_, hm, F.kp, hb, hv⟩
  obtain ⟨t, h1, h2⟩ := body f cdv A outer s H vs Q E hr h
  exact ⟨t, h1.nox, h2⟩
end
end K6

set_option Elab.async false
set_option linter.all false
set_option maxRecDepth 100000
set_option maxHeartbeats 4000000
namespace K6
open PySem PySem.Spec PyProof.Rows L2
section
variable {K : PySem.W.Frag} {α β : Type} {R : Rl α} {S : Rl β} {D : Ends} {σ : L2.St} {H : Hp} {tb : TS} {g : TG} {a b : Addr} {vs ws : List V}
/-- the loop's word: from any point that Pv tells the end follows -/
abbrev LoopW (J : It) (g : TG) (tb : TS) (D : Ends) (σ : L2.St) (H : Hp) : Prop := ∃ W : Nat → Nat → L2.St → Hp → Prop, (∃ m, W 0 m σ H) ∧ ∀ i m σ H, W i m σ H →
  (J.stop i H ∧ D.nx σ H) ∨ (J.go i H ∧ ∃ N : L2.St → Hp → Prop, (∀ σ' H', N σ' H' → ∃ m', m' < m ∧ W (i + 1) m' σ' H') ∧ ∀ x H', J.yld i H x H' → g x σ H' fun σ2 H2 => tb { D with nx := N, ct := N, bk := D.nx } σ2 H2)
/-- over a list's or a tuple's values -/
theorem fr_list (Pv : Nat → L2.St → Hp → Prop) (h0 : Pv 0 σ H) (hS : ∀ i σ H, Pv i σ H → SqL K H a vs)
    (hs : ∀ i v σ H, vs[i]? = some v → Pv i σ H → g v σ H fun σ2 H2 => tb { D with nx := Pv (i + 1), ct := Pv (i + 1), bk := D.nx } σ2 H2) (hd : ∀ σ H, Pv vs.length σ H → D.nx σ H) : LoopW (Itl K a) g tb D σ H :=
  for_list (xs := vs) Pv h0 (fun i σ H _ p => hS i σ H p) hs hd
theorem fr_tup (Pv : Nat → L2.St → Hp → Prop) (h0 : Pv 0 σ H) (hS : ∀ i σ H, Pv i σ H → SqT K H a vs)
    (hs : ∀ i v σ H, vs[i]? = some v → Pv i σ H → g v σ H fun σ2 H2 => tb { D with nx := Pv (i + 1), ct := Pv (i + 1), bk := D.nx } σ2 H2) (hd : ∀ σ H, Pv vs.length σ H → D.nx σ H) : LoopW (Itt K a) g tb D σ H :=
  for_tup (xs := vs) Pv h0 (fun i σ H _ p => hS i σ H p) hs hd
/-- the target of a pair -/
abbrev g2 (K : PySem.W.Frag) (i j : Nat) : TG := gTup K 2 (gCons (gName i) (gCons (gName j) gNil))
theorem g2_new {i j : Nat} {T : Addr} {x y : V} {Q : L2.St → Hp → Prop} (hT : H T = none) (h : Q ((σ.set i (some x)).set j (some y)) (upd H T (.tup [x, y]))) : g2 K i j (.ref T) σ (upd H T (.tup [x, y])) Q :=
  ⟨T, [x, y], rfl, .of upd_same, rfl, x, [y], rfl, y, [], rfl, rfl, h⟩
theorem fr_enumL {i j : Nat} (Pv : Nat → L2.St → Hp → Prop) (h0 : Pv 0 σ H) (hS : ∀ i σ H, Pv i σ H → SqL K H a vs)
    (hs : ∀ n v σ H H', vs[n]? = some v → Pv n σ H → Same H H' → tb { D with nx := Pv (n + 1), ct := Pv (n + 1), bk := D.nx } ((σ.set i (some (.int (n : Nat)))).set j (some v)) H') (hd : ∀ σ H, Pv vs.length σ H → D.nx σ H) : LoopW (Ite K a) (g2 K i j) tb D σ H :=
  for_it (walk_enum (xs := vs)) Pv h0 (fun i σ H _ p => hS i σ H p) (fun n x σ H H' hn p ⟨T, u, v, e1, hT, e2, e3, e4⟩ => by
    subst e1 e2
    have e3 := Option.some.inj e3
    subst e3
    exact g2_new hT (hs n v σ H _ e4 p (same_new hT))) hd
theorem fr_enumT {i j : Nat} (Pv : Nat → L2.St → Hp → Prop) (h0 : Pv 0 σ H) (hS : ∀ i σ H, Pv i σ H → SqT K H a vs)
    (hs : ∀ n v σ H H', vs[n]? = some v → Pv n σ H → Same H H' → tb { D with nx := Pv (n + 1), ct := Pv (n + 1), bk := D.nx } ((σ.set i (some (.int (n : Nat)))).set j (some v)) H') (hd : ∀ σ H, Pv vs.length σ H → D.nx σ H) : LoopW (IteT K a) (g2 K i j) tb D σ H :=
  for_it (walkEnumT (xs := vs)) Pv h0 (fun i σ H _ p => hS i σ H p) (fun n x σ H H' hn p ⟨T, u, v, e1, hT, e2, e3, e4⟩ => by
    subst e1 e2
    have e3 := Option.some.inj e3
    subst e3
    exact g2_new hT (hs n v σ H _ e4 p (same_new hT))) hd
theorem fr_zipT {i j : Nat} (hl : vs.length = ws.length) (Pv : Nat → L2.St → Hp → Prop) (h0 : Pv 0 σ H) (hS : ∀ i σ H, Pv i σ H → SqT K H a vs ∧ SqT K H b ws)
    (hs : ∀ n u v σ H H', vs[n]? = some u → ws[n]? = some v → Pv n σ H → Same H H' → tb { D with nx := Pv (n + 1), ct := Pv (n + 1), bk := D.nx } ((σ.set i (some u)).set j (some v)) H') (hd : ∀ σ H, Pv vs.length σ H → D.nx σ H) : LoopW (RZ.ItzT K a b) (g2 K i j) tb D σ H :=
  RZ.for_zipT hl Pv h0 hS (fun n x y T σ H hx hy p hT => g2_new hT (hs n x y σ H _ hx hy p (same_new hT))) hd
theorem fr_range {lo : Int} {n : Nat} (Pv : Nat → L2.St → Hp → Prop) (h0 : Pv 0 σ H) (hs : ∀ i σ H, i < n → Pv i σ H → g (.int (lo + i)) σ H fun σ2 H2 => tb { D with nx := Pv (i + 1), ct := Pv (i + 1), bk := D.nx } σ2 H2) (hd : ∀ σ H, Pv n σ H → D.nx σ H) : LoopW (Itr lo n) g tb D σ H :=
  for_range Pv h0 hs hd
/-- a list or a tuple -/
def Sq (K : PySem.W.Frag) (H : Hp) (a : Addr) (xs : List V) : Prop := SqL K H a xs ∨ SqT K H a xs
theorem Sq.up {H H' : Hp} {xs : List V} (e : Same H H') (h : Sq K H a xs) : Sq K H' a xs := h.elim (fun z => .inl (e.seq z)) (fun z => .inr (sqt_up e z))
theorem fr_seq {G : Hp} (h : Sq K G a vs) (Pv : Nat → L2.St → Hp → Prop) (h0 : Pv 0 σ H) (hS : ∀ i σ H', Pv i σ H' → Same G H')
    (hs : ∀ i v σ H, vs[i]? = some v → Pv i σ H → g v σ H fun σ2 H2 => tb { D with nx := Pv (i + 1), ct := Pv (i + 1), bk := D.nx } σ2 H2) (hd : ∀ σ H, Pv vs.length σ H → D.nx σ H) :
    (SqL K H a vs ∧ LoopW (Itl K a) g tb D σ H) ∨ (SqT K H a vs ∧ LoopW (Itt K a) g tb D σ H) := by
  rcases h with h | h
  · exact .inl ⟨(hS 0 σ H h0).seq h, fr_list Pv h0 (fun i σ H' p => (hS i σ H' p).seq h) hs hd⟩
  · exact .inr ⟨sqt_up (hS 0 σ H h0) h, fr_tup Pv h0 (fun i σ H' p => sqt_up (hS i σ H' p) h) hs hd⟩
theorem fr_enum {G : Hp} {i j : Nat} (h : Sq K G a vs) (Pv : Nat → L2.St → Hp → Prop) (h0 : Pv 0 σ H) (hS : ∀ i σ H', Pv i σ H' → Same G H')
    (hs : ∀ n v σ H H', vs[n]? = some v → Pv n σ H → Same H H' → tb { D with nx := Pv (n + 1), ct := Pv (n + 1), bk := D.nx } ((σ.set i (some (.int (n : Nat)))).set j (some v)) H') (hd : ∀ σ H, Pv vs.length σ H → D.nx σ H) :
    (SqL K H a vs ∧ LoopW (Ite K a) (g2 K i j) tb D σ H) ∨ (SqT K H a vs ∧ LoopW (IteT K a) (g2 K i j) tb D σ H) := by
  rcases h with h | h
  · exact .inl ⟨(hS 0 σ H h0).seq h, fr_enumL Pv h0 (fun i σ H' p => (hS i σ H' p).seq h) hs hd⟩
  · exact .inr ⟨sqt_up (hS 0 σ H h0) h, fr_enumT Pv h0 (fun i σ H' p => sqt_up (hS i σ H' p) h) hs hd⟩
end
/-! ### comprehensions: what holds between two turns -/
/-- J stands when a list of ours is written, or shut -/
structure JOk (J : Hp → Hp → Prop) (H : Hp) : Prop where
  wr : ∀ l G' H' o, H l = none → J G' H' → J G' (upd H' l o)
  sl : ∀ l G' H' o, H l = none → G' l = none → J G' H' → J (upd G' l o) H'
abbrev JT : Hp → Hp → Prop := fun _ _ => True
theorem jt_ok {H : Hp} : JOk JT H := ⟨fun _ _ _ _ _ _ => trivial, fun _ _ _ _ _ _ _ => trivial⟩
section
variable {K : PySem.W.Frag} {β : Type} {S : Rl β} {M : Addr → Prop} {G H : Hp} {J : Hp → Hp → Prop} {Rel : Nat → List β → Prop} {L : Addr}
/-- the list at L holds ys so far -/
structure LcI (S : Rl β) (M : Addr → Prop) (G H : Hp) (J : Hp → Hp → Prop) (Rel : Nat → List β → Prop) (L : Addr) (i : Nat) (H' G' : Hp) (vs : List V) (ys : List β) : Prop where
  gr : Gr M G H G' H'
  at_ : H' L = some (.lst vs)
  op : G' L = none
  it : Paired (S G') vs ys
  rel : Rel i ys
  j : J G' H'
def LcV (S : Rl β) (M : Addr → Prop) (G H : Hp) (J : Hp → Hp → Prop) (Rel : Nat → List β → Prop) (L : Addr) (i : Nat) (H' : Hp) : Prop := ∃ G' vs ys, LcI S M G H J Rel L i H' G' vs ys
variable [Up S]
theorem lc_start (hG : Same G H) (hL : H L = none) (jo : JOk J H) (j : J G H) (r : Rel 0 []) : LcV S M G H J Rel L 0 (upd H L (.lst [])) :=
  ⟨G, [], [], (Gr.refl hG).new hL, upd_same, Same.free hG hL, .nil, r, jo.wr L _ _ _ hL j⟩
/-- the element has come -/
theorem lc_put {i : Nat} {H1 G1 H4 G4 : Hp} {vs : List V} {ys : List β} {y : V} {z : β} (I : LcI S M G H J Rel L i H1 G1 vs ys) (hL : H L = none) (hm : ¬ M L) (jo : JOk J H) (e : Gr M G1 H1 G4 H4) (j4 : J G4 H4) (hy : S G4 y z) (r : Rel (i + 1) (ys ++ [z])) (hlen : ys.length ≤ 100000) :
    ∃ acc, H4 L = some (.lst acc) ∧ acc.length < sizeLine ∧ LcV S M G H J Rel L (i + 1) (upd H4 L (.lst (acc ++ [y]))) := by
  have a4 : H4 L = some (.lst vs) := e.hh L _ hm I.at_
  have o4 : G4 L = none := e.open_ I.at_ I.op
  refine ⟨vs, a4, small_lt (by rw [Paired.length I.it]; exact hlen), G4, vs ++ [y], ys ++ [z], (I.gr.trans e).write hL o4, upd_same, o4, paired_snoc (paired_up e.gg I.it) hy, r, jo.wr L _ _ _ hL j4⟩
/-- no element -/
theorem lc_skip {i : Nat} {H1 G1 H4 G4 : Hp} {vs : List V} {ys : List β} (I : LcI S M G H J Rel L i H1 G1 vs ys) (hm : ¬ M L) (e : Gr M G1 H1 G4 H4) (j4 : J G4 H4) (r : Rel (i + 1) ys) : LcV S M G H J Rel L (i + 1) H4 :=
  ⟨G4, vs, ys, I.gr.trans e, e.hh L _ hm I.at_, e.open_ I.at_ I.op, paired_up e.gg I.it, r, j4⟩
/-- the list is done: it stands still -/
theorem lc_done {i : Nat} {H' : Hp} (I : LcV S M G H J Rel L i H') (hL : H L = none) (jo : JOk J H) : ∃ G' ys, Gr M G H G' H' ∧ rL K S G' (.ref L) ys ∧ Rel i ys ∧ J G' H' ∧ ∃ vs, G' L = some (.lst vs) ∧ Paired (S G') vs ys := by
  obtain ⟨G', vs, ys, I⟩ := I
  exact ⟨_, ys, I.gr.shut hL I.op I.at_, ⟨L, vs, rfl, .of upd_same, paired_up (same_new I.op) I.it⟩, I.rel, jo.sl L _ _ _ hL I.op I.j, vs, upd_same, paired_up (same_new I.op) I.it⟩
end
/-- no test -/
theorem tyes {σ : L2.St} {H : Hp} {A B : Hp → Prop} (h : A H) : tYes σ H (fun b H3 => if b = true then A H3 else B H3) := by
  show if true = true then A H else B H
  rw [if_pos rfl]
  exact h
/-- a comprehension over anything that is walked -/
theorem lcW {It0 : It} {n : Nat} {Gd : Hp → Prop} {Y : Nat → Hp → V → Hp → Prop} (wk : Walk It0 n Gd Y) {β : Type} {S : Rl β} [Up S] {M : Addr → Prop} {G H : Hp} {J : Hp → Hp → Prop} {Rel : Nat → List β → Prop} {g : TG} {tt : TT} {te : TE} {ns : List Nat} {σ : L2.St} {Q : Addr → Hp → Prop} {K : PySem.W.Frag}
    (hG : Same G H) (hGd : ∀ H', Same G H' → Gd H') (hm : ∀ l, H l = none → ¬ M l) (jo : JOk J H) (j : J G H) (r : Rel 0 [])
    (hs : ∀ L, H L = none → ∀ i x H1 H1' G1 vs ys, i < n → LcI S M G H J Rel L i H1 G1 vs ys → Y i H1 x H1' → g x (wipe σ ns) H1' fun σ2 H2 => wipe σ2 ns = wipe σ ns ∧ tt σ2 H2 fun b H3 =>
      if b = true then te σ2 H3 fun y H4 => ∃ acc, H4 L = some (.lst acc) ∧ acc.length < sizeLine ∧ LcV S M G H J Rel L (i + 1) (upd H4 L (.lst (acc ++ [y]))) else LcV S M G H J Rel L (i + 1) H3)
    (hd : ∀ G' H' L ys, Gr M G H G' H' → rL K S G' (.ref L) ys → Rel n ys → J G' H' → (∃ vs, G' L = some (.lst vs) ∧ Paired (S G') vs ys) → Q L H') :
    ∀ L, H L = none → ∃ W : Nat → Nat → Hp → Prop, (∃ m, W 0 m (upd H L (.lst []))) ∧ ∀ i m H, W i m H → (It0.stop i H ∧ Q L H) ∨ (It0.go i H ∧ ∃ Nx : Hp → Prop, (∀ H', Nx H' → ∃ m', m' < m ∧ W (i + 1) m' H') ∧
      ∀ x H', It0.yld i H x H' → g x (wipe σ ns) H' fun σ2 H2 => wipe σ2 ns = wipe σ ns ∧ tt σ2 H2 fun b H3 => if b = true then te σ2 H3 fun y H4 => ∃ acc, H4 L = some (.lst acc) ∧ acc.length < sizeLine ∧ Nx (upd H4 L (.lst (acc ++ [y]))) else Nx H3) := fun L hL =>
  lc_it wk (LcV S M G H J Rel L) (lc_start hG hL jo j r) (fun i H' _ ⟨G', _, _, I⟩ => hGd H' I.gr.to)
    (fun i x H1 H1' hi ⟨G1, vs, ys, I⟩ y => hs L hL i x H1 H1' G1 vs ys hi I y)
    (fun H' I => by
      obtain ⟨G', ys, h1, h2, h3, h4, h5⟩ := lc_done (K := K) I hL jo
      exact hd G' H' L ys h1 h2 h3 h4 h5)
/-- .. each element made by itself -/
theorem lcM {It0 : It} {n : Nat} {Gd : Hp → Prop} {Y : Nat → Hp → V → Hp → Prop} (wk : Walk It0 n Gd Y) {β : Type} {S : Rl β} [Up S] {G H : Hp} (zs : List β) {g : TG} {te : TE} {ns : List Nat} {σ : L2.St} {Q : Addr → Hp → Prop} {K : PySem.W.Frag}
    (hn : n = zs.length) (hz : zs.length ≤ 100000) (hG : Same G H) (hGd : ∀ H', Same G H' → Gd H')
    (hs : ∀ i x H1 H1' G1 z (Q' : VK), zs[i]? = some z → Gr M0 G H G1 H1 → Y i H1 x H1' → (∀ y G4 H4, Gr M0 G1 H1 G4 H4 → S G4 y z → Q' y H4) → g x (wipe σ ns) H1' fun σ2 H2 => wipe σ2 ns = wipe σ ns ∧ te σ2 H2 Q')
    (hd : ∀ G' H' L vs, Gr M0 G H G' H' → SqL K G' L vs → Paired (S G') vs zs → G' L = some (.lst vs) → Q L H') (hg : ∀ x σ H (A B : L2.St → Hp → Prop), (∀ σ H, A σ H → B σ H) → g x σ H A → g x σ H B) :
    ∀ L, H L = none → ∃ W : Nat → Nat → Hp → Prop, (∃ m, W 0 m (upd H L (.lst []))) ∧ ∀ i m H, W i m H → (It0.stop i H ∧ Q L H) ∨ (It0.go i H ∧ ∃ Nx : Hp → Prop, (∀ H', Nx H' → ∃ m', m' < m ∧ W (i + 1) m' H') ∧
      ∀ x H', It0.yld i H x H' → g x (wipe σ ns) H' fun σ2 H2 => wipe σ2 ns = wipe σ ns ∧ tYes σ2 H2 fun b H3 => if b = true then te σ2 H3 fun y H4 => ∃ acc, H4 L = some (.lst acc) ∧ acc.length < sizeLine ∧ Nx (upd H4 L (.lst (acc ++ [y]))) else Nx H3) :=
  lcW (K := K) (S := S) (M := M0) (J := JT) (Rel := fun i ys => ys = zs.take i) wk hG hGd (fun _ _ z => z) jt_ok trivial rfl
    (fun L hL i x H1 H1' G1 vs ys hi I y => by
      obtain ⟨z, hz'⟩ : ∃ z, zs[i]? = some z := ⟨zs[i]'(by omega), List.getElem?_eq_getElem (by omega)⟩
      refine hg _ _ _ _ _ ?_ (hs i x H1 H1' G1 z (fun y H4 => ∃ acc, H4 L = some (.lst acc) ∧ acc.length < sizeLine ∧ LcV S M0 G H JT (fun i ys => ys = zs.take i) L (i + 1) (upd H4 L (.lst (acc ++ [y])))) hz' I.gr y fun y G4 H4 e hy => ?_)
      · exact fun σ H h => ⟨h.1, tyes h.2⟩
      · refine lc_put I hL (fun z => z) jt_ok e trivial hy ?_ ?_
        · rw [I.rel, List.take_succ, hz']
          rfl
        · rw [I.rel, List.length_take]
          omega)
    (fun G' H' L ys gr hl r _ hL => by
      obtain ⟨vs, h1, h2⟩ := hL
      rw [r, hn, List.take_length] at h2
      exact hd G' H' L vs gr (.of h1) h2 h1)
/-- .. those that pass a test -/
theorem lcF {It0 : It} {n : Nat} {Gd : Hp → Prop} {Y : Nat → Hp → V → Hp → Prop} (wk : Walk It0 n Gd Y) {α β : Type} {S : Rl β} [Up S] {G H : Hp} (as : List α) (p : α → Bool) (f : α → β) {g : TG} {tt : TT} {te : TE} {ns : List Nat} {σ : L2.St} {Q : Addr → Hp → Prop} {K : PySem.W.Frag}
    (hn : n = as.length) (hz : as.length ≤ 100000) (hG : Same G H) (hGd : ∀ H', Same G H' → Gd H')
    (hs : ∀ i x H1 H1' G1 a (Q' : VK) (R : Hp → Prop), as[i]? = some a → Gr M0 G H G1 H1 → Y i H1 x H1' → (∀ y G4 H4, Gr M0 G1 H1 G4 H4 → p a = true → S G4 y (f a) → Q' y H4) → (∀ G4 H4, Gr M0 G1 H1 G4 H4 → p a = false → R H4) → g x (wipe σ ns) H1' fun σ2 H2 => wipe σ2 ns = wipe σ ns ∧ tt σ2 H2 fun b H3 => if b = true then te σ2 H3 Q' else R H3)
    (hd : ∀ G' H' L vs, Gr M0 G H G' H' → SqL K G' L vs → Paired (S G') vs ((as.filter p).map f) → G' L = some (.lst vs) → Q L H') :
    ∀ L, H L = none → ∃ W : Nat → Nat → Hp → Prop, (∃ m, W 0 m (upd H L (.lst []))) ∧ ∀ i m H, W i m H → (It0.stop i H ∧ Q L H) ∨ (It0.go i H ∧ ∃ Nx : Hp → Prop, (∀ H', Nx H' → ∃ m', m' < m ∧ W (i + 1) m' H') ∧
      ∀ x H', It0.yld i H x H' → g x (wipe σ ns) H' fun σ2 H2 => wipe σ2 ns = wipe σ ns ∧ tt σ2 H2 fun b H3 => if b = true then te σ2 H3 fun y H4 => ∃ acc, H4 L = some (.lst acc) ∧ acc.length < sizeLine ∧ Nx (upd H4 L (.lst (acc ++ [y]))) else Nx H3) :=
  lcW (K := K) (S := S) (M := M0) (J := JT) (Rel := fun i ys => ys = ((as.take i).filter p).map f) wk hG hGd (fun _ _ z => z) jt_ok trivial rfl
    (fun L hL i x H1 H1' G1 vs ys hi I y => by
      obtain ⟨a, ha⟩ : ∃ a, as[i]? = some a := ⟨as[i]'(by omega), List.getElem?_eq_getElem (by omega)⟩
      have et : as.take (i + 1) = as.take i ++ [a] := by
        rw [List.take_succ, ha]
        rfl
      refine hs i x H1 H1' G1 a _ _ ha I.gr y (fun y G4 H4 e hp hy => ?_) (fun G4 H4 e hp => ?_)
      · refine lc_put I hL (fun z => z) jt_ok e trivial hy ?_ ?_
        · rw [I.rel, et, List.filter_append, List.map_append, List.filter_cons_of_pos hp]
          rfl
        · rw [I.rel, List.length_map]
          have := List.length_filter_le p (as.take i)
          rw [List.length_take] at this
          omega
      · refine lc_skip I (fun z => z) e trivial ?_
        rw [I.rel, et, List.filter_append, List.filter_cons_of_neg (by rw [hp]; decide), List.filter_nil, List.append_nil])
    (fun G' H' L ys gr hl r _ hL => by
      obtain ⟨vs, h1, h2⟩ := hL
      rw [r, hn, List.take_length] at h2
      exact hd G' H' L vs gr (.of h1) h2 h1)
theorem gName_mono {i : Nat} : ∀ x σ H (A B : L2.St → Hp → Prop), (∀ σ H, A σ H → B σ H) → gName i x σ H A → gName i x σ H B := fun _ _ _ _ _ h a => h _ _ a
theorem g2_mono {K : PySem.W.Frag} {i j : Nat} : ∀ x σ H (A B : L2.St → Hp → Prop), (∀ σ H, A σ H → B σ H) → g2 K i j x σ H A → g2 K i j x σ H B := fun _ _ _ _ _ h ⟨a, xs, h1, h2, h3, x, r, h4, y, r', h5, h6, h7⟩ => ⟨a, xs, h1, h2, h3, x, r, h4, y, r', h5, h6, h _ _ h7⟩
end K6

set_option Elab.async false
set_option linter.all false
set_option maxHeartbeats 4000000
namespace K6
/-! ### ratios in lowest terms -/
def nm (a b : Int) : Int × Int := (a / (Nat.gcd a.natAbs b.natAbs : Nat), b / (Nat.gcd a.natAbs b.natAbs : Nat))
def tm (x y : Int × Int) : Int × Int := nm (x.1 * y.1) (x.2 * y.2)
def pl (x y : Int × Int) : Int × Int := nm (x.1 * y.2 + y.1 * x.2) (x.2 * y.2)
theorem gcd_pos {a b : Int} (h : 0 < b) : 0 < Nat.gcd a.natAbs b.natAbs := Nat.gcd_pos_of_pos_right _ (by omega)
theorem gcd_le {a b : Int} (h : 0 < b) : ((Nat.gcd a.natAbs b.natAbs : Nat) : Int) ≤ b := by
  have := Nat.le_of_dvd (by omega) (Nat.gcd_dvd_right a.natAbs b.natAbs)
  omega
theorem nm_spec (a b : Int) (h : 0 < b) : ∃ g : Int, 0 < g ∧ a = (nm a b).1 * g ∧ b = (nm a b).2 * g ∧ Int.gcd (nm a b).1 (nm a b).2 = 1 := by
  have g0 : (0 : Int) < (Int.gcd a b : Nat) := by
    have := gcd_pos (a := a) h
    show (0 : Int) < ((Nat.gcd a.natAbs b.natAbs : Nat) : Int)
    omega
  refine ⟨(Int.gcd a b : Nat), g0, ?_, ?_, ?_⟩
  · exact (Int.ediv_mul_cancel (Int.gcd_dvd_left a b)).symm
  · exact (Int.ediv_mul_cancel (Int.gcd_dvd_right a b)).symm
  · show Int.gcd (a / (Int.gcd a b : Nat)) (b / (Int.gcd a b : Nat)) = 1
    exact Int.gcd_ediv_gcd_ediv_gcd (by omega)
theorem nm_pos {a b : Int} (h : 0 < b) : 0 < (nm a b).2 := by
  obtain ⟨g, g0, _, e, _⟩ := nm_spec a b h
  rcases Int.lt_trichotomy (nm a b).2 0 with z | z | z
  · have := Int.mul_neg_of_neg_of_pos z g0
    omega
  · rw [z] at e
    omega
  · exact z
theorem nm_le {a b : Int} (h : 0 < b) : (nm a b).2 ≤ b := by
  obtain ⟨g, g0, _, e, _⟩ := nm_spec a b h
  have := Int.mul_le_mul_of_nonneg_left (show 1 ≤ g by omega) (Int.le_of_lt (nm_pos (a := a) h))
  omega
theorem nm_nn {a b : Int} (h : 0 < b) (ha : 0 ≤ a) : 0 ≤ (nm a b).1 := Int.ediv_nonneg ha (by omega)
theorem nm_le1 {a b : Int} (h : 0 < b) (ha : 0 ≤ a) : (nm a b).1 ≤ a := by
  obtain ⟨g, g0, e, _, _⟩ := nm_spec a b h
  have := Int.mul_le_mul_of_nonneg_left (show 1 ≤ g by omega) (nm_nn h ha)
  omega
theorem nm_x {a b : Int} (h : 0 < b) : (nm a b).1 * b = a * (nm a b).2 := by
  obtain ⟨g, g0, e1, e2, _⟩ := nm_spec a b h
  generalize nm a b = z at e1 e2 ⊢
  rw [e1, e2]
  ac_rfl
theorem cop_dvd {q p s : Int} (h : Int.gcd p q = 1) (d : q ∣ p * s) : q ∣ s := by
  have d' := Int.natAbs_dvd_natAbs.2 d
  rw [Int.natAbs_mul] at d'
  exact Int.natAbs_dvd_natAbs.1 (Nat.Coprime.dvd_of_dvd_mul_left (by rw [Nat.coprime_comm]; exact h) d')
theorem low_eq {p q r s : Int} (h1 : Int.gcd p q = 1) (h2 : Int.gcd r s = 1) (hq : 0 < q) (hs : 0 < s) (e : p * s = r * q) : p = r ∧ q = s := by
  have d1 : q ∣ s := cop_dvd h1 ⟨r, by rw [e, Int.mul_comm]⟩
  have d2 : s ∣ q := cop_dvd h2 ⟨p, by rw [← e, Int.mul_comm]⟩
  have e2 : q = s := Int.le_antisymm (Int.le_of_dvd hs d1) (Int.le_of_dvd hq d2)
  refine ⟨?_, e2⟩
  rw [e2] at e
  exact Int.eq_of_mul_eq_mul_right (by omega) e
theorem nm_eq {a b c d : Int} (hb : 0 < b) (hd : 0 < d) (e : a * d = c * b) : nm a b = nm c d := by
  obtain ⟨g, g0, a1, b1, l1⟩ := nm_spec a b hb
  obtain ⟨h, h0, c1, d1, l2⟩ := nm_spec c d hd
  have hp := nm_pos (a := a) hb
  have hr := nm_pos (a := c) hd
  have := low_eq l1 l2 hp hr (by
    generalize nm a b = x at *
    generalize nm c d = y at *
    rw [a1, b1, c1, d1] at e
    have e' : (x.1 * y.2) * (g * h) = (y.1 * x.2) * (g * h) := by
      have u : x.1 * g * (y.2 * h) = (x.1 * y.2) * (g * h) := by ac_rfl
      have v : y.1 * h * (x.2 * g) = (y.1 * x.2) * (g * h) := by ac_rfl
      rw [← u, ← v]
      exact e
    exact Int.eq_of_mul_eq_mul_right (Int.ne_of_gt (Int.mul_pos g0 h0)) e')
  exact Prod.ext this.1 this.2
theorem tm_nm {a b c d : Int} (hb : 0 < b) (hd : 0 < d) : tm (nm a b) (nm c d) = nm (a * c) (b * d) := by
  have h1 := nm_x (a := a) hb
  have h2 := nm_x (a := c) hd
  refine nm_eq (Int.mul_pos (nm_pos hb) (nm_pos hd)) (Int.mul_pos hb hd) ?_
  generalize nm a b = x at *
  generalize nm c d = y at *
  have u : x.1 * y.1 * (b * d) = (x.1 * b) * (y.1 * d) := by ac_rfl
  rw [u, h1, h2]
  ac_rfl
theorem pl_nm {a b n : Int} (hn : 0 < n) : pl (nm a n) (nm b n) = nm (a + b) n := by
  have h1 := nm_x (a := a) hn
  have h2 := nm_x (a := b) hn
  refine nm_eq (Int.mul_pos (nm_pos hn) (nm_pos hn)) hn ?_
  generalize nm a n = x at *
  generalize nm b n = y at *
  have u : (x.1 * y.2 + y.1 * x.2) * n = (x.1 * n) * y.2 + (y.1 * n) * x.2 := by
    rw [Int.add_mul]
    congr 1 <;> ac_rfl
  rw [u, h1, h2, Int.add_mul]
  congr 1 <;> ac_rfl
theorem nm_one {n : Int} (hn : 0 < n) : nm n n = (1, 1) := by
  have e : nm 1 1 = (1, 1) := by decide
  rw [← e]
  exact nm_eq hn (by decide) (by omega)
theorem nm_zero {n : Int} (hn : 0 < n) : nm 0 n = (0, 1) := by
  have e : nm 0 1 = (0, 1) := by decide
  rw [← e]
  exact nm_eq hn (by decide) (by omega)
theorem div_one (a : Int) : nm a 1 = (a, 1) := by
  simp [nm]
end K6

set_option Elab.async false
set_option linter.all false
set_option maxRecDepth 100000
set_option maxHeartbeats 4000000
namespace K6
open PySem PySem.Spec PyProof.Rows L2
section
variable {P : Program} {w : World} {K : PySem.W.Frag} {mg : Str → Option Value} {base : Heap}
theorem kit_lt (t : Kd) : PySem.W.kitAny K (.type t.nm) [.type "list", .type "tuple"] = some (t.isa .lst || t.isa .tup) := by
  refine kitAny_cons (kit_isa t .lst (by decide)) (fun e => ?_) (fun e => ?_)
  · rw [e, Bool.false_or]
    exact kitAny_cons (kit_isa t .tup (by decide)) (fun e => by rw [e]; exact kitAny_nil) (fun e => e)
  · rw [e, Bool.true_or]
theorem at_map {α β : Type} {g : α → β} {xs : List α} {i : Nat} {v : β} (h : (xs.map g)[i]? = some v) : ∃ x, xs[i]? = some x ∧ v = g x := by
  rw [List.getElem?_map] at h
  obtain ⟨x, e, r⟩ := Option.map_eq_some_iff.1 h
  exact ⟨x, e, r.symm⟩
theorem at_take {α : Type} {xs : List α} {i : Nat} {x : α} (h : xs[i]? = some x) : xs.take (i + 1) = xs.take i ++ [x] := by
  rw [List.take_succ, h]
  rfl
def kLen (K : PySem.W.Frag) : List V → Hp → VK → Prop := fun xs H Q => ∃ p ys, xs = [.ref p] ∧ (SqL K H p ys ∨ SqT K H p ys) ∧ Q (.int ys.length) H
def kListOf (K : PySem.W.Frag) : List V → Hp → VK → Prop := fun xs H Q => ∃ p ys, xs = [.ref p] ∧ (SqL K H p ys ∨ SqT K H p ys) ∧ ∀ l, H l = none → Q (.ref l) (upd H l (.lst ys))
def kTupOf (K : PySem.W.Frag) : List V → Hp → VK → Prop := fun xs H Q => ∃ p ys, xs = [.ref p] ∧ ((SqL K H p ys ∧ ∀ l, H l = none → Q (.ref l) (upd H l (.tup ys))) ∨ (SqT K H p ys ∧ Q (.ref p) H))
theorem u65 {k : Nat} {A : Around} (r : Room k A) : A.units + 65 < cLine := by have := r.un; omega
/-! ### is_whole -/
def wholeB : V → V → V → Bool
  | .int i, lo, hi => (match lo with
    | .int l => decide (l ≤ i)
    | _ => true) && (match hi with
    | .int h => decide (i ≤ h)
    | _ => true)
  | _, _, _ => false
inductive Lim : V → Prop
  | non : Lim .non
  | int (i : Int) : Lim (.int i)
def spWhole (K : PySem.W.Frag) : Sp := fun vs H Q _ => ∃ x lo hi, vs = [x, lo, hi] ∧ (∃ t, Th K H x t) ∧ Lim lo ∧ Lim hi ∧ Q (.bl (wholeB x lo hi)) H
theorem sc_is_whole : FnScope ["thing", "low", "high"] ["thing", "low", "high"] (defScope s_is_whole) := ⟨rfl, rfl, rfl, by decide +kernel, rfl, by decide +kernel, by decide +kernel⟩
theorem run_whole (T : Tx K mg) (f : Addr) (cdv : Value) (A : Around) (outer : List Env) (s : Shared) (H : Hp) (vs : List V) (Q : VK) (E : XK) (hr : Room 0 (A.deeper (envOfC "is_whole" (defScope s_is_whole) s.heap.objs.size f cdv))) (h : spWhole K vs H Q E) :
    ∃ t, PSs (cxOf CX0 P w K mg base ["thing", "low", "high"] "is_whole" (defScope s_is_whole) f cdv A outer s H E).nox (defBody s_is_whole) t ∧ t { nx := fun _ H' => Q .non H', rt := Q } (start ["thing", "low", "high"] vs) H := by
  obtain ⟨x, lo, hi, rfl, ⟨t, hT⟩, hlo, hhi, q⟩ := h
  refine ⟨_, (pss_cons (ps_if (PW.pt (pw_or (pt_not (pt_val (pe_callB call_isi (by rfl) T.isinstance bt_isinstance (pa_cons (pv 0) (pa_cons (pe_bltn (v := .ty "int") (by rfl) T.int bt_int rfl) pa_nil))))) (pw_or1 (pt_val (pe_callB call_isi (by rfl) T.isinstance bt_isinstance (pa_cons (pv 0) (pa_cons (pe_bltn (v := .ty "bool") (by rfl) T.bool bt_bool rfl) pa_nil))))))) (pss_one (ps_ret pe_bl)) pss_nil)
      (pss_cons (ps_if (PW.pt (pw_and (pt_cmpR op_notN (pv 1) pe_non (nomark _)) (pw_and1 (pt_cmpR op_lt (pv 0) (pv 1) (nomark _))))) (pss_one (ps_ret pe_bl)) pss_nil)
      (pss_one (ps_ret (pe_or (pe_cmpR op_isN (pv 2) pe_non (nomark _)) (pe_one (pe_cmpR op_le (pv 0) (pv 2) (nomark _)))))))), ?_⟩
  refine ⟨_, rfl, _, _, _, _, _, rfl, .ty _, hT.ty, kit_isa _ .int (by decide), _, rfl, ?_⟩
  cases hT with
  | int i =>
    refine iteF ⟨_, rfl, _, _, _, _, _, rfl, .ty _, (Th.int (K := K) (H := H) i).ty, kit_isa _ .bl (by decide), _, rfl, iteF ?_⟩
    have hlast : (¬ ∃ l, lo = .int l ∧ i < l) → tRet (tOrV (tOp (fun x y H Q => y = .non ∧ Q (.bl (decide (x = .non))) H) (tVar 2) (tC .non)) (tOp (rI0 fun i j => .bl (decide (i ≤ j))) (tVar 0) (tVar 2))) { nx := fun _ H' => Q .non H', rt := Q } [some (.int i), some lo, some hi] H := fun hl => by
      have e : wholeB (.int i) lo hi = wholeB (.int i) .non hi := by
        cases hlo with
        | non => rfl
        | int l =>
          show (decide (l ≤ i) && _) = (true && _)
          rw [decide_eq_true (Int.not_lt.mp fun z => hl ⟨l, rfl, z⟩)]
          rfl
      rw [e] at q
      cases hhi with
      | non => exact ⟨_, rfl, rfl, _, rfl, iteT q⟩
      | int h => exact ⟨_, rfl, rfl, _, rfl, iteF ⟨_, rfl, _, rfl, _, _, rfl, rfl, (by simpa [wholeB] using q)⟩⟩
    refine ?_
    cases hlo with
    | non => exact ⟨_, rfl, rfl, _, rfl, iteF (iteF (hlast (fun ⟨l, z, _⟩ => by cases z)))⟩
    | int l =>
      refine ⟨_, rfl, rfl, _, rfl, iteT ⟨_, rfl, _, rfl, _, _, rfl, rfl, _, rfl, ?_⟩⟩
      refine ite2 (fun z => ?_) (fun z => hlast fun ⟨l', e, y⟩ => z (by cases e; exact decide_eq_true y))
      have z := of_decide_eq_true z
      show Q (.bl false) H
      have e : wholeB (.int i) (.int l) hi = false := by
        show (decide (l ≤ i) && _) = false
        rw [decide_eq_false (Int.not_le.mpr z)]
        rfl
      rw [e] at q
      exact q
  | bl b =>
    exact iteF ⟨_, rfl, _, _, _, _, _, rfl, .ty _, (Th.bl (K := K) (H := H) b).ty, kit_isa _ .bl (by decide), _, rfl, iteT q⟩
  | _ => exact iteT (iteT q)
theorem whole_len {vs : List V} {H : Hp} {Q : VK} {E : XK} (h : spWhole K vs H Q E) : vs.length = 3 := by
  obtain ⟨_, _, _, rfl, _⟩ := h
  rfl
theorem c_is_whole1 (T : Tx K mg) : C8.Cal P w K mg base 1 "is_whole" (spWhole K) [.non, .non] :=
  mkCalD 1 0 (by intro z; cases z) rfl T.f_is_whole sc_is_whole (fun _ _ _ _ _ _ _ us its hl hm => match us, its, hl, hm with | [_], [_, _], _, _ => ⟨_, rfl, rfl⟩) (fun vs H Q E h => whole_len h) (fun f cdv A outer s H vs Q E hr h => run_whole T f cdv A outer s H vs Q E hr h)
theorem c_is_whole2 (T : Tx K mg) : C8.Cal P w K mg base 1 "is_whole" (spWhole K) [.non] :=
  mkCalD 2 1 (by intro z; cases z) rfl T.f_is_whole sc_is_whole (fun _ _ _ _ _ _ _ us its hl hm => match us, its, hl, hm with | [_, _], [_, _], _, _ => ⟨_, rfl, rfl⟩) (fun vs H Q E h => whole_len h) (fun f cdv A outer s H vs Q E hr h => run_whole T f cdv A outer s H vs Q E hr h)
theorem c_is_whole3 (T : Tx K mg) : C8.Cal P w K mg base 1 "is_whole" (spWhole K) [] :=
  mkCalD 3 2 (by intro z; cases z) rfl T.f_is_whole sc_is_whole (fun _ _ _ _ _ _ _ us its hl hm => match us, its, hl, hm with | [_, _, _], [_, _], _, _ => ⟨_, rfl, rfl⟩) (fun vs H Q E h => whole_len h) (fun f cdv A outer s H vs Q E hr h => run_whole T f cdv A outer s H vs Q E hr h)
/-- is_whole asked of an int -/
theorem ask_int {H : Hp} {Q : VK} {E : XK} {i : Int} {lo hi : V} {b : Bool} (h1 : Lim lo) (h2 : Lim hi) (e : wholeB (.int i) lo hi = b) (q : Q (.bl b) H) : spWhole K [.int i, lo, hi] H Q E := ⟨_, _, _, rfl, ⟨_, .int i⟩, h1, h2, by rw [e]; exact q⟩
theorem wb_in {i l h : Int} (h1 : l ≤ i) (h2 : i ≤ h) : wholeB (.int i) (.int l) (.int h) = true := by
  show (decide _ && decide _) = true
  rw [decide_eq_true h1, decide_eq_true h2]
  rfl
theorem wb_lo {i l : Int} (h1 : l ≤ i) : wholeB (.int i) (.int l) .non = true := by
  show (decide _ && true) = true
  rw [decide_eq_true h1]
  rfl
/-! ### ratios -/
def Sm (i : Int) : Prop := 0 ≤ i ∧ i < 2 ^ 60
theorem sm_log {i : Int} (h : Sm i) : i.natAbs < 2 ^ 60 := by have := h.1; have := h.2; omega
theorem sm_box {i : Int} (h : Sm i) : -(2 ^ 64) < i ∧ i < 2 ^ 64 := by have := h.1; have := h.2; omega
theorem div_ok {k i : Int} (h0 : 0 < i) (h : i < 2 ^ 64) : CDivW k i := ⟨h0, by
  have h1 : i.natAbs < 2 ^ 64 := by omega
  exact Nat.lt_of_le_of_lt (Nat.le_of_lt_succ (show i.natAbs.log2 < 64 + 1 from Nat.lt_succ_of_lt ((Nat.log2_lt (by omega)).2 h1))) (by decide)⟩
def spLow : Sp := fun vs H Q _ => ∃ a b, vs = [.int a, .int b] ∧ 0 < b ∧ b < 2 ^ 64 ∧ ∀ p, H p = none → Q (.ref p) (upd H p (.tup [.int (nm a b).1, .int (nm a b).2]))
theorem sc_in_lowest_terms : FnScope ["top", "bottom", "common"] ["top", "bottom"] (defScope s_in_lowest_terms) := ⟨rfl, rfl, rfl, by decide +kernel, rfl, by decide +kernel, by decide +kernel⟩
theorem c_in_lowest_terms (T : Tx K mg) : C8.Cal P w K mg base 1 "in_lowest_terms" spLow [] := by
  refine mkCal T.f_in_lowest_terms sc_in_lowest_terms (fun _ _ _ _ _ _ us hl => match us, hl with | [_, _], _ => rfl) (fun vs H Q E h => ?_) (fun f cdv A outer s H vs Q E hr h => ?_)
  · obtain ⟨_, _, rfl, _⟩ := h
    rfl
  obtain ⟨a, b, rfl, hb, hl, q⟩ := h
  refine ⟨_, (pss_cons (ps_set (i := 2) sc_in_lowest_terms.nd rfl (Or.inl rfl) (pe_callBfun cr_gcd (by rfl) T.gcd (pa_cons (pv 0) (pa_cons (pv 1) pa_nil))))
      (pss_one (ps_ret (pe_tup (pa_cons (pe_op op_fdivW (pv 0) (pv 2)) (pa_cons (pe_op op_fdivW (pv 1) (pv 2)) pa_nil)))))), ?_⟩
  have g0 := gcd_pos (a := a) hb
  have g1 := gcd_le (a := a) hb
  have d := fun k => div_ok (k := k) (i := ((Nat.gcd a.natAbs b.natAbs : Nat) : Int)) (by omega) (by omega)
  exact ⟨_, rfl, _, rfl, _, _, rfl, _, rfl, _, rfl, _, _, rfl, rfl, d a, _, rfl, _, rfl, _, _, rfl, rfl, d b, (by show 2 ≤ sizeLine; decide), fun p hp => q p hp⟩
/-- a share -/
def rRt (K : PySem.W.Frag) : Rl (Int × Int) := rP K rInt rInt
instance : Up (rRt K) := inferInstanceAs (Up (rP K rInt rInt))
def SmR (x : Int × Int) : Prop := 0 ≤ x.1 ∧ x.1 < 2 ^ 30 ∧ 0 < x.2 ∧ x.2 < 2 ^ 30
theorem mul_sm {a b : Int} (h0 : 0 ≤ a) (h1 : a < 2 ^ 30) (g0 : 0 ≤ b) (g1 : b < 2 ^ 30) : a * b < 2 ^ 60 := by
  have e1 : a * b ≤ a * 2 ^ 30 := Int.mul_le_mul_of_nonneg_left (by omega) h0
  have e2 : a * 2 ^ 30 < 2 ^ 30 * 2 ^ 30 := by omega
  have e3 : (2 : Int) ^ 30 * 2 ^ 30 = 2 ^ 60 := by decide
  omega
theorem rrt_new {H : Hp} {p : Addr} {x : Int × Int} : rRt K (upd H p (.tup [.int x.1, .int x.2])) (.ref p) x := ⟨p, _, _, rfl, .of upd_at, rfl, rfl⟩
def sp2R (K : PySem.W.Frag) (f : Int × Int → Int × Int → Int × Int) : Sp := fun vs H Q _ => ∃ u v x y, vs = [u, v] ∧ rRt K H u x ∧ rRt K H v y ∧ SmR x ∧ SmR y ∧ ∀ p, H p = none → Q (.ref p) (upd H p (.tup [.int (f x y).1, .int (f x y).2]))
theorem sc_times : FnScope ["one", "other"] ["one", "other"] (defScope s_times) := ⟨rfl, rfl, rfl, by decide +kernel, rfl, by decide +kernel, by decide +kernel⟩
theorem c_times (T : Tx K mg) : C8.Cal P w K mg base 2 "times" (sp2R K tm) [] := by
  refine mkCal T.f_times sc_times (fun _ _ _ _ _ _ us hl => match us, hl with | [_, _], _ => rfl) (fun vs H Q E h => ?_) (fun f cdv A outer s H vs Q E hr h => ?_)
  · obtain ⟨_, _, _, _, rfl, _⟩ := h
    rfl
  obtain ⟨_, _, ⟨x1, x2⟩, ⟨y1, y2⟩, rfl, ⟨a, _, _, rfl, ha, rfl, rfl⟩, ⟨b, _, _, rfl, hb, rfl, rfl⟩, ⟨s1, s2, s3, s4⟩, ⟨t1, t2, t3, t4⟩, q⟩ := h
  refine ⟨_, (pss_one (ps_ret (C8.pe_c (c_in_lowest_terms T) hr (by decide) (by rfl) (pa_cons (pe_op op_mul (pe_ix ix_tup (pv 0) pe_int (fun _ _ => rfl)) (pe_ix ix_tup (pv 1) pe_int (fun _ _ => rfl))) (pa_cons (pe_op op_mul (pe_ix ix_tup (pv 0) pe_int (fun _ _ => rfl)) (pe_ix ix_tup (pv 1) pe_int (fun _ _ => rfl))) pa_nil))))), ?_⟩
  exact ⟨_, rfl, _, _, _, _, rfl, rfl, ha, rfl, _, rfl, _, _, _, _, rfl, rfl, hb, rfl, _, _, rfl, rfl, .inl ⟨by simp only at *; omega, by simp only at *; omega⟩, _, rfl, _, _, _, _, rfl, rfl, ha, rfl, _, rfl, _, _, _, _, rfl, rfl, hb, rfl, _, _, rfl, rfl, .inl ⟨by simp only at *; omega, by simp only at *; omega⟩, _, _, rfl, Int.mul_pos s3 t3, Int.lt_trans (mul_sm (Int.le_of_lt s3) s4 (Int.le_of_lt t3) t4) (by decide), q⟩
theorem sc_plus : FnScope ["one", "other"] ["one", "other"] (defScope s_plus) := ⟨rfl, rfl, rfl, by decide +kernel, rfl, by decide +kernel, by decide +kernel⟩
theorem c_plus (T : Tx K mg) : C8.Cal P w K mg base 2 "plus" (sp2R K pl) [] := by
  refine mkCal T.f_plus sc_plus (fun _ _ _ _ _ _ us hl => match us, hl with | [_, _], _ => rfl) (fun vs H Q E h => ?_) (fun f cdv A outer s H vs Q E hr h => ?_)
  · obtain ⟨_, _, _, _, rfl, _⟩ := h
    rfl
  obtain ⟨_, _, ⟨x1, x2⟩, ⟨y1, y2⟩, rfl, ⟨a, _, _, rfl, ha, rfl, rfl⟩, ⟨b, _, _, rfl, hb, rfl, rfl⟩, ⟨s1, s2, s3, s4⟩, ⟨t1, t2, t3, t4⟩, q⟩ := h
  refine ⟨_, (pss_cons (ps_if (PW.pt (pw_and (pt_cmpR op_eq (pe_ix ix_tup (pv 0) pe_int (fun _ _ => rfl)) pe_int (nomark _)) (pw_and1 (pt_cmpR op_eq (pe_ix ix_tup (pv 1) pe_int (fun _ _ => rfl)) pe_int (nomark _))))) (pss_one (ps_ret (pe_tup (pa_cons (pe_op op_add (pe_ix ix_tup (pv 0) pe_int (fun _ _ => rfl)) (pe_ix ix_tup (pv 1) pe_int (fun _ _ => rfl))) (pa_cons pe_int pa_nil))))) pss_nil)
      (pss_one (ps_ret (C8.pe_c (c_in_lowest_terms T) hr (by decide) (by rfl) (pa_cons (pe_op op_add (pe_op op_mul (pe_ix ix_tup (pv 0) pe_int (fun _ _ => rfl)) (pe_ix ix_tup (pv 1) pe_int (fun _ _ => rfl))) (pe_op op_mul (pe_ix ix_tup (pv 1) pe_int (fun _ _ => rfl)) (pe_ix ix_tup (pv 0) pe_int (fun _ _ => rfl)))) (pa_cons (pe_op op_mul (pe_ix ix_tup (pv 0) pe_int (fun _ _ => rfl)) (pe_ix ix_tup (pv 1) pe_int (fun _ _ => rfl))) pa_nil)))))), ?_⟩
  simp only at s1 s2 s3 s4 t1 t2 t3 t4
  have hz : tRet (tCall spLow [] E0 (tCons (tOp (rI0 fun i j => .int (i + j)) (tOp (rI CMul fun i j => .int (i * j)) (tOp (rIxT K) (tVar 0) (tC (.int 0))) (tOp (rIxT K) (tVar 1) (tC (.int 1)))) (tOp (rI CMul fun i j => .int (i * j)) (tOp (rIxT K) (tVar 1) (tC (.int 0))) (tOp (rIxT K) (tVar 0) (tC (.int 1))))) (tCons (tOp (rI CMul fun i j => .int (i * j)) (tOp (rIxT K) (tVar 0) (tC (.int 1))) (tOp (rIxT K) (tVar 1) (tC (.int 1)))) tNil))) { nx := fun _ H' => Q .non H', rt := Q } [some (.ref a), some (.ref b)] H :=
    ⟨_, rfl, _, _, _, _, rfl, rfl, ha, rfl, _, rfl, _, _, _, _, rfl, rfl, hb, rfl, _, _, rfl, rfl, .inl ⟨by omega, by omega⟩, _, rfl, _, _, _, _, rfl, rfl, hb, rfl, _, rfl, _, _, _, _, rfl, rfl, ha, rfl, _, _, rfl, rfl, .inl ⟨by omega, by omega⟩, _, _, rfl, rfl,
      _, rfl, _, _, _, _, rfl, rfl, ha, rfl, _, rfl, _, _, _, _, rfl, rfl, hb, rfl, _, _, rfl, rfl, .inl ⟨by omega, by omega⟩, _, _, rfl, Int.mul_pos s3 t3, Int.lt_trans (mul_sm (Int.le_of_lt s3) s4 (Int.le_of_lt t3) t4) (by decide), q⟩
  refine ⟨_, rfl, _, _, _, _, rfl, rfl, ha, rfl, rfl, _, rfl, ?_⟩
  refine ite2 (fun e1 => ⟨_, rfl, _, _, _, _, rfl, rfl, hb, rfl, rfl, _, rfl, ite2 (fun e2 => ?_) (fun _ => hz)⟩) (fun _ => iteF hz)
  have e1 : x2 = 1 := by simpa using e1
  have e2 : y2 = 1 := by simpa using e2
  subst e1 e2
  refine ⟨_, rfl, _, _, _, _, rfl, rfl, ha, rfl, _, rfl, _, _, _, _, rfl, rfl, hb, rfl, _, _, rfl, rfl, (by show 2 ≤ sizeLine; decide), fun p hp => ?_⟩
  have := q p hp
  rw [show pl (x1, 1) (y1, 1) = (x1 + y1, 1) from by simp [pl, div_one]] at this
  exact this
end
end K6

set_option Elab.async false
set_option linter.all false
set_option maxRecDepth 100000
set_option maxHeartbeats 4000000
namespace K6
open PySem PySem.Spec PyProof.Rows L2
section
variable {P : Program} {w : World} {K : PySem.W.Frag} {mg : Str → Option Value} {base : Heap}
theorem take_snoc {α : Type} {xs : List α} {i : Nat} {x : α} (h : xs[i]? = some x) : xs.take (i + 1) = xs.take i ++ [x] := by
  rw [List.take_succ, h]
  rfl
theorem drop_cons {α : Type} {xs : List α} {i : Nat} {x : α} (h : xs[i]? = some x) : xs.drop i = x :: xs.drop (i + 1) := by
  obtain ⟨hi, rfl⟩ := List.getElem?_eq_some_iff.1 h
  exact List.drop_eq_getElem_cons hi
theorem drop_all {α : Type} {xs : List α} {i : Nat} (h : xs.length ≤ i) : xs.drop i = [] := List.drop_eq_nil_of_le h
/-! ### a share by its sixths; sum_of -/
def rSh (K : PySem.W.Frag) : Rl Int := fun G v k => rRt K G v (nm k 6)
instance : Up (rSh K) := ⟨fun e h => Up.up (R := rRt K) e h⟩
theorem sm_nm {a b : Int} (hb : 0 < b) (h1 : b < 2 ^ 30) (ha : 0 ≤ a) (h2 : a < 2 ^ 30) : SmR (nm a b) :=
  ⟨nm_nn hb ha, Int.lt_of_le_of_lt (nm_le1 hb ha) h2, nm_pos hb, Int.lt_of_le_of_lt (nm_le hb) h1⟩
theorem sum_part : ∀ (ks : List Int) (i : Nat), (∀ k ∈ ks, 0 ≤ k) → 0 ≤ (ks.take i).sum ∧ (ks.take i).sum ≤ ks.sum
  | [], i, _ => by simp
  | k :: ks, 0, h => by
    have := (sum_part ks 0 fun z m => h z (.tail _ m)).2
    have := h k (.head _)
    have e : (ks.take 0).sum = 0 := rfl
    rw [List.sum_cons]
    exact ⟨Int.le_refl _, by show (0 : Int) ≤ _; omega⟩
  | k :: ks, i + 1, h => by
    have := sum_part ks i fun z m => h z (.tail _ m)
    have := h k (.head _)
    rw [List.take_succ_cons, List.sum_cons, List.sum_cons]
    omega
def spSum (K : PySem.W.Frag) : Sp := fun vs H Q _ => ∃ a xs ks, vs = [.ref a] ∧ Sq K H a xs ∧ Paired (rSh K H) xs ks ∧ (∀ k ∈ ks, 0 ≤ k) ∧ ks.sum = 6 ∧ ∀ H' v, Same H H' → rRt K H' v (1, 1) → Q v H'
theorem sc_sum_of : FnScope ["ratios", "total", "ratio"] ["ratios"] (defScope s_sum_of) := ⟨rfl, rfl, rfl, by decide +kernel, rfl, by decide +kernel, by decide +kernel⟩
theorem c_sum_of (T : Tx K mg) : C8.Cal P w K mg base 3 "sum_of" (spSum K) [] := by
  refine mkCal T.f_sum_of sc_sum_of (fun _ _ _ _ _ _ us hl => match us, hl with | [_], _ => rfl) (fun vs H Q E h => ?_) (fun f cdv A outer s H vs Q E hr h => ?_)
  · obtain ⟨_, _, _, rfl, _⟩ := h
    rfl
  obtain ⟨a, xs, ks, rfl, hx, hp, h0, h6, q⟩ := h
  obtain ⟨z, hZ⟩ := T.ZERO
  refine ⟨_, (pss_cons (ps_set (i := 1) sc_sum_of.nd rfl (Or.inl rfl) (pe_glob (v := V.ref _) (by rfl) hZ.1 rfl))
      (pss_cons (ps_for PassesOwn.never rfl (pi_seq (pv 0)) (pg_name (i := 2) sc_sum_of.nd rfl (Or.inl rfl)) (pss_one (ps_set (i := 1) sc_sum_of.nd rfl (Or.inl rfl) (C8.pe_c (c_plus T) hr (by decide) (by rfl) (pa_cons (pv 1) (pa_cons (pv 2) pa_nil))))))
      (pss_one (ps_ret (pv 1))))), ?_⟩
  refine ⟨_, rfl, a, xs, rfl, fr_seq hx (fun i σ H' => Same H H' ∧ ∃ t r, σ = [some (.ref a), some t, r] ∧ rRt K H' t (nm (ks.take i).sum 6))
    ⟨.refl _, _, _, rfl, by rw [show (ks.take 0).sum = 0 from rfl, nm_zero (by decide)]; exact ⟨z, _, _, rfl, hZ.2 _, rfl, rfl⟩⟩ (fun _ _ _ h => h.1) (fun i v σ H1 hv ⟨e, t, r, es, ht⟩ => ?_) (fun σ H1 ⟨e, t, r, es, ht⟩ => ?_)⟩
  · subst es
    obtain ⟨k, hk, hr2⟩ := paired_at hp hv
    have p1 := sum_part ks i h0
    have k0 := h0 k (List.mem_of_getElem? hk)
    have p2 := sum_part ks (i + 1) h0
    rw [take_snoc hk, List.sum_append, List.sum_singleton] at p2
    refine ⟨_, rfl, _, rfl, _, _, _, _, rfl, ht, Up.up e hr2, sm_nm (by decide) (by decide) p1.1 (by omega), sm_nm (by decide) (by decide) k0 (by omega), fun p hp => ?_⟩
    refine ⟨e.trans (same_new hp), _, _, rfl, ?_⟩
    rw [take_snoc hk, List.sum_append, List.sum_singleton, ← pl_nm (by decide)]
    exact rrt_new
  · subst es
    rw [show xs.length = ks.length from Paired.length hp, List.take_length, h6, nm_one (by decide)] at ht
    exact ⟨_, rfl, q H1 t e ht⟩
/-! ### is_ratio -/
def spRat (K : PySem.W.Frag) : Sp := fun vs H Q _ => ∃ v x, vs = [v] ∧ rRt K H v x ∧ 0 < x.2 ∧ Int.gcd x.1 x.2 = 1 ∧ Q (.bl true) H
theorem sc_is_ratio : FnScope ["thing"] ["thing"] (defScope s_is_ratio) := ⟨rfl, rfl, rfl, by decide +kernel, rfl, by decide +kernel, by decide +kernel⟩
theorem c_is_ratio (T : Tx K mg) : C8.Cal P w K mg base 2 "is_ratio" (spRat K) [] := by
  refine mkCal T.f_is_ratio sc_is_ratio (fun _ _ _ _ _ _ us hl => match us, hl with | [_], _ => rfl) (fun vs H Q E h => ?_) (fun f cdv A outer s H vs Q E hr h => ?_)
  · obtain ⟨_, _, rfl, _⟩ := h
    rfl
  obtain ⟨v, ⟨x1, x2⟩, rfl, ⟨a, _, _, rfl, hT, rfl, rfl⟩, h0, h1, q⟩ := h
  refine ⟨_, (pss_cons (ps_if (PW.pt (pw_or (pt_not (pt_val (pe_callB call_isi (by rfl) T.isinstance bt_isinstance (pa_cons (pv 0) (pa_cons (pe_bltn (v := .ty "tuple") (by rfl) T.tuple bt_tuple rfl) pa_nil))))) (pw_or1 (pt_cmpR op_ne (pe_callB call_len_seq (by rfl) T.len bt_len (pa_cons (pv 0) pa_nil)) pe_int (nomark _))))) (pss_one (ps_ret pe_bl)) pss_nil)
      (pss_cons (ps_if (PW.pt (pw_or (pt_not (pt_val (C8.pe_c (c_is_whole1 T) hr (by decide) (by rfl) (pa_cons (pe_ix ix_tup (pv 0) pe_int (fun _ _ => rfl)) pa_nil)))) (pw_or1 (pt_not (pt_val (C8.pe_c (c_is_whole2 T) hr (by decide) (by rfl) (pa_cons (pe_ix ix_tup (pv 0) pe_int (fun _ _ => rfl)) (pa_cons pe_int pa_nil)))))))) (pss_one (ps_ret pe_bl)) pss_nil)
      (pss_one (ps_ret (pe_cmpR op_eq (pe_callBfun cr_gcd (by rfl) T.gcd (pa_cons (pe_ix ix_tup (pv 0) pe_int (fun _ _ => rfl)) (pa_cons (pe_ix ix_tup (pv 0) pe_int (fun _ _ => rfl)) pa_nil))) pe_int (nomark _)))))), ?_⟩
  refine ⟨_, rfl, _, _, _, _, _, rfl, .ty _, (Th.tup hT).ty, kit_isa _ .tup (by decide), _, rfl, iteF ⟨_, rfl, _, _, rfl, .inr hT, rfl, _, rfl, iteF ?_⟩⟩
  refine ⟨_, rfl, _, _, _, _, rfl, rfl, hT, rfl, _, _, _, rfl, ⟨_, .int _⟩, .non, .non, _, rfl, iteF ⟨_, rfl, _, _, _, _, rfl, rfl, hT, rfl, _, _, _, rfl, ⟨_, .int _⟩, .int _, .non, _, rfl, ?_⟩⟩
  rw [wb_lo (show 1 ≤ x2 from h0)]
  refine iteF ?_
  refine ⟨_, rfl, _, _, _, _, rfl, rfl, hT, rfl, _, rfl, _, _, _, _, rfl, rfl, hT, rfl, _, _, rfl, rfl, ?_⟩
  rw [show decide (V.int ((Nat.gcd x1.natAbs x2.natAbs : Nat) : Int) = V.int 1) = true from decide_eq_true (by rw [show Nat.gcd x1.natAbs x2.natAbs = 1 from h1]; rfl)]
  exact q
/-! ### names -/
def smallZ : Str := "abcdefghijklmnopqrstuvwxyz"
def NameOk (z : Str) : Prop := 1 ≤ z.cps.size ∧ z.cps.size ≤ 8 ∧ ∀ (i c : Nat), z.cps[i]? = some c → c ∈ smallZ.cps.toList
theorem paired_bls : ∀ {vs : List V} {ns : List Bool} {G : Hp}, Paired (rBl G) vs ns → vs = ns.map V.bl
  | _, _, _, .nil => rfl
  | _, _, _, .cons r t => by rw [List.map_cons, ← paired_bls t, show _ = V.bl _ from r]
theorem all_id {bs : List Bool} (h : ∀ b ∈ bs, b = true) : bs.all id = true := List.all_eq_true.2 fun b m => h b m
def spName : Sp := fun vs H Q _ => ∃ z, vs = [.str z] ∧ NameOk z ∧ ∀ H', Same H H' → Q (.bl true) H'
theorem sc_is_name : FnScope ["thing", "sign"] ["thing"] (defScope s_is_name) := ⟨rfl, rfl, rfl, by decide +kernel, rfl, by decide +kernel, by decide +kernel⟩
theorem c_is_name (T : Tx K mg) : C8.Cal P w K mg base 1 "is_name" spName [] := by
  refine mkCal T.f_is_name sc_is_name (fun _ _ _ _ _ _ us hl => match us, hl with | [_], _ => rfl) (fun vs H Q E h => ?_) (fun f cdv A outer s H vs Q E hr h => ?_)
  · obtain ⟨_, rfl, _⟩ := h
    rfl
  obtain ⟨z, rfl, ⟨z1, z8, zc⟩, q⟩ := h
  obtain ⟨t, hS⟩ := T.SMALL
  refine ⟨_, (pss_cons (ps_if (PW.pt (pw_or (pt_not (pt_val (pe_callB call_isi (by rfl) T.isinstance bt_isinstance (pa_cons (pv 0) (pa_cons (pe_bltn (v := .ty "str") (by rfl) T.str bt_str rfl) pa_nil))))) (pw_or1 (pt_not (pt_chain op_le op_le pe_int (pe_callB call_len_str (by rfl) T.len bt_len (pa_cons (pv 0) pa_nil)) pe_int))))) (pss_one (ps_ret pe_bl)) pss_nil)
      (pss_one (ps_ret (pe_callB (cr_all rfl) (by rfl) T.all bt_all (pa_cons (pe_lc (own := [("sign", 1)]) rfl sc_is_name.nd (pi_str (pv 0)) (blkOk_by (own := [("sign", 1)]) (N := ["thing", "sign"]) (sc := defScope s_is_name) (by decide +kernel)) (fun _ _ _ _ _ => (pg_name (i := 1) sc_is_name.nd rfl (Or.inl rfl))) (fun _ _ _ _ _ => pts_nil) (fun _ _ _ _ _ => (pe_cmpR op_in_sign (pv 1) (pe_glob (v := V.str _) (by rfl) hS ⟨_, rfl⟩) (by rfl)))) pa_nil))))), ?_⟩
  have zl : z.length = z.cps.size := rfl
  refine ⟨_, rfl, _, _, _, _, _, rfl, .ty _, (Th.str (K := K) (H := H) z).ty, kit_isa _ .str (by decide), _, rfl, iteF ⟨_, rfl, _, rfl, by rw [zl]; exact small_of (by omega), _, _, rfl, rfl, _, rfl, ?_⟩⟩
  rw [zl, decide_eq_true (show (1 : Int) ≤ (z.cps.size : Nat) by omega)]
  refine iteT ⟨_, _, rfl, rfl, _, rfl, ?_⟩
  rw [decide_eq_true (show ((z.cps.size : Nat) : Int) ≤ 8 by omega)]
  refine iteF ⟨_, rfl, _, rfl, ?_⟩
  refine lcW (K := K) (S := rBl) (M := M0) (J := JT) (G := H) (Rel := fun i ys => ys.length = i ∧ ∀ y ∈ ys, y = true) walk_str (.refl _) (fun _ _ => trivial) (fun _ _ z => z) jt_ok trivial ⟨rfl, fun _ m => nomatch m⟩
    (fun L hL i x H1 H1' G1 vs ys hi I ⟨e, c, hc, hx⟩ => ?_) (fun G' H' L ys gr hl r _ hL => ?_)
  · subst e hx
    refine ⟨rfl, tyes ?_⟩
    refine ⟨_, rfl, c, _, rfl, rfl, ?_⟩
    refine lc_put I hL (fun z => z) jt_ok (.refl I.gr.gh) trivial rfl ⟨by rw [List.length_append, I.rel.1]; rfl, ?_⟩ (by have := I.rel.1; omega)
    intro y hy
    rcases List.mem_append.1 hy with m | m
    · exact I.rel.2 y m
    · rw [List.mem_singleton.1 m]
      exact decide_eq_true (zc i c hc)
  · obtain ⟨b, us, e, hs, hp⟩ := hl
    have e := V.ref.inj e
    subst e
    refine ⟨L, ys, rfl, gr.gh.seq (by rw [← paired_bls hp]; exact hs), ?_⟩
    rw [all_id r.2]
    exact q _ gr.all
/-! ### wires -/
abbrev Wire := Str × Int
def rW (K : PySem.W.Frag) : Rl Wire := rP K rStr rInt
instance : Up (rW K) := inferInstanceAs (Up (rP K rStr rInt))
def WireOk (x : Wire) : Prop := NameOk x.1 ∧ 2 ≤ x.2 ∧ x.2 ≤ 4
def spWire (K : PySem.W.Frag) : Sp := fun vs H Q _ => ∃ v x, vs = [v] ∧ rW K H v x ∧ WireOk x ∧ ∀ H', Same H H' → Q (.bl true) H'
theorem sc_is_wire : FnScope ["thing"] ["thing"] (defScope s_is_wire) := ⟨rfl, rfl, rfl, by decide +kernel, rfl, by decide +kernel, by decide +kernel⟩
theorem c_is_wire (T : Tx K mg) : C8.Cal P w K mg base 2 "is_wire" (spWire K) [] := by
  refine mkCal T.f_is_wire sc_is_wire (fun _ _ _ _ _ _ us hl => match us, hl with | [_], _ => rfl) (fun vs H Q E h => ?_) (fun f cdv A outer s H vs Q E hr h => ?_)
  · obtain ⟨_, _, rfl, _⟩ := h
    rfl
  obtain ⟨v, ⟨z, n⟩, rfl, ⟨a, _, _, rfl, hT, rfl, rfl⟩, ⟨hz, h2, h4⟩, q⟩ := h
  refine ⟨_, (pss_cons (ps_if (PW.pt (pw_or (pt_not (pt_val (pe_callB call_isiT (by rfl) T.isinstance bt_isinstance (pa_cons (pv 0) (pa_cons (pe_tup (pa_cons (pe_bltn (v := .ty "list") (by rfl) T.list bt_list rfl) (pa_cons (pe_bltn (v := .ty "tuple") (by rfl) T.tuple bt_tuple rfl) pa_nil))) pa_nil))))) (pw_or1 (pt_cmpR op_ne (pe_callB call_len_seq (by rfl) T.len bt_len (pa_cons (pv 0) pa_nil)) pe_int (nomark _))))) (pss_one (ps_ret pe_bl)) pss_nil)
      (pss_one (ps_ret (pe_and (C8.pe_c (c_is_name T) hr (by decide) (by rfl) (pa_cons (pe_ix ix_tup (pv 0) pe_int (fun _ _ => rfl)) pa_nil)) (pe_one (C8.pe_c (c_is_whole3 T) hr (by decide) (by rfl) (pa_cons (pe_ix ix_tup (pv 0) pe_int (fun _ _ => rfl)) (pa_cons pe_int (pa_cons pe_int pa_nil))))))))), ?_⟩
  refine ⟨_, rfl, (by show 2 ≤ sizeLine; decide), fun p hp =>  ⟨_, _, _, _, _, _, rfl, upd_at, .cons (.ty _) (.cons (.ty _) .nil), ((Th.tup (sqt_up (same_new hp) hT))).ty, kit_lt _, _, rfl, ?_⟩⟩
  refine iteF ⟨_, rfl, _, _, rfl, .inr (sqt_up (same_new hp) hT), rfl, _, rfl, iteF ?_⟩
  refine ⟨_, rfl, _, _, _, _, rfl, rfl, sqt_up (same_new hp) hT, rfl, z, rfl, hz, fun H1 e1 => ⟨_, rfl, iteT ⟨_, rfl, _, _, _, _, rfl, rfl, sqt_up ((same_new hp).trans e1) hT, rfl, _, _, _, rfl, ⟨_, .int _⟩, .int _, .int _, ?_⟩⟩⟩
  rw [wb_in h2 h4]
  exact q _ ((same_new hp).trans e1)
/-! ### fillings -/
def prodI (ns : List Int) : Int := ns.foldl (· * ·) 1
def SizeOk (n : Int) : Prop := 0 < n ∧ n < 1000
def spMany (K : PySem.W.Frag) : Sp := fun vs H Q _ => ∃ a ns, vs = [.ref a] ∧ Sq K H a (ns.map V.int) ∧ (∀ n ∈ ns, SizeOk n) ∧ Q (.int (prodI ns)) H
theorem sc_count_fillings : FnScope ["sizes", "many", "size"] ["sizes"] (defScope s_count_fillings) := ⟨rfl, rfl, rfl, by decide +kernel, rfl, by decide +kernel, by decide +kernel⟩
theorem c_count_fillings (T : Tx K mg) : C8.Cal P w K mg base 1 "count_fillings" (spMany K) [] := by
  refine mkCal T.f_count_fillings sc_count_fillings (fun _ _ _ _ _ _ us hl => match us, hl with | [_], _ => rfl) (fun vs H Q E h => ?_) (fun f cdv A outer s H vs Q E hr h => ?_)
  · obtain ⟨_, _, rfl, _⟩ := h
    rfl
  obtain ⟨a, ns, rfl, hx, hn, q⟩ := h
  refine ⟨_, (pss_cons (ps_set (i := 1) sc_count_fillings.nd rfl (Or.inl rfl) pe_int)
      (pss_cons (ps_for PassesOwn.never rfl (pi_seq (pv 0)) (pg_name (i := 2) sc_count_fillings.nd rfl (Or.inl rfl)) (pss_one (ps_set (i := 1) sc_count_fillings.nd rfl (Or.inl rfl) (pe_op op_mul (pv 1) (pv 2)))))
      (pss_one (ps_ret (pv 1))))), ?_⟩
  refine ⟨_, rfl, a, _, rfl, fr_seq hx (fun i σ H' => H' = H ∧ ∃ r, σ = [some (.ref a), some (.int (prodI (ns.take i))), r])
    ⟨rfl, _, rfl⟩ (fun _ _ _ h => h.1 ▸ .refl _) (fun i v σ H1 hv ⟨e, r, es⟩ => ?_) (fun σ H1 ⟨e, r, es⟩ => ?_)⟩
  · subst es e
    obtain ⟨n, hk, rfl⟩ := at_map hv
    have := hn n (List.mem_of_getElem? hk)
    refine ⟨_, rfl, _, rfl, _, _, rfl, rfl, .inr ⟨by have := this.1; omega, by have := this.2; omega⟩, rfl, some (.int n), ?_⟩
    rw [take_snoc hk, prodI, prodI, List.foldl_append]
    rfl
  · subst es e
    rw [List.length_map, List.take_length]
    exact ⟨_, rfl, q⟩
/-- the first place that is wrong -/
def fwV : List Int → List V → Nat → V
  | [], [], _ => .non
  | [], _ :: _, i => .int i
  | _ :: _, [], i => .int i
  | s :: ss, x :: xs, i => if wholeB x (.int 0) (.int (s - 1)) = true then fwV ss xs (i + 1) else .int i
theorem fwV_long : ∀ {xs : List V} {i : Nat}, xs ≠ [] → fwV [] xs i = .int i
  | [], _, h => absurd rfl h
  | _ :: _, _, _ => rfl
theorem ix_any {H : Hp} {a : Addr} {xs : List V} {i : Nat} {v : V} {Q : VK} (h : Sq K H a xs) (e : xs[i]? = some v) (q : Q v H) : rIx K (.ref a) (.int (i : Nat)) H Q :=
  h.elim (fun h => .inl ⟨_, _, _, _, rfl, rfl, h, atI_nat e, q⟩) (fun h => .inr (.inl ⟨_, _, _, _, rfl, rfl, h, atI_nat e, q⟩))
/-- what first_wrong answers -/
def FW (K : PySem.W.Frag) (H : Hp) (ss : List Int) (x : V) (r : V) (o : Option (List V)) : Prop := (∃ t, Th K H x t ∧ (t.isa .lst || t.isa .tup) = false ∧ r = .int 0 ∧ o = none) ∨ (∃ b xs, x = .ref b ∧ Sq K H b xs ∧ (∀ v ∈ xs, ∃ t, Th K H v t) ∧ r = fwV ss xs 0 ∧ o = some xs)
theorem FW.up {H H' : Hp} {ss : List Int} {x r : V} {o : Option (List V)} (e : Same H H') (h : FW K H ss x r o) : FW K H' ss x r o := by
  rcases h with ⟨t, h1, h2, h3⟩ | ⟨b, xs, h1, h2, h3, h4⟩
  · exact .inl ⟨t, h1.up e, h2, h3⟩
  · exact .inr ⟨b, xs, h1, h2.up e, fun v m => (h3 v m).imp fun t h => h.up e, h4⟩
def spFw (K : PySem.W.Frag) : Sp := fun vs H Q _ => ∃ a ss x r o, vs = [.ref a, x, .bl false] ∧ Sq K H a (ss.map V.int) ∧ FW K H ss x r o ∧ ∀ H', Same H H' → Q r H'
theorem sc_first_wrong : FnScope ["sizes", "worths", "unknown", "place", "size"] ["sizes", "worths", "unknown"] (defScope s_first_wrong) := ⟨rfl, rfl, rfl, by decide +kernel, rfl, by decide +kernel, by decide +kernel⟩
theorem run_fw (T : Tx K mg) (f : Addr) (cdv : Value) (A : Around) (outer : List Env) (s : Shared) (H : Hp) (vs : List V) (Q : VK) (E : XK) (hr : Room 1 (A.deeper (envOfC "first_wrong" (defScope s_first_wrong) s.heap.objs.size f cdv))) (h : spFw K vs H Q E) :
    ∃ t, PSs (cxOf CX0 P w K mg base ["sizes", "worths", "unknown", "place", "size"] "first_wrong" (defScope s_first_wrong) f cdv A outer s H E).nox (defBody s_first_wrong) t ∧ t { nx := fun _ H' => Q .non H', rt := Q } (start ["sizes", "worths", "unknown", "place", "size"] vs) H := by
  obtain ⟨a, ss, x, r, oo, rfl, hx, h, q⟩ := h
  refine ⟨_, (pss_cons (ps_if (pt_not (pt_val (pe_callB call_isiT (by rfl) T.isinstance bt_isinstance (pa_cons (pv 1) (pa_cons (pe_tup (pa_cons (pe_bltn (v := .ty "list") (by rfl) T.list bt_list rfl) (pa_cons (pe_bltn (v := .ty "tuple") (by rfl) T.tuple bt_tuple rfl) pa_nil))) pa_nil))))) (pss_one (ps_ret pe_int)) pss_nil)
      (pss_cons (ps_for PassesOwn.never rfl (pi_enumA (by rfl) T.enumerate (pa_cons (pv 0) pa_nil)) (pg_tup rfl (pgs_cons (pg_name (i := 3) sc_first_wrong.nd rfl (Or.inl rfl)) (pgs_cons (pg_name (i := 4) sc_first_wrong.nd rfl (Or.inl rfl)) pgs_nil))) (pss_cons (ps_if (pt_cmpR op_ge (pv 3) (pe_callB call_len_seq (by rfl) T.len bt_len (pa_cons (pv 1) pa_nil)) (nomark _)) (pss_one (ps_ret (pv 3))) pss_nil)
      (pss_cons (ps_if (PW.pt (pw_and (pt_val (pv 2)) (pw_and1 (pt_cmpR op_isN (pe_ix ix_seq (pv 1) (pv 3) (fun _ _ => rfl)) pe_non (nomark _))))) (pss_one ps_continue) pss_nil)
      (pss_one (ps_if (pt_not (pt_val (C8.pe_c (c_is_whole3 T) hr (by decide) (by rfl) (pa_cons (pe_ix ix_seq (pv 1) (pv 3) (fun _ _ => rfl)) (pa_cons pe_int (pa_cons (pe_op op_sub (pv 4) pe_int) pa_nil)))))) (pss_one (ps_ret (pv 3))) pss_nil)))))
      (pss_one (ps_ret (pe_ifExp (pt_cmpR op_gt (pe_callB call_len_seq (by rfl) T.len bt_len (pa_cons (pv 1) pa_nil)) (pe_callB call_len_seq (by rfl) T.len bt_len (pa_cons (pv 0) pa_nil)) (nomark _)) (pe_callB call_len_seq (by rfl) T.len bt_len (pa_cons (pv 0) pa_nil)) pe_non))))), ?_⟩
  rcases h with ⟨t, hT, ht, rfl, _⟩ | ⟨b, xs, rfl, hb, hth, rfl, _⟩
  · refine ⟨_, rfl, (by show 2 ≤ sizeLine; decide), fun p hp =>  ⟨_, _, _, _, _, _, rfl, upd_at, .cons (.ty _) (.cons (.ty _) .nil), ((hT.up (same_new hp))).ty, kit_lt _, _, rfl, ?_⟩⟩
    rw [ht]
    exact iteT (q _ (same_new hp))
  have hT : ∃ t, Th K H (.ref b) t ∧ (t.isa .lst || t.isa .tup) = true := by
    rcases hb with hb | hb
    · exact ⟨_, .lst hb, rfl⟩
    · exact ⟨_, .tup hb, rfl⟩
  obtain ⟨t, hT, ht⟩ := hT
  refine ⟨_, rfl, (by show 2 ≤ sizeLine; decide), fun p hp =>  ⟨_, _, _, _, _, _, rfl, upd_at, .cons (.ty _) (.cons (.ty _) .nil), ((hT.up (same_new hp))).ty, kit_lt _, _, rfl, ?_⟩⟩
  rw [ht]
  have e0 := same_new (o := .tup [.ty "list", .ty "tuple"]) hp
  refine iteF ⟨_, rfl, a, _, rfl, fr_enum (hx.up e0) (fun i σ H' => Same (upd H p (.tup [.ty "list", .ty "tuple"])) H' ∧ ∃ r r', σ = [some (.ref a), some (.ref b), some (.bl false), r, r'] ∧ fwV (ss.drop i) (xs.drop i) i = fwV ss xs 0)
    ⟨.refl _, _, _, rfl, rfl⟩ (fun i σ H' h => h.1) (fun i v σ H1 H2 hv ⟨e, r, r', es, ef⟩ e2 => ?_) (fun σ H1 ⟨e, r, r', es, ef⟩ => ?_)⟩
  · subst es
    obtain ⟨n, hk, rfl⟩ := at_map hv
    have e3 := e.trans e2
    have e' := e0.trans e3
    rw [drop_cons hk] at ef
    have hb2 := hb.up e'
    refine ⟨_, rfl, _, rfl, b, _, rfl, hb2, _, _, rfl, rfl, _, rfl, ?_⟩
    cases hxi : xs[i]? with
    | none =>
      have hl := List.getElem?_eq_none_iff.1 hxi
      rw [drop_all hl] at ef
      rw [decide_eq_true (show ((xs.length : Nat) : Int) ≤ (i : Nat) by omega)]
      refine iteT ⟨_, rfl, ?_⟩
      rw [show V.int (i : Nat) = fwV ss xs 0 from ef]
      exact q _ e'
    | some y =>
      have hl := (List.getElem?_eq_some_iff.1 hxi).1
      rw [decide_eq_false (show ¬ ((xs.length : Nat) : Int) ≤ (i : Nat) by omega)]
      refine iteF ⟨_, rfl, _, rfl, iteF ?_⟩
      rw [drop_cons hxi] at ef
      obtain ⟨ty, hty⟩ := hth y (List.mem_of_getElem? hxi)
      refine ⟨_, rfl, _, rfl, ix_any hb2 hxi ⟨_, rfl, _, _, rfl, rfl, _, _, _, rfl, ⟨_, hty.up e'⟩, .int _, .int _, _, rfl, ?_⟩⟩
      cases hw : wholeB y (.int 0) (.int (n - 1)) with
      | true =>
        refine iteF ⟨e3, _, _, rfl, ?_⟩
        rw [← ef]
        show _ = if _ then _ else _
        rw [hw, if_pos rfl]
      | false =>
        refine iteT ⟨_, rfl, ?_⟩
        have ef : (if wholeB y (.int 0) (.int (n - 1)) = true then fwV (ss.drop (i + 1)) (xs.drop (i + 1)) (i + 1) else V.int (i : Nat)) = fwV ss xs 0 := ef
        rw [hw, if_neg (by decide)] at ef
        rw [ef]
        exact q _ e'
  · subst es
    have e' := e0.trans e
    rw [List.length_map] at *
    rw [drop_all (Nat.le_refl _)] at ef
    refine ⟨_, rfl, b, _, rfl, hb.up e', _, rfl, a, _, rfl, hx.up e', _, _, rfl, rfl, _, rfl, ?_⟩
    refine ite2 (fun hg => ⟨_, rfl, a, _, rfl, hx.up e', ?_⟩) (fun hg => ?_)
    · have hg := of_decide_eq_true hg
      rw [List.length_map] at hg ⊢
      rw [fwV_long (fun z => by have := congrArg List.length z; simp at this; omega)] at ef
      rw [ef]
      exact q _ e'
    · have hg : ¬ ((ss.length : Nat) : Int) < (xs.length : Nat) := fun z => hg (by rw [List.length_map]; exact decide_eq_true z)
      rw [drop_all (by omega)] at ef
      rw [show V.non = fwV ss xs 0 from ef]
      exact q _ e'
theorem c_first_wrong2 (T : Tx K mg) : C8.Cal P w K mg base 2 "first_wrong" (spFw K) [.bl false] :=
  mkCalD 2 0 (by intro z; cases z) rfl T.f_first_wrong sc_first_wrong (fun _ _ _ _ _ _ _ us its hl hm => match us, its, hl, hm with | [_, _], [_], _, _ => ⟨_, rfl, rfl⟩) (fun vs H Q E h => by obtain ⟨_, _, _, _, _, rfl, _⟩ := h; rfl) (fun f cdv A outer s H vs Q E hr h => run_fw T f cdv A outer s H vs Q E hr h)
theorem c_first_wrong3 (T : Tx K mg) : C8.Cal P w K mg base 2 "first_wrong" (spFw K) [] :=
  mkCalD 3 1 (by intro z; cases z) rfl T.f_first_wrong sc_first_wrong (fun _ _ _ _ _ _ _ us its hl hm => match us, its, hl, hm with | [_, _, _], [_], _, _ => ⟨_, rfl, rfl⟩) (fun vs H Q E h => by obtain ⟨_, _, _, _, _, rfl, _⟩ := h; rfl) (fun f cdv A outer s H vs Q E hr h => run_fw T f cdv A outer s H vs Q E hr h)
/-- a filling of these sizes -/
abbrev Fil (ss ns : List Int) : Prop := Paired (fun n s => 0 ≤ n ∧ n < s) ns ss
theorem fil_fw : ∀ {ss ns : List Int} (i : Nat), Fil ss ns → fwV ss (ns.map V.int) i = .non
  | _, _, _, .nil => rfl
  | s :: ss, n :: ns, i, .cons h t => by
    show (if wholeB (.int n) (.int 0) (.int (s - 1)) = true then _ else _) = _
    rw [wb_in h.1 (by have := h.2; omega), if_pos rfl]
    exact fil_fw _ t
def spFil (K : PySem.W.Frag) : Sp := fun vs H Q _ => ∃ a b ss ns, vs = [.ref a, .ref b] ∧ Sq K H a (ss.map V.int) ∧ Sq K H b (ns.map V.int) ∧ Fil ss ns ∧ ∀ H', Same H H' → Q (.bl true) H'
theorem th_ints {H : Hp} {ns : List Int} : ∀ v ∈ ns.map V.int, ∃ t, Th K H v t := fun v m => by
  obtain ⟨n, _, rfl⟩ := List.mem_map.1 m
  exact ⟨_, .int n⟩
theorem sc_is_filling : FnScope ["sizes", "thing"] ["sizes", "thing"] (defScope s_is_filling) := ⟨rfl, rfl, rfl, by decide +kernel, rfl, by decide +kernel, by decide +kernel⟩
theorem c_is_filling (T : Tx K mg) : C8.Cal P w K mg base 3 "is_filling" (spFil K) [] := by
  refine mkCal T.f_is_filling sc_is_filling (fun _ _ _ _ _ _ us hl => match us, hl with | [_, _], _ => rfl) (fun vs H Q E h => ?_) (fun f cdv A outer s H vs Q E hr h => ?_)
  · obtain ⟨_, _, _, _, rfl, _⟩ := h
    rfl
  obtain ⟨a, b, ss, ns, rfl, ha, hb, hf, q⟩ := h
  refine ⟨_, (pss_one (ps_ret (pe_cmpR op_isN (C8.pe_c (c_first_wrong2 T) hr (by decide) (by rfl) (pa_cons (pv 0) (pa_cons (pv 1) pa_nil))) pe_non (nomark _)))), ?_⟩
  refine ⟨_, rfl, _, rfl, a, ss, _, _, _, rfl, ha, .inr ⟨b, _, rfl, hb, th_ints, rfl, rfl⟩, fun H' e => ⟨rfl, ?_⟩⟩
  rw [fil_fw 0 hf]
  exact q _ e
def numI : Int → List Int → List Int → Int
  | acc, s :: ss, n :: ns => numI (acc * s + n) ss ns
  | acc, _, _ => acc
def spNum (K : PySem.W.Frag) : Sp := fun vs H Q _ => ∃ a b ss ns, vs = [.ref a, .ref b] ∧ Sq K H a (ss.map V.int) ∧ Sq K H b (ns.map V.int) ∧ Fil ss ns ∧ (∀ s ∈ ss, SizeOk s) ∧ ∀ H', Same H H' → Q (.int (numI 0 ss ns)) H'
theorem sc_filling_number : FnScope ["sizes", "filling", "number", "place", "size"] ["sizes", "filling"] (defScope s_filling_number) := ⟨rfl, rfl, rfl, by decide +kernel, rfl, by decide +kernel, by decide +kernel⟩
theorem c_filling_number (T : Tx K mg) : C8.Cal P w K mg base 4 "filling_number" (spNum K) [] := by
  refine mkCal T.f_filling_number sc_filling_number (fun _ _ _ _ _ _ us hl => match us, hl with | [_, _], _ => rfl) (fun vs H Q E h => ?_) (fun f cdv A outer s H vs Q E hr h => ?_)
  · obtain ⟨_, _, _, _, rfl, _⟩ := h
    rfl
  obtain ⟨a, b, ss, ns, rfl, ha, hb, hf, hs, q⟩ := h
  refine ⟨_, (pss_cons (ps_if (pt_not (pt_val (C8.pe_c (c_is_filling T) hr (by decide) (by rfl) (pa_cons (pv 0) (pa_cons (pv 1) pa_nil))))) (pss_one ps_never) pss_nil)
      (pss_cons (ps_set (i := 2) sc_filling_number.nd rfl (Or.inl rfl) pe_int)
      (pss_cons (ps_for PassesOwn.never rfl (pi_enumA (by rfl) T.enumerate (pa_cons (pv 0) pa_nil)) (pg_tup rfl (pgs_cons (pg_name (i := 3) sc_filling_number.nd rfl (Or.inl rfl)) (pgs_cons (pg_name (i := 4) sc_filling_number.nd rfl (Or.inl rfl)) pgs_nil))) (pss_one (ps_set (i := 2) sc_filling_number.nd rfl (Or.inl rfl) (pe_op op_add (pe_op op_mul (pv 2) (pv 4)) (pe_ix ix_seq (pv 1) (pv 3) (fun _ _ => rfl))))))
      (pss_one (ps_ret (pv 2)))))), ?_⟩
  refine ⟨_, rfl, _, rfl, a, b, ss, ns, rfl, ha, hb, hf, fun H0 e0 => ⟨_, rfl, iteF ?_⟩⟩
  refine ⟨_, rfl, a, _, rfl, fr_enum (ha.up e0) (fun i σ H' => Same H0 H' ∧ ∃ m r r', σ = [some (.ref a), some (.ref b), some (.int m), r, r'] ∧ numI m (ss.drop i) (ns.drop i) = numI 0 ss ns)
    ⟨.refl _, _, _, _, rfl, rfl⟩ (fun i σ H' h => h.1) (fun i v σ H1 H2 hv ⟨e, m, r, r', es, ef⟩ e2 => ?_) (fun σ H1 ⟨e, m, r, r', es, ef⟩ => ?_)⟩
  · subst es
    obtain ⟨n, hk, rfl⟩ := at_map hv
    obtain ⟨y, hy, _⟩ := paired_to hf hk
    have e' := e0.trans (e.trans e2)
    have sz := hs n (List.mem_of_getElem? hk)
    refine ⟨_, rfl, _, rfl, _, _, rfl, rfl, .inr ⟨by have := sz.1; omega, by have := sz.2; omega⟩, _, rfl, _, rfl, ix_any (hb.up e') (by rw [List.getElem?_map, hy]; rfl) ⟨_, _, rfl, rfl, e.trans e2, _, _, _, rfl, ?_⟩⟩
    rw [drop_cons hk, drop_cons hy] at ef
    exact ef
  · subst es
    rw [List.length_map] at ef
    rw [drop_all (Nat.le_refl _)] at ef
    refine ⟨_, rfl, ?_⟩
    rw [show m = numI 0 ss ns from by rw [← ef]; cases (List.drop ss.length ns) <;> rfl]
    exact q _ (e0.trans e)
end
end K6

set_option Elab.async false
set_option linter.all false
set_option maxRecDepth 100000
set_option maxHeartbeats 4000000
namespace K6
open PySem PySem.Spec PyProof.Rows L2
section
variable {P : Program} {w : World} {K : PySem.W.Frag} {mg : Str → Option Value} {base : Heap}
theorem flat_strs (zs : List Str) : (zs.map V.str).all flatV = true := by
  rw [List.all_map]
  exact List.all_eq_true.2 fun _ _ => rfl
theorem in_strs (z : Str) : ∀ zs : List Str, inV (.str z) (zs.map V.str) = decide (z ∈ zs)
  | [] => rfl
  | y :: zs => by
    have ih := in_strs z zs
    unfold inV at ih ⊢
    rw [List.map_cons, List.any_cons, ih]
    show ((y == z) || _) = _
    by_cases e : y = z
    · subst e
      simp
    · simp [e, Ne.symm e]
theorem take_nodup {zs : List Str} {i : Nat} {z : Str} (h : zs.Nodup) (e : zs[i]? = some z) : z ∉ zs.take i := by
  intro m
  obtain ⟨j, hj, ej⟩ := List.getElem_of_mem m
  rw [List.length_take] at hj
  rw [List.getElem_take] at ej
  obtain ⟨hi, ei⟩ := List.getElem?_eq_some_iff.1 e
  have := (List.getElem_inj h).mp (ej.trans ei.symm)
  omega
/-! ### tuple([(wire[0], wire[1]) for wire in wires]) -/
/-- one wire: its name and its size in a new couple -/
theorem wire_up {G H : Hp} {v : V} {x : Wire} (e : Same G H) (h : rW K G v x) : ∃ a, v = .ref a ∧ SqT K H a [.str x.1, .int x.2] := by
  obtain ⟨a, _, _, rfl, h, rfl, rfl⟩ := h
  exact ⟨a, rfl, sqt_up e h⟩
theorem rw_new {G : Hp} {p : Addr} {x : Wire} : rW K (upd G p (.tup [.str x.1, .int x.2])) (.ref p) x := ⟨p, _, _, rfl, .of upd_at, rfl, rfl⟩
theorem rT_new {α : Type} {R : Rl α} [Up R] {G : Hp} {p : Addr} {vs : List V} {xs : List α} (hn : G p = none) (h : Paired (R G) vs xs) : rT K R (upd G p (.tup vs)) (.ref p) xs := ⟨p, vs, rfl, .of upd_at, paired_up (same_new hn) h⟩
def WiresOk (ws : List Wire) : Prop := (∀ x ∈ ws, WireOk x) ∧ (ws.map (·.1)).Nodup
def spChkW (K : PySem.W.Frag) : Sp := fun vs H Q _ => ∃ G a us n z1 z2 ws, vs = [.ref a, .int n, .str z1, .str z2] ∧ Same G H ∧ SqL K G a us ∧ Paired (rW K G) us ws ∧ n ≤ ws.length ∧ ws.length ≤ 6 ∧ WiresOk ws ∧ ∀ G' H' v, Gr M0 G H G' H' → rT K (rW K) G' v ws → Q v H'
theorem sc_checked_wires : FnScope ["wires", "least", "what", "word", "names", "number", "wire"] ["wires", "least", "what", "word"] (defScope s_checked_wires) := ⟨rfl, rfl, rfl, by decide +kernel, rfl, by decide +kernel, by decide +kernel⟩
theorem c_checked_wires (T : Tx K mg) : C8.Cal P w K mg base 3 "checked_wires" (spChkW K) [] := by
  refine mkCal T.f_checked_wires sc_checked_wires (fun _ _ _ _ _ _ us hl => match us, hl with | [_, _, _, _], _ => rfl) (fun vs H Q E h => ?_) (fun f cdv A outer s H vs Q E hr h => ?_)
  · obtain ⟨_, _, _, _, _, _, _, rfl, _⟩ := h
    rfl
  obtain ⟨G, a, us, n, z1, z2, ws, rfl, g, ha, hP, hn, h6, ⟨hw, hd⟩, q⟩ := h
  have hl : us.length = ws.length := Paired.length hP
  refine ⟨_, (pss_cons (ps_if (PW.pt (pw_or (pt_not (pt_val (pe_callB call_isiT (by rfl) T.isinstance bt_isinstance (pa_cons (pv 0) (pa_cons (pe_tup (pa_cons (pe_bltn (v := .ty "list") (by rfl) T.list bt_list rfl) (pa_cons (pe_bltn (v := .ty "tuple") (by rfl) T.tuple bt_tuple rfl) pa_nil))) pa_nil))))) (pw_or1 (pt_not (pt_chain op_le op_le (pv 1) (pe_callB call_len_seq (by rfl) T.len bt_len (pa_cons (pv 0) pa_nil)) pe_int))))) (pss_one ps_never) pss_nil)
      (pss_cons (ps_set (i := 4) sc_checked_wires.nd rfl (Or.inl rfl) (pe_lst pa_nil))
      (pss_cons (ps_for PassesOwn.never rfl (pi_enumA (by rfl) T.enumerate (pa_cons (pv 0) pa_nil)) (pg_tup rfl (pgs_cons (pg_name (i := 5) sc_checked_wires.nd rfl (Or.inl rfl)) (pgs_cons (pg_name (i := 6) sc_checked_wires.nd rfl (Or.inl rfl)) pgs_nil))) (pss_cons (ps_if (PW.pt (pw_or (pt_not (pt_val (C8.pe_c (c_is_wire T) hr (by decide) (by rfl) (pa_cons (pv 6) pa_nil)))) (pw_or1 (pt_cmpR op_in_seq (pe_ix ix_tup (pv 6) pe_int (fun _ _ => rfl)) (pv 4) (by rfl))))) (pss_one ps_never) pss_nil)
      (pss_one (ps_expr (pe_bm PySem.F.plainAttrs_list PySem.F.slot_list_append PySem.F.type_list_append mt_append (pv 4) (pa_cons (pe_ix ix_tup (pv 6) pe_int (fun _ _ => rfl)) pa_nil))))))
      (pss_one (ps_ret (pe_callTy call_tuple_of (by rfl) T.tuple bt_tuple (pa_cons (pe_lc (own := [("wire", 6)]) rfl sc_checked_wires.nd (pi_seq (pv 0)) (blkOk_by (own := [("wire", 6)]) (N := ["wires", "least", "what", "word", "names", "number", "wire"]) (sc := defScope s_checked_wires) (by decide +kernel)) (fun _ _ _ _ _ => (pg_name (i := 6) sc_checked_wires.nd rfl (Or.inl rfl))) (fun _ _ _ _ _ => pts_nil) (fun _ _ _ _ _ => (pe_tup (pa_cons (pe_ix (show IxR _ (rIxT K) from ix_tup) (pv 6) pe_int (fun _ _ => rfl)) (pa_cons (pe_ix (show IxR _ (rIxT K) from ix_tup) (pv 6) pe_int (fun _ _ => rfl)) pa_nil))))) pa_nil))))))), ?_⟩
  refine ⟨_, rfl, (by show 2 ≤ sizeLine; decide), fun p hp =>  ⟨_, _, _, _, _, _, rfl, upd_at, .cons (.ty _) (.cons (.ty _) .nil), (Th.lst ((g.trans (same_new hp)).seq ha)).ty, kit_lt _, _, rfl, ?_⟩⟩
  have e0 := g.trans (same_new (o := .tup [.ty "list", .ty "tuple"]) hp)
  refine iteF ⟨_, rfl, _, rfl, _, _, rfl, .inl (e0.seq ha), _, _, rfl, rfl, _, rfl, ?_⟩
  rw [decide_eq_true (show n ≤ ((us.length : Nat) : Int) by omega)]
  refine iteT ⟨_, _, rfl, rfl, _, rfl, ?_⟩
  rw [decide_eq_true (show ((us.length : Nat) : Int) ≤ 6 by omega)]
  refine iteF ⟨(show 0 ≤ sizeLine by decide), fun l hl0 => ?_⟩
  have hl1 : H l = none := (same_new hp).free hl0
  have hln : us.length = (ws.map (·.1)).length := by rw [hl, List.length_map]
  refine ⟨_, rfl, a, us, rfl, fr_enum (.inl ha) (fun i σ H' => Gr M0 G H G H' ∧ H' l = some (.lst (((ws.map (·.1)).take i).map V.str)) ∧ ∃ r r', σ = [some (.ref a), some (.int n), some (.str z1), some (.str z2), some (.ref l), r, r'])
    ⟨((Gr.refl g).new hp).new hl0, upd_at, _, _, rfl⟩ (fun i σ H' h => h.1.gh) (fun i v σ H1 H2 hv ⟨gr, hl2, r, r', es⟩ e2 => ?_) (fun σ H1 ⟨gr, hl2, r, r', es⟩ => ?_)⟩
  · subst es
    obtain ⟨x, hx, hxw⟩ := paired_at hP hv
    have gr2 := gr.same e2
    obtain ⟨b, rfl, hb⟩ := wire_up gr2.gh hxw
    have hx1 : (ws.map (·.1))[i]? = some x.1 := by rw [List.getElem?_map, hx]; rfl
    have hl3 := e2 _ _ hl2
    refine ⟨_, rfl, _, x, rfl, Up.up gr2.gh hxw, hw x (List.mem_of_getElem? hx), fun H3 e3 => ⟨_, rfl, iteF ?_⟩⟩
    have hl4 := e3 _ _ hl3
    have hb4 := sqt_up e3 hb
    refine ⟨_, rfl, _, _, _, _, rfl, rfl, hb4, rfl, _, rfl, _, _, rfl, .inl (.of hl4), rfl, flat_strs _, _, rfl, ?_⟩
    refine ite2 (fun z => absurd z ?_) (fun _ => ?_)
    · show ¬ inV (.str x.1) _ = true
      rw [in_strs]
      exact fun z => take_nodup hd hx1 (of_decide_eq_true z)
    refine ⟨_, rfl, .inl ⟨rfl, _, .of hl4⟩, _, rfl, _, _, _, _, rfl, rfl, hb4, rfl, l, _, _, rfl, rfl, hl4, ?_, ?_⟩
    · exact small_lt (by rw [List.length_map, List.length_take, List.length_map]; omega)
    · refine ⟨(gr2.same e3).write hl1 (g.free hl1), ?_, _, _, rfl⟩
      rw [upd_at, take_snoc hx1, List.map_append]
      rfl
  · subst es
    refine ⟨_, rfl, a, us, rfl, .inl ⟨gr.gh.seq ha, ?_⟩⟩
    refine lcW (K := K) (S := rW K) (M := M0) (J := JT) (G := G) (Rel := fun i ys => ys = ws.take i) walk_list gr.gh (fun H' e => e.seq ha) (fun _ _ z => z) jt_ok trivial rfl
      (fun L hL i x H2 H2' G1 vs ys hi I ⟨e, hx⟩ => ?_) (fun G' H' L ys gr' hys r _ hL => ?_)
    · subst e
      obtain ⟨y, hy, hyw⟩ := paired_at hP hx
      obtain ⟨b, rfl, hb⟩ := wire_up I.gr.to hyw
      refine ⟨rfl, tyes ?_⟩
      refine ⟨_, rfl, _, _, _, _, rfl, rfl, hb, rfl, _, rfl, _, _, _, _, rfl, rfl, hb, rfl, (by show 2 ≤ sizeLine; decide), fun p hp =>  ?_⟩
      refine lc_put I hL (fun z => z) jt_ok ((Gr.refl I.gr.gh).seal hp) trivial rw_new ?_ (by rw [I.rel, List.length_take]; omega)
      rw [I.rel, take_snoc hy]
    · obtain ⟨b, vs, e, hs, hp'⟩ := hys
      have e := V.ref.inj e
      subst e
      refine ⟨_, _, rfl, .inl ⟨gr'.gh.seq hs, fun p hp => ?_⟩⟩
      refine q _ _ _ ((gr.trans gr').seal hp) (rT_new (gr'.gh.free hp) ?_)
      rw [r, hl, List.take_length] at hp'
      exact hp'
/-! ### rows with shares -/
def encRow (row : List Int) : PyData := .tuple (row.map .int)
def rRow : Hp → V → List Int → Prop := fun H x row => ∃ b, x = .ref b ∧ H b = some (.tup (row.map V.int))
abbrev Ent := List (List Int × Int)
def EntOk (ss : List Int) (e : Ent) : Prop := (∃ r, e = [(r, 6)] ∧ Fil ss r) ∨ ∃ r1 r2 k1 k2, e = [(r1, k1), (r2, k2)] ∧ Fil ss r1 ∧ Fil ss r2 ∧ r1 ≠ r2 ∧ PySem.W.dataLe false encRow r1 r2 = true ∧ 0 < k1 ∧ 0 < k2 ∧ k1 + k2 = 6
/-- an entry as the law boxes it; as the box keeps it -/
def rEB (K : PySem.W.Frag) : Rl Ent := fun G v e => (∃ r, e = [(r, 6)] ∧ rL K rInt G v r) ∨ (∃ x y, e = [x, y] ∧ rL K (rP K (rL K rInt) (rSh K)) G v e)
instance : Up (rEB K) := ⟨fun e h => h.imp (fun ⟨r, h1, h2⟩ => ⟨r, h1, Up.up e h2⟩) fun ⟨x, y, h1, h2⟩ => ⟨x, y, h1, Up.up e h2⟩⟩
def rEn (K : PySem.W.Frag) : Rl Ent := rT K (rP K (rT K rInt) (rSh K))
instance : Up (rEn K) := inferInstanceAs (Up (rT K (rP K (rT K rInt) (rSh K))))
theorem share_lt {k : Int} (h0 : 0 < k) (h6 : k ≤ 6) : 0 < (nm k 6).1 ∧ (nm k 6).1 ≤ (nm k 6).2 := by
  have e := nm_x (a := k) (show (0 : Int) < 6 by decide)
  have p := nm_pos (a := k) (show (0 : Int) < 6 by decide)
  have h1 := Int.mul_le_mul_of_nonneg_right h6 (Int.le_of_lt p)
  have h2 := Int.mul_pos h0 p
  omega
theorem nm_gcd {a b : Int} (h : 0 < b) : Int.gcd (nm a b).1 (nm a b).2 = 1 := by
  obtain ⟨_, _, _, _, e⟩ := nm_spec a b h
  exact e
def spCh (K : PySem.W.Frag) : Sp := fun vs H Q _ => ∃ v b ss r k, vs = [v, .ref b] ∧ Sq K H b (ss.map V.int) ∧ rP K (rL K rInt) (rSh K) H v (r, k) ∧ Fil ss r ∧ 0 < k ∧ k ≤ 6 ∧ ∀ H', Same H H' → Q (.bl true) H'
theorem sc_is_chance_row : FnScope ["thing", "sizes"] ["thing", "sizes"] (defScope s_is_chance_row) := ⟨rfl, rfl, rfl, by decide +kernel, rfl, by decide +kernel, by decide +kernel⟩
theorem c_is_chance_row (T : Tx K mg) : C8.Cal P w K mg base 4 "is_chance_row" (spCh K) [] := by
  refine mkCal T.f_is_chance_row sc_is_chance_row (fun _ _ _ _ _ _ us hl => match us, hl with | [_, _], _ => rfl) (fun vs H Q E h => ?_) (fun f cdv A outer s H vs Q E hr h => ?_)
  · obtain ⟨_, _, _, _, _, rfl, _⟩ := h
    rfl
  obtain ⟨_, b, ss, r, k, rfl, hb, ⟨a, _, w0, rfl, hT, ⟨l, us, rfl, hl, hu⟩, ⟨c, _, _, rfl, hc, rfl, rfl⟩⟩, hf, k0, k6, q⟩ := h
  have hu : us = r.map V.int := paired_ints hu
  subst hu
  obtain ⟨s1, s2⟩ := share_lt k0 k6
  refine ⟨_, (pss_cons (ps_if (PW.pt (pw_or (pt_not (pt_val (pe_callB call_isiT (by rfl) T.isinstance bt_isinstance (pa_cons (pv 0) (pa_cons (pe_tup (pa_cons (pe_bltn (v := .ty "list") (by rfl) T.list bt_list rfl) (pa_cons (pe_bltn (v := .ty "tuple") (by rfl) T.tuple bt_tuple rfl) pa_nil))) pa_nil))))) (pw_or1 (pt_cmpR op_ne (pe_callB call_len_seq (by rfl) T.len bt_len (pa_cons (pv 0) pa_nil)) pe_int (nomark _))))) (pss_one (ps_ret pe_bl)) pss_nil)
      (pss_one (ps_ret (pe_and (C8.pe_c (c_is_filling T) hr (by decide) (by rfl) (pa_cons (pv 1) (pa_cons (pe_ix ix_tup (pv 0) pe_int (fun _ _ => rfl)) pa_nil))) (pe_and (C8.pe_c (c_is_ratio T) hr (by decide) (by rfl) (pa_cons (pe_ix ix_tup (pv 0) pe_int (fun _ _ => rfl)) pa_nil)) (pe_one (pe_chain op_lt op_le pe_int (pe_ix ix_tup (pe_ix ix_tup (pv 0) pe_int (fun _ _ => rfl)) pe_int (fun _ _ => rfl)) (pe_ix ix_tup (pe_ix ix_tup (pv 0) pe_int (fun _ _ => rfl)) pe_int (fun _ _ => rfl))))))))), ?_⟩
  refine ⟨_, rfl, (by show 2 ≤ sizeLine; decide), fun p hp =>  ⟨_, _, _, _, _, _, rfl, upd_at, .cons (.ty _) (.cons (.ty _) .nil), (Th.tup (sqt_up (same_new hp) hT)).ty, kit_lt _, _, rfl, ?_⟩⟩
  have e0 := same_new (o := .tup [.ty "list", .ty "tuple"]) hp
  refine iteF ⟨_, rfl, _, _, rfl, .inr (sqt_up e0 hT), rfl, _, rfl, iteF ?_⟩
  refine ⟨_, rfl, _, rfl, _, _, _, _, rfl, rfl, sqt_up e0 hT, rfl, b, l, ss, r, rfl, hb.up e0, .inl (e0.seq hl), hf, fun H1 e1 => ⟨_, rfl, ?_⟩⟩
  have e1 := e0.trans e1
  have hT1 := sqt_up e1 hT
  have hc1 := sqt_up e1 hc
  refine iteT ⟨_, rfl, _, _, _, _, rfl, rfl, hT1, rfl, _, _, rfl, ⟨c, _, _, rfl, hc1, rfl, rfl⟩, nm_pos (by decide), nm_gcd (by decide), _, rfl, ?_⟩
  refine iteT ⟨_, rfl, _, _, _, _, rfl, rfl, hT1, rfl, _, _, _, _, rfl, rfl, hc1, rfl, _, _, rfl, rfl, _, rfl, ?_⟩
  rw [decide_eq_true s1]
  refine iteT ⟨_, rfl, _, _, _, _, rfl, rfl, hT1, rfl, _, _, _, _, rfl, rfl, hc1, rfl, _, _, rfl, rfl, ?_⟩
  show Q (.bl (decide ((nm k 6).1 ≤ (nm k 6).2))) H1
  rw [decide_eq_true s2]
  exact q _ e1
/-! ### checked_entry -/
def rowK (r : List Int) : List Key := r.map Sum.inl
theorem rowK_v (r : List Int) : (rowK r).map kV = r.map V.int := by
  rw [rowK, List.map_map]
  rfl
theorem rowK_inj : ∀ {r s : List Int}, rowK r = rowK s → r = s
  | [], [], _ => rfl
  | _ :: _, [], h => by cases h
  | [], _ :: _, h => by cases h
  | x :: r, y :: s, h => by
    have h1 := List.cons.inj h
    rw [Sum.inl.inj h1.1, rowK_inj h1.2]
theorem dp_ints {H : Hp} : ∀ ns : List Int, DpAll K H (ns.map V.int) (ns.map .int)
  | [] => .nil
  | n :: ns => .cons (.int n) (dp_ints ns)
theorem row_cons {r ss : List Int} {d : PyData} (h : r.length = ss.length) (h0 : ss ≠ []) (e : d = encRow r) : ∃ x t, d = .tuple (x :: t) := by
  cases r with
  | nil =>
    cases ss with
    | nil => exact absurd rfl h0
    | cons _ _ => cases h
  | cons n r => exact ⟨_, _, e⟩
theorem depth_ints : ∀ r : List Int, PyData.depthAll (r.map .int) = 0
  | [] => rfl
  | n :: r => by
    show max 0 (PyData.depthAll (r.map .int)) = 0
    rw [depth_ints r]
    rfl
theorem depth_row (r : List Int) : (encRow r).depth ≤ 8 := by
  show PyData.depthAll (r.map .int) + 1 ≤ 8
  rw [depth_ints r]
  decide
theorem alike_ints : ∀ r s : List Int, PySem.W.alikeAll (r.map .int) (s.map .int) = true
  | [], _ => by cases ‹List Int› <;> rfl
  | _ :: _, [] => rfl
  | _ :: r, _ :: s => by
    show (true && PySem.W.alikeAll (r.map .int) (s.map .int)) = true
    rw [alike_ints r s]
    rfl
theorem alike_row (r s : List Int) : PySem.W.alike (encRow r) (encRow s) = true := alike_ints r s
theorem alike_rows (r1 r2 : List Int) (h : r1.length = r2.length) : PySem.W.AllAlike ([r1, r2].map encRow) := PySem.W.AllAlike.of alike_row
def spEnt (K : PySem.W.Frag) : Sp := fun vs H Q _ => ∃ G i v b ss e, vs = [i, v, .ref b] ∧ Same G H ∧ Sq K G b (ss.map V.int) ∧ rEB K G v e ∧ ss ≠ [] ∧ ss.length ≤ 6 ∧ EntOk ss e ∧ ∀ G' H' v', Gr M0 G H G' H' → rEn K G' v' e → Q v' H'
theorem sc_checked_entry : FnScope ["number", "entry", "sizes", "found", "couple", "row"] ["number", "entry", "sizes"] (defScope s_checked_entry) := ⟨rfl, rfl, rfl, by decide +kernel, rfl, by decide +kernel, by decide +kernel⟩
theorem c_checked_entry (T : Tx K mg) : C8.Cal P w K mg base 5 "checked_entry" (spEnt K) [] := by
  refine mkCal T.f_checked_entry sc_checked_entry (fun _ _ _ _ _ _ us hl => match us, hl with | [_, _, _], _ => rfl) (fun vs H Q E h => ?_) (fun f cdv A outer s H vs Q E hr h => ?_)
  · obtain ⟨_, _, _, _, _, _, rfl, _⟩ := h
    rfl
  obtain ⟨G, nv, v, b, ss, e, rfl, g, hb, he, hs0, hs6, ho, q⟩ := h
  obtain ⟨one, hO⟩ := T.ONE
  have e6 : nm 6 6 = (1, 1) := nm_one (by decide)
  refine ⟨_, (pss_cons (ps_if (PW.pt (pw_or (pt_not (pt_val (pe_callB call_isiT (by rfl) T.isinstance bt_isinstance (pa_cons (pv 1) (pa_cons (pe_tup (pa_cons (pe_bltn (v := .ty "list") (by rfl) T.list bt_list rfl) (pa_cons (pe_bltn (v := .ty "tuple") (by rfl) T.tuple bt_tuple rfl) pa_nil))) pa_nil))))) (pw_or1 (pt_not (pt_chain op_le op_le pe_int (pe_callB call_len_seq (by rfl) T.len bt_len (pa_cons (pv 1) pa_nil)) pe_int))))) (pss_one ps_never) pss_nil)
      (pss_cons (ps_if (pt_val (C8.pe_c (c_is_whole1 T) hr (by decide) (by rfl) (pa_cons (pe_ix ix_list (pv 1) pe_int (fun _ _ => rfl)) pa_nil))) (pss_cons (ps_if (pt_not (pt_val (C8.pe_c (c_is_filling T) hr (by decide) (by rfl) (pa_cons (pv 2) (pa_cons (pv 1) pa_nil))))) (pss_one ps_never) pss_nil)
      (pss_one (ps_ret (pe_tup (pa_cons (pe_tup (pa_cons (pe_callTy call_tuple_of (by rfl) T.tuple bt_tuple (pa_cons (pv 1) pa_nil)) (pa_cons (pe_glob (v := V.ref _) (by rfl) hO.1 rfl) pa_nil))) pa_nil))))) pss_nil)
      (pss_cons (ps_set (i := 3) sc_checked_entry.nd rfl (Or.inr rfl) pe_dnewT)
      (pss_cons (ps_for PassesOwn.never rfl (pi_seq (pv 1)) (pg_name (i := 4) sc_checked_entry.nd rfl (Or.inl rfl)) (pss_cons (ps_if (PW.pt (pw_or (pt_not (pt_val (C8.pe_c (c_is_chance_row T) hr (by decide) (by rfl) (pa_cons (pv 4) (pa_cons (pv 2) pa_nil))))) (pw_or1 (pt_cmp (pc_din (hu_of hr) (pe_callTy call_tuple_of (by rfl) T.tuple bt_tuple (pa_cons (pe_ix ix_tup (pv 4) pe_int (fun _ _ => rfl)) pa_nil)) (pv 3)) (by rfl))))) (pss_one ps_never) pss_nil)
      (pss_one (ps_dput (hu_of hr) (pv 3) (pe_callTy call_tuple_of (by rfl) T.tuple bt_tuple (pa_cons (pe_ix ix_tup (pv 4) pe_int (fun _ _ => rfl)) pa_nil)) (pe_ix ix_tup (pv 4) pe_int (fun _ _ => rfl)) rfl))))
      (pss_cons (ps_if (pt_cmpR (op_neD hr.units) (C8.pe_c (c_sum_of T) hr (by decide) (by rfl) (pa_cons (pe_callTy (call_list_vT rfl) (by rfl) T.list bt_list (pa_cons (pe_bm0 PySem.F.plainAttrs_dict PySem.F.slot_dict_values PySem.F.type_dict_values mt_valsT (pv 3)) pa_nil)) pa_nil)) (pe_glob (v := V.ref _) (by rfl) hO.1 rfl) (nomark _)) (pss_one ps_never) pss_nil)
      (pss_one (ps_ret (pe_callTy call_tuple_of (by rfl) T.tuple bt_tuple (pa_cons (pe_lc (own := [("row", 5)]) rfl sc_checked_entry.nd (pi_seq (pe_callB (cr_sortD (enc := encRow) (R := rRow) hr.units) (by rfl) T.sorted bt_sorted (pa_cons (pe_callTy (call_list_dT rfl) (by rfl) T.list bt_list (pa_cons (pv 3) pa_nil)) pa_nil))) (blkOk_by (own := [("row", 5)]) (N := ["number", "entry", "sizes", "found", "couple", "row"]) (sc := defScope s_checked_entry) (by decide +kernel)) (fun _ _ _ _ _ => (pg_name (i := 5) sc_checked_entry.nd rfl (Or.inl rfl))) (fun _ _ _ _ _ => pts_nil) (fun _ _ _ _ _ => (pe_tup (pa_cons (pv 5) (pa_cons (pe_dget (hu_of hr) (pv 3) (pv 5) (fun _ _ => rfl)) pa_nil))))) pa_nil))))))))), ?_⟩
  rcases he with ⟨r, rfl, ⟨a, us, rfl, ha, hu⟩⟩ | ⟨x, y, rfl, ⟨a, us, rfl, ha, hu⟩⟩
  · have hu : us = r.map V.int := paired_ints hu
    subst hu
    have hf : Fil ss r := by
      rcases ho with ⟨r', e, h⟩ | ⟨_, _, _, _, e, _⟩
      · cases e
        exact h
      · cases e
    have hl : r.length = ss.length := Paired.length hf
    refine ⟨_, rfl, (by show 2 ≤ sizeLine; decide), fun p hp =>  ⟨_, _, _, _, _, _, rfl, upd_at, .cons (.ty _) (.cons (.ty _) .nil), (Th.lst ((g.trans (same_new hp)).seq ha)).ty, kit_lt _, _, rfl, ?_⟩⟩
    have e0 := g.trans (same_new (o := .tup [.ty "list", .ty "tuple"]) hp)
    have gr0 := (Gr.refl (M := M0) g).new (o := .tup [.ty "list", .ty "tuple"]) hp
    have hs : 0 < ss.length := List.length_pos_iff.2 hs0
    refine iteF ⟨_, rfl, _, _, rfl, .inl (e0.seq ha), _, _, rfl, rfl, _, rfl, ?_⟩
    rw [List.length_map, decide_eq_true (show (1 : Int) ≤ (r.length : Nat) by omega)]
    refine iteT ⟨_, _, rfl, rfl, _, rfl, ?_⟩
    rw [decide_eq_true (show ((r.length : Nat) : Int) ≤ 8 by omega)]
    have h0 : ∃ n, (r.map V.int)[0]? = some (.int n) := by
      cases r with
      | nil => simp at hl; omega
      | cons n r => exact ⟨n, rfl⟩
    obtain ⟨n0, h0⟩ := h0
    refine iteF ⟨_, rfl, _, _, _, _, rfl, rfl, e0.seq ha, atI_nat (j := 0) h0, _, _, _, rfl, ⟨_, .int _⟩, .non, .non, _, rfl, iteT ⟨_, rfl, _, rfl, b, a, ss, r, rfl, hb.up e0, .inl (e0.seq ha), hf, fun H1 e1 => ⟨_, rfl, iteF ?_⟩⟩⟩
    refine ⟨_, rfl, _, _, rfl, .inl ⟨(e0.trans e1).seq ha, fun t ht => ?_⟩⟩
    refine ⟨(by show 2 ≤ sizeLine; decide), fun p hp =>  ?_⟩
    refine ⟨(by show 1 ≤ sizeLine; decide), fun z hz => ?_⟩
    have gra := (gr0.same e1).seal (o := .tup (r.map V.int)) ht
    have grb := gra.seal (o := .tup [.ref t, .ref one]) hp
    refine q _ _ _ (grb.seal (o := .tup [.ref p]) hz) (rT_new (grb.gh.free hz) (.cons ?_ .nil))
    have ra : rT K rInt (upd G t (.tup (r.map V.int))) (.ref t) r := rT_new (((gr0.same e1).gh).free ht) (ints_paired r)
    exact ⟨p, _, _, rfl, .of upd_at, Up.up (same_new (gra.gh.free hp)) ra, one, _, _, rfl, hO.2 _, by show V.int 1 = V.int (nm 6 6).1; rw [e6], by show V.int 1 = V.int (nm 6 6).2; rw [e6]⟩
  · have hx : ∃ r1 r2 k1 k2, x = (r1, k1) ∧ y = (r2, k2) ∧ Fil ss r1 ∧ Fil ss r2 ∧ r1 ≠ r2 ∧ PySem.W.dataLe false encRow r1 r2 = true ∧ 0 < k1 ∧ 0 < k2 ∧ k1 + k2 = 6 := by
      rcases ho with ⟨r', e, h⟩ | ⟨r1, r2, k1, k2, e, h⟩
      · cases e
      · cases e
        exact ⟨_, _, _, _, rfl, rfl, h⟩
    obtain ⟨r1, r2, k1, k2, rfl, rfl, f1, f2, hne, hle, p1, p2, h6⟩ := hx
    cases hu with
    | cons hu1 hu =>
    cases hu with
    | cons hu2 hu =>
    cases hu
    obtain ⟨a1, _, w1, rfl, hT1, ⟨l1, us1, rfl, hl1, hu1⟩, hw1⟩ := hu1
    obtain ⟨a2, _, w2, rfl, hT2, ⟨l2, us2, rfl, hl2, hu2⟩, hw2⟩ := hu2
    have hu1 : us1 = r1.map V.int := paired_ints hu1
    have hu2 : us2 = r2.map V.int := paired_ints hu2
    subst hu1 hu2
    have hk12 : ¬ rowK r1 = rowK r2 := fun z => hne (rowK_inj z)
    refine ⟨_, rfl, (by show 2 ≤ sizeLine; decide), fun p hp =>  ⟨_, _, _, _, _, _, rfl, upd_at, .cons (.ty _) (.cons (.ty _) .nil), (Th.lst ((g.trans (same_new hp)).seq ha)).ty, kit_lt _, _, rfl, ?_⟩⟩
    have e0 := g.trans (same_new (o := .tup [.ty "list", .ty "tuple"]) hp)
    have gr0 := (Gr.refl (M := M0) g).new (o := .tup [.ty "list", .ty "tuple"]) hp
    refine iteF ⟨_, rfl, _, _, rfl, .inl (e0.seq ha), _, _, rfl, rfl, _, rfl, ?_⟩
    refine iteT ⟨_, _, rfl, rfl, _, rfl, ?_⟩
    refine iteF ⟨_, rfl, _, _, _, _, rfl, rfl, e0.seq ha, rfl, _, _, _, rfl, ⟨_, .tup (sqt_up e0 hT1)⟩, .non, .non, _, rfl, iteF ?_⟩
    refine fun f hf => ?_
    have hf0 : H f = none := (same_new hp).free hf
    have hfG : G f = none := g.free hf0
    refine ⟨_, rfl, a, _, rfl, fr_seq (.inl ha) (fun i σ H' => Gr M0 G H G H' ∧ H' f = some (.dT ([(rowK r1, w1), (rowK r2, w2)].take i)) ∧ ∃ r r', σ = [some nv, some (.ref a), some (.ref b), some (.ref f), r, r'])
      ⟨gr0.new hf, upd_at, _, _, rfl⟩ (fun i σ H' h => h.1.gh) (fun n v σ H1 hv ⟨gr, hd, r, r', es⟩ => ?_) (fun σ H1 ⟨gr, hd, r, r', es⟩ => ?_)⟩
    · subst es
      obtain ⟨c, l, w, r, k, rfl, hT, hl, hw, hfr, k0, k6, hno, htk⟩ : ∃ c l w r k, v = .ref c ∧ SqT K G c [.ref l, w] ∧ SqL K G l (r.map V.int) ∧ rSh K G w k ∧ Fil ss r ∧ 0 < k ∧ k ≤ 6 ∧ valV ([(rowK r1, w1), (rowK r2, w2)].take n) (rowK r) = none ∧ [(rowK r1, w1), (rowK r2, w2)].take (n + 1) = [(rowK r1, w1), (rowK r2, w2)].take n ++ [(rowK r, w)] := by
        rcases n with _ | _ | n
        · cases hv
          exact ⟨_, _, _, _, _, rfl, hT1, hl1, hw1, f1, p1, by omega, rfl, rfl⟩
        · cases hv
          exact ⟨_, _, _, _, _, rfl, hT2, hl2, hw2, f2, p2, by omega, valV_neg hk12, rfl⟩
        · cases hv
      refine ⟨_, rfl, _, rfl, _, b, ss, r, k, rfl, hb.up gr.gh, ⟨c, _, _, rfl, sqt_up gr.gh hT, ⟨l, _, rfl, gr.gh.seq hl, ints_paired r⟩, Up.up gr.gh hw⟩, hfr, k0, k6, fun H2 e2 => ⟨_, rfl, iteF ?_⟩⟩
      have gr2 := gr.same e2
      refine ⟨_, rfl, _, _, _, _, rfl, rfl, sqt_up gr2.gh hT, rfl, _, _, rfl, .inl ⟨gr2.gh.seq hl, fun t ht => ?_⟩⟩
      have hd2 := e2 _ _ hd
      have hd3 := same_new (o := .tup (r.map V.int)) ht _ _ hd2
      have gr3 := gr2.new (o := .tup (r.map V.int)) ht
      refine ⟨_, rfl, f, _, rfl, DGet.t hd3 (k := rowK r) (by rw [upd_at, rowK_v]), _, rfl, ?_⟩
      rw [hno]
      refine iteF ⟨_, rfl, _, _, _, _, rfl, rfl, sqt_up gr3.gh hT, rfl, _, rfl, _, rfl, _, _, _, _, rfl, rfl, sqt_up gr3.gh hT, rfl, _, _, rfl, .inl ⟨gr3.gh.seq hl, fun t2 ht2 => ?_⟩⟩
      have hd4 := same_new (o := .tup (r.map V.int)) ht2 _ _ hd3
      refine ⟨f, _, rfl, DPut.t (k := rowK r) hd4 (by rw [upd_at, rowK_v]) (small_lt (by rw [List.length_take]; show min n 2 ≤ 100000; omega)), ?_⟩
      refine ⟨(gr3.new ht2).write hf0 hfG, ?_, _, _, rfl⟩
      rw [upd_at, putK_new _ hno, htk]
    · subst es
      have hd : H1 f = some (.dT [(rowK r1, w1), (rowK r2, w2)]) := hd
      refine ⟨_, rfl, .inr (.inr (.inl ⟨rfl, .inr ⟨_, hd⟩⟩)), f, _, rfl, rfl, hd, fun p3 hp3 => ?_⟩
      have hd2 := same_new (o := valuesO p3 f) hp3 _ _ hd
      have gr2 := gr.new (o := valuesO p3 f) hp3
      refine ⟨p3, f, _, rfl, upd_at, .inl hd2, fun l hl => ?_⟩
      have gr3 := gr2.new (o := .lst [w1, w2]) hl
      have hd3 := same_new (o := .lst [w1, w2]) hl _ _ hd2
      refine ⟨l, [w1, w2], [k1, k2], rfl, .inl (.of upd_at), .cons (Up.up gr3.gh hw1) (.cons (Up.up gr3.gh hw2) .nil), ?_, ?_, fun H2 v e2 hv => ?_⟩
      · intro k m
        rcases List.mem_cons.1 m with e | m
        · omega
        · have := List.mem_singleton.1 m
          omega
      · show k1 + (k2 + 0) = 6
        omega
      obtain ⟨vt, _, _, rfl, hv, rfl, rfl⟩ := hv
      refine ⟨_, _, .tup hv (.cons (.int _) (.cons (.int _) .nil)), .tup (hO.2 _) (.cons (.int _) (.cons (.int _) .nil)), rfl, rfl, _, rfl, iteF ?_⟩
      have hd4 := e2 _ _ hd3
      have gr4 := (gr3.same e2).shut hf0 hfG hd4
      refine ⟨_, rfl, f, _, rfl, .inl hd4, fun p4 bs hp4 hbs => ?_⟩
      have gr5 := gr4.new (o := .lst (bs.map V.ref)) hp4
      cases hbs with
      | @cons _ b1 _ _ hb1 hbs =>
      cases hbs with
      | @cons _ b2 _ _ hb2 hbs =>
      cases hbs
      rw [rowK_v] at hb1 hb2
      have n4 := same_new (o := .lst ([b1, b2].map V.ref)) hp4
      refine ⟨p4, _, [r1, r2], rfl, .of upd_at, .cons ⟨b1, rfl, n4 _ _ hb1⟩ (.cons ⟨b2, rfl, n4 _ _ hb2⟩ .nil), ?_, ?_, ?_, ?_, fun ys p5 hy hp5 => ?_⟩
      · exact fun x r ⟨b, e, hb⟩ => by rw [e]; exact .tup (.of hb) (dp_ints r)
      · exact alike_rows r1 r2 (Paired.length f1 |>.trans (Paired.length f2).symm)
      · exact .inl fun d hd => by
          rcases List.mem_cons.1 hd with e | hd
          · exact row_cons (Paired.length f1) hs0 e
          · exact row_cons (Paired.length f2) hs0 (List.mem_singleton.1 hd)
      · intro r m
        have : r.length ≤ 6 := by
          rcases List.mem_cons.1 m with e | m
          · rw [e, Paired.length f1]
            exact hs6
          · rw [List.mem_singleton.1 m, Paired.length f2]
            exact hs6
        exact depth_row r
      rw [List.mergeSort_of_pairwise (.cons (fun z m => by rw [List.mem_singleton.1 m]; exact hle) (.cons (fun _ m => by cases m) .nil))] at hy
      cases hy with
      | cons hy1 hy =>
      cases hy with
      | cons hy2 hy =>
      cases hy
      obtain ⟨c1, rfl, hy1⟩ := hy1
      obtain ⟨c2, rfl, hy2⟩ := hy2
      have n5 := same_new (o := .lst [.ref c1, .ref c2]) hp5
      have gr6 := gr5.seal (o := .lst [.ref c1, .ref c2]) hp5
      obtain ⟨G7, gr7, s7, hc1⟩ := gr6.shutT (n5 _ _ hy1)
      obtain ⟨G8, gr8, s8, hc2⟩ := gr7.shutT (n5 _ _ hy2)
      have hc1 := s8 _ _ hc1
      have s6 := s7.trans s8
      have hd8 : G8 f = some (.dT [(rowK r1, w1), (rowK r2, w2)]) := s6 _ _ (same_new (gr5.gh.free hp5) _ _ upd_at)
      have hL8 : G8 p5 = some (.lst [.ref c1, .ref c2]) := s6 _ _ upd_at
      have g8 : Same G G8 := gr8.gg
      refine ⟨p5, _, rfl, .inl ⟨.of upd_at, ?_⟩⟩
      refine lcW (K := K) (S := rP K (rT K rInt) (rSh K)) (M := M0) (J := JT) (G := G8) (Rel := fun i ys => ys = [(r1, k1), (r2, k2)].take i) walk_list gr8.gh (fun H' e => .of (e _ _ hL8)) (fun _ _ z => z) jt_ok trivial rfl
        (fun L hL i x H2 H2' G1 vs ys hi I ⟨e, hx⟩ => ?_) (fun G' H' L ys gr' hys r _ hL => ?_)
      · subst e
        obtain ⟨c, r, k, w, rfl, hc, hw, hv, htk⟩ : ∃ c r k w, x = .ref c ∧ G8 c = some (.tup (r.map V.int)) ∧ rSh K G w k ∧ valV [(rowK r1, w1), (rowK r2, w2)] (rowK r) = some w ∧ [(r1, k1), (r2, k2)].take (i + 1) = [(r1, k1), (r2, k2)].take i ++ [(r, k)] := by
          rcases i with _ | _ | i
          · cases hx
            exact ⟨_, _, _, _, rfl, hc1, hw1, valV_pos rfl, rfl⟩
          · cases hx
            exact ⟨_, _, _, _, rfl, hc2, hw2, (valV_neg hk12).trans (valV_pos rfl), rfl⟩
          · cases hx
        refine ⟨rfl, tyes ?_⟩
        have hg : DGet H2' f (.ref c) (some w) := by
          rw [← hv]
          exact DGet.t (I.gr.to _ _ hd8) (by rw [I.gr.to _ _ hc, rowK_v])
        refine ⟨_, rfl, _, rfl, _, rfl, f, _, rfl, hg, (by show 2 ≤ sizeLine; decide), fun p hp =>  ?_⟩
        · refine lc_put (z := (r, k)) I hL (fun z => z) jt_ok ((Gr.refl I.gr.gh).seal hp) trivial ⟨p, _, _, rfl, .of upd_at, ⟨c, _, rfl, .of (same_new (I.gr.gh.free hp) _ _ (I.gr.gg _ _ hc)), ints_paired r⟩, Up.up ((g8.trans I.gr.gg).trans (same_new (I.gr.gh.free hp))) hw⟩ ?_ (by rw [I.rel, List.length_take]; show min i 2 ≤ 100000; omega)
          rw [I.rel, htk]
      · obtain ⟨bb, vs, e, hs, hp'⟩ := hys
        have e := V.ref.inj e
        subst e
        refine ⟨_, _, rfl, .inl ⟨gr'.gh.seq hs, fun p hp => ?_⟩⟩
        refine q _ _ _ ((gr8.trans gr').seal hp) (rT_new (gr'.gh.free hp) ?_)
        rw [r] at hp'
        exact hp'
end
end K6

set_option Elab.async false
set_option linter.all false
set_option maxRecDepth 100000
set_option maxHeartbeats 4000000
namespace K6
open PySem PySem.Spec PyProof.Rows L2
section
variable {P : Program} {w : World} {K : PySem.W.Frag} {mg : Str → Option Value} {base : Heap}
/-! ### methods -/
theorem mkMak {x q : Str} {C f : Addr} {st : Stmt} {N ps : List Str} {k : Nat} {sp : Sp} (M : Mk K C f) (hm : mg x = some (.ref C)) (h : ∃ fd, FunD K "__init__" q (defArgs st) (defBody st) (defScope st) [] [] f fd) (S : FnScope N ps (defScope st))
    (bd : ∀ (kV doc pm : Value) (an : Option Addr) (cdv ct : Value) (us : List Value), us.length = ps.length → bindArgs (PySem.W.fnOf "__init__" q (defArgs st) (defBody st) (defScope st) .none kV doc pm an cdv ct) ⟨us, []⟩ = pure (ps.zip us))
    (len : ∀ vs H Q E, sp vs H Q E → vs.length = ps.length)
    (body : ∀ (cdv : Value) (A : Around) (outer : List Env) (s : Shared) (H : Hp) (vs : List V) (Q : VK) (E : XK), Room k (A.deeper (envOfC q (defScope st) s.heap.objs.size f cdv)) → sp vs H Q E →
      ∃ t, PSs (cxOf CX0 P w K mg base N q (defScope st) f cdv A outer s H E).nox (defBody st) t ∧ t { nx := fun _ H' => Q .non H', rt := Q } (start N vs) H) : C8.Mak P w K mg base (k + 1) x C sp [] := by
  obtain ⟨fd, F⟩ := h
  refine ⟨f, fd, ps, [], M, F.ok S len fun cdv A outer s H vs Q E hr h => ?_, hm, F.bindsN bd, .nil⟩
  obtain ⟨t, h1, h2⟩ := body cdv A outer s H vs Q E hr h
  exact ⟨t, h1.nox, h2⟩
theorem mkMet {m q : Str} {C f : Addr} {st : Stmt} {N ps : List Str} {k : Nat} {sp : Sp} (c : Cls K C) (M : Meth K C m f) (h : ∃ fd, FunD K m q (defArgs st) (defBody st) (defScope st) [] [] f fd) (S : FnScope N ps (defScope st))
    (bd : ∀ (kV doc pm : Value) (an : Option Addr) (cdv ct : Value) (us : List Value), us.length = ps.length → bindArgs (PySem.W.fnOf m q (defArgs st) (defBody st) (defScope st) .none kV doc pm an cdv ct) ⟨us, []⟩ = pure (ps.zip us))
    (len : ∀ vs H Q E, sp vs H Q E → vs.length = ps.length)
    (body : ∀ (cdv : Value) (A : Around) (outer : List Env) (s : Shared) (H : Hp) (vs : List V) (Q : VK) (E : XK), Room k (A.deeper (envOfC q (defScope st) s.heap.objs.size f cdv)) → sp vs H Q E →
      ∃ t, PSs (cxOf CX0 P w K mg base N q (defScope st) f cdv A outer s H E).nox (defBody st) t ∧ t { nx := fun _ H' => Q .non H', rt := Q } (start N vs) H) : C8.Met P w K mg base (k + 1) C m sp [] := by
  obtain ⟨fd, F⟩ := h
  refine ⟨f, fd, ps, [], c, M, F.ok S len fun cdv A outer s H vs Q E hr h => ?_, F.bindsN bd, .nil⟩
  obtain ⟨t, h1, h2⟩ := body cdv A outer s H vs Q E hr h
  exact ⟨t, h1.nox, h2⟩
/-- an object in the making at x -/
structure Ob (C x dx : Addr) (G H : Hp) (fs : List (Str × V)) (G' H' : Hp) : Prop where
  gr : Gr (fun a => a = x) G H G' H'
  at_ : H' x = some (.ins C dx fs)
  op : G' x = none
section
variable {C x dx : Addr} {G H G1 H1 G2 H2 : Hp} {fs : List (Str × V)}
theorem Ob.step (o : Ob C x dx G H fs G1 H1) (e : Gr M0 G1 H1 G2 H2) : Ob C x dx G H fs G2 H2 := ⟨o.gr.trans (e.up fun _ z => z.elim), e.hh x _ (fun z => z) o.at_, e.open_ o.at_ o.op⟩
theorem Ob.same (o : Ob C x dx G H fs G1 H1) (e : Same H1 H2) : Ob C x dx G H fs G1 H2 := o.step ((Gr.refl o.gr.gh).same e)
theorem Ob.put (o : Ob C x dx G H fs G1 H1) {fs' : List (Str × V)} : Ob C x dx G H fs' G1 (upd H1 x (.ins C dx fs')) := ⟨o.gr.writeM rfl (by rw [o.at_]; intro z; cases z) o.op, upd_at, o.op⟩
end
/-! ### boxes -/
structure LB where
  day : Int
  takes : List Wire
  makes : List Wire
  ents : List Ent
def sizes (ws : List Wire) : List Int := ws.map (·.2)
def names (ws : List Wire) : List Str := ws.map (·.1)
structure BoxOk (b : LB) : Prop where
  day0 : 0 ≤ b.day
  day9 : b.day ≤ 9
  takes : WiresOk b.takes
  takes6 : b.takes.length ≤ 6
  many : prodI (sizes b.takes) ≤ 256
  makes : WiresOk b.makes
  makes1 : 1 ≤ b.makes.length
  makes6 : b.makes.length ≤ 6
  fit : ∀ x ∈ b.makes, ∀ y ∈ b.takes, x.1 = y.1 → x.2 = y.2
  ents : ((b.ents.length : Nat) : Int) = prodI (sizes b.takes)
  entOk : ∀ e ∈ b.ents, EntOk (sizes b.makes) e
theorem size_ok {ws : List Wire} (h : WiresOk ws) : ∀ n ∈ sizes ws, SizeOk n := fun n m => by
  obtain ⟨x, hx, rfl⟩ := List.mem_map.1 m
  have := h.1 x hx
  exact ⟨by have := this.2.1; omega, by have := this.2.2; omega⟩
theorem wire_at {G H : Hp} {us : List V} {ws : List Wire} {i : Nat} {v : V} (hP : Paired (rW K G) us ws) (hx : us[i]? = some v) (e : Same G H) : ∃ a x, ws[i]? = some x ∧ v = .ref a ∧ SqT K H a [.str x.1, .int x.2] := by
  obtain ⟨x, h1, h2⟩ := paired_at hP hx
  obtain ⟨a, h3, h4⟩ := wire_up e h2
  exact ⟨a, x, h1, h3, h4⟩
theorem sizes_at {ws : List Wire} {i : Nat} {x : Wire} {z : Int} (h : ws[i]? = some x) (hz : (sizes ws)[i]? = some z) : x.2 = z := by
  rw [sizes, List.getElem?_map, h] at hz
  exact Option.some.inj hz
theorem names_at {ws : List Wire} {i : Nat} {x : Wire} {z : Str} (h : ws[i]? = some x) (hz : (names ws)[i]? = some z) : x.1 = z := by
  rw [names, List.getElem?_map, h] at hz
  exact Option.some.inj hz
theorem sizes_len {ws : List Wire} : (sizes ws).length = ws.length := List.length_map ..
theorem names_len {ws : List Wire} : (names ws).length = ws.length := List.length_map ..
/-- a box that is done -/
def BoxAt (K : PySem.W.Frag) (G : Hp) (b : LB) (fs : List (Str × V)) : Prop := ∃ t1 t2 t3 t4 t5, fs = ([("day", .int b.day), ("takes", .ref t1), ("take_sizes", .ref t2), ("makes", .ref t3), ("make_sizes", .ref t4), ("entries", .ref t5)] : List (Str × V)) ∧
  rT K (rW K) G (.ref t1) b.takes ∧ SqT K G t2 ((sizes b.takes).map V.int) ∧ rT K (rW K) G (.ref t3) b.makes ∧ SqT K G t4 ((sizes b.makes).map V.int) ∧ rT K (rEn K) G (.ref t5) b.ents
theorem BoxAt.up {G G' : Hp} {b : LB} {fs : List (Str × V)} (e : Same G G') (h : BoxAt K G b fs) : BoxAt K G' b fs := by
  obtain ⟨t1, t2, t3, t4, t5, h0, h2, h3, h4, h5, h6⟩ := h
  exact ⟨t1, t2, t3, t4, t5, h0, Up.up e h2, sqt_up e h3, Up.up e h4, sqt_up e h5, Up.up e h6⟩
def rBox (K : PySem.W.Frag) : Rl LB := fun G v b => ∃ a dx fs, v = .ref a ∧ G a = some (.ins (He.ga K "Box") dx fs) ∧ BoxAt K G b fs
instance : Up (rBox K) := ⟨fun e ⟨a, dx, fs, h0, h1, h2⟩ => ⟨a, dx, fs, h0, e _ _ h1, h2.up e⟩⟩
/-- what stands ahead of Box(..) -/
structure BoxIn (K : PySem.W.Frag) (G : Hp) (a1 a2 a3 : Addr) (b : LB) : Prop where
  takes : rL K (rW K) G (.ref a1) b.takes
  makes : rL K (rW K) G (.ref a2) b.makes
  ents : rL K (rEB K) G (.ref a3) b.ents
def spBox (K : PySem.W.Frag) : Sp := fun vs H Q _ => ∃ G x dx a1 a2 a3 b, vs = [.ref x, .int b.day, .ref a1, .ref a2, .ref a3] ∧ Same G H ∧ H x = some (.ins (He.ga K "Box") dx []) ∧ G x = none ∧ BoxIn K G a1 a2 a3 b ∧ BoxOk b ∧
  ∀ G' H' fs, Gr (fun a => a = x) G H G' H' → H' x = some (.ins (He.ga K "Box") dx fs) → G' x = none → BoxAt K G' b fs → Q .non H'
/-- the instance, its dict, and __init__ -/
theorem mk_box {G H : Hp} {a1 a2 a3 : Addr} {b : LB} {Q : VK} {E : XK} (g : Same G H) (hi : BoxIn K G a1 a2 a3 b) (ho : BoxOk b) (q : ∀ G' H' v, Gr M0 G H G' H' → rBox K G' v b → Q v H') (x dx : Addr) (hx : H x = none) (hdx : H dx = none) (hn : dx ≠ x) :
    spBox K [.ref x, .int b.day, .ref a1, .ref a2, .ref a3] (upd (upd H dx (.own x)) x (.ins (He.ga K "Box") dx [])) (fun v H2 => v = .non ∧ Q (.ref x) H2) E := by
  have g1 := (Gr.refl (M := M0) g).new (o := .own x) hdx
  have hx1 : upd H dx (.own x) x = none := by rw [upd_ne (fun z => hn z.symm)]; exact hx
  have g2 := g1.new (o := .ins (He.ga K "Box") dx []) hx1
  refine ⟨G, x, dx, a1, a2, a3, b, rfl, g2.gh, upd_at, g.free hx, hi, ho, fun G' H' fs gr at_ op hb => ⟨rfl, ?_⟩⟩
  have gr := (g2.born gr fun c z => .inl (by rw [z]; exact hx)).shut hx op at_
  exact q _ _ _ gr ⟨x, dx, fs, rfl, upd_at, hb.up (same_new op)⟩
theorem sc_Box_init : FnScope ["self", "day", "takes", "makes", "entries", "wire", "number", "entry", "take"] ["self", "day", "takes", "makes", "entries"] (defScope s_Box_init) := ⟨rfl, rfl, rfl, by decide +kernel, rfl, by decide +kernel, by decide +kernel⟩
theorem c_Box (T : Tx K mg) : C8.Mak P w K mg base 6 "Box" (He.ga K "Box") (spBox K) [] := by
  refine mkMak T.mkBox T.mgBox T.iBox sc_Box_init (fun _ _ _ _ _ _ us hl => match us, hl with | [_, _, _, _, _], _ => rfl) (fun vs H Q E h => ?_) (fun cdv A outer s H vs Q E hr h => ?_)
  · obtain ⟨_, _, _, _, _, _, _, rfl, _⟩ := h
    rfl
  obtain ⟨G, x, dx, a1, a2, a3, ⟨day, takes, makes, ents⟩, rfl, g, hx, hxG, ⟨⟨_, us1, e1, ha1, hP1⟩, ⟨_, us2, e2, ha2, hP2⟩, ⟨_, us, e3, ha3, hP3⟩⟩, ho, q⟩ := h
  cases e1
  cases e2
  cases e3
  refine ⟨_, (pss_cons (ps_if (pt_not (pt_val (C8.pe_c (c_is_whole3 T) hr (by decide) (by rfl) (pa_cons (pv 1) (pa_cons pe_int (pa_cons pe_int pa_nil)))))) (pss_one ps_never) pss_nil)
      (pss_cons (ps_fld (pv 0) (pv 1) rfl)
      (pss_cons (ps_fld (pv 0) (C8.pe_c (c_checked_wires T) hr (by decide) (by rfl) (pa_cons (pv 2) (pa_cons pe_int (pa_cons pe_str (pa_cons pe_str pa_nil))))) rfl)
      (pss_cons (ps_fld (pv 0) (pe_callTy call_tuple_of (by rfl) T.tuple bt_tuple (pa_cons (pe_lc (own := [("wire", 5)]) rfl sc_Box_init.nd (pi_seq (pe_fld (pv 0) rfl)) (blkOk_by (own := [("wire", 5)]) (N := ["self", "day", "takes", "makes", "entries", "wire", "number", "entry", "take"]) (sc := defScope s_Box_init) (by decide +kernel)) (fun _ _ _ _ _ => (pg_name (i := 5) sc_Box_init.nd rfl (Or.inl rfl))) (fun _ _ _ _ _ => pts_nil) (fun _ _ _ _ _ => (pe_ix (show IxR _ (rIxT K) from ix_tup) (pv 5) pe_int (fun _ _ => rfl)))) pa_nil)) rfl)
      (pss_cons (ps_if (pt_cmpR op_gt (C8.pe_c (c_count_fillings T) hr (by decide) (by rfl) (pa_cons (pe_fld (pv 0) rfl) pa_nil)) pe_int (nomark _)) (pss_one ps_never) pss_nil)
      (pss_cons (ps_fld (pv 0) (C8.pe_c (c_checked_wires T) hr (by decide) (by rfl) (pa_cons (pv 3) (pa_cons pe_int (pa_cons pe_str (pa_cons pe_str pa_nil))))) rfl)
      (pss_cons (ps_fld (pv 0) (pe_callTy call_tuple_of (by rfl) T.tuple bt_tuple (pa_cons (pe_lc (own := [("wire", 5)]) rfl sc_Box_init.nd (pi_seq (pe_fld (pv 0) rfl)) (blkOk_by (own := [("wire", 5)]) (N := ["self", "day", "takes", "makes", "entries", "wire", "number", "entry", "take"]) (sc := defScope s_Box_init) (by decide +kernel)) (fun _ _ _ _ _ => (pg_name (i := 5) sc_Box_init.nd rfl (Or.inl rfl))) (fun _ _ _ _ _ => pts_nil) (fun _ _ _ _ _ => (pe_ix (show IxR _ (rIxT K) from ix_tup) (pv 5) pe_int (fun _ _ => rfl)))) pa_nil)) rfl)
      (pss_cons (ps_for PassesOwn.never rfl (pi_enumA (by rfl) T.enumerate (pa_cons (pe_fld (pv 0) rfl) pa_nil)) (pg_tup rfl (pgs_cons (pg_name (i := 6) sc_Box_init.nd rfl (Or.inl rfl)) (pgs_cons (pg_name (i := 5) sc_Box_init.nd rfl (Or.inr rfl)) pgs_nil))) (pss_one (ps_if (pt_val (pe_callB (cr_any rfl) (by rfl) T.any bt_any (pa_cons (pe_lc (own := [("take", 8)]) rfl sc_Box_init.nd (pi_seq (pe_fld (pv 0) rfl)) (blkOk_by (own := [("take", 8)]) (N := ["self", "day", "takes", "makes", "entries", "wire", "number", "entry", "take"]) (sc := defScope s_Box_init) (by decide +kernel)) (fun _ _ _ _ _ => (pg_name (i := 8) sc_Box_init.nd rfl (Or.inl rfl))) (fun _ _ _ _ _ => pts_nil) (fun _ _ _ _ _ => (pe_and (pe_cmpR op_eq (pe_ix (show IxR _ (rIxT K) from ix_tup) (pv 5) pe_int (fun _ _ => rfl)) (pe_ix (show IxR _ (rIxT K) from ix_tup) (pv 8) pe_int (fun _ _ => rfl)) (nomark _)) (pe_one (pe_cmpR op_ne (pe_ix (show IxR _ (rIxT K) from ix_tup) (pv 5) pe_int (fun _ _ => rfl)) (pe_ix (show IxR _ (rIxT K) from ix_tup) (pv 8) pe_int (fun _ _ => rfl)) (nomark _)))))) pa_nil))) (pss_one ps_never) pss_nil)))
      (pss_cons (ps_if (PW.pt (pw_or (pt_not (pt_val (pe_callB call_isiT (by rfl) T.isinstance bt_isinstance (pa_cons (pv 4) (pa_cons (pe_tup (pa_cons (pe_bltn (v := .ty "list") (by rfl) T.list bt_list rfl) (pa_cons (pe_bltn (v := .ty "tuple") (by rfl) T.tuple bt_tuple rfl) pa_nil))) pa_nil))))) (pw_or1 (pt_cmpR op_ne (pe_callB call_len_seq (by rfl) T.len bt_len (pa_cons (pv 4) pa_nil)) (C8.pe_c (c_count_fillings T) hr (by decide) (by rfl) (pa_cons (pe_fld (pv 0) rfl) pa_nil)) (nomark _))))) (pss_one ps_never) pss_nil)
      (pss_one (ps_fld (pv 0) (pe_callTy call_tuple_of (by rfl) T.tuple bt_tuple (pa_cons (pe_lc (own := [("number", 6), ("entry", 7)]) rfl sc_Box_init.nd (pi_enumA (by rfl) T.enumerate (pa_cons (pv 4) pa_nil)) (blkOk_by (own := [("number", 6), ("entry", 7)]) (N := ["self", "day", "takes", "makes", "entries", "wire", "number", "entry", "take"]) (sc := defScope s_Box_init) (by decide +kernel)) (fun _ _ _ _ _ => (show PG _ _ (gTup K 2 _) from (pg_tup rfl (pgs_cons (pg_name (i := 6) sc_Box_init.nd rfl (Or.inl rfl)) (pgs_cons (pg_name (i := 7) sc_Box_init.nd rfl (Or.inl rfl)) pgs_nil))))) (fun _ _ _ _ _ => pts_nil) (fun _ _ _ _ _ => (C8.pe_c (c_checked_entry T) hr (by decide) (by rfl) (pa_cons (pv 6) (pa_cons (pv 7) (pa_cons (show PE _ _ (tFld K _ _) from (pe_fld (pv 0) rfl)) pa_nil)))))) pa_nil)) rfl))))))))))), ?_⟩
  have o : Ob (He.ga K "Box") x dx G H [] G H := ⟨.refl g, hx, hxG⟩
  refine ⟨_, rfl, _, _, _, rfl, ⟨_, .int _⟩, .int _, .int _, _, rfl, ?_⟩
  rw [wb_in ho.day0 ho.day9]
  refine iteF ⟨_, rfl, _, rfl, _, _, _, _, rfl, o.at_, T.clBox, T.nBox_day, (by show 0 < 1000; decide), ?_⟩
  have o := o.put (fs' := [("day", .int day)])
  refine ⟨_, rfl, G, a1, us1, 0, _, _, takes, rfl, o.gr.gh, ha1, hP1, by omega, ho.takes6, ho.takes, fun G1 H1 v gr1 ht => ?_⟩
  have o := o.step gr1
  obtain ⟨t1, ws1, rfl, hT1, hW1⟩ := ht
  refine ⟨_, rfl, _, _, _, _, rfl, o.at_, T.clBox, T.nBox_takes, (by show 1 < 1000; decide), ?_⟩
  have o := o.put (fs' := [("day", .int day), ("takes", .ref t1)])
  have l1 := Paired.length hW1
  refine ⟨_, rfl, _, _, _, _, _, rfl, o.at_, T.clBox, T.nBox_takes, rfl, t1, ws1, rfl, .inr ⟨sqt_up o.gr.gh hT1, ?_⟩⟩
  refine lcM (K := K) (S := rInt) walk_tup (sizes takes) (by rw [l1, sizes_len]) (by have : takes.length ≤ 6 := ho.takes6; rw [sizes_len]; omega) o.gr.gh (fun H' e => sqt_up e hT1) (fun i x H1 H1' G1 z Q' hz gr ⟨e, hx⟩ k => ?_) (fun G2 H2 L vs gr hL hP hn => ?_) gName_mono
  · subst e
    obtain ⟨a, y, hy, rfl, hb⟩ := wire_at hW1 hx gr.to
    refine ⟨rfl, _, rfl, _, _, _, _, rfl, rfl, hb, rfl, k _ _ _ (.refl gr.gh) ?_⟩
    rw [← sizes_at hy hz]
    rfl
  have o := o.step gr
  have g1 := gr.gg
  have hP := paired_ints hP
  subst hP
  refine ⟨_, _, rfl, .inl ⟨o.gr.gh.seq hL, fun t2 ht2 => ?_⟩⟩
  have o := o.step ((Gr.refl (M := M0) o.gr.gh).seal (o := .tup ((sizes takes).map V.int)) ht2)
  have g2 := same_new (o := .tup ((sizes takes).map V.int)) (gr.gh.free ht2)
  have hT2 : SqT K (upd G2 t2 (.tup ((sizes takes).map V.int))) t2 ((sizes takes).map V.int) := .of upd_at
  generalize upd G2 t2 (.tup ((sizes takes).map V.int)) = G2 at o g2 hT2
  generalize upd H2 t2 (.tup ((sizes takes).map V.int)) = H2 at o
  refine ⟨_, rfl, _, _, _, _, rfl, o.at_, T.clBox, T.nBox_take_sizes, (by show 2 < 1000; decide), ?_⟩
  have o := o.put (fs' := [("day", .int day), ("takes", .ref t1), ("take_sizes", .ref t2)])
  refine ⟨_, rfl, _, _, _, _, _, rfl, o.at_, T.clBox, T.nBox_take_sizes, rfl, t2, sizes takes, rfl, .inr (sqt_up o.gr.gh hT2), size_ok ho.takes, _, _, rfl, rfl, _, rfl, ?_⟩
  rw [decide_eq_false (show ¬ (256 : Int) < prodI (sizes takes) from Int.not_lt.2 ho.many)]
  have o1 := o
  clear o
  have s1 := g1.trans g2
  have gT1 := g2
  -- makes
  have ss1 := gr1.gg.trans s1
  refine iteF ⟨_, rfl, G2, a2, us2, 1, _, _, makes, rfl, o1.gr.gh, ss1.seq ha2, paired_up ss1 hP2, by have : 1 ≤ makes.length := ho.makes1; omega, ho.makes6, ho.makes, fun G3 H3 v gr3 ht => ?_⟩
  have o := o1.step gr3
  obtain ⟨t3, ws2, rfl, hT3, hW2⟩ := ht
  refine ⟨_, rfl, _, _, _, _, rfl, o.at_, T.clBox, T.nBox_makes, (by show 3 < 1000; decide), ?_⟩
  have o := o.put (fs' := [("day", .int day), ("takes", .ref t1), ("take_sizes", .ref t2), ("makes", .ref t3)])
  have l2 := Paired.length hW2
  refine ⟨_, rfl, _, _, _, _, _, rfl, o.at_, T.clBox, T.nBox_makes, rfl, t3, ws2, rfl, .inr ⟨sqt_up o.gr.gh hT3, ?_⟩⟩
  refine lcM (K := K) (S := rInt) walk_tup (sizes makes) (by rw [l2, sizes_len]) (by have : makes.length ≤ 6 := ho.makes6; rw [sizes_len]; omega) o.gr.gh (fun H' e => sqt_up e hT3) (fun i x H1 H1' G1 z Q' hz gr ⟨e, hx⟩ k => ?_) (fun G4 H4 L vs gr4 hL hP hn => ?_) gName_mono
  · subst e
    obtain ⟨a, y, hy, rfl, hb⟩ := wire_at hW2 hx gr.to
    refine ⟨rfl, _, rfl, _, _, _, _, rfl, rfl, hb, rfl, k _ _ _ (.refl gr.gh) ?_⟩
    rw [← sizes_at hy hz]
    rfl
  have o := o.step gr4
  have hP := paired_ints hP
  subst hP
  refine ⟨_, _, rfl, .inl ⟨o.gr.gh.seq hL, fun t4 ht4 => ?_⟩⟩
  have gr5 := (Gr.refl (M := M0) o.gr.gh).seal (o := .tup ((sizes makes).map V.int)) ht4
  have o := o.step gr5
  have hT4 : SqT K (upd G4 t4 (.tup ((sizes makes).map V.int))) t4 ((sizes makes).map V.int) := .of upd_at
  have s3 := (gr3.gg.trans gr4.gg).trans gr5.gg
  have s4 := gr4.gg.trans gr5.gg
  clear gr4 gr5
  generalize upd G4 t4 (.tup ((sizes makes).map V.int)) = G4 at o s3 s4 hT4
  generalize upd H4 t4 (.tup ((sizes makes).map V.int)) = H4 at o
  refine ⟨_, rfl, _, _, _, _, rfl, o.at_, T.clBox, T.nBox_make_sizes, (by show 4 < 1000; decide), ?_⟩
  have o := o.put (fs' := [("day", .int day), ("takes", .ref t1), ("take_sizes", .ref t2), ("makes", .ref t3), ("make_sizes", .ref t4)])
  -- the facts at G4
  have hT1 := sqt_up (s1.trans s3) hT1
  have hW1 := paired_up (s1.trans s3) hW1
  have hT2 := sqt_up s3 hT2
  have hT3 := sqt_up s4 hT3
  have hW2 := paired_up s4 hW2
  have ha3 := (ss1.trans s3).seq ha3
  have hP3 := paired_up (ss1.trans s3) hP3
  have ob := o
  clear o
  refine ⟨_, rfl, _, _, _, _, _, rfl, ob.at_, T.clBox, T.nBox_makes, rfl, t3, ws2, rfl, fr_enum (.inr hT3) (fun i σ H' => Ob (He.ga K "Box") x dx G H [("day", .int day), ("takes", .ref t1), ("take_sizes", .ref t2), ("makes", .ref t3), ("make_sizes", .ref t4)] G4 H' ∧ ∃ r r' r'' r''', σ = [some (.ref x), some (.int day), some (.ref a1), some (.ref a2), some (.ref a3), r, r', r'', r'''])
    ⟨ob, _, _, _, _, rfl⟩ (fun i σ H' h => h.1.gr.gh) (fun i v σ H1 H2 hv ⟨o, r, r', r'', r''', es⟩ e2 => ?_) (fun σ H1 ⟨o, r, r', r'', r''', es⟩ => ?_)⟩
  · subst es
    have o := o.same e2
    obtain ⟨c, y, hy, rfl, hc⟩ := wire_at hW2 hv o.gr.gh
    refine ⟨_, rfl, _, _, _, _, _, rfl, o.at_, T.clBox, T.nBox_takes, rfl, t1, ws1, rfl, .inr ⟨sqt_up o.gr.gh hT1, ?_⟩⟩
    refine lcM (K := K) (S := rBl) walk_tup (takes.map fun _ => false) (by rw [l1, List.length_map]) (by have : takes.length ≤ 6 := ho.takes6; rw [List.length_map]; omega) o.gr.gh (fun H' e => sqt_up e hT1) (fun j x' H3 H3' G3 z Q' hz gr ⟨e, hx⟩ k => ?_) (fun G5 H5 L vs gr5 hL hP hn => ?_) gName_mono
    · subst e
      obtain ⟨d, y', hy', rfl, hd⟩ := wire_at hW1 hx gr.to
      have hz : false = z := by
        rw [List.getElem?_map, hy'] at hz
        exact Option.some.inj hz
      subst hz
      have hc := sqt_up gr.all hc
      refine ⟨rfl, _, rfl, _, _, _, _, rfl, rfl, hc, rfl, _, rfl, _, _, _, _, rfl, rfl, hd, rfl, rfl, _, rfl, ite2 (fun z => ⟨_, rfl, _, _, _, _, rfl, rfl, hc, rfl, _, rfl, _, _, _, _, rfl, rfl, hd, rfl, rfl, k _ _ _ (.refl gr.gh) ?_⟩) (fun _ => k _ _ _ (.refl gr.gh) rfl)⟩
      have hn : y.1 = y'.1 := V.str.inj (of_decide_eq_true z)
      have := ho.fit y (List.mem_of_getElem? hy) y' (List.mem_of_getElem? hy') hn
      show V.bl (!decide (V.int y.2 = V.int y'.2)) = V.bl false
      rw [this, decide_eq_true rfl]
      rfl
    · have hP := paired_bls hP
      subst hP
      refine ⟨L, _, rfl, gr5.gh.seq hL, _, rfl, ?_⟩
      rw [show (takes.map fun _ => false).any id = false from by rw [List.any_map]; exact List.any_eq_false.2 fun _ _ z => by cases z]
      refine iteF ⟨?_, _, _, _, _, rfl⟩
      exact o.same gr5.all
  · subst es
    have l3 : us.length = ents.length := Paired.length hP3
    refine ⟨_, rfl, (by show 2 ≤ sizeLine; decide), fun p hp =>  ⟨_, _, _, _, _, _, rfl, upd_at, .cons (.ty _) (.cons (.ty _) .nil), (Th.lst (((o.gr.gh).trans (same_new hp)).seq ha3)).ty, kit_lt _, _, rfl, ?_⟩⟩
    have o := o.same (same_new (o := .tup [.ty "list", .ty "tuple"]) hp)
    refine iteF ⟨_, rfl, _, _, rfl, .inl (o.gr.gh.seq ha3), _, rfl, _, _, _, _, _, rfl, o.at_, T.clBox, T.nBox_take_sizes, rfl, t2, sizes takes, rfl, .inr (sqt_up o.gr.gh hT2), size_ok ho.takes, rfl, _, rfl, ?_⟩
    rw [l3, show ((ents.length : Nat) : Int) = prodI (sizes takes) from ho.ents, decide_eq_true rfl]
    refine iteF ⟨_, rfl, a3, us, rfl, .inl ⟨o.gr.gh.seq ha3, ?_⟩⟩
    refine lcM (K := K) (S := rEn K) walk_enum ents l3 ?_ o.gr.gh (fun H' e => e.seq ha3) (fun i x' H1 H1' G1 z Q' hz gr ⟨t, u, v, e1, hT, e2, e3, e4⟩ k => ?_) (fun G5 H5 L vs gr5 hL hP hn => ?_) g2_mono
    · have h1 : ((ents.length : Nat) : Int) = prodI (sizes takes) := ho.ents
      have h2 : prodI (sizes takes) ≤ 256 := ho.many
      omega
    · subst e1 e2
      have e3 := Option.some.inj e3
      subst e3
      obtain ⟨e, he, hr⟩ := paired_at hP3 e4
      have hez : e = z := by
        rw [he] at hz
        exact Option.some.inj hz
      subst hez
      have gr1 := (Gr.refl (M := M0) gr.gh).new (o := .tup [.int (i : Nat), v]) hT
      have o := (o.step gr).step gr1
      refine g2_new hT ⟨rfl, _, rfl, _, rfl, _, rfl, _, _, _, _, _, rfl, o.at_, T.clBox, T.nBox_make_sizes, rfl, G1, _, v, t4, sizes makes, e, rfl, gr1.gh, .inr (sqt_up gr.gg hT4), Up.up gr.gg hr, ?_, ?_, ho.entOk e (List.mem_of_getElem? he), fun G6 H6 v' gr6 he' => k _ _ _ (gr1.trans gr6) he'⟩
      · intro z
        have h1 : 1 ≤ makes.length := ho.makes1
        have := congrArg List.length z
        rw [sizes_len, List.length_nil] at this
        omega
      · rw [sizes_len]
        exact ho.makes6
    · refine ⟨_, _, rfl, .inl ⟨gr5.gh.seq hL, fun t5 ht5 => ?_⟩⟩
      have o := (o.step gr5).step ((Gr.refl (M := M0) gr5.gh).seal (o := .tup vs) ht5)
      refine ⟨_, rfl, _, _, _, _, rfl, o.at_, T.clBox, T.nBox_entries, (by show 5 < 1000; decide), ?_⟩
      have s5 := gr5.gg.trans (same_new (gr5.gh.free ht5) (o := .tup vs))
      refine q _ _ _ o.put.gr upd_at o.op ⟨t1, t2, t3, t4, t5, rfl, ⟨t1, _, rfl, sqt_up s5 hT1, paired_up s5 hW1⟩, sqt_up s5 hT2, ⟨t3, _, rfl, sqt_up s5 hT3, paired_up s5 hW2⟩, sqt_up s5 hT4, rT_new (gr5.gh.free ht5) hP⟩
/-! ### made_by -/
def spMb (K : PySem.W.Frag) : Sp := fun vs H Q _ => ∃ (G : Hp) (v : V) (c : Addr) (b : LB) (ns : List Int) (e : Ent), vs = [v, .ref c] ∧ Same G H ∧ rBox K G v b ∧ BoxOk b ∧ SqL K H c (ns.map V.int) ∧ Fil (sizes b.takes) ns ∧ b.ents[(numI 0 (sizes b.takes) ns).toNat]? = some e ∧ 0 ≤ numI 0 (sizes b.takes) ns ∧ ∀ H' v, Same H H' → rEn K G v e → Q v H'
theorem sc_Box_made_by : FnScope ["self", "filling"] ["self", "filling"] (defScope s_Box_made_by) := ⟨rfl, rfl, rfl, by decide +kernel, rfl, by decide +kernel, by decide +kernel⟩
theorem c_made_by (T : Tx K mg) : C8.Met P w K mg base 5 (He.ga K "Box") "made_by" (spMb K) [] := by
  refine mkMet T.clBox T.mBox T.fBox sc_Box_made_by (fun _ _ _ _ _ _ us hl => match us, hl with | [_, _], _ => rfl) (fun vs H Q E h => ?_) (fun cdv A outer s H vs Q E hr h => ?_)
  · obtain ⟨_, _, _, _, _, _, rfl, _⟩ := h
    rfl
  obtain ⟨G, v, c, b, ns, e, rfl, g, ⟨a, dx, fs, rfl, ha, t1, t2, t3, t4, t5, rfl, h1, h2, h3, h4, ⟨_, us, e5, h5, hP⟩⟩, ho, hc, hf, he, h0, q⟩ := h
  cases e5
  refine ⟨_, (pss_one (ps_ret (pe_ix ix_tup (pe_fld (pv 0) rfl) (C8.pe_c (c_filling_number T) hr (by decide) (by rfl) (pa_cons (pe_fld (pv 0) rfl) (pa_cons (pv 1) pa_nil))) (fun _ _ => rfl)))), ?_⟩
  obtain ⟨z, hz, hr⟩ := paired_to hP he
  refine ⟨_, rfl, _, _, _, _, _, rfl, g _ _ ha, T.clBox, T.nBox_entries, rfl, _, rfl, _, _, _, _, _, rfl, g _ _ ha, T.clBox, T.nBox_take_sizes, rfl, _, rfl, t2, c, sizes b.takes, ns, rfl, .inr (sqt_up g h2), .inl hc, hf, size_ok ho.takes, fun H' e => ⟨t5, us, _, z, rfl, rfl, sqt_up (g.trans e) h5, ?_, q _ _ e hr⟩⟩
  have := atI_nat hz
  rw [Int.toNat_of_nonneg h0] at this
  exact this
end
end K6

set_option Elab.async false
set_option linter.all false
set_option maxRecDepth 100000
set_option maxHeartbeats 4000000
namespace K6
open PySem PySem.Spec PyProof.Rows L2
section
variable {P : Program} {w : World} {K : PySem.W.Frag} {mg : Str → Option Value} {base : Heap}
def spChkC (K : PySem.W.Frag) : Sp := fun vs H Q _ => ∃ G a us ws, vs = [.ref a] ∧ Same G H ∧ SqL K G a us ∧ Paired (rW K G) us ws ∧ 1 ≤ ws.length ∧ ws.length ≤ 6 ∧ WiresOk ws ∧ ∀ G' H' v, Gr M0 G H G' H' → rT K (rW K) G' v ws → Q v H'
theorem sc_checked_wires_of_chart : FnScope ["wires", "names", "number", "wire"] ["wires"] (defScope s_checked_wires_of_chart) := ⟨rfl, rfl, rfl, by decide +kernel, rfl, by decide +kernel, by decide +kernel⟩
theorem c_checked_wires_of_chart (T : Tx K mg) : C8.Cal P w K mg base 3 "checked_wires_of_chart" (spChkC K) [] := by
  refine mkCal T.f_checked_wires_of_chart sc_checked_wires_of_chart (fun _ _ _ _ _ _ us hl => match us, hl with | [_], _ => rfl) (fun vs H Q E h => ?_) (fun f cdv A outer s H vs Q E hr h => ?_)
  · obtain ⟨_, _, _, _, rfl, _⟩ := h
    rfl
  obtain ⟨G, a, us, ws, rfl, g, ha, hP, hn, h6, ⟨hw, hd⟩, q⟩ := h
  have hl : us.length = ws.length := Paired.length hP
  refine ⟨_, (pss_cons (ps_if (PW.pt (pw_or (pt_not (pt_val (pe_callB call_isiT (by rfl) T.isinstance bt_isinstance (pa_cons (pv 0) (pa_cons (pe_tup (pa_cons (pe_bltn (v := .ty "list") (by rfl) T.list bt_list rfl) (pa_cons (pe_bltn (v := .ty "tuple") (by rfl) T.tuple bt_tuple rfl) pa_nil))) pa_nil))))) (pw_or1 (pt_not (pt_chain op_le op_le pe_int (pe_callB call_len_seq (by rfl) T.len bt_len (pa_cons (pv 0) pa_nil)) pe_int))))) (pss_one ps_never) pss_nil)
      (pss_cons (ps_set (i := 1) sc_checked_wires_of_chart.nd rfl (Or.inl rfl) (pe_lst pa_nil))
      (pss_cons (ps_for PassesOwn.never rfl (pi_enumA (by rfl) T.enumerate (pa_cons (pv 0) pa_nil)) (pg_tup rfl (pgs_cons (pg_name (i := 2) sc_checked_wires_of_chart.nd rfl (Or.inl rfl)) (pgs_cons (pg_name (i := 3) sc_checked_wires_of_chart.nd rfl (Or.inl rfl)) pgs_nil))) (pss_cons (ps_if (PW.pt (pw_or (pt_not (pt_val (C8.pe_c (c_is_wire T) hr (by decide) (by rfl) (pa_cons (pv 3) pa_nil)))) (pw_or1 (pt_cmpR op_in_seq (pe_ix ix_tup (pv 3) pe_int (fun _ _ => rfl)) (pv 1) (by rfl))))) (pss_one ps_never) pss_nil)
      (pss_one (ps_expr (pe_bm PySem.F.plainAttrs_list PySem.F.slot_list_append PySem.F.type_list_append mt_append (pv 1) (pa_cons (pe_ix ix_tup (pv 3) pe_int (fun _ _ => rfl)) pa_nil))))))
      (pss_one (ps_ret (pe_callTy call_tuple_of (by rfl) T.tuple bt_tuple (pa_cons (pe_lc (own := [("wire", 3)]) rfl sc_checked_wires_of_chart.nd (pi_seq (pv 0)) (blkOk_by (own := [("wire", 3)]) (N := ["wires", "names", "number", "wire"]) (sc := defScope s_checked_wires_of_chart) (by decide +kernel)) (fun _ _ _ _ _ => (pg_name (i := 3) sc_checked_wires_of_chart.nd rfl (Or.inl rfl))) (fun _ _ _ _ _ => pts_nil) (fun _ _ _ _ _ => (pe_tup (pa_cons (pe_ix (show IxR _ (rIxT K) from ix_tup) (pv 3) pe_int (fun _ _ => rfl)) (pa_cons (pe_ix (show IxR _ (rIxT K) from ix_tup) (pv 3) pe_int (fun _ _ => rfl)) pa_nil))))) pa_nil))))))), ?_⟩
  refine ⟨_, rfl, (by show 2 ≤ sizeLine; decide), fun p hp =>  ⟨_, _, _, _, _, _, rfl, upd_at, .cons (.ty _) (.cons (.ty _) .nil), (Th.lst ((g.trans (same_new hp)).seq ha)).ty, kit_lt _, _, rfl, ?_⟩⟩
  have e0 := g.trans (same_new (o := .tup [.ty "list", .ty "tuple"]) hp)
  refine iteF ⟨_, rfl, _, _, rfl, .inl (e0.seq ha), _, _, rfl, rfl, _, rfl, ?_⟩
  rw [decide_eq_true (show (1 : Int) ≤ ((us.length : Nat) : Int) by omega)]
  refine iteT ⟨_, _, rfl, rfl, _, rfl, ?_⟩
  rw [decide_eq_true (show ((us.length : Nat) : Int) ≤ 16 by omega)]
  refine iteF ⟨(show 0 ≤ sizeLine by decide), fun l hl0 => ?_⟩
  have hl1 : H l = none := (same_new hp).free hl0
  have hln : us.length = (ws.map (·.1)).length := by rw [hl, List.length_map]
  refine ⟨_, rfl, a, us, rfl, fr_enum (.inl ha) (fun i σ H' => Gr M0 G H G H' ∧ H' l = some (.lst (((ws.map (·.1)).take i).map V.str)) ∧ ∃ r r', σ = [some (.ref a), some (.ref l), r, r'])
    ⟨((Gr.refl g).new hp).new hl0, upd_at, _, _, rfl⟩ (fun i σ H' h => h.1.gh) (fun i v σ H1 H2 hv ⟨gr, hl2, r, r', es⟩ e2 => ?_) (fun σ H1 ⟨gr, hl2, r, r', es⟩ => ?_)⟩
  · subst es
    obtain ⟨x, hx, hxw⟩ := paired_at hP hv
    have gr2 := gr.same e2
    obtain ⟨b, rfl, hb⟩ := wire_up gr2.gh hxw
    have hx1 : (ws.map (·.1))[i]? = some x.1 := by rw [List.getElem?_map, hx]; rfl
    have hl3 := e2 _ _ hl2
    refine ⟨_, rfl, _, x, rfl, Up.up gr2.gh hxw, hw x (List.mem_of_getElem? hx), fun H3 e3 => ⟨_, rfl, iteF ?_⟩⟩
    have hl4 := e3 _ _ hl3
    have hb4 := sqt_up e3 hb
    refine ⟨_, rfl, _, _, _, _, rfl, rfl, hb4, rfl, _, rfl, _, _, rfl, .inl (.of hl4), rfl, flat_strs _, _, rfl, ?_⟩
    refine ite2 (fun z => absurd z ?_) (fun _ => ?_)
    · show ¬ inV (.str x.1) _ = true
      rw [in_strs]
      exact fun z => take_nodup hd hx1 (of_decide_eq_true z)
    refine ⟨_, rfl, .inl ⟨rfl, _, .of hl4⟩, _, rfl, _, _, _, _, rfl, rfl, hb4, rfl, l, _, _, rfl, rfl, hl4, ?_, ?_⟩
    · exact small_lt (by rw [List.length_map, List.length_take, List.length_map]; omega)
    · refine ⟨(gr2.same e3).write hl1 (g.free hl1), ?_, _, _, rfl⟩
      rw [upd_at, take_snoc hx1, List.map_append]
      rfl
  · subst es
    refine ⟨_, rfl, a, us, rfl, .inl ⟨gr.gh.seq ha, ?_⟩⟩
    refine lcW (K := K) (S := rW K) (M := M0) (J := JT) (G := G) (Rel := fun i ys => ys = ws.take i) walk_list gr.gh (fun H' e => e.seq ha) (fun _ _ z => z) jt_ok trivial rfl
      (fun L hL i x H2 H2' G1 vs ys hi I ⟨e, hx⟩ => ?_) (fun G' H' L ys gr' hys r _ hL => ?_)
    · subst e
      obtain ⟨y, hy, hyw⟩ := paired_at hP hx
      obtain ⟨b, rfl, hb⟩ := wire_up I.gr.to hyw
      refine ⟨rfl, tyes ?_⟩
      refine ⟨_, rfl, _, _, _, _, rfl, rfl, hb, rfl, _, rfl, _, _, _, _, rfl, rfl, hb, rfl, (by show 2 ≤ sizeLine; decide), fun p hp =>  ?_⟩
      refine lc_put I hL (fun z => z) jt_ok ((Gr.refl I.gr.gh).seal hp) trivial rw_new ?_ (by rw [I.rel, List.length_take]; omega)
      rw [I.rel, take_snoc hy]
    · obtain ⟨b, vs, e, hs, hp'⟩ := hys
      have e := V.ref.inj e
      subst e
      refine ⟨_, _, rfl, .inl ⟨gr'.gh.seq hs, fun p hp => ?_⟩⟩
      refine q _ _ _ ((gr.trans gr').seal hp) (rT_new (gr'.gh.free hp) ?_)
      rw [r, hl, List.take_length] at hp'
      exact hp'

/-! ### wires as data -/
def encW (x : Wire) : PyData := .tuple [.str x.1, .int x.2]
theorem dp_wire {H : Hp} {v : V} {x : Wire} (h : rW K H v x) : Dp K H v (encW x) := by
  obtain ⟨a, _, _, rfl, h, rfl, rfl⟩ := h
  exact .tup h (.cons (.str _) (.cons (.int _) .nil))
theorem dp_wires {H : Hp} : ∀ {us : List V} {ws : List Wire}, Paired (rW K H) us ws → DpAll K H us (ws.map encW)
  | _, _, .nil => .nil
  | _, _, .cons h t => .cons (dp_wire h) (dp_wires t)
theorem eqv_wire (x y : Wire) : PyData.eqv (encW x) (encW y) = decide (x = y) := by
  show (PyData.eqv (.str x.1) (.str y.1) && (PyData.eqv (.int x.2) (.int y.2) && true)) = _
  show ((x.1 == y.1) && ((x.2 == y.2) && true)) = _
  by_cases h : x = y
  · subst h
    simp
  · rw [decide_eq_false h]
    by_cases h1 : x.1 = y.1
    · have h2 : ¬ x.2 = y.2 := fun z => h (Prod.ext h1 z)
      simp [h2]
    · simp [h1]
theorem any_wire (x : Wire) : ∀ ws : List Wire, (ws.map encW).any (fun z => PyData.eqv z (encW x)) = decide (x ∈ ws)
  | [] => rfl
  | y :: ws => by
    rw [List.map_cons, List.any_cons, any_wire x ws, eqv_wire]
    by_cases h : y = x
    · subst h
      simp
    · simp [h, Ne.symm h]
theorem strOk_name {z : Str} (h : NameOk z) : PyData.strOk z = true := by
  have hs : smallZ.cps.toList.all (fun c => decide (c < 0x110000)) = true := by decide +kernel
  refine Array.all_eq_true.2 fun i hi => ?_
  exact List.all_eq_true.1 hs _ (h.2.2 i _ (Array.getElem?_eq_getElem hi))
theorem lay_wires : ∀ {ws : List Wire}, (∀ x ∈ ws, WireOk x) → PyData.canLayAll0 (ws.map encW) = true
  | [], _ => rfl
  | x :: ws, h => by
    show (((PyData.strOk x.1) && (true && true)) && PyData.canLayAll0 (ws.map encW)) = true
    rw [lay_wires fun y m => h y (.tail _ m), strOk_name (h x (.head _)).1]
    rfl
theorem depth_wires : ∀ ws : List Wire, PyData.depthAll (ws.map encW) ≤ 1
  | [] => by decide
  | x :: ws => by
    show max 1 (PyData.depthAll (ws.map encW)) ≤ 1
    have := depth_wires ws
    omega
theorem shaped_wire {x : Wire} (h : WireOk x) : SeqAt.shaped (encW x) = true := by
  unfold SeqAt.shaped
  rw [show (encW x).canLay0 = true from by show ((PyData.strOk x.1) && (true && true)) = true; rw [strOk_name h.1]; rfl]
  rfl
theorem shaped_wires {ws : List Wire} (h : ∀ x ∈ ws, WireOk x) : SeqAt.shaped (.tuple (ws.map encW)) = true ∧ SeqAt.shaped (.list (ws.map encW)) = true := by
  have d := depth_wires ws
  have l := lay_wires h
  have e : decide (PyData.depthAll (ws.map encW) + 1 ≤ 64) = true := decide_eq_true (by omega)
  exact ⟨by show (PyData.canLayAll0 (ws.map encW) && decide (PyData.depthAll (ws.map encW) + 1 ≤ 64)) = true; rw [l, e]; rfl, by show (PyData.canLayAll0 (ws.map encW) && decide (PyData.depthAll (ws.map encW) + 1 ≤ 64)) = true; rw [l, e]; rfl⟩
/-! ### checked_boxes -/
def spChkB (K : PySem.W.Frag) : Sp := fun vs H Q _ => ∃ G a c us bs ws, vs = [.ref a, .ref c] ∧ Same G H ∧ SqL K G a us ∧ Paired (rBox K G) us bs ∧ rT K (rW K) G (.ref c) ws ∧ WiresOk ws ∧ 1 ≤ bs.length ∧ bs.length ≤ 6 ∧ (∀ b ∈ bs, BoxOk b) ∧ (∀ b ∈ bs, ∀ x ∈ b.takes ++ b.makes, x ∈ ws) ∧ (bs.flatMap (·.makes)).Nodup ∧ ∀ G' H' v, Gr M0 G H G' H' → rT K (rBox K) G' v bs → Q v H'
theorem flat_take {bs : List LB} {i : Nat} {b : LB} (hn : (bs.flatMap (·.makes)).Nodup) (h : bs[i]? = some b) {x : Wire} (hx : x ∈ b.makes) : x ∉ (bs.take i).flatMap (·.makes) := by
  intro m
  have e : bs = bs.take i ++ b :: bs.drop (i + 1) := by rw [← drop_cons h, List.take_append_drop]
  rw [e, List.flatMap_append, List.flatMap_cons] at hn
  have := (List.nodup_append.1 hn).2.2 x m x (List.mem_append_left _ hx)
  exact this rfl
theorem makes_len : ∀ {bs : List LB}, (∀ b ∈ bs, BoxOk b) → (bs.flatMap (·.makes)).length ≤ 6 * bs.length
  | [], _ => by simp
  | b :: bs, h => by
    have := makes_len fun x m => h x (.tail _ m)
    have := (h b (.head _)).makes6
    rw [List.flatMap_cons, List.length_append, List.length_cons]
    omega
/-- any([.. for x in xs]) where none holds -/
theorem any_none {α : Type} (xs : List α) : (xs.map fun _ => false).any id = false := by rw [List.any_map]; exact List.any_eq_false.2 fun _ _ z => by cases z
/-- t + u, whichever is empty -/
theorem cat_any {H : Hp} {a b : Addr} {xs ys : List V} {Q : VK} (ha : SqT K H a xs) (hb : SqT K H b ys) (hl : xs.length + ys.length ≤ sizeLine) (h : ∀ t H3, Same H H3 → SqT K H3 t (xs ++ ys) → Q (.ref t) H3) : rCatA K (.ref a) (.ref b) H Q :=
  ⟨a, b, xs, ys, rfl, rfl, ha, hb, hl, fun e => h b H (.refl _) (by rw [e]; exact hb), fun _ e => h a H (.refl _) (by rw [e, List.append_nil]; exact ha), fun _ _ p hp => h p _ (same_new hp) (.of upd_at)⟩
theorem sc_checked_boxes : FnScope ["boxes", "wires", "made", "number", "box", "wire"] ["boxes", "wires"] (defScope s_checked_boxes) := ⟨rfl, rfl, rfl, by decide +kernel, rfl, by decide +kernel, by decide +kernel⟩
theorem c_checked_boxes (T : Tx K mg) : C8.Cal P w K mg base 1 "checked_boxes" (spChkB K) [] := by
  refine mkCal T.f_checked_boxes sc_checked_boxes (fun _ _ _ _ _ _ us hl => match us, hl with | [_, _], _ => rfl) (fun vs H Q E h => ?_) (fun f cdv A outer s H vs Q E hr h => ?_)
  · obtain ⟨_, _, _, _, _, _, rfl, _⟩ := h
    rfl
  obtain ⟨G, a, c, us, bs, ws, rfl, g, ha, hP, ⟨_, cs, e, hc, hC⟩, hws, h1, h6, hbs, hin, hnd, q⟩ := h
  cases e
  have hl : us.length = bs.length := Paired.length hP
  refine ⟨_, (pss_cons (ps_if (PW.pt (pw_or (pt_not (pt_val (pe_callB call_isiT (by rfl) T.isinstance bt_isinstance (pa_cons (pv 0) (pa_cons (pe_tup (pa_cons (pe_bltn (v := .ty "list") (by rfl) T.list bt_list rfl) (pa_cons (pe_bltn (v := .ty "tuple") (by rfl) T.tuple bt_tuple rfl) pa_nil))) pa_nil))))) (pw_or1 (pt_not (pt_chain op_le op_le pe_int (pe_callB call_len_seq (by rfl) T.len bt_len (pa_cons (pv 0) pa_nil)) pe_int))))) (pss_one ps_never) pss_nil)
      (pss_cons (ps_set (i := 2) sc_checked_boxes.nd rfl (Or.inr rfl) (pe_lst pa_nil))
      (pss_cons (ps_for PassesOwn.never rfl (pi_enumA (by rfl) T.enumerate (pa_cons (pv 0) pa_nil)) (pg_tup rfl (pgs_cons (pg_name (i := 3) sc_checked_boxes.nd rfl (Or.inl rfl)) (pgs_cons (pg_name (i := 4) sc_checked_boxes.nd rfl (Or.inl rfl)) pgs_nil))) (pss_cons (ps_if (pt_not (pt_val (pe_callB (C8.call_isC T.insBox) (by rfl) T.isinstance bt_isinstance (pa_cons (pv 4) (pa_cons (pe_glob (v := V.ref _) (by rfl) T.mgBox rfl) pa_nil))))) (pss_one ps_never) pss_nil)
      (pss_cons (ps_if (pt_val (pe_callB (cr_any rfl) (by rfl) T.any bt_any (pa_cons (pe_lc (own := [("wire", 5)]) rfl sc_checked_boxes.nd (pi_seq (pe_op op_catA (pe_fld (pv 4) rfl) (pe_fld (pv 4) rfl))) (blkOk_by (own := [("wire", 5)]) (N := ["boxes", "wires", "made", "number", "box", "wire"]) (sc := defScope s_checked_boxes) (by decide +kernel)) (fun _ _ _ _ _ => (pg_name (i := 5) sc_checked_boxes.nd rfl (Or.inl rfl))) (fun _ _ _ _ _ => pts_nil) (fun _ _ _ _ _ => (pe_cmpR (show OpR _ _ (rNotInT K) from (op_notInDT (u65 hr))) (pv 5) (pv 1) (by rfl)))) pa_nil))) (pss_one ps_never) pss_nil)
      (pss_cons (ps_if (pt_val (pe_callB (cr_any rfl) (by rfl) T.any bt_any (pa_cons (pe_lc (own := [("wire", 5)]) rfl sc_checked_boxes.nd (pi_seq (pe_fld (pv 4) rfl)) (blkOk_by (own := [("wire", 5)]) (N := ["boxes", "wires", "made", "number", "box", "wire"]) (sc := defScope s_checked_boxes) (by decide +kernel)) (fun _ _ _ _ _ => (pg_name (i := 5) sc_checked_boxes.nd rfl (Or.inl rfl))) (fun _ _ _ _ _ => pts_nil) (fun _ _ _ _ _ => (pe_cmpR (show OpR _ _ (rInD K) from (op_inD (u65 hr))) (pv 5) (pv 2) (by rfl)))) pa_nil))) (pss_one ps_never) pss_nil)
      (pss_one (ps_expr (pe_bm PySem.F.plainAttrs_list PySem.F.slot_list_extend PySem.F.type_list_extend mt_extT (pv 2) (pa_cons (pe_fld (pv 4) rfl) pa_nil))))))))
      (pss_one (ps_ret (pe_callTy call_tuple_of (by rfl) T.tuple bt_tuple (pa_cons (pv 0) pa_nil))))))), ?_⟩
  refine ⟨_, rfl, (by show 2 ≤ sizeLine; decide), fun p hp =>  ⟨_, _, _, _, _, _, rfl, upd_at, .cons (.ty _) (.cons (.ty _) .nil), (Th.lst ((g.trans (same_new hp)).seq ha)).ty, kit_lt _, _, rfl, ?_⟩⟩
  have e0 := g.trans (same_new (o := .tup [.ty "list", .ty "tuple"]) hp)
  refine iteF ⟨_, rfl, _, _, rfl, .inl (e0.seq ha), _, _, rfl, rfl, _, rfl, ?_⟩
  rw [decide_eq_true (show (1 : Int) ≤ ((us.length : Nat) : Int) by omega)]
  refine iteT ⟨_, _, rfl, rfl, _, rfl, ?_⟩
  rw [decide_eq_true (show ((us.length : Nat) : Int) ≤ 6 by omega)]
  refine iteF ⟨(show 0 ≤ sizeLine by decide), fun l hl0 => ?_⟩
  have hl1 : H l = none := (same_new hp).free hl0
  have hm := makes_len hbs
  refine ⟨_, rfl, a, us, rfl, fr_enum (.inl ha) (fun i σ H' => Gr M0 G H G H' ∧ (∃ ms, H' l = some (.lst ms) ∧ Paired (rW K G) ms ((bs.take i).flatMap (·.makes))) ∧ ∃ r r' r'', σ = [some (.ref a), some (.ref c), some (.ref l), r, r', r''])
    ⟨((Gr.refl g).new hp).new hl0, ⟨[], upd_at, .nil⟩, _, _, _, rfl⟩ (fun i σ H' h => h.1.gh) (fun i v σ H1 H2 hv ⟨gr, ⟨ms, hl2, hms⟩, r, r', r'', es⟩ e2 => ?_) (fun σ H1 ⟨gr, _, r, r', r'', es⟩ => ?_)⟩
  · subst es
    obtain ⟨b, hb, hbv⟩ := paired_at hP hv
    have hbm := List.mem_of_getElem? hb
    have ho := hbs b hbm
    obtain ⟨x, dx, fs, rfl, hxi, t1, t2, t3, t4, t5, rfl, ⟨_, vs1, e1, k1, p1⟩, k2, ⟨_, vs3, e3, k3, p3⟩, k4, k5⟩ := hbv
    cases e1
    cases e3
    have gr2 := gr.same e2
    have hl3 := e2 _ _ hl2
    have hx2 := gr2.gh _ _ hxi
    refine ⟨_, rfl, _, _, _, rfl, hx2, _, rfl, iteF ?_⟩
    -- the names
    have hall : Paired (rW K G) (vs1 ++ vs3) (b.takes ++ b.makes) := paired_app p1 p3
    have hlen : (vs1 ++ vs3).length = (b.takes ++ b.makes).length := Paired.length hall
    have hle : (b.takes ++ b.makes).length ≤ 12 := by have := ho.takes6; have := ho.makes6; rw [List.length_append]; omega
    have hle1 : vs1.length + vs3.length ≤ sizeLine := by rw [← List.length_append, hlen]; exact small_of (by omega)
    refine ⟨_, rfl, _, _, _, _, _, rfl, hx2, T.clBox, T.nBox_takes, rfl, _, rfl, _, _, _, _, _, rfl, hx2, T.clBox, T.nBox_makes, rfl, cat_any (sqt_up gr2.gh k1) (sqt_up gr2.gh k3) hle1 fun t H3 s3 hT3 => ?_⟩
    have gr3 := gr2.same s3
    refine ⟨t, _, rfl, .inr ⟨hT3, ?_⟩⟩
    refine lcM (K := K) (S := rBl) (G := H3) walk_tup ((b.takes ++ b.makes).map fun _ => false) (by rw [hlen, List.length_map]) (by rw [List.length_map]; omega) (.refl _) (fun H' e => sqt_up e hT3) (fun j x' H4 H4' G4 z Q' hz gr ⟨e, hx⟩ k => ?_) (fun G5 H5 L vs gr5 hL hP5 hn => ?_) gName_mono
    · subst e
      obtain ⟨y, hy, hyv⟩ := paired_at hall hx
      have hz : false = z := by
        rw [List.getElem?_map, hy] at hz
        exact Option.some.inj hz
      subst hz
      have s4 := gr3.gh.trans gr.all
      have hyw := hin b hbm y (List.mem_of_getElem? hy)
      refine ⟨rfl, _, rfl, _, rfl, _, _, dp_wire (Up.up s4 hyv), .tup (sqt_up s4 hc) (dp_wires (paired_up s4 hC)), shaped_wire (hws.1 y hyw), (shaped_wires hws.1).1, k _ _ _ (.refl gr.gh) ?_⟩
      rw [any_wire, decide_eq_true hyw]
      rfl
    have hP5 := paired_bls hP5
    subst hP5
    refine ⟨L, _, rfl, gr5.gh.seq hL, _, rfl, ?_⟩
    rw [any_none]
    have gr4 := gr3.same gr5.all
    have s5 := s3.trans gr5.all
    have hx3 := s5 _ _ hx2
    have hl4 := s5 _ _ hl3
    refine iteF ⟨_, rfl, _, _, _, _, _, rfl, hx3, T.clBox, T.nBox_makes, rfl, t3, vs3, rfl, .inr ⟨sqt_up gr4.gh k3, ?_⟩⟩
    refine lcM (K := K) (S := rBl) (G := H5) walk_tup (b.makes.map fun _ => false) (by rw [Paired.length p3, List.length_map]) (by have := ho.makes6; rw [List.length_map]; omega) (.refl _) (fun H' e => sqt_up (gr4.gh.trans e) k3) (fun j x' H6 H6' G6 z Q' hz gr ⟨e, hx⟩ k => ?_) (fun G7 H7 L7 vs gr7 hL7 hP7 hn => ?_) gName_mono
    · subst e
      obtain ⟨y, hy, hyv⟩ := paired_at p3 hx
      have hz : false = z := by
        rw [List.getElem?_map, hy] at hz
        exact Option.some.inj hz
      subst hz
      have s6 := gr4.gh.trans gr.all
      have hym := List.mem_of_getElem? hy
      have hyw := hin b hbm y (List.mem_append_right _ hym)
      have hsub : ∀ x ∈ (bs.take i).flatMap (·.makes), WireOk x := fun x m => by
        obtain ⟨b', hb', hx'⟩ := List.mem_flatMap.1 m
        exact (hbs b' (List.mem_of_mem_take hb')).makes.1 x hx'
      refine ⟨rfl, _, rfl, _, rfl, _, _, dp_wire (Up.up s6 hyv), .lst (.of (gr.all _ _ hl4)) (dp_wires (paired_up s6 hms)), shaped_wire (hws.1 y hyw), (shaped_wires hsub).2, k _ _ _ (.refl gr.gh) ?_⟩
      rw [any_wire, decide_eq_false (flat_take hnd hb hym)]
      rfl
    have hP7 := paired_bls hP7
    subst hP7
    refine ⟨L7, _, rfl, gr7.gh.seq hL7, _, rfl, ?_⟩
    rw [any_none]
    have gr6 := gr4.same gr7.all
    have s7 := s5.trans gr7.all
    have hx4 := s7 _ _ hx2
    have hl5 := s7 _ _ hl3
    have hms1 : ms.length ≤ 36 := by
      rw [Paired.length hms]
      have e : bs = bs.take i ++ bs.drop i := (List.take_append_drop i bs).symm
      have : (bs.flatMap (·.makes)).length = ((bs.take i).flatMap (·.makes)).length + ((bs.drop i).flatMap (·.makes)).length := by
        rw [← List.length_append, ← List.flatMap_append, List.take_append_drop]
      omega
    refine iteF ⟨_, rfl, .inl ⟨rfl, _, .of hl5⟩, _, rfl, _, _, _, _, _, rfl, hx4, T.clBox, T.nBox_makes, rfl, l, t3, _, _, rfl, rfl, hl5, sqt_up gr6.gh k3, small_of (by have := Paired.length p3; have := ho.makes6; omega), ?_⟩
    refine ⟨gr6.write hl1 (g.free hl1), ⟨_, upd_at, ?_⟩, _, _, _, rfl⟩
    rw [take_snoc hb, List.flatMap_append, List.flatMap_cons, List.flatMap_nil, List.append_nil]
    exact paired_app hms p3
  · subst es
    refine ⟨_, rfl, _, _, rfl, .inl ⟨gr.gh.seq ha, fun p hp => ?_⟩⟩
    exact q _ _ _ (gr.seal hp) (rT_new (gr.gh.free hp) hP)
/-! ### checked_outs -/
theorem cut_take (xs : List V) (n : Nat) : cutV xs none (some (n : Int)) = xs.take n := by
  unfold cutV
  have e0 : HT.sIx xs.length 0 none = 0 := rfl
  have e1 : HT.sIx xs.length xs.length (some (n : Int)) = min n xs.length := HT.sIx_nat _ _ _
  rw [e0, e1, List.drop_zero, Nat.sub_zero]
  by_cases h : n ≤ xs.length
  · rw [Nat.min_eq_left h]
  · rw [Nat.min_eq_right (by omega), List.take_length, List.take_of_length_le (by omega)]
def spOuts (K : PySem.W.Frag) : Sp := fun vs H Q _ => ∃ (G : Hp) (a c : Addr) (os : List Str) (ws : List Wire), vs = [.ref a, .ref c] ∧ Same G H ∧ SqL K G a (os.map V.str) ∧ rT K (rW K) G (.ref c) ws ∧ ws.length ≤ 6 ∧ os.length ≤ 6 ∧ (∀ z ∈ os, NameOk z) ∧ (∀ z ∈ os, z ∈ names ws) ∧ os.Nodup ∧ ∀ G' H' p, Gr M0 G H G' H' → SqT K G' p (os.map V.str) → Q (.ref p) H'
theorem sc_checked_outs : FnScope ["outs", "wires", "names", "number", "name", "wire"] ["outs", "wires"] (defScope s_checked_outs) := ⟨rfl, rfl, rfl, by decide +kernel, rfl, by decide +kernel, by decide +kernel⟩
theorem c_checked_outs (T : Tx K mg) : C8.Cal P w K mg base 2 "checked_outs" (spOuts K) [] := by
  refine mkCal T.f_checked_outs sc_checked_outs (fun _ _ _ _ _ _ us hl => match us, hl with | [_, _], _ => rfl) (fun vs H Q E h => ?_) (fun f cdv A outer s H vs Q E hr h => ?_)
  · obtain ⟨_, _, _, _, _, rfl, _⟩ := h
    rfl
  obtain ⟨G, a, c, os, ws, rfl, g, ha, ⟨_, cs, e, hc, hC⟩, hw6, ho6, hok, hin, hnd, q⟩ := h
  cases e
  refine ⟨_, (pss_cons (ps_if (PW.pt (pw_or (pt_not (pt_val (pe_callB call_isiT (by rfl) T.isinstance bt_isinstance (pa_cons (pv 0) (pa_cons (pe_tup (pa_cons (pe_bltn (v := .ty "list") (by rfl) T.list bt_list rfl) (pa_cons (pe_bltn (v := .ty "tuple") (by rfl) T.tuple bt_tuple rfl) pa_nil))) pa_nil))))) (pw_or1 (pt_cmpR op_gt (pe_callB call_len_seq (by rfl) T.len bt_len (pa_cons (pv 0) pa_nil)) pe_int (nomark _))))) (pss_one ps_never) pss_nil)
      (pss_cons (ps_setLc (i := 2) (own := [("wire", 5)]) rfl sc_checked_outs.nd rfl rfl (sw_true rfl rfl rfl (by decide +kernel)) (pi_seq (pv 1)) (blkOk_by (own := [("wire", 5)]) (N := ["outs", "wires", "names", "number", "name", "wire"]) (sc := defScope s_checked_outs) (by decide +kernel)) (fun _ _ _ _ _ => (pg_name (i := 5) sc_checked_outs.nd rfl (Or.inl rfl))) (fun _ _ _ _ _ => pts_nil) (fun _ _ _ _ _ => (pe_ix (show IxR _ (rIxT K) from ix_tup) (pv 5) pe_int (fun _ _ => rfl))))
      (pss_cons (ps_for PassesOwn.never rfl (pi_enumA (by rfl) T.enumerate (pa_cons (pv 0) pa_nil)) (pg_tup rfl (pgs_cons (pg_name (i := 3) sc_checked_outs.nd rfl (Or.inl rfl)) (pgs_cons (pg_name (i := 4) sc_checked_outs.nd rfl (Or.inl rfl)) pgs_nil))) (pss_one (ps_if (PW.pt (pw_or (pt_not (pt_val (C8.pe_c (c_is_name T) hr (by decide) (by rfl) (pa_cons (pv 4) pa_nil)))) (pw_or (pt_cmpR op_notIn_seq (pv 4) (pv 2) (by rfl)) (pw_or1 (pt_cmpR op_in_seq (pv 4) (pe_slice sl_list (pv 0) po_none (po_some (pv 3))) (by rfl)))))) (pss_one ps_never) pss_nil)))
      (pss_one (ps_ret (pe_callTy call_tuple_of (by rfl) T.tuple bt_tuple (pa_cons (pv 0) pa_nil))))))), ?_⟩
  refine ⟨_, rfl, (by show 2 ≤ sizeLine; decide), fun p hp =>  ⟨_, _, _, _, _, _, rfl, upd_at, .cons (.ty _) (.cons (.ty _) .nil), (Th.lst ((g.trans (same_new hp)).seq ha)).ty, kit_lt _, _, rfl, ?_⟩⟩
  have e0 := g.trans (same_new (o := .tup [.ty "list", .ty "tuple"]) hp)
  refine iteF ⟨_, rfl, _, _, rfl, .inl (e0.seq ha), _, _, rfl, rfl, _, rfl, ?_⟩
  rw [List.length_map, decide_eq_false (show ¬ (6 : Int) < (os.length : Nat) by omega)]
  have hl := Paired.length hC
  refine iteF ⟨_, rfl, c, cs, rfl, .inr ⟨sqt_up e0 hc, ?_⟩⟩
  refine lcM (K := K) (S := rStr) (G := G) walk_tup (names ws) (by rw [hl, names_len]) (by rw [names_len]; omega) e0 (fun H' e => sqt_up e hc) (fun i x H1 H1' G1 z Q' hz gr ⟨e, hx⟩ k => ?_) (fun G2 H2 L vs gr2 hL hP hn => ?_) gName_mono
  · subst e
    obtain ⟨a, y, hy, rfl, hb⟩ := wire_at hC hx gr.to
    refine ⟨rfl, _, rfl, _, _, _, _, rfl, rfl, hb, rfl, k _ _ _ (.refl gr.gh) ?_⟩
    rw [← names_at hy hz]
    rfl
  have hP := paired_strs hP
  subst hP
  have gr2 := ((Gr.refl (M := M0) g).new (o := .tup [.ty "list", .ty "tuple"]) hp).trans gr2
  have ha2 := gr2.gg.seq ha
  refine ⟨_, rfl, a, _, rfl, fr_enum (.inl ha2) (fun i σ H' => Gr M0 G H G2 H' ∧ ∃ r r' r'', σ = [some (.ref a), some (.ref c), some (.ref L), r, r', r''])
    ⟨gr2, _, _, _, rfl⟩ (fun i σ H' h => h.1.gh) (fun i v σ H3 H4 hv ⟨gr, r, r', r'', es⟩ e2 => ?_) (fun σ H3 ⟨gr, r, r', r'', es⟩ => ?_)⟩
  · subst es
    obtain ⟨z, hz, rfl⟩ := at_map hv
    have hzm := List.mem_of_getElem? hz
    refine ⟨_, rfl, z, rfl, hok z hzm, fun H5 e5 => ⟨_, rfl, iteF ?_⟩⟩
    have gr5 := (gr.same e2).same e5
    refine ⟨_, rfl, _, rfl, _, _, rfl, .inl (gr5.gh.seq hL), rfl, flat_strs _, _, rfl, ?_⟩
    refine ite2 (fun y => absurd y ?_) (fun _ => ?_)
    · show ¬ (!inV (.str z) _) = true
      rw [in_strs, decide_eq_true (hin z hzm)]
      decide
    refine ⟨_, rfl, _, rfl, _, rfl, _, rfl, a, _, rfl, gr5.gh.seq ha2, fun p hp => ?_⟩
    rw [cut_take]
    refine ⟨_, _, rfl, .inl (.of upd_at), rfl, ?_, _, rfl, ?_⟩
    · rw [← List.map_take]
      exact flat_strs _
    · refine ite2 (fun y => absurd y ?_) (fun _ => ⟨gr5.new hp, _, _, _, rfl⟩)
      show ¬ inV (.str z) _ = true
      rw [← List.map_take, in_strs]
      exact fun y => take_nodup hnd hz (of_decide_eq_true y)
  · subst es
    refine ⟨_, rfl, _, _, rfl, .inl ⟨gr.gh.seq ha2, fun p hp => ?_⟩⟩
    exact q _ _ _ (gr.seal hp) (.of upd_at)
/-! ### dicts by names -/
abbrev Dct := List (Str × Int)
def kvI (d : Dct) : List (Key × V) := d.map fun x => (Sum.inr x.1, .int x.2)
def putS (d : Dct) (s : Str) (i : Int) : Dct := if (d.any fun x => decide (x.1 = s)) = true then d.map (fun x => if x.1 = s then (x.1, i) else x) else d ++ [(s, i)]
def getS (d : Dct) (s : Str) : Option Int := (d.find? fun x => decide (x.1 = s)).map (·.2)
theorem kvI_len (d : Dct) : (kvI d).length = d.length := List.length_map ..
theorem kvI_put (d : Dct) (s : Str) (i : Int) : putK (kvI d) (Sum.inr s) (.int i) = kvI (putS d s i) := by
  have e : ((kvI d).any fun kv => decide (kv.1 = Sum.inr s)) = d.any fun x => decide (x.1 = s) := by
    unfold kvI
    rw [List.any_map]
    congr 1
    funext x
    exact decide_eq_decide.2 ⟨fun h => Sum.inr.inj h, fun h => congrArg Sum.inr h⟩
  unfold putK putS
  rw [e]
  by_cases h : (d.any fun x => decide (x.1 = s)) = true
  · rw [if_pos h, if_pos h]
    unfold kvI
    rw [List.map_map, List.map_map]
    refine List.map_congr_left fun x _ => ?_
    show (if (Sum.inr x.1 : Key) = Sum.inr s then ((Sum.inr x.1 : Key), V.int i) else _) = _
    by_cases hx : x.1 = s
    · show _ = (Sum.inr (if x.1 = s then (x.1, i) else x).1, V.int (if x.1 = s then (x.1, i) else x).2)
      rw [if_pos (congrArg Sum.inr hx), if_pos hx]
    · show _ = (Sum.inr (if x.1 = s then (x.1, i) else x).1, V.int (if x.1 = s then (x.1, i) else x).2)
      rw [if_neg (fun z => hx (Sum.inr.inj z)), if_neg hx]
  · rw [if_neg h, if_neg h]
    unfold kvI
    rw [List.map_append]
    rfl
theorem kvI_get (s : Str) : ∀ d : Dct, valV (kvI d) (Sum.inr s) = (getS d s).map V.int
  | [] => rfl
  | x :: d => by
    by_cases h : x.1 = s
    · rw [show kvI (x :: d) = (Sum.inr x.1, .int x.2) :: kvI d from rfl, valV_pos (p := ((Sum.inr x.1 : Key), V.int x.2)) (congrArg Sum.inr h)]
      simp [getS, List.find?_cons, h]
    · rw [show kvI (x :: d) = (Sum.inr x.1, .int x.2) :: kvI d from rfl, valV_neg (p := ((Sum.inr x.1 : Key), V.int x.2)) (fun z => h (Sum.inr.inj z)), kvI_get s d]
      simp [getS, List.find?_cons, h]
theorem getS_put (d : Dct) (s t : Str) (i : Int) : getS (putS d s i) t = if t = s then some i else getS d t := by
  have h := valV_put (kvI d) (Sum.inr s) (Sum.inr t) (.int i)
  rw [kvI_put, kvI_get, kvI_get] at h
  by_cases e : t = s
  · rw [if_pos e]
    rw [if_pos (congrArg Sum.inr e)] at h
    cases hg : getS (putS d s i) t with
    | none => rw [hg] at h; cases h
    | some j => rw [hg] at h; rw [V.int.inj (Option.some.inj h)]
  · rw [if_neg e]
    rw [if_neg (fun z => e (Sum.inr.inj z))] at h
    cases hg : getS (putS d s i) t with
    | none =>
      cases hg' : getS d t with
      | none => rfl
      | some j => rw [hg, hg'] at h; cases h
    | some j =>
      cases hg' : getS d t with
      | none => rw [hg, hg'] at h; cases h
      | some j' => rw [hg, hg'] at h; rw [V.int.inj (Option.some.inj h)]
theorem putS_len (d : Dct) (s : Str) (i : Int) : (putS d s i).length ≤ d.length + 1 := by
  unfold putS
  by_cases h : (d.any fun x => decide (x.1 = s)) = true
  · rw [if_pos h, List.length_map]
    omega
  · rw [if_neg h, List.length_append]
    exact Nat.le_refl _
/-! ### making_days -/
def mday (d : Dct) (b : LB) (ws : List Wire) : Dct := ws.foldl (fun d x => putS d x.1 b.day) d
def mdict (bs : List LB) : Dct := bs.foldl (fun d b => mday d b b.makes) []
theorem mday_len (b : LB) : ∀ (ws : List Wire) (d : Dct), (mday d b ws).length ≤ d.length + ws.length
  | [], d => Nat.le_refl _
  | x :: ws, d => by
    have h1 := mday_len b ws (putS d x.1 b.day)
    have h2 := putS_len d x.1 b.day
    show (mday (putS d x.1 b.day) b ws).length ≤ _
    rw [List.length_cons]
    omega
theorem foldl_snoc {α β : Type} {f : α → β → α} {a : α} {xs : List β} {i : Nat} {x : β} (h : xs[i]? = some x) : (xs.take (i + 1)).foldl f a = f ((xs.take i).foldl f a) x := by
  rw [take_snoc h, List.foldl_append]
  rfl
def spMd (K : PySem.W.Frag) : Sp := fun vs H Q _ => ∃ G a bs, vs = [.ref a] ∧ Same G H ∧ rT K (rBox K) G (.ref a) bs ∧ bs.length ≤ 6 ∧ (∀ b ∈ bs, BoxOk b) ∧ ∀ G' H' p, Gr M0 G H G' H' → G' p = some (.dK (kvI (mdict bs))) → Q (.ref p) H'
theorem sc_making_days : FnScope ["boxes", "days", "box", "wire"] ["boxes"] (defScope s_making_days) := ⟨rfl, rfl, rfl, by decide +kernel, rfl, by decide +kernel, by decide +kernel⟩
theorem c_making_days (T : Tx K mg) : C8.Cal P w K mg base 1 "making_days" (spMd K) [] := by
  refine mkCal T.f_making_days sc_making_days (fun _ _ _ _ _ _ us hl => match us, hl with | [_], _ => rfl) (fun vs H Q E h => ?_) (fun f cdv A outer s H vs Q E hr h => ?_)
  · obtain ⟨_, _, _, rfl, _⟩ := h
    rfl
  obtain ⟨G, a, bs, rfl, g, ⟨_, us, e, ha, hP⟩, h6, hbs, q⟩ := h
  cases e
  refine ⟨_, (pss_cons (ps_set (i := 1) sc_making_days.nd rfl (Or.inl rfl) pe_dnewK)
      (pss_cons (ps_for PassesOwn.never rfl (pi_seq (pv 0)) (pg_name (i := 2) sc_making_days.nd rfl (Or.inl rfl)) (pss_one (ps_for PassesOwn.never rfl (pi_seq (pe_fld (pv 2) rfl)) (pg_name (i := 3) sc_making_days.nd rfl (Or.inl rfl)) (pss_one (ps_dput (hu_of hr) (pv 1) (pe_ix ix_tup (pv 3) pe_int (fun _ _ => rfl)) (pe_fld (pv 2) rfl) rfl)))))
      (pss_one (ps_ret (pv 1))))), ?_⟩
  refine fun d hd => ?_
  have hdG := g.free hd
  have hl := Paired.length hP
  refine ⟨_, rfl, a, us, rfl, fr_seq (.inr ha) (fun i σ H' => Gr M0 G H G H' ∧ H' d = some (.dK (kvI (mdict (bs.take i)))) ∧ (mdict (bs.take i)).length ≤ 6 * i ∧ ∃ r r', σ = [some (.ref a), some (.ref d), r, r'])
    ⟨(Gr.refl g).new hd, upd_at, Nat.le_refl _, _, _, rfl⟩ (fun i σ H' h => h.1.gh) (fun i v σ H1 hv ⟨gr, hd1, hle, r, r', es⟩ => ?_) (fun σ H1 ⟨gr, hd1, hle, r, r', es⟩ => ?_)⟩
  · subst es
    have hi : i < us.length := (List.getElem?_eq_some_iff.1 hv).1
    obtain ⟨b, hb, hbv⟩ := paired_at hP hv
    have ho := hbs b (List.mem_of_getElem? hb)
    obtain ⟨x, dx, fs, rfl, hxi, t1, t2, t3, t4, t5, rfl, k1, k2, ⟨_, vs3, e3, k3, p3⟩, k4, k5⟩ := hbv
    cases e3
    have m6 := ho.makes6
    refine ⟨_, rfl, _, _, _, _, _, rfl, gr.gh _ _ hxi, T.clBox, T.nBox_makes, rfl, t3, vs3, rfl, fr_seq (.inr k3) (fun j σ H' => Gr M0 G H G H' ∧ H' d = some (.dK (kvI (mday (mdict (bs.take i)) b (b.makes.take j)))) ∧ ∃ r', σ = [some (.ref a), some (.ref d), some (.ref x), r'])
      ⟨gr, hd1, _, rfl⟩ (fun i σ H' h => h.1.gh) (fun j v σ H2 hv ⟨gr, hd2, r', es⟩ => ?_) (fun σ H2 ⟨gr, hd2, r', es⟩ => ?_)⟩
    · subst es
      obtain ⟨c, y, hy, rfl, hc⟩ := wire_at p3 hv gr.gh
      refine ⟨_, rfl, _, _, _, _, _, rfl, gr.gh _ _ hxi, T.clBox, T.nBox_day, rfl, _, rfl, _, rfl, _, _, _, _, rfl, rfl, hc, rfl, d, _, rfl, DPut.k (k := Sum.inr y.1) hd2 (small_lt ?_), ?_⟩
      · rw [kvI_len]
        have := mday_len b (b.makes.take j) (mdict (bs.take i))
        rw [List.length_take] at this
        omega
      · refine ⟨gr.write hd hdG, ?_, _, rfl⟩
        rw [upd_at, kvI_put]
        unfold mday
        rw [foldl_snoc hy]
    · subst es
      have e : mdict (bs.take (i + 1)) = mday (mdict (bs.take i)) b b.makes := by
        unfold mdict
        rw [foldl_snoc hb]
      rw [Paired.length p3, List.take_length, ← e] at hd2
      refine ⟨gr, hd2, ?_, _, _, rfl⟩
      rw [e]
      have := mday_len b b.makes (mdict (bs.take i))
      omega
  · subst es
    rw [hl, List.take_length] at hd1
    exact ⟨_, rfl, q _ _ _ (gr.shut hd hdG hd1) upd_at⟩
end
end K6

set_option Elab.async false
set_option linter.all false
set_option maxRecDepth 100000
set_option maxHeartbeats 4000000
namespace K6
open PySem PySem.Spec PyProof.Rows L2
section
variable {P : Program} {w : World} {K : PySem.W.Frag} {mg : Str → Option Value} {base : Heap}
theorem putK_len' (c : List (Key × V)) (k : Key) (x : V) : (putK c k x).length ≤ c.length + 1 := by
  unfold putK
  by_cases e : (c.any fun kv => decide (kv.1 = k)) = true
  · rw [if_pos e, List.length_map]
    omega
  · rw [if_neg e, List.length_append]
    exact Nat.le_refl _
/-! ### letters -/
def pairsOf (b : LB) (ws : List Wire) : List (Int × Str) := ws.map fun x => (b.day, x.1)
def late (d : Dct) (p : Int × Str) : Bool := match getS d p.2 with
  | some m => decide (p.1 ≤ m)
  | none => false
def letP (d : Dct) (l : List (Int × Str)) : List Str := (l.filter (late d)).map (·.2)
def allPairs (bs : List LB) : List (Int × Str) := bs.flatMap fun b => pairsOf b b.takes
def lets (bs : List LB) : List Str := letP (mdict bs) (allPairs bs)
theorem letP_app (d : Dct) (l m : List (Int × Str)) : letP d (l ++ m) = letP d l ++ letP d m := by
  unfold letP
  rw [List.filter_append, List.map_append]
def spLn (K : PySem.W.Frag) : Sp := fun vs H Q _ => ∃ (G : Hp) (a : Addr) (bs : List LB), vs = [.ref a] ∧ Same G H ∧ rT K (rBox K) G (.ref a) bs ∧ bs.length ≤ 6 ∧ (∀ b ∈ bs, BoxOk b) ∧ ∀ G' H' p kvs, Gr M0 G H G' H' → G' p = some (.dK kvs) → (∀ n : Str, (valV kvs (Sum.inr n)).isSome = decide (n ∈ lets bs)) → Q (.ref p) H'
theorem sc_letter_names : FnScope ["boxes", "days", "found", "box", "wire"] ["boxes"] (defScope s_letter_names) := ⟨rfl, rfl, rfl, by decide +kernel, rfl, by decide +kernel, by decide +kernel⟩
theorem c_letter_names (T : Tx K mg) : C8.Cal P w K mg base 2 "letter_names" (spLn K) [] := by
  refine mkCal T.f_letter_names sc_letter_names (fun _ _ _ _ _ _ us hl => match us, hl with | [_], _ => rfl) (fun vs H Q E h => ?_) (fun f cdv A outer s H vs Q E hr h => ?_)
  · obtain ⟨_, _, _, rfl, _⟩ := h
    rfl
  obtain ⟨G, a, bs, rfl, g, ⟨_, us, e, ha, hP⟩, h6, hbs, q⟩ := h
  cases e
  refine ⟨_, (pss_cons (ps_set (i := 1) sc_letter_names.nd rfl (Or.inl rfl) (C8.pe_c (c_making_days T) hr (by decide) (by rfl) (pa_cons (pv 0) pa_nil)))
      (pss_cons (ps_set (i := 2) sc_letter_names.nd rfl (Or.inl rfl) pe_dnewK)
      (pss_cons (ps_for PassesOwn.never rfl (pi_seq (pv 0)) (pg_name (i := 3) sc_letter_names.nd rfl (Or.inl rfl)) (pss_one (ps_for PassesOwn.never rfl (pi_seq (pe_fld (pv 3) rfl)) (pg_name (i := 4) sc_letter_names.nd rfl (Or.inl rfl)) (pss_one (ps_if (PW.pt (pw_and (pt_cmp (pc_din (hu_of hr) (pe_ix ix_tup (pv 4) pe_int (fun _ _ => rfl)) (pv 1)) (by rfl)) (pw_and1 (pt_cmpR op_le (pe_fld (pv 3) rfl) (pe_dget (hu_of hr) (pv 1) (pe_ix ix_tup (pv 4) pe_int (fun _ _ => rfl)) (fun _ _ => rfl)) (nomark _))))) (pss_one (ps_dput (hu_of hr) (pv 2) (pe_ix ix_tup (pv 4) pe_int (fun _ _ => rfl)) pe_bl rfl)) pss_nil)))))
      (pss_one (ps_ret (pv 2)))))), ?_⟩
  refine ⟨_, rfl, G, a, bs, rfl, g, ⟨a, us, rfl, ha, hP⟩, h6, hbs, fun G1 H1 d gr1 hd => ?_⟩
  refine fun f hf => ?_
  have hfG := gr1.gh.free hf
  have ha1 := sqt_up gr1.gg ha
  have hP1 := paired_up gr1.gg hP
  have hl := Paired.length hP
  generalize hD : mdict bs = D at hd
  refine ⟨_, rfl, a, us, rfl, fr_seq (.inr ha1) (fun i σ H' => Gr M0 G1 H1 G1 H' ∧ (∃ kvs, H' f = some (.dK kvs) ∧ kvs.length ≤ 6 * i ∧ ∀ n : Str, (valV kvs (Sum.inr n)).isSome = decide (n ∈ letP D (allPairs (bs.take i)))) ∧ ∃ r r', σ = [some (.ref a), some (.ref d), some (.ref f), r, r'])
    ⟨(Gr.refl gr1.gh).new hf, ⟨[], upd_at, Nat.le_refl _, fun n => rfl⟩, _, _, rfl⟩ (fun i σ H' h => h.1.gh) (fun i v σ H2 hv ⟨gr, ⟨kvs, hf2, hle, hk⟩, r, r', es⟩ => ?_) (fun σ H2 ⟨gr, ⟨kvs, hf2, hle, hk⟩, r, r', es⟩ => ?_)⟩
  · subst es
    have hi : i < us.length := (List.getElem?_eq_some_iff.1 hv).1
    obtain ⟨b, hb, hbv⟩ := paired_at hP1 hv
    have ho := hbs b (List.mem_of_getElem? hb)
    obtain ⟨x, dx, fs, rfl, hxi, t1, t2, t3, t4, t5, rfl, ⟨_, vs1, e1, k1, p1⟩, k2, k3, k4, k5⟩ := hbv
    cases e1
    have m6 := ho.takes6
    refine ⟨_, rfl, _, _, _, _, _, rfl, gr.gh _ _ hxi, T.clBox, T.nBox_takes, rfl, t1, vs1, rfl, fr_seq (.inr k1) (fun j σ H' => Gr M0 G1 H1 G1 H' ∧ (∃ kvs, H' f = some (.dK kvs) ∧ kvs.length ≤ 6 * i + j ∧ ∀ n : Str, (valV kvs (Sum.inr n)).isSome = decide (n ∈ letP D (allPairs (bs.take i) ++ pairsOf b (b.takes.take j)))) ∧ ∃ r', σ = [some (.ref a), some (.ref d), some (.ref f), some (.ref x), r'])
      ⟨gr, ⟨kvs, hf2, hle, fun n => by rw [hk n]; simp [pairsOf]⟩, _, rfl⟩ (fun i σ H' h => h.1.gh) (fun j v σ H3 hv ⟨gr, ⟨kvs, hf3, hle, hk⟩, r', es⟩ => ?_) (fun σ H3 ⟨gr, ⟨kvs, hf3, hle, hk⟩, r', es⟩ => ?_)⟩
    · subst es
      have hj : j < vs1.length := (List.getElem?_eq_some_iff.1 hv).1
      obtain ⟨c, y, hy, rfl, hc⟩ := wire_at p1 hv gr.gh
      have hl1 := Paired.length p1
      have hd3 := gr.gh _ _ hd
      have epre : pairsOf b (b.takes.take (j + 1)) = pairsOf b (b.takes.take j) ++ [(b.day, y.1)] := by
        unfold pairsOf
        rw [take_snoc hy, List.map_append]
        rfl
      have hg : DGet H3 d (.str y.1) ((getS D y.1).map V.int) := by
        rw [← kvI_get]
        exact DGet.k (k := Sum.inr y.1) hd3
      refine ⟨_, rfl, _, _, _, _, rfl, rfl, hc, rfl, _, rfl, d, _, rfl, hg, _, rfl, ?_⟩
      have skip : late D (b.day, y.1) = false → Gr M0 G1 H1 G1 H3 ∧ (∃ kvs, H3 f = some (.dK kvs) ∧ kvs.length ≤ 6 * i + (j + 1) ∧ ∀ n : Str, (valV kvs (Sum.inr n)).isSome = decide (n ∈ letP D (allPairs (bs.take i) ++ pairsOf b (b.takes.take (j + 1))))) ∧ ∃ r', [some (V.ref a), some (.ref d), some (.ref f), some (.ref x), some (.ref c)] = [some (.ref a), some (.ref d), some (.ref f), some (.ref x), r'] := fun hlt => by
        refine ⟨gr, ⟨kvs, hf3, by omega, fun n => ?_⟩, _, rfl⟩
        rw [hk n, epre, ← List.append_assoc, letP_app D _ [(b.day, y.1)]]
        rw [show letP D [(b.day, y.1)] = [] from by unfold letP; rw [List.filter_cons_of_neg (by rw [hlt]; decide)]; rfl, List.append_nil]
      cases hgy : getS D y.1 with
      | none =>
        refine iteF ?_
        exact skip (by unfold late; rw [hgy])
      | some m =>
        rw [hgy] at hg
        refine iteT ⟨_, rfl, _, _, _, _, _, rfl, gr.gh _ _ hxi, T.clBox, T.nBox_day, rfl, _, rfl, _, rfl, _, _, _, _, rfl, rfl, hc, rfl, d, _, rfl, hg, _, _, rfl, rfl, _, rfl, ?_⟩
        refine ite2 (fun z => ?_) (fun z => skip (by unfold late; rw [hgy]; exact decide_eq_false fun y => z (decide_eq_true y)))
        have z := of_decide_eq_true z
        refine ⟨_, rfl, _, rfl, _, _, _, _, rfl, rfl, hc, rfl, f, _, rfl, DPut.k (k := Sum.inr y.1) hf3 (small_lt (by omega)), ?_⟩
        refine ⟨gr.write hf hfG, ⟨_, upd_at, ?_, fun n => ?_⟩, _, rfl⟩
        · have := putK_len' kvs (Sum.inr y.1) (.bl true)
          omega
        · rw [valV_put, epre, ← List.append_assoc, letP_app D _ [(b.day, y.1)]]
          rw [show letP D [(b.day, y.1)] = [y.1] from by unfold letP; rw [List.filter_cons_of_pos (by unfold late; rw [hgy]; exact decide_eq_true z)]; rfl]
          by_cases e : n = y.1
          · subst e
            rw [if_pos rfl, decide_eq_true (List.mem_append_right _ (.head _))]
            rfl
          · rw [if_neg (fun z => e (Sum.inr.inj z)), hk n]
            exact decide_eq_decide.2 ⟨fun m => List.mem_append_left _ m, fun m => (List.mem_append.1 m).elim id fun m => absurd (List.mem_singleton.1 m) e⟩
    · subst es
      rw [Paired.length p1, List.take_length] at hk
      refine ⟨gr, ⟨kvs, hf3, by have := Paired.length p1; omega, fun n => ?_⟩, _, _, rfl⟩
      rw [hk n]
      unfold allPairs
      rw [take_snoc hb, List.flatMap_append, List.flatMap_cons, List.flatMap_nil, List.append_nil]
  · subst es
    rw [hl, List.take_length] at hk
    subst hD
    exact ⟨_, rfl, q _ _ _ kvs (gr1.trans (gr.shut hf hfG hf2)) upd_at hk⟩
/-! ### charts -/
structure LC where
  wires : List Wire
  boxes : List LB
  outs : List Str
def letters (c : LC) : List Wire := c.wires.filter fun x => decide (x.1 ∈ lets c.boxes)
def insOf (c : LC) : List Wire := c.wires.filter fun x => !(getS (mdict c.boxes) x.1).isSome
structure ChartOk (c : LC) : Prop where
  wires : WiresOk c.wires
  wires1 : 1 ≤ c.wires.length
  wires6 : c.wires.length ≤ 6
  boxes1 : 1 ≤ c.boxes.length
  boxes3 : c.boxes.length ≤ 3
  boxes : ∀ b ∈ c.boxes, BoxOk b
  sub : ∀ b ∈ c.boxes, ∀ x ∈ b.takes ++ b.makes, x ∈ c.wires
  once : (c.boxes.flatMap (·.makes)).Nodup
  outs6 : c.outs.length ≤ 6
  outsOk : ∀ z ∈ c.outs, NameOk z
  outsIn : ∀ z ∈ c.outs, z ∈ names c.wires
  outsNd : c.outs.Nodup
  post : prodI (sizes (letters c)) ≤ 64
  ins : prodI (sizes (insOf c)) ≤ 64
  shown : prodI (sizes (c.wires.filter fun x => decide (x.1 ∈ c.outs))) ≤ 64
def ChartAt (K : PySem.W.Frag) (G : Hp) (c : LC) (fs : List (Str × V)) : Prop := ∃ t1 t2 t3 t4 t5 t6 t7, fs = ([("wires", .ref t1), ("boxes", .ref t2), ("outs", .ref t3), ("letters", .ref t4), ("letter_sizes", .ref t5), ("ins", .ref t6), ("in_sizes", .ref t7)] : List (Str × V)) ∧
  rT K (rW K) G (.ref t1) c.wires ∧ rT K (rBox K) G (.ref t2) c.boxes ∧ SqT K G t3 (c.outs.map V.str) ∧ SqT K G t4 ((names (letters c)).map V.str) ∧ SqT K G t5 ((sizes (letters c)).map V.int) ∧ SqT K G t6 ((names (insOf c)).map V.str) ∧ SqT K G t7 ((sizes (insOf c)).map V.int)
theorem ChartAt.up {G G' : Hp} {c : LC} {fs : List (Str × V)} (e : Same G G') (h : ChartAt K G c fs) : ChartAt K G' c fs := by
  obtain ⟨t1, t2, t3, t4, t5, t6, t7, h0, h1, h2, h3, h4, h5, h6, h7⟩ := h
  exact ⟨t1, t2, t3, t4, t5, t6, t7, h0, Up.up e h1, Up.up e h2, sqt_up e h3, sqt_up e h4, sqt_up e h5, sqt_up e h6, sqt_up e h7⟩
def rChart (K : PySem.W.Frag) : Rl LC := fun G v b => ∃ a dx fs, v = .ref a ∧ G a = some (.ins (He.ga K "Chart") dx fs) ∧ ChartAt K G b fs
instance : Up (rChart K) := ⟨fun e ⟨a, dx, fs, h0, h1, h2⟩ => ⟨a, dx, fs, h0, e _ _ h1, h2.up e⟩⟩
structure ChartIn (K : PySem.W.Frag) (G : Hp) (a1 a2 a3 : Addr) (c : LC) : Prop where
  wires : rL K (rW K) G (.ref a1) c.wires
  boxes : rL K (rBox K) G (.ref a2) c.boxes
  outs : SqL K G a3 (c.outs.map V.str)
def spChart (K : PySem.W.Frag) : Sp := fun vs H Q _ => ∃ G x dx a1 a2 a3 b, vs = [.ref x, .ref a1, .ref a2, .ref a3] ∧ Same G H ∧ H x = some (.ins (He.ga K "Chart") dx []) ∧ G x = none ∧ ChartIn K G a1 a2 a3 b ∧ ChartOk b ∧
  ∀ G' H' fs, Gr (fun a => a = x) G H G' H' → H' x = some (.ins (He.ga K "Chart") dx fs) → G' x = none → ChartAt K G' b fs → Q .non H'
theorem mk_chart {G H : Hp} {a1 a2 a3 : Addr} {b : LC} {Q : VK} {E : XK} (g : Same G H) (hi : ChartIn K G a1 a2 a3 b) (ho : ChartOk b) (q : ∀ G' H' v, Gr M0 G H G' H' → rChart K G' v b → Q v H') (x dx : Addr) (hx : H x = none) (hdx : H dx = none) (hn : dx ≠ x) :
    spChart K [.ref x, .ref a1, .ref a2, .ref a3] (upd (upd H dx (.own x)) x (.ins (He.ga K "Chart") dx [])) (fun v H2 => v = .non ∧ Q (.ref x) H2) E := by
  have g1 := (Gr.refl (M := M0) g).new (o := .own x) hdx
  have hx1 : upd H dx (.own x) x = none := by rw [upd_ne (fun z => hn z.symm)]; exact hx
  have g2 := g1.new (o := .ins (He.ga K "Chart") dx []) hx1
  refine ⟨G, x, dx, a1, a2, a3, b, rfl, g2.gh, upd_at, g.free hx, hi, ho, fun G' H' fs gr at_ op hb => ⟨rfl, ?_⟩⟩
  have gr := (g2.born gr fun c z => .inl (by rw [z]; exact hx)).shut hx op at_
  exact q _ _ _ gr ⟨x, dx, fs, rfl, upd_at, hb.up (same_new op)⟩
theorem prod_two : ∀ {ns : List Int} (a : Int), 0 ≤ a → (∀ n ∈ ns, 1 ≤ n ∧ n ≤ 2) → ns.foldl (· * ·) a ≤ a * 2 ^ ns.length
  | [], a, h, _ => by simp
  | n :: ns, a, h, hn => by
    have h1 := hn n (.head _)
    have := prod_two (ns := ns) (a * n) (Int.mul_nonneg h (by omega)) fun m hm => hn m (.tail _ hm)
    rw [List.foldl_cons, List.length_cons]
    have e1 : a * n ≤ a * 2 := Int.mul_le_mul_of_nonneg_left h1.2 h
    have p : (0 : Int) ≤ 2 ^ ns.length := Int.pow_nonneg (by decide)
    have e2 : a * n * 2 ^ ns.length ≤ a * 2 * 2 ^ ns.length := Int.mul_le_mul_of_nonneg_right e1 p
    have e3 : a * 2 * 2 ^ ns.length = a * 2 ^ (ns.length + 1) := by rw [Int.pow_succ]; ac_rfl
    omega
theorem prod_pos {ns : List Int} (h : ∀ n ∈ ns, SizeOk n) : 0 < prodI ns := by
  have : ∀ (ns : List Int) (a : Int), 0 < a → (∀ n ∈ ns, SizeOk n) → 0 < ns.foldl (· * ·) a := by
    intro ns
    induction ns with
    | nil => intro a h _; exact h
    | cons n ns ih => intro a h hn; exact ih (a * n) (Int.mul_pos h (hn n (.head _)).1) fun m hm => hn m (.tail _ hm)
  exact this ns 1 (by decide) h
theorem sc_Chart_init : FnScope ["self", "wires", "boxes", "outs", "made", "lettered", "wire", "box", "entry"] ["self", "wires", "boxes", "outs"] (defScope s_Chart_init) := ⟨rfl, rfl, rfl, by decide +kernel, rfl, by decide +kernel, by decide +kernel⟩
theorem c_Chart (T : Tx K mg) : C8.Mak P w K mg base 4 "Chart" (He.ga K "Chart") (spChart K) [] := by
  refine mkMak T.mkChart T.mgChart T.iChart sc_Chart_init (fun _ _ _ _ _ _ us hl => match us, hl with | [_, _, _, _], _ => rfl) (fun vs H Q E h => ?_) (fun cdv A outer s H vs Q E hr h => ?_)
  · obtain ⟨_, _, _, _, _, _, _, rfl, _⟩ := h
    rfl
  obtain ⟨G, x, dx, a1, a2, a3, ⟨ws, bs, os⟩, rfl, g, hx, hxG, ⟨⟨_, us1, e1, ha1, hP1⟩, ⟨_, us2, e2, ha2, hP2⟩, ha3⟩, ho, q⟩ := h
  cases e1
  cases e2
  refine ⟨_, (pss_cons (ps_fld (pv 0) (C8.pe_c (c_checked_wires_of_chart T) hr (by decide) (by rfl) (pa_cons (pv 1) pa_nil)) rfl)
      (pss_cons (ps_fld (pv 0) (C8.pe_c (c_checked_boxes T) hr (by decide) (by rfl) (pa_cons (pv 2) (pa_cons (pe_fld (pv 0) rfl) pa_nil))) rfl)
      (pss_cons (ps_fld (pv 0) (C8.pe_c (c_checked_outs T) hr (by decide) (by rfl) (pa_cons (pv 3) (pa_cons (pe_fld (pv 0) rfl) pa_nil))) rfl)
      (pss_cons (ps_set (i := 4) sc_Chart_init.nd rfl (Or.inr rfl) (C8.pe_c (c_making_days T) hr (by decide) (by rfl) (pa_cons (pe_fld (pv 0) rfl) pa_nil)))
      (pss_cons (ps_set (i := 5) sc_Chart_init.nd rfl (Or.inr rfl) (C8.pe_c (c_letter_names T) hr (by decide) (by rfl) (pa_cons (pe_fld (pv 0) rfl) pa_nil)))
      (pss_cons (ps_fld (pv 0) (pe_callTy call_tuple_of (by rfl) T.tuple bt_tuple (pa_cons (pe_lc (own := [("wire", 6)]) rfl sc_Chart_init.nd (pi_seq (pe_fld (pv 0) rfl)) (blkOk_by (own := [("wire", 6)]) (N := ["self", "wires", "boxes", "outs", "made", "lettered", "wire", "box", "entry"]) (sc := defScope s_Chart_init) (by decide +kernel)) (fun _ _ _ _ _ => (pg_name (i := 6) sc_Chart_init.nd rfl (Or.inl rfl))) (fun _ _ _ _ _ => pts_one (pt_cmp (pc_din (hu_of hr) (pe_ix (show IxR _ (rIxT K) from ix_tup) (pv 6) pe_int (fun _ _ => rfl)) (pv 5)) (by rfl))) (fun _ _ _ _ _ => (pe_ix (show IxR _ (rIxT K) from ix_tup) (pv 6) pe_int (fun _ _ => rfl)))) pa_nil)) rfl)
      (pss_cons (ps_fld (pv 0) (pe_callTy call_tuple_of (by rfl) T.tuple bt_tuple (pa_cons (pe_lc (own := [("wire", 6)]) rfl sc_Chart_init.nd (pi_seq (pe_fld (pv 0) rfl)) (blkOk_by (own := [("wire", 6)]) (N := ["self", "wires", "boxes", "outs", "made", "lettered", "wire", "box", "entry"]) (sc := defScope s_Chart_init) (by decide +kernel)) (fun _ _ _ _ _ => (pg_name (i := 6) sc_Chart_init.nd rfl (Or.inl rfl))) (fun _ _ _ _ _ => pts_one (pt_cmp (pc_din (hu_of hr) (pe_ix (show IxR _ (rIxT K) from ix_tup) (pv 6) pe_int (fun _ _ => rfl)) (pv 5)) (by rfl))) (fun _ _ _ _ _ => (pe_ix (show IxR _ (rIxT K) from ix_tup) (pv 6) pe_int (fun _ _ => rfl)))) pa_nil)) rfl)
      (pss_cons (ps_fld (pv 0) (pe_callTy call_tuple_of (by rfl) T.tuple bt_tuple (pa_cons (pe_lc (own := [("wire", 6)]) rfl sc_Chart_init.nd (pi_seq (pe_fld (pv 0) rfl)) (blkOk_by (own := [("wire", 6)]) (N := ["self", "wires", "boxes", "outs", "made", "lettered", "wire", "box", "entry"]) (sc := defScope s_Chart_init) (by decide +kernel)) (fun _ _ _ _ _ => (pg_name (i := 6) sc_Chart_init.nd rfl (Or.inl rfl))) (fun _ _ _ _ _ => pts_one (pt_cmp (pc_dnotin (hu_of hr) (pe_ix (show IxR _ (rIxT K) from ix_tup) (pv 6) pe_int (fun _ _ => rfl)) (pv 4)) (by rfl))) (fun _ _ _ _ _ => (pe_ix (show IxR _ (rIxT K) from ix_tup) (pv 6) pe_int (fun _ _ => rfl)))) pa_nil)) rfl)
      (pss_cons (ps_fld (pv 0) (pe_callTy call_tuple_of (by rfl) T.tuple bt_tuple (pa_cons (pe_lc (own := [("wire", 6)]) rfl sc_Chart_init.nd (pi_seq (pe_fld (pv 0) rfl)) (blkOk_by (own := [("wire", 6)]) (N := ["self", "wires", "boxes", "outs", "made", "lettered", "wire", "box", "entry"]) (sc := defScope s_Chart_init) (by decide +kernel)) (fun _ _ _ _ _ => (pg_name (i := 6) sc_Chart_init.nd rfl (Or.inl rfl))) (fun _ _ _ _ _ => pts_one (pt_cmp (pc_dnotin (hu_of hr) (pe_ix (show IxR _ (rIxT K) from ix_tup) (pv 6) pe_int (fun _ _ => rfl)) (pv 4)) (by rfl))) (fun _ _ _ _ _ => (pe_ix (show IxR _ (rIxT K) from ix_tup) (pv 6) pe_int (fun _ _ => rfl)))) pa_nil)) rfl)
      (pss_cons (ps_if (pt_cmpR op_gt (C8.pe_c (c_count_fillings T) hr (by decide) (by rfl) (pa_cons (pe_fld (pv 0) rfl) pa_nil)) pe_int (nomark _)) (pss_one ps_never) pss_nil)
      (pss_cons (ps_if (pt_cmpR op_gt (C8.pe_c (c_count_fillings T) hr (by decide) (by rfl) (pa_cons (pe_fld (pv 0) rfl) pa_nil)) pe_int (nomark _)) (pss_one ps_never) pss_nil)
      (pss_cons (ps_if (pt_cmpR op_gt (C8.pe_c (c_count_fillings T) hr (by decide) (by rfl) (pa_cons (pe_lc (own := [("wire", 6)]) rfl sc_Chart_init.nd (pi_seq (pe_fld (pv 0) rfl)) (blkOk_by (own := [("wire", 6)]) (N := ["self", "wires", "boxes", "outs", "made", "lettered", "wire", "box", "entry"]) (sc := defScope s_Chart_init) (by decide +kernel)) (fun _ _ _ _ _ => (pg_name (i := 6) sc_Chart_init.nd rfl (Or.inl rfl))) (fun _ _ _ _ _ => pts_one (pt_cmpR (show OpR _ _ (rIn K false) from op_in_seq) (pe_ix (show IxR _ (rIxT K) from ix_tup) (pv 6) pe_int (fun _ _ => rfl)) (show PE _ _ (tFld K _ _) from (pe_fld (pv 0) rfl)) (by rfl))) (fun _ _ _ _ _ => (pe_ix (show IxR _ (rIxT K) from ix_tup) (pv 6) pe_int (fun _ _ => rfl)))) pa_nil)) pe_int (nomark _)) (pss_one ps_never) pss_nil)
      (pss_one (ps_if (pt_cmpR op_gt (C8.pe_c (c_count_fillings T) hr (by decide) (by rfl) (pa_cons (pe_lc (own := [("box", 7)]) rfl sc_Chart_init.nd (pi_seq (pe_fld (pv 0) rfl)) (blkOk_by (own := [("box", 7)]) (N := ["self", "wires", "boxes", "outs", "made", "lettered", "wire", "box", "entry"]) (sc := defScope s_Chart_init) (by decide +kernel)) (fun _ _ _ _ _ => (pg_name (i := 7) sc_Chart_init.nd rfl (Or.inl rfl))) (fun _ _ _ _ _ => pts_nil) (fun _ _ _ _ _ => (pe_callB (show CallR _ _ (rMax K) from (cr_max rfl)) (by rfl) T.max bt_max (pa_cons (pe_lc (own := [("entry", 8)]) rfl sc_Chart_init.nd (show PI _ _ _ (iSeq K _) from (pi_seq (show PE _ _ (tFld K _ _) from (pe_fld (pv 7) rfl)))) (blkOk_by (own := [("entry", 8)]) (N := ["self", "wires", "boxes", "outs", "made", "lettered", "wire", "box", "entry"]) (by rfl)) (fun _ _ _ _ _ => (pg_name (i := 8) sc_Chart_init.nd rfl (Or.inl rfl))) (fun _ _ _ _ _ => pts_nil) (fun _ _ _ _ _ => (pe_callB (show CallR _ _ (kLen K) from call_len_seq) (by rfl) T.len bt_len (pa_cons (pv 8) pa_nil)))) pa_nil)))) pa_nil)) pe_int (nomark _)) (pss_one ps_never) pss_nil)))))))))))))), ?_⟩
  have o : Ob (He.ga K "Chart") x dx G H [] G H := ⟨.refl g, hx, hxG⟩
  have w6 : ws.length ≤ 6 := ho.wires6
  have b3 : bs.length ≤ 3 := ho.boxes3
  refine ⟨_, rfl, G, a1, us1, ws, rfl, g, ha1, hP1, ho.wires1, w6, ho.wires, fun G1 H1 v gr1 ht => ?_⟩
  have o := o.step gr1
  obtain ⟨t1, ws1, rfl, hT1, hW1⟩ := ht
  refine ⟨_, rfl, _, _, _, _, rfl, o.at_, T.clChart, T.nChart_wires, (by show 0 < 1000; decide), ?_⟩
  have o := o.put (fs' := [("wires", .ref t1)])
  -- boxes
  refine ⟨_, rfl, _, rfl, _, _, _, _, _, rfl, o.at_, T.clChart, T.nChart_wires, rfl, G1, a2, t1, us2, bs, ws, rfl, o.gr.gh, gr1.gg.seq ha2, paired_up gr1.gg hP2, ⟨t1, ws1, rfl, hT1, hW1⟩, ho.wires, ho.boxes1, by omega, ho.boxes, ho.sub, ho.once, fun G2 H2 v gr2 ht => ?_⟩
  have o := o.step gr2
  obtain ⟨t2, bs2, rfl, hT2, hB2⟩ := ht
  refine ⟨_, rfl, _, _, _, _, rfl, o.at_, T.clChart, T.nChart_boxes, (by show 1 < 1000; decide), ?_⟩
  have o := o.put (fs' := [("wires", .ref t1), ("boxes", .ref t2)])
  have hT1 := sqt_up gr2.gg hT1
  have hW1 := paired_up gr2.gg hW1
  -- outs
  refine ⟨_, rfl, _, rfl, _, _, _, _, _, rfl, o.at_, T.clChart, T.nChart_wires, rfl, G2, a3, t1, os, ws, rfl, o.gr.gh, (gr1.gg.trans gr2.gg).seq ha3, ⟨t1, ws1, rfl, hT1, hW1⟩, w6, ho.outs6, ho.outsOk, ho.outsIn, ho.outsNd, fun G3 H3 t3 gr3 hT3 => ?_⟩
  have o := o.step gr3
  refine ⟨_, rfl, _, _, _, _, rfl, o.at_, T.clChart, T.nChart_outs, (by show 2 < 1000; decide), ?_⟩
  have o := o.put (fs' := [("wires", .ref t1), ("boxes", .ref t2), ("outs", .ref t3)])
  have hT1 := sqt_up gr3.gg hT1
  have hW1 := paired_up gr3.gg hW1
  have hT2 := sqt_up gr3.gg hT2
  have hB2 := paired_up gr3.gg hB2
  clear gr1 gr2
  clear gr3
  -- made, lettered
  refine ⟨_, rfl, _, _, _, _, _, rfl, o.at_, T.clChart, T.nChart_boxes, rfl, G3, t2, bs, rfl, o.gr.gh, ⟨t2, bs2, rfl, hT2, hB2⟩, by omega, ho.boxes, fun G4 H4 md gr4 hmd => ?_⟩
  have o := o.step gr4
  refine ⟨_, rfl, _, _, _, _, _, rfl, o.at_, T.clChart, T.nChart_boxes, rfl, G4, t2, bs, rfl, o.gr.gh, ⟨t2, bs2, rfl, sqt_up gr4.gg hT2, paired_up gr4.gg hB2⟩, by omega, ho.boxes, fun G5 H5 ld kvs gr5 hld hlets => ?_⟩
  have o := o.step gr5
  have s5 := gr4.gg.trans gr5.gg
  have hT1 := sqt_up s5 hT1
  have hW1 := paired_up s5 hW1
  have hT2 := sqt_up s5 hT2
  have hB2 := paired_up s5 hB2
  have hT3 := sqt_up s5 hT3
  have hmd := gr5.gg _ _ hmd
  clear gr4
  clear gr5
  have l1 := Paired.length hW1
  let C : LC := ⟨ws, bs, os⟩
  -- letters
  refine ⟨_, rfl, _, _, _, _, _, rfl, o.at_, T.clChart, T.nChart_wires, rfl, t1, ws1, rfl, .inr ⟨sqt_up o.gr.gh hT1, ?_⟩⟩
  refine lcF (K := K) (S := rStr) walk_tup ws (fun x : Wire => decide (x.1 ∈ lets bs)) (·.1) l1 (by omega) o.gr.gh (fun H' e => sqt_up e hT1) (fun i x' Ha Ha' Ga y Q' R hy gr ⟨e, hx⟩ k kn => ?_) (fun Gb Hb L vs gr hL hP hn => ?_)
  · subst e
    obtain ⟨a, y', hy', rfl, hb⟩ := wire_at hW1 hx gr.to
    rw [hy'] at hy
    cases hy
    refine ⟨rfl, _, rfl, _, _, _, _, rfl, rfl, hb, rfl, _, rfl, ld, _, rfl, DGet.k (k := Sum.inr y.1) (gr.to _ _ hld), _, rfl, ?_⟩
    rw [hlets y.1]
    refine ite2 (fun z => ⟨_, rfl, _, _, _, _, rfl, rfl, hb, rfl, k _ _ _ (.refl gr.gh) z rfl⟩) (fun z => kn _ _ (.refl gr.gh) (Bool.eq_false_iff.2 z))
  have o := o.step gr
  have hP : vs = (names (letters C)).map V.str := paired_strs hP
  refine ⟨_, _, rfl, .inl ⟨o.gr.gh.seq hL, fun t4 ht => ?_⟩⟩
  have gr' := (Gr.refl (M := M0) o.gr.gh).seal (o := .tup vs) ht
  have o := o.step gr'
  have s := gr.gg.trans gr'.gg
  have ht4 : SqT K (upd Gb t4 (.tup vs)) t4 vs := .of upd_at
  have o : Ob (He.ga K "Chart") x dx G H [("wires", .ref t1), ("boxes", .ref t2), ("outs", .ref t3)] (upd Gb t4 (.tup vs)) (upd Hb t4 (.tup vs)) := o
  clear gr gr'
  generalize upd Gb t4 (.tup vs) = G6 at o s ht4
  generalize upd Hb t4 (.tup vs) = H6 at o
  rw [hP] at ht4
  clear hP hL
  refine ⟨_, rfl, _, _, _, _, rfl, o.at_, T.clChart, T.nChart_letters, (by show 3 < 1000; decide), ?_⟩
  have o := o.put (fs' := [("wires", .ref t1), ("boxes", .ref t2), ("outs", .ref t3), ("letters", .ref t4)])
  have hT1 := sqt_up s hT1
  have hT2 := sqt_up s hT2
  have hT3 := sqt_up s hT3
  have hW1 := paired_up s hW1
  have hB2 := paired_up s hB2
  have hmd := s _ _ hmd
  have hld := s _ _ hld
  clear s
  -- letter_sizes
  refine ⟨_, rfl, _, _, _, _, _, rfl, o.at_, T.clChart, T.nChart_wires, rfl, t1, ws1, rfl, .inr ⟨sqt_up o.gr.gh hT1, ?_⟩⟩
  refine lcF (K := K) (S := rInt) walk_tup ws (fun x : Wire => decide (x.1 ∈ lets bs)) (·.2) l1 (by omega) o.gr.gh (fun H' e => sqt_up e hT1) (fun i x' Ha Ha' Ga y Q' R hy gr ⟨e, hx⟩ k kn => ?_) (fun Gb Hb L vs gr hL hP hn => ?_)
  · subst e
    obtain ⟨a, y', hy', rfl, hb⟩ := wire_at hW1 hx gr.to
    rw [hy'] at hy
    cases hy
    refine ⟨rfl, _, rfl, _, _, _, _, rfl, rfl, hb, rfl, _, rfl, ld, _, rfl, DGet.k (k := Sum.inr y.1) (gr.to _ _ hld), _, rfl, ?_⟩
    rw [hlets y.1]
    refine ite2 (fun z => ⟨_, rfl, _, _, _, _, rfl, rfl, hb, rfl, k _ _ _ (.refl gr.gh) z rfl⟩) (fun z => kn _ _ (.refl gr.gh) (Bool.eq_false_iff.2 z))
  have o := o.step gr
  have hP : vs = (sizes (letters C)).map V.int := paired_ints hP
  refine ⟨_, _, rfl, .inl ⟨o.gr.gh.seq hL, fun t5 ht => ?_⟩⟩
  have gr' := (Gr.refl (M := M0) o.gr.gh).seal (o := .tup vs) ht
  have o := o.step gr'
  have s := gr.gg.trans gr'.gg
  have ht5 : SqT K (upd Gb t5 (.tup vs)) t5 vs := .of upd_at
  have o : Ob (He.ga K "Chart") x dx G H [("wires", .ref t1), ("boxes", .ref t2), ("outs", .ref t3), ("letters", .ref t4)] (upd Gb t5 (.tup vs)) (upd Hb t5 (.tup vs)) := o
  clear gr gr'
  generalize upd Gb t5 (.tup vs) = G7 at o s ht5
  generalize upd Hb t5 (.tup vs) = H7 at o
  rw [hP] at ht5
  clear hP hL
  refine ⟨_, rfl, _, _, _, _, rfl, o.at_, T.clChart, T.nChart_letter_sizes, (by show 4 < 1000; decide), ?_⟩
  have o := o.put (fs' := [("wires", .ref t1), ("boxes", .ref t2), ("outs", .ref t3), ("letters", .ref t4), ("letter_sizes", .ref t5)])
  have hT1 := sqt_up s hT1
  have hT2 := sqt_up s hT2
  have hT3 := sqt_up s hT3
  have ht4 := sqt_up s ht4
  have hW1 := paired_up s hW1
  have hB2 := paired_up s hB2
  have hmd := s _ _ hmd
  have hld := s _ _ hld
  clear s
  -- ins
  refine ⟨_, rfl, _, _, _, _, _, rfl, o.at_, T.clChart, T.nChart_wires, rfl, t1, ws1, rfl, .inr ⟨sqt_up o.gr.gh hT1, ?_⟩⟩
  refine lcF (K := K) (S := rStr) walk_tup ws (fun x : Wire => !(getS (mdict bs) x.1).isSome) (·.1) l1 (by omega) o.gr.gh (fun H' e => sqt_up e hT1) (fun i x' Ha Ha' Ga y Q' R hy gr ⟨e, hx⟩ k kn => ?_) (fun Gb Hb L vs gr hL hP hn => ?_)
  · subst e
    obtain ⟨a, y', hy', rfl, hb⟩ := wire_at hW1 hx gr.to
    rw [hy'] at hy
    cases hy
    refine ⟨rfl, _, rfl, _, _, _, _, rfl, rfl, hb, rfl, _, rfl, md, _, rfl, DGet.k (k := Sum.inr y.1) (gr.to _ _ hmd), _, rfl, ?_⟩
    rw [kvI_get, Option.isSome_map]
    refine ite2 (fun z => ⟨_, rfl, _, _, _, _, rfl, rfl, hb, rfl, k _ _ _ (.refl gr.gh) z rfl⟩) (fun z => kn _ _ (.refl gr.gh) (Bool.eq_false_iff.2 z))
  have o := o.step gr
  have hP : vs = (names (insOf C)).map V.str := paired_strs hP
  refine ⟨_, _, rfl, .inl ⟨o.gr.gh.seq hL, fun t6 ht => ?_⟩⟩
  have gr' := (Gr.refl (M := M0) o.gr.gh).seal (o := .tup vs) ht
  have o := o.step gr'
  have s := gr.gg.trans gr'.gg
  have ht6 : SqT K (upd Gb t6 (.tup vs)) t6 vs := .of upd_at
  have o : Ob (He.ga K "Chart") x dx G H [("wires", .ref t1), ("boxes", .ref t2), ("outs", .ref t3), ("letters", .ref t4), ("letter_sizes", .ref t5)] (upd Gb t6 (.tup vs)) (upd Hb t6 (.tup vs)) := o
  clear gr gr'
  generalize upd Gb t6 (.tup vs) = G8 at o s ht6
  generalize upd Hb t6 (.tup vs) = H8 at o
  rw [hP] at ht6
  clear hP hL
  refine ⟨_, rfl, _, _, _, _, rfl, o.at_, T.clChart, T.nChart_ins, (by show 5 < 1000; decide), ?_⟩
  have o := o.put (fs' := [("wires", .ref t1), ("boxes", .ref t2), ("outs", .ref t3), ("letters", .ref t4), ("letter_sizes", .ref t5), ("ins", .ref t6)])
  have hT1 := sqt_up s hT1
  have hT2 := sqt_up s hT2
  have hT3 := sqt_up s hT3
  have ht4 := sqt_up s ht4
  have ht5 := sqt_up s ht5
  have hW1 := paired_up s hW1
  have hB2 := paired_up s hB2
  have hmd := s _ _ hmd
  have hld := s _ _ hld
  clear s
  -- in_sizes
  refine ⟨_, rfl, _, _, _, _, _, rfl, o.at_, T.clChart, T.nChart_wires, rfl, t1, ws1, rfl, .inr ⟨sqt_up o.gr.gh hT1, ?_⟩⟩
  refine lcF (K := K) (S := rInt) walk_tup ws (fun x : Wire => !(getS (mdict bs) x.1).isSome) (·.2) l1 (by omega) o.gr.gh (fun H' e => sqt_up e hT1) (fun i x' Ha Ha' Ga y Q' R hy gr ⟨e, hx⟩ k kn => ?_) (fun Gb Hb L vs gr hL hP hn => ?_)
  · subst e
    obtain ⟨a, y', hy', rfl, hb⟩ := wire_at hW1 hx gr.to
    rw [hy'] at hy
    cases hy
    refine ⟨rfl, _, rfl, _, _, _, _, rfl, rfl, hb, rfl, _, rfl, md, _, rfl, DGet.k (k := Sum.inr y.1) (gr.to _ _ hmd), _, rfl, ?_⟩
    rw [kvI_get, Option.isSome_map]
    refine ite2 (fun z => ⟨_, rfl, _, _, _, _, rfl, rfl, hb, rfl, k _ _ _ (.refl gr.gh) z rfl⟩) (fun z => kn _ _ (.refl gr.gh) (Bool.eq_false_iff.2 z))
  have o := o.step gr
  have hP : vs = (sizes (insOf C)).map V.int := paired_ints hP
  refine ⟨_, _, rfl, .inl ⟨o.gr.gh.seq hL, fun t7 ht => ?_⟩⟩
  have gr' := (Gr.refl (M := M0) o.gr.gh).seal (o := .tup vs) ht
  have o := o.step gr'
  have s := gr.gg.trans gr'.gg
  have ht7 : SqT K (upd Gb t7 (.tup vs)) t7 vs := .of upd_at
  have o : Ob (He.ga K "Chart") x dx G H [("wires", .ref t1), ("boxes", .ref t2), ("outs", .ref t3), ("letters", .ref t4), ("letter_sizes", .ref t5), ("ins", .ref t6)] (upd Gb t7 (.tup vs)) (upd Hb t7 (.tup vs)) := o
  clear gr gr'
  generalize upd Gb t7 (.tup vs) = G9 at o s ht7
  generalize upd Hb t7 (.tup vs) = H9 at o
  rw [hP] at ht7
  clear hP hL
  refine ⟨_, rfl, _, _, _, _, rfl, o.at_, T.clChart, T.nChart_in_sizes, (by show 6 < 1000; decide), ?_⟩
  have o := o.put (fs' := [("wires", .ref t1), ("boxes", .ref t2), ("outs", .ref t3), ("letters", .ref t4), ("letter_sizes", .ref t5), ("ins", .ref t6), ("in_sizes", .ref t7)])
  have hT1 := sqt_up s hT1
  have hT2 := sqt_up s hT2
  have hT3 := sqt_up s hT3
  have ht4 := sqt_up s ht4
  have ht5 := sqt_up s ht5
  have ht6 := sqt_up s ht6
  have hW1 := paired_up s hW1
  have hB2 := paired_up s hB2
  have hmd := s _ _ hmd
  have hld := s _ _ hld
  clear s
  have hsub : ∀ p : Wire → Bool, ∀ n ∈ sizes (ws.filter p), SizeOk n := fun p n m => by
    obtain ⟨y, hy, rfl⟩ := List.mem_map.1 m
    have := ho.wires.1 y (List.mem_filter.1 hy).1
    exact ⟨by have := this.2.1; omega, by have := this.2.2; omega⟩
  refine ⟨_, rfl, _, _, _, _, _, rfl, o.at_, T.clChart, T.nChart_letter_sizes, rfl, t5, _, rfl, .inr (sqt_up o.gr.gh ht5), hsub _, _, _, rfl, rfl, _, rfl, ?_⟩
  rw [decide_eq_false (show ¬ (64 : Int) < prodI (sizes (letters C)) from Int.not_lt.2 ho.post)]
  refine iteF ⟨_, rfl, _, _, _, _, _, rfl, o.at_, T.clChart, T.nChart_in_sizes, rfl, t7, _, rfl, .inr (sqt_up o.gr.gh ht7), hsub _, _, _, rfl, rfl, _, rfl, ?_⟩
  rw [decide_eq_false (show ¬ (64 : Int) < prodI (sizes (insOf C)) from Int.not_lt.2 ho.ins)]
  refine iteF ⟨_, rfl, _, _, _, _, _, rfl, o.at_, T.clChart, T.nChart_wires, rfl, t1, ws1, rfl, .inr ⟨sqt_up o.gr.gh hT1, ?_⟩⟩
  refine lcF (K := K) (S := rInt) walk_tup ws (fun x : Wire => decide (x.1 ∈ os)) (·.2) l1 (by omega) o.gr.gh (fun H' e => sqt_up e hT1) (fun i x' Ha Ha' Ga y Q' R hy gr ⟨e, hx⟩ k kn => ?_) (fun Gb Hb L vs gr hL hP hn => ?_)
  · subst e
    obtain ⟨a, y', hy', rfl, hb⟩ := wire_at hW1 hx gr.to
    rw [hy'] at hy
    cases hy
    have oo := o.step gr
    refine ⟨rfl, _, rfl, _, _, _, _, rfl, rfl, hb, rfl, _, rfl, _, _, _, _, _, rfl, oo.at_, T.clChart, T.nChart_outs, rfl, t3, _, rfl, .inr (sqt_up oo.gr.gh (sqt_up gr.gg hT3)), rfl, flat_strs _, _, rfl, ?_⟩
    rw [show (if false = true then !inV (.str y.1) (os.map V.str) else inV (.str y.1) (os.map V.str)) = decide (y.1 ∈ os) from in_strs _ _]
    refine ite2 (fun z => ⟨_, rfl, _, _, _, _, rfl, rfl, hb, rfl, k _ _ _ (.refl gr.gh) z rfl⟩) (fun z => kn _ _ (.refl gr.gh) (Bool.eq_false_iff.2 z))
  have hP := paired_ints hP
  subst hP
  refine ⟨L, sizes (ws.filter fun x => decide (x.1 ∈ os)), rfl, .inl (gr.gh.seq hL), hsub _, _, _, rfl, rfl, _, rfl, ?_⟩
  rw [decide_eq_false (show ¬ (64 : Int) < prodI (sizes (ws.filter fun x => decide (x.1 ∈ os))) from Int.not_lt.2 ho.shown)]
  have o := o.same gr.all
  clear gr
  refine iteF ⟨_, rfl, _, _, _, _, _, rfl, o.at_, T.clChart, T.nChart_boxes, rfl, t2, bs2, rfl, .inr ⟨sqt_up o.gr.gh hT2, ?_⟩⟩
  have lb := Paired.length hB2
  refine lcW (K := K) (S := rInt) (M := M0) (J := JT) (Rel := fun i ys => ys.length = i ∧ ∀ y ∈ ys, 1 ≤ y ∧ y ≤ 2) walk_tup o.gr.gh (fun H' e => sqt_up e hT2) (fun _ _ z => z) jt_ok trivial ⟨rfl, fun _ m => nomatch m⟩
    (fun L hL i x' Ha Ha' Ga vs ys hi I ⟨e, hx⟩ => ?_) (fun G' H' L ys gr hl r _ hL => ?_)
  · subst e
    obtain ⟨b, hb, hbv⟩ := paired_at hB2 hx
    obtain ⟨z, dz, fs, rfl, hzi, u1, u2, u3, u4, u5, rfl, k1, k2, k3, k4, ⟨_, us, e5, k5, p5⟩⟩ := hbv
    cases e5
    have hbo := ho.boxes b (List.mem_of_getElem? hb)
    refine ⟨rfl, tyes ⟨_, rfl, _, _, _, _, _, rfl, I.gr.to _ _ hzi, T.clBox, T.nBox_entries, rfl, u5, us, rfl, .inr ⟨sqt_up I.gr.to k5, ?_⟩⟩⟩
    have lu := Paired.length p5
    have lp := hbo.ents
    have lm := hbo.many
    refine lcM (K := K) (S := rInt) walk_tup (b.ents.map fun e => ((e.length : Nat) : Int)) (by rw [lu, List.length_map]) (by rw [List.length_map]; omega) I.gr.gh (fun H' e => sqt_up (I.gr.gg.trans e) k5) (fun j x2 Hb Hb' Gb z2 Q2 hz2 gr2 ⟨e, hx2⟩ k => ?_) (fun Gc Hc L2 vs2 gr2 hL2 hP2 hn2 => ?_) gName_mono
    · subst e
      obtain ⟨e, he, hr⟩ := paired_at p5 hx2
      obtain ⟨ae, es, rfl, hes, hpe⟩ := hr
      rw [List.getElem?_map, he] at hz2
      refine ⟨rfl, _, rfl, _, _, rfl, .inr (sqt_up (I.gr.gg.trans gr2.to) hes), k _ _ _ (.refl gr2.gh) ?_⟩
      rw [Paired.length hpe]
      exact congrArg V.int (Option.some.inj hz2)
    have hP2 := paired_ints hP2
    subst hP2
    have hne : 0 < (b.ents.map fun e => ((e.length : Nat) : Int)).length := by
      rw [List.length_map]
      have : 0 < prodI (sizes b.takes) := prod_pos (size_ok hbo.takes)
      omega
    refine ⟨L2, _, rfl, gr2.gh.seq hL2, hne, fun m hm _ => ?_⟩
    obtain ⟨e, he, rfl⟩ := List.mem_map.1 hm
    have hel : 1 ≤ e.length ∧ e.length ≤ 2 := by
      rcases hbo.entOk e he with ⟨r, rfl, _⟩ | ⟨r1, r2, k1, k2, rfl, _⟩
      · exact ⟨Nat.le_refl 1, by show 1 ≤ 2; decide⟩
      · exact ⟨by show 1 ≤ 2; decide, Nat.le_refl 2⟩
    refine lc_put I hL (fun z => z) jt_ok gr2 trivial rfl ⟨by rw [List.length_append, I.rel.1]; rfl, fun y hy => ?_⟩ (by have := I.rel.1; omega)
    rcases List.mem_append.1 hy with m | m
    · exact I.rel.2 y m
    · rw [List.mem_singleton.1 m]
      omega
  obtain ⟨_, vs, e, hL1, hP⟩ := hl
  cases e
  have hP := paired_ints hP
  subst hP
  have hpr : prodI ys ≤ 64 := by
    have h1 := prod_two (ns := ys) 1 (by decide) r.2
    have h2 : (2 : Int) ^ ys.length ≤ 2 ^ 3 := by
      have : ys.length ≤ 3 := by omega
      rcases (show ys.length = 0 ∨ ys.length = 1 ∨ ys.length = 2 ∨ ys.length = 3 by omega) with e | e | e | e <;> rw [e] <;> decide
    unfold prodI
    have : (2 : Int) ^ 3 = 8 := by decide
    omega
  refine ⟨L, ys, rfl, .inl (gr.gh.seq hL1), fun n m => ⟨by have := r.2 n m; omega, by have := r.2 n m; omega⟩, _, _, rfl, rfl, _, rfl, ?_⟩
  rw [decide_eq_false (show ¬ (64 : Int) < prodI ys from Int.not_lt.2 hpr)]
  have o := o.step gr
  refine iteF ?_
  exact q _ _ _ o.gr o.at_ o.op ⟨t1, t2, t3, t4, t5, t6, t7, rfl, ⟨t1, ws1, rfl, sqt_up gr.gg hT1, paired_up gr.gg hW1⟩, ⟨t2, bs2, rfl, sqt_up gr.gg hT2, paired_up gr.gg hB2⟩, sqt_up gr.gg hT3, sqt_up gr.gg ht4, sqt_up gr.gg ht5, sqt_up gr.gg ht6, sqt_up gr.gg ht7⟩
end
end K6

set_option Elab.async false
set_option linter.all false
set_option maxRecDepth 100000
set_option maxHeartbeats 4000000
namespace K6
open PySem PySem.Spec PyProof.Rows L2
/-! ### the states, in plain words -/
abbrev Sta := Dct × Dct × (Int × Int)
def told (d : Dct) (ws : List Wire) : List Int := ws.map fun x => (getS d x.1).getD 0
def entAt (b : LB) (d : Dct) : Ent := (b.ents[(numI 0 (sizes b.takes) (told d b.takes)).toNat]?).getD []
def putR (ls : List Str) (p : Dct × Dct) (x : Wire × Int) : Dct × Dct := if x.1.1 ∈ ls then (p.1, putS p.2 x.1.1 x.2) else (putS p.1 x.1.1 x.2, p.2)
def putsR (ls : List Str) (p : Dct × Dct) (xs : List (Wire × Int)) : Dct × Dct := xs.foldl (putR ls) p
def stepR (ls : List Str) (b : LB) (st : Sta) (r : List Int × Int) : Sta :=
  ((putsR ls (st.1, st.2.1) (b.makes.zip r.1)).1, (putsR ls (st.1, st.2.1) (b.makes.zip r.1)).2, tm st.2.2 (nm r.2 6))
def step1 (ls : List Str) (b : LB) (st : Sta) : List Sta := (entAt b st.1).map (stepR ls b st)
def stepM (ls : List Str) (b : LB) (sts : List Sta) : List Sta := sts.flatMap (step1 ls b)
def SmS (x : Int × Int) : Prop := 0 ≤ x.1 ∧ x.1 ≤ 1000 ∧ 0 < x.2 ∧ x.2 ≤ 1000
theorem smr_of {x : Int × Int} (h : SmS x) : SmR x := ⟨h.1, by have := h.2.1; omega, h.2.2.1, by have := h.2.2.2; omega⟩
/-- a state at which a box can be worked -/
structure StOk (b : LB) (st : Sta) : Prop where
  has : ∀ x ∈ b.takes, ∃ i, getS st.1 x.1 = some i ∧ 0 ≤ i ∧ i < x.2
  len1 : st.1.length ≤ 100
  len2 : st.2.1.length ≤ 100
  sm : SmS st.2.2
theorem told_fil {d : Dct} : ∀ {ws : List Wire}, (∀ x ∈ ws, ∃ i, getS d x.1 = some i ∧ 0 ≤ i ∧ i < x.2) → Fil (sizes ws) (told d ws)
  | [], _ => .nil
  | x :: ws, h => by
    obtain ⟨i, e, h1, h2⟩ := h x (.head _)
    refine .cons ?_ (told_fil fun y m => h y (.tail _ m))
    show 0 ≤ (getS d x.1).getD 0 ∧ (getS d x.1).getD 0 < x.2
    rw [e]
    exact ⟨h1, h2⟩
theorem prod_cons (s : Int) (ss : List Int) : prodI (s :: ss) = s * prodI ss := by
  have : ∀ (ss : List Int) (a : Int), ss.foldl (· * ·) a = a * ss.foldl (· * ·) 1 := by
    intro ss
    induction ss with
    | nil => intro a; simp
    | cons n ss ih =>
      intro a
      rw [List.foldl_cons, List.foldl_cons, ih (a * n), ih (1 * n), Int.one_mul, Int.mul_assoc]
  show ss.foldl (· * ·) (1 * s) = s * ss.foldl (· * ·) 1
  rw [Int.one_mul, this]
theorem numI_acc : ∀ (ss ns : List Int) (a : Int), Fil ss ns → numI a ss ns = a * prodI ss + numI 0 ss ns
  | _, _, a, .nil => by simp [numI, prodI]
  | s :: ss, n :: ns, a, .cons h t => by
    show numI (a * s + n) ss ns = a * prodI (s :: ss) + numI (0 * s + n) ss ns
    rw [numI_acc ss ns (a * s + n) t, numI_acc ss ns (0 * s + n) t, prod_cons, Int.add_mul, Int.add_mul, Int.mul_assoc, Int.zero_mul, Int.zero_mul]
    omega
theorem numI_lt : ∀ {ss ns : List Int}, Fil ss ns → 0 ≤ numI 0 ss ns ∧ numI 0 ss ns < prodI ss
  | _, _, .nil => by decide
  | s :: ss, n :: ns, .cons h t => by
    have ih := numI_lt t
    have e : numI 0 (s :: ss) (n :: ns) = n * prodI ss + numI 0 ss ns := by
      show numI (0 * s + n) ss ns = _
      rw [numI_acc _ _ _ t, Int.zero_mul, Int.zero_add]
    rw [e, prod_cons]
    have h1 : 0 ≤ n * prodI ss := Int.mul_nonneg h.1 (by omega)
    have h2 : (n + 1) * prodI ss ≤ s * prodI ss := Int.mul_le_mul_of_nonneg_right (by have := h.2; omega) (by omega)
    rw [Int.add_mul, Int.one_mul] at h2
    omega
theorem ent_at {b : LB} {st : Sta} (hb : BoxOk b) (h : StOk b st) : 0 ≤ numI 0 (sizes b.takes) (told st.1 b.takes) ∧ b.ents[(numI 0 (sizes b.takes) (told st.1 b.takes)).toNat]? = some (entAt b st.1) := by
  have hn := numI_lt (told_fil h.has)
  have he := hb.ents
  have hl : (numI 0 (sizes b.takes) (told st.1 b.takes)).toNat < b.ents.length := by omega
  refine ⟨hn.1, ?_⟩
  unfold entAt
  rw [List.getElem?_eq_getElem hl]
  rfl
section
variable {P : Program} {w : World} {K : PySem.W.Frag} {mg : Str → Option Value} {base : Heap}
/-! ### worths_at -/
/-- a dict by names, sealed -/
def rD : Rl Dct := fun G v d => ∃ a, v = .ref a ∧ G a = some (.dK (kvI d))
instance : Up rD := ⟨fun e ⟨a, h1, h2⟩ => ⟨a, h1, e _ _ h2⟩⟩
def zipD (ws : List Wire) (ns : List Int) : Dct := (ws.zip ns).foldl (fun d x => putS d x.1.1 x.2) []
def spWa (K : PySem.W.Frag) : Sp := fun vs H Q _ => ∃ (G : Hp) (v : V) (a b : Addr) (c : LC) (ns : List Int) (zs : List Str), vs = [v, .ref a, .ref b] ∧ Same G H ∧ rChart K G v c ∧ ChartOk c ∧ SqT K G a (ns.map V.int) ∧ ns.length = c.wires.length ∧ SqL K G b (zs.map V.str) ∧ zs.length ≤ 100 ∧ (∀ z ∈ zs, (getS (zipD c.wires ns) z).isSome) ∧
  ∀ G' H' p, Gr M0 G H G' H' → SqT K G' p ((zs.map fun z => (getS (zipD c.wires ns) z).getD 0).map V.int) → Q (.ref p) H'
theorem sc_worths_at : FnScope ["chart", "filling", "names", "worths", "place", "wire", "name"] ["chart", "filling", "names"] (defScope s_worths_at) := ⟨rfl, rfl, rfl, by decide +kernel, rfl, by decide +kernel, by decide +kernel⟩
theorem c_worths_at (T : Tx K mg) : C8.Cal P w K mg base 1 "worths_at" (spWa K) [] := by
  refine mkCal T.f_worths_at sc_worths_at (fun _ _ _ _ _ _ us hl => match us, hl with | [_, _, _], _ => rfl) (fun vs H Q E h => ?_) (fun f cdv A outer s H vs Q E hr h => ?_)
  · obtain ⟨_, _, _, _, _, _, _, rfl, _⟩ := h
    rfl
  obtain ⟨G, v, a, b, c, ns, zs, rfl, g, ⟨x, dx, fs, rfl, hx, t1, t2, t3, t4, t5, t6, t7, rfl, ⟨_, ws1, e1, h1, p1⟩, h2, h3, h4, h5, h6, h7⟩, ho, ha, hl, hb, hz, hin, q⟩ := h
  cases e1
  have w6 := ho.wires6
  have l1 := Paired.length p1
  refine ⟨_, (pss_cons (ps_set (i := 3) sc_worths_at.nd rfl (Or.inr rfl) pe_dnewK)
      (pss_cons (ps_for PassesOwn.never rfl (pi_enumA (by rfl) T.enumerate (pa_cons (pe_fld (pv 0) rfl) pa_nil)) (pg_tup rfl (pgs_cons (pg_name (i := 4) sc_worths_at.nd rfl (Or.inl rfl)) (pgs_cons (pg_name (i := 5) sc_worths_at.nd rfl (Or.inl rfl)) pgs_nil))) (pss_one (ps_dput (hu_of hr) (pv 3) (pe_ix ix_tup (pv 5) pe_int (fun _ _ => rfl)) (pe_ix ix_tup (pv 1) (pv 4) (fun _ _ => rfl)) rfl)))
      (pss_one (ps_ret (pe_callTy call_tuple_of (by rfl) T.tuple bt_tuple (pa_cons (pe_lc (own := [("name", 6)]) rfl sc_worths_at.nd (pi_seq (pv 2)) (blkOk_by (own := [("name", 6)]) (N := ["chart", "filling", "names", "worths", "place", "wire", "name"]) (sc := defScope s_worths_at) (by decide +kernel)) (fun _ _ _ _ _ => (pg_name (i := 6) sc_worths_at.nd rfl (Or.inl rfl))) (fun _ _ _ _ _ => pts_nil) (fun _ _ _ _ _ => (pe_dget (hu_of hr) (pv 3) (pv 6) (fun _ _ => rfl)))) pa_nil)))))), ?_⟩
  refine fun d hd => ?_
  have hdG := g.free hd
  have hds : ∀ i, ((c.wires.zip ns).take i).length ≤ 6 := fun i => by rw [List.length_take, List.length_zip]; omega
  have hlen : ∀ (xs : List (Wire × Int)) (d : Dct), (xs.foldl (fun d x => putS d x.1.1 x.2) d).length ≤ d.length + xs.length := by
    intro xs
    induction xs with
    | nil => intro d; exact Nat.le_refl _
    | cons x xs ih =>
      intro d
      have := ih (putS d x.1.1 x.2)
      have := putS_len d x.1.1 x.2
      rw [List.foldl_cons, List.length_cons]
      omega
  refine ⟨_, rfl, _, _, _, _, _, rfl, same_new hd _ _ (g _ _ hx), T.clChart, T.nChart_wires, rfl, t1, ws1, rfl, fr_enum (.inr h1) (fun i σ H' => Gr M0 G H G H' ∧ H' d = some (.dK (kvI (((c.wires.zip ns).take i).foldl (fun d x => putS d x.1.1 x.2) []))) ∧ ∃ r r' r'', σ = [some (.ref x), some (.ref a), some (.ref b), some (.ref d), r, r', r''])
    ⟨(Gr.refl g).new hd, upd_at, _, _, _, rfl⟩ (fun i σ H' h => h.1.gh) (fun i v σ H1 H2 hv ⟨gr, hd1, r, r', r'', es⟩ e2 => ?_) (fun σ H1 ⟨gr, hd1, r, r', r'', es⟩ => ?_)⟩
  · subst es
    have gr := gr.same e2
    have hd2 := e2 _ _ hd1
    obtain ⟨y, w', hy, rfl, hb⟩ := wire_at p1 hv gr.gh
    obtain ⟨n, hn⟩ : ∃ n, ns[i]? = some n := by
      have := (List.getElem?_eq_some_iff.1 hy).1
      exact ⟨ns[i]'(by omega), List.getElem?_eq_getElem (by omega)⟩
    have hzp : (c.wires.zip ns)[i]? = some (w', n) := List.getElem?_zip_eq_some.2 ⟨hy, hn⟩
    have hni : (ns.map V.int)[i]? = some (.int n) := by rw [List.getElem?_map, hn]; rfl
    refine ⟨_, rfl, _, rfl, _, _, _, _, rfl, rfl, sqt_up gr.gh ha, atI_nat hni, _, rfl, _, rfl, _, _, _, _, rfl, rfl, hb, rfl, d, _, rfl, DPut.k (k := Sum.inr w'.1) hd2 (small_lt ?_), gr.write hd hdG, ?_, _, _, _, rfl⟩
    · rw [kvI_len]
      have := hlen ((c.wires.zip ns).take i) []
      have := hds i
      simp only [List.length_nil] at *
      omega
    · rw [upd_at, kvI_put, foldl_snoc hzp]
  · subst es
    have e : (c.wires.zip ns).take ws1.length = c.wires.zip ns := List.take_of_length_le (by rw [List.length_zip]; omega)
    rw [e] at hd1
    have gr := gr.shut hd hdG hd1
    have hdd : upd G d (.dK (kvI (zipD c.wires ns))) d = some (.dK (kvI (zipD c.wires ns))) := upd_at
    have hb' := gr.gg.seq hb
    refine ⟨_, rfl, b, _, rfl, .inl ⟨gr.gh.seq hb', ?_⟩⟩
    refine lcM (K := K) (S := rInt) walk_list (zs.map fun z => (getS (zipD c.wires ns) z).getD 0) (by rw [List.length_map, List.length_map]) (by rw [List.length_map]; omega) gr.gh (fun H' e => e.seq hb') (fun i x' Ha Ha' Ga y Q' hy gr2 ⟨e, hx⟩ k => ?_) (fun Gb Hb L vs gr2 hL hP hn => ?_) gName_mono
    · subst e
      obtain ⟨z, hz1, rfl⟩ := at_map hx
      obtain ⟨n, hn⟩ := Option.isSome_iff_exists.1 (hin z (List.mem_of_getElem? hz1))
      have hg : DGet Ha' d (.str z) (some (.int n)) := by
        rw [show some (V.int n) = valV (kvI (zipD c.wires ns)) (Sum.inr z) from by rw [kvI_get, hn]; rfl]
        exact DGet.k (k := Sum.inr z) (gr2.to _ _ hdd)
      refine ⟨rfl, _, rfl, _, rfl, d, _, rfl, hg, k _ _ _ (.refl gr2.gh) ?_⟩
      rw [List.getElem?_map, hz1] at hy
      have hy : (getS (zipD c.wires ns) z).getD 0 = y := Option.some.inj hy
      rw [hn] at hy
      rw [← hy]
      rfl
    · have hP := paired_ints hP
      subst hP
      exact ⟨_, _, rfl, .inl ⟨gr2.gh.seq hL, fun p hp => q _ _ _ ((gr.trans gr2).seal hp) (.of upd_at)⟩⟩
/-! ### boxes_by_day -/
def byDay (bs : List LB) : List LB := (List.range 10).flatMap fun (d : Nat) => bs.filter fun b => decide (b.day = (d : Int))
def spBd (K : PySem.W.Frag) : Sp := fun vs H Q _ => ∃ (G : Hp) (v : V) (c : LC), vs = [v] ∧ Same G H ∧ rChart K G v c ∧ ChartOk c ∧ ∀ G' H' v', Gr M0 G H G' H' → rL K (rBox K) G' v' (byDay c.boxes) → Q v' H'
theorem sc_boxes_by_day : FnScope ["chart", "day", "box"] ["chart"] (defScope s_boxes_by_day) := ⟨rfl, rfl, rfl, by decide +kernel, rfl, by decide +kernel, by decide +kernel⟩
theorem c_boxes_by_day (T : Tx K mg) : C8.Cal P w K mg base 1 "boxes_by_day" (spBd K) [] := by
  refine mkCal T.f_boxes_by_day sc_boxes_by_day (fun _ _ _ _ _ _ us hl => match us, hl with | [_], _ => rfl) (fun vs H Q E h => ?_) (fun f cdv A outer s H vs Q E hr h => ?_)
  · obtain ⟨_, _, _, rfl, _⟩ := h
    rfl
  obtain ⟨G, v, c, rfl, g, ⟨x, dx, fs, rfl, hx, t1, t2, t3, t4, t5, t6, t7, rfl, h1, ⟨_, us, e2, h2, p2⟩, h3, h4, h5, h6, h7⟩, ho, q⟩ := h
  cases e2
  have b3 := ho.boxes3
  have l2 := Paired.length p2
  refine ⟨_, (pss_one (ps_ret (pe_lc2 (own := [("day", 1), ("box", 2)]) (vs1 := [2]) rfl sc_boxes_by_day.nd (pi_range1 (by rfl) T.range (pa_cons pe_int pa_nil)) (blkOk_by (own := [("day", 1), ("box", 2)]) (N := ["chart", "day", "box"]) (sc := defScope s_boxes_by_day) (by decide +kernel)) (by decide) (fun _ _ _ _ _ => (pg_name (i := 1) sc_boxes_by_day.nd rfl (Or.inl rfl))) (fun _ _ _ _ _ => pts_nil) (fun _ _ _ _ _ => (show PI _ _ _ (iSeq K _) from (pi_seq (show PE _ _ (tFld K _ _) from (pe_fld (pv 0) rfl))))) (fun _ _ _ _ _ => (pg_name (i := 2) sc_boxes_by_day.nd rfl (Or.inl rfl))) (fun _ _ _ _ _ => pts_one (pt_cmpR op_eq (show PE _ _ (tFld K _ _) from (pe_fld (pv 2) rfl)) (pv 1) (nomark _))) (fun _ _ _ _ _ => (pv 2))))), ?_⟩
  refine ⟨10, rfl, by decide, by decide, fun L hL => ?_⟩
  let sel : Nat → LB → Bool := fun d b => decide (b.day = (d : Int))
  let RO : Nat → List LB → Prop := fun i ys => ys = (List.range i).flatMap fun d => c.boxes.filter (sel d)
  let RI : Nat → Nat → List LB → Prop := fun i j ys => ys = ((List.range i).flatMap fun d => c.boxes.filter (sel d)) ++ (c.boxes.take j).filter (sel i)
  have lenO : ∀ i ≤ 10, ((List.range i).flatMap fun d => c.boxes.filter (sel d)).length ≤ i * 3 := by
    intro i
    induction i with
    | zero => intro _; simp
    | succ i ih =>
      intro hi
      have := ih (by omega)
      have := List.length_filter_le (sel i) c.boxes
      rw [List.range_succ, List.flatMap_append, List.length_append, List.flatMap_cons, List.flatMap_nil, List.append_nil]
      omega
  refine ⟨fun i m H' => m = 10 - i ∧ i ≤ 10 ∧ LcV (rBox K) M0 G H JT RO L i H', ⟨10, rfl, by omega, lc_start g hL jt_ok trivial rfl⟩, ?_⟩
  rintro i m H' ⟨rfl, hi, Iv⟩
  by_cases hlt : i < 10
  · refine .inr ⟨hlt, fun H2 => LcV (rBox K) M0 G H JT RO L (i + 1) H2, fun H2 p => ⟨10 - (i + 1), by omega, rfl, hlt, p⟩, fun xv H2 ⟨e, ex⟩ => ?_⟩
    subst e ex
    obtain ⟨G1, vs, ys, I⟩ := Iv
    have hx1 := I.gr.to _ _ hx
    refine ⟨rfl, tyes ⟨_, rfl, _, _, _, _, _, rfl, hx1, T.clChart, T.nChart_boxes, rfl, t2, us, rfl, .inr ⟨sqt_up I.gr.to h2, ?_⟩⟩⟩
    refine ⟨fun j k H3 => k = us.length - j ∧ j ≤ us.length ∧ LcV (rBox K) M0 G H JT (RI i) L j H3, ⟨us.length, rfl, Nat.zero_le _, G1, vs, ys, I.gr, I.at_, I.op, I.it, by show ys = _; rw [I.rel]; simp [RI, RO], trivial⟩, ?_⟩
    rintro j k H3 ⟨rfl, hj, ⟨G3, vs3, ys3, I3⟩⟩
    by_cases hjl : j < us.length
    · refine .inr ⟨⟨us, us[j], sqt_up I3.gr.to h2, List.getElem?_eq_getElem hjl⟩, fun H4 => LcV (rBox K) M0 G H JT (RI i) L (j + 1) H4, fun H4 p => ⟨us.length - (j + 1), by omega, rfl, hjl, p⟩, fun yv H4 hy => ?_⟩
      obtain ⟨e, hxy⟩ := hy
      subst e
      have hxy := hxy us (sqt_up I3.gr.to h2)
      obtain ⟨b, hb, hbv⟩ := paired_at p2 hxy
      have hbv3 := Up.up I3.gr.to hbv
      obtain ⟨z, dz, fz, rfl, hz, hbat⟩ := hbv3
      have hbf : ∃ t1 t2 t3 t4 t5, fz = ([("day", .int b.day), ("takes", .ref t1), ("take_sizes", .ref t2), ("makes", .ref t3), ("make_sizes", .ref t4), ("entries", .ref t5)] : List (Str × V)) := by
        obtain ⟨a1, a2, a3, a4, a5, h, _⟩ := hbat
        exact ⟨a1, a2, a3, a4, a5, h⟩
      obtain ⟨a1, a2, a3, a4, a5, rfl⟩ := hbf
      refine ⟨rfl, _, rfl, _, _, _, _, _, rfl, hz, T.clBox, T.nBox_day, rfl, _, rfl, rfl, _, rfl, ?_⟩
      have hd : decide (V.int b.day = V.int (0 + (i : Nat))) = sel i b := decide_eq_decide.2 ⟨fun h => by have := V.int.inj h; omega, fun h => by rw [h, Int.zero_add]⟩
      rw [hd]
      refine ite2 (fun hs => ⟨_, rfl, ?_⟩) (fun hs => ?_)
      · refine lc_put I3 hL (fun z => z) jt_ok (.refl I3.gr.gh) trivial (Up.up I3.gr.gg hbv) ?_ ?_
        · show _ = _
          rw [I3.rel, take_snoc hb, List.filter_append, List.filter_cons_of_pos hs, List.append_assoc]
          rfl
        · rw [I3.rel, List.length_append]
          have := lenO i (by omega)
          have := List.length_filter_le (sel i) (c.boxes.take j)
          rw [List.length_take] at this
          omega
      · refine lc_skip I3 (fun z => z) (.refl I3.gr.gh) trivial ?_
        show _ = _
        rw [I3.rel, take_snoc hb, List.filter_append, List.filter_cons_of_neg hs]
        simp
    · have e : j = us.length := by omega
      subst e
      refine .inl ⟨⟨us, sqt_up I3.gr.to h2, Nat.le_refl _⟩, G3, vs3, ys3, I3.gr, I3.at_, I3.op, I3.it, ?_, trivial⟩
      show _ = _
      rw [I3.rel, l2, List.take_length]
      show _ = (List.range (i + 1)).flatMap _
      rw [List.range_succ, List.flatMap_append, List.flatMap_cons, List.flatMap_nil, List.append_nil]
  · have e : i = 10 := by omega
    subst e
    obtain ⟨G', ys, h1, h2, h3, _⟩ := lc_done (K := K) Iv hL jt_ok
    refine .inl ⟨Nat.le_refl _, q _ _ _ h1 ?_⟩
    rw [show byDay c.boxes = ys from h3.symm]
    exact h2
/-! ### worked_on -/
def rSt (K : PySem.W.Frag) : Rl Sta := rP3 K rD rD (rRt K)
instance : Up (rSt K) := inferInstanceAs (Up (rP3 K rD rD (rRt K)))
def spWo (K : PySem.W.Frag) : Sp := fun vs H Q _ => ∃ (G : Hp) (v : V) (a c : Addr) (us : List V) (b : LB) (sts : List Sta) (ls : List Str), vs = [v, .ref a, .ref c] ∧ Same G H ∧ rBox K G v b ∧ BoxOk b ∧ SqL K G a us ∧ Paired (rSt K G) us sts ∧ SqT K G c (ls.map V.str) ∧ (∀ st ∈ sts, StOk b st) ∧ sts.length ≤ 1000 ∧
  ∀ G' H' v', Gr M0 G H G' H' → rL K (rSt K) G' v' (stepM ls b sts) → Q v' H'
abbrev g3 (K : PySem.W.Frag) (i j k : Nat) : TG := gTup K 3 (gCons (gName i) (gCons (gName j) (gCons (gName k) gNil)))
theorem g3_at {i j k : Nat} {a : Addr} {x y z : V} {σ : L2.St} {H : Hp} {Q : L2.St → Hp → Prop} (h : SqT K H a [x, y, z]) (q : Q (((σ.set i (some x)).set j (some y)).set k (some z)) H) : g3 K i j k (.ref a) σ H Q :=
  ⟨a, [x, y, z], rfl, h, rfl, x, [y, z], rfl, y, [z], rfl, z, [], rfl, rfl, q⟩
theorem g2_at {i j : Nat} {a : Addr} {x y : V} {σ : L2.St} {H : Hp} {Q : L2.St → Hp → Prop} (h : SqT K H a [x, y]) (q : Q ((σ.set i (some x)).set j (some y)) H) : g2 K i j (.ref a) σ H Q :=
  ⟨a, [x, y], rfl, h, rfl, x, [y], rfl, y, [], rfl, rfl, q⟩
theorem ent_ok {b : LB} {d : Dct} (hb : BoxOk b) : (entAt b d).length ≤ 2 ∧ ∀ r ∈ entAt b d, r.1.length = b.makes.length ∧ 0 < r.2 ∧ r.2 ≤ 6 ∧ Fil (sizes b.makes) r.1 := by
  unfold entAt
  cases h : b.ents[(numI 0 (sizes b.takes) (told d b.takes)).toNat]? with
  | none => exact ⟨Nat.zero_le _, fun r m => nomatch m⟩
  | some e =>
    have hl : ∀ r, Fil (sizes b.makes) r → r.length = b.makes.length := fun r h => (Paired.length h).trans sizes_len
    rcases hb.entOk e (List.mem_of_getElem? h) with ⟨r, rfl, hf⟩ | ⟨r1, r2, k1, k2, rfl, f1, f2, _, _, p1, p2, p3⟩
    · refine ⟨by show 1 ≤ 2; decide, fun x m => ?_⟩
      have := List.mem_singleton.1 m
      subst this
      exact ⟨hl _ hf, (by show (0 : Int) < 6; decide), Int.le_refl _, hf⟩
    · refine ⟨Nat.le_refl 2, fun x m => ?_⟩
      rcases List.mem_cons.1 m with e | m
      · subst e
        exact ⟨hl _ f1, p1, by show k1 ≤ 6; omega, f1⟩
      · have := List.mem_singleton.1 m
        subst this
        exact ⟨hl _ f2, p2, by show k2 ≤ 6; omega, f2⟩
theorem putsR_len (ls : List Str) : ∀ (xs : List (Wire × Int)) (p : Dct × Dct), (putsR ls p xs).1.length ≤ p.1.length + xs.length ∧ (putsR ls p xs).2.length ≤ p.2.length + xs.length
  | [], p => ⟨Nat.le_refl _, Nat.le_refl _⟩
  | x :: xs, p => by
    have h := putsR_len ls xs (putR ls p x)
    have e : putsR ls p (x :: xs) = putsR ls (putR ls p x) xs := rfl
    rw [e, List.length_cons]
    unfold putR at h ⊢
    by_cases hx : x.1.1 ∈ ls
    · rw [if_pos hx] at h ⊢
      have := putS_len p.2 x.1.1 x.2
      simp only at h ⊢
      omega
    · rw [if_neg hx] at h ⊢
      have := putS_len p.1 x.1.1 x.2
      simp only at h ⊢
      omega
theorem stepM_len {ls : List Str} {b : LB} (hb : BoxOk b) : ∀ sts : List Sta, (stepM ls b sts).length ≤ 2 * sts.length
  | [] => Nat.le_refl _
  | st :: sts => by
    have := stepM_len (ls := ls) hb sts
    have := (ent_ok (d := st.1) hb).1
    show (step1 ls b st ++ stepM ls b sts).length ≤ _
    rw [List.length_append, List.length_cons]
    unfold step1
    rw [List.length_map]
    omega
theorem sc_worked_on : FnScope ["box", "states", "letters", "found", "worths", "sent", "share", "wire", "filling", "row", "part", "known", "told", "worth"] ["box", "states", "letters"] (defScope s_worked_on) := ⟨rfl, rfl, rfl, by decide +kernel, rfl, by decide +kernel, by decide +kernel⟩
theorem c_worked_on (T : Tx K mg) : C8.Cal P w K mg base 6 "worked_on" (spWo K) [] := by
  refine mkCal T.f_worked_on sc_worked_on (fun _ _ _ _ _ _ us hl => match us, hl with | [_, _, _], _ => rfl) (fun vs H Q E h => ?_) (fun f cdv A outer s H vs Q E hr h => ?_)
  · obtain ⟨_, _, _, _, _, _, _, _, rfl, _⟩ := h
    rfl
  obtain ⟨G, v, a, c, us, b, sts, ls, rfl, g, ⟨x, dx, fs, rfl, hx, hbat⟩, hb, ha, hP, hls, hst, hsl, q⟩ := h
  have hbox : rBox K G (.ref x) b := ⟨x, dx, fs, rfl, hx, hbat⟩
  obtain ⟨t1, t2, t3, t4, t5, rfl, ⟨_, vs1, e1, k1, p1⟩, k2, ⟨_, vs3, e3, k3, p3⟩, k4, k5⟩ := hbat
  cases e1
  cases e3
  have m6 := hb.makes6
  have n6 := hb.takes6
  have l1 := Paired.length p1
  have l3 := Paired.length p3
  have lp := Paired.length hP
  refine ⟨_, (pss_cons (ps_set (i := 3) sc_worked_on.nd rfl (Or.inl rfl) (pe_lst pa_nil))
      (pss_cons (ps_for PassesOwn.never rfl (pi_seq (pv 1)) (pg_tup rfl (pgs_cons (pg_name (i := 4) sc_worked_on.nd rfl (Or.inr rfl)) (pgs_cons (pg_name (i := 5) sc_worked_on.nd rfl (Or.inl rfl)) (pgs_cons (pg_name (i := 6) sc_worked_on.nd rfl (Or.inl rfl)) pgs_nil)))) (pss_cons (ps_setLc (i := 8) (own := [("wire", 7)]) rfl sc_worked_on.nd rfl rfl (sw_true rfl rfl rfl (by decide +kernel)) (pi_seq (pe_fld (pv 0) rfl)) (blkOk_by (own := [("wire", 7)]) (N := ["box", "states", "letters", "found", "worths", "sent", "share", "wire", "filling", "row", "part", "known", "told", "worth"]) (sc := defScope s_worked_on) (by decide +kernel)) (fun _ _ _ _ _ => (pg_name (i := 7) sc_worked_on.nd rfl (Or.inl rfl))) (fun _ _ _ _ _ => pts_nil) (fun _ _ _ _ _ => (pe_dget (hu_of hr) (pv 4) (pe_ix (show IxR _ (rIxT K) from ix_tup) (pv 7) pe_int (fun _ _ => rfl)) (fun _ _ => rfl))))
      (pss_one (ps_for PassesOwn.never rfl (pi_seq (C8.pe_mt (c_made_by T) hr (by decide) (pv 0) (pa_cons (pv 8) pa_nil))) (pg_tup rfl (pgs_cons (pg_name (i := 9) sc_worked_on.nd rfl (Or.inl rfl)) (pgs_cons (pg_name (i := 10) sc_worked_on.nd rfl (Or.inl rfl)) pgs_nil))) (pss_cons (ps_set (i := 11) sc_worked_on.nd rfl (Or.inl rfl) (pe_dstar (pv 4)))
      (pss_cons (ps_set (i := 12) sc_worked_on.nd rfl (Or.inl rfl) (pe_dstar (pv 5)))
      (pss_cons (ps_for PassesOwn.never rfl (RZ.pi_zipA (by rfl) T.zip (pa_cons (pe_fld (pv 0) rfl) (pa_cons (pv 9) pa_nil))) (pg_tup rfl (pgs_cons (pg_name (i := 7) sc_worked_on.nd rfl (Or.inl rfl)) (pgs_cons (pg_name (i := 13) sc_worked_on.nd rfl (Or.inl rfl)) pgs_nil))) (pss_one (ps_if (pt_cmpR op_in_seq (pe_ix ix_tup (pv 7) pe_int (fun _ _ => rfl)) (pv 2) (by rfl)) (pss_one (ps_dput (hu_of hr) (pv 12) (pe_ix ix_tup (pv 7) pe_int (fun _ _ => rfl)) (pv 13) rfl)) (pss_one (ps_dput (hu_of hr) (pv 11) (pe_ix ix_tup (pv 7) pe_int (fun _ _ => rfl)) (pv 13) rfl)))))
      (pss_one (ps_expr (pe_bm PySem.F.plainAttrs_list PySem.F.slot_list_append PySem.F.type_list_append mt_append (pv 3) (pa_cons (pe_tup (pa_cons (pv 11) (pa_cons (pv 12) (pa_cons (C8.pe_c (c_times T) hr (by decide) (by rfl) (pa_cons (pv 6) (pa_cons (pv 10) pa_nil))) pa_nil)))) pa_nil)))))))))))
      (pss_one (ps_ret (pv 3))))), ?_⟩
  refine ⟨(show 0 ≤ sizeLine by decide), fun f hf => ?_⟩
  have hfG := g.free hf
  refine ⟨_, rfl, a, us, rfl, fr_seq (.inl ha) (fun i σ H' => ∃ G' vs, Gr M0 G H G' H' ∧ H' f = some (.lst vs) ∧ G' f = none ∧ Paired (rSt K G') vs (stepM ls b (sts.take i)) ∧ ∃ r1 r2 r3 r4 r5 r6 r7 r8 r9 r10, σ = [some (.ref x), some (.ref a), some (.ref c), some (.ref f), r1, r2, r3, r4, r5, r6, r7, r8, r9, r10])
    ⟨G, [], (Gr.refl g).new hf, upd_at, hfG, .nil, _, _, _, _, _, _, _, _, _, _, rfl⟩ (fun i σ H' ⟨_, _, h, _⟩ => h.to) (fun i v σ H1 hv ⟨G1, vs, gr, hf1, ho1, hvs, r1, r2, r3, r4, r5, r6, r7, r8, r9, r10, es⟩ => ?_) (fun σ H1 ⟨G1, vs, gr, hf1, ho1, hvs, r1, r2, r3, r4, r5, r6, r7, r8, r9, r10, es⟩ => ?_)⟩
  · subst es
    have hi : i < us.length := (List.getElem?_eq_some_iff.1 hv).1
    obtain ⟨st, hs, hsv⟩ := paired_at hP hv
    have hok := hst st (List.mem_of_getElem? hs)
    obtain ⟨sa, _, _, sv, rfl, hsa, ⟨wd, rfl, hwd⟩, ⟨sd, rfl, hsd⟩, hsh⟩ := hsv
    refine g3_at (sqt_up gr.to hsa) ?_
    refine ⟨_, rfl, _, _, _, _, _, rfl, gr.to _ _ hx, T.clBox, T.nBox_takes, rfl, t1, vs1, rfl, .inr ⟨sqt_up gr.to k1, ?_⟩⟩
    refine lcM (K := K) (S := rInt) walk_tup (told st.1 b.takes) (by rw [l1, told, List.length_map]) (by rw [told, List.length_map]; omega) gr.gh (fun H' e => sqt_up (gr.gg.trans e) k1) (fun j x' Ha Ha' Ga y Q' hy gr2 ⟨e, hx'⟩ k => ?_) (fun G2 H2 L vs2 gr2 hL hP2 hn => ?_) gName_mono
    · subst e
      obtain ⟨d, z, hz, rfl, hd⟩ := wire_at p1 hx' (gr.gg.trans gr2.to)
      obtain ⟨n, hn, _⟩ := hok.has z (List.mem_of_getElem? hz)
      have hg : DGet Ha' wd (.str z.1) (some (.int n)) := by
        rw [show some (V.int n) = valV (kvI st.1) (Sum.inr z.1) from by rw [kvI_get, hn]; rfl]
        exact DGet.k (k := Sum.inr z.1) ((gr.gg.trans gr2.to) _ _ hwd)
      refine ⟨rfl, _, rfl, _, rfl, _, _, _, _, rfl, rfl, hd, rfl, wd, _, rfl, hg, k _ _ _ (.refl gr2.gh) ?_⟩
      have hy : (some z).map (fun x : Wire => (getS st.1 x.1).getD 0) = some y := by rw [← hz, ← List.getElem?_map]; exact hy
      have hy : (getS st.1 z.1).getD 0 = y := Option.some.inj hy
      rw [hn] at hy
      rw [← hy]
      rfl
    have hP2 := paired_ints hP2
    subst hP2
    have hf2 := gr2.hh f _ (fun z => z) hf1
    have ho2 := gr2.open_ hf1 ho1
    have hvs := paired_up gr2.gg hvs
    have gr := gr.trans gr2
    clear gr2
    have hent := ent_at hb hok
    have heo := ent_ok (d := st.1) hb
    refine ⟨_, rfl, x, dx, _, rfl, gr.to _ _ hx, rfl, _, rfl, G, .ref x, L, b, told st.1 b.takes, entAt b st.1, rfl, gr.to, hbox, hb, gr.gh.seq hL, told_fil hok.has, hent.2, hent.1, fun H3 ve e3 hve => ?_⟩
    obtain ⟨te, es, rfl, hte, hes⟩ := hve
    have gr := gr.same e3
    have hf3 := e3 _ _ hf2
    have le := Paired.length hes
    have hsl2 := stepM_len (ls := ls) hb (sts.take i)
    have hti : (sts.take i).length = i := by rw [List.length_take]; omega
    refine ⟨te, es, rfl, fr_seq (.inr hte) (fun j σ H' => ∃ G' vs, Gr M0 G H G' H' ∧ H' f = some (.lst vs) ∧ G' f = none ∧ Paired (rSt K G') vs (stepM ls b (sts.take i) ++ ((entAt b st.1).take j).map (stepR ls b st)) ∧ ∃ r1 r2 r3 r4 r5 r6, σ = [some (.ref x), some (.ref a), some (.ref c), some (.ref f), some (.ref wd), some (.ref sd), some sv, r1, some (.ref L), r2, r3, r4, r5, r6])
      ⟨G2, vs, gr, hf3, ho2, by rw [List.take_zero, List.map_nil, List.append_nil]; exact hvs, _, _, _, _, _, _, rfl⟩ (fun j σ H' ⟨_, _, h, _⟩ => h.to) (fun j v σ H4 hv ⟨G4, vs4, gr4, hf4, ho4, hvs4, r1, r2, r3, r4, r5, r6, es⟩ => ?_) (fun σ H4 ⟨G4, vs4, gr4, hf4, ho4, hvs4, r1, r2, r3, r4, r5, r6, es⟩ => ?_)⟩
    · subst es
      have hj : j < es.length := (List.getElem?_eq_some_iff.1 hv).1
      obtain ⟨⟨row, k⟩, hr, hrv⟩ := paired_at hes hv
      obtain ⟨pa, _, pv, rfl, hpa, ⟨ra, rvs, rfl, hra, hrp⟩, hpv⟩ := hrv
      have hrp : rvs = row.map V.int := paired_ints hrp
      subst hrp
      obtain ⟨hrl, hk0, hk6, _⟩ := heo.2 (row, k) (List.mem_of_getElem? hr)
      have hrl : row.length = b.makes.length := hrl
      refine g2_at (sqt_up gr4.to hpa) ?_
      -- known
      refine fun p hp => ⟨_, rfl, upd_at, wd, _, rfl, ne_of_none (gr4.to _ _ hwd) hp, .inl (by rw [upd_ne (ne_of_none (gr4.to _ _ hwd) hp)]; exact gr4.to _ _ hwd), ?_⟩
      have hp0 := gr4.dm p hp
      have hpG := gr4.gh.free hp
      have gr5 := (gr4.new (o := .dK []) hp).write (o := .dK (kvI st.1)) hp0 hpG
      have e5 : ∀ z o, H4 z = some o → upd (upd H4 p (.dK [])) p (.dK (kvI st.1)) z = some o := fun z o h => by rw [upd_ne (ne_of_none h hp), upd_ne (ne_of_none h hp)]; exact h
      have hf5 := e5 _ _ hf4
      have hp5 : upd (upd H4 p (.dK [])) p (.dK (kvI st.1)) p = some (.dK (kvI st.1)) := upd_at
      have hpf : p ≠ f := fun z => by rw [z] at hp; rw [hf4] at hp; cases hp
      generalize upd (upd H4 p (.dK [])) p (.dK (kvI st.1)) = H5 at gr5 e5 hf5 hp5 ⊢
      -- told
      refine fun t ht => ⟨_, rfl, upd_at, sd, _, rfl, ne_of_none (gr5.to _ _ hsd) ht, .inl (by rw [upd_ne (ne_of_none (gr5.to _ _ hsd) ht)]; exact gr5.to _ _ hsd), ?_⟩
      have ht0 := gr5.dm t ht
      have htG := gr5.gh.free ht
      have gr6 := (gr5.new (o := .dK []) ht).write (o := .dK (kvI st.2.1)) ht0 htG
      have e6 : ∀ z o, H5 z = some o → upd (upd H5 t (.dK [])) t (.dK (kvI st.2.1)) z = some o := fun z o h => by rw [upd_ne (ne_of_none h ht), upd_ne (ne_of_none h ht)]; exact h
      have hf6 := e6 _ _ hf5
      have hp6 := e6 _ _ hp5
      have ht6 : upd (upd H5 t (.dK [])) t (.dK (kvI st.2.1)) t = some (.dK (kvI st.2.1)) := upd_at
      have htf : t ≠ f := fun z => by rw [z] at ht; rw [hf5] at ht; cases ht
      have htp : t ≠ p := fun z => by rw [z] at ht; rw [hp5] at ht; cases ht
      generalize upd (upd H5 t (.dK [])) t (.dK (kvI st.2.1)) = H6 at gr6 e6 hf6 hp6 ht6 ⊢
      have hzl : vs3.length = (row.map V.int).length := by rw [l3, List.length_map, hrl]
      refine ⟨_, rfl, _, _, _, _, _, rfl, gr6.to _ _ hx, T.clBox, T.nBox_makes, rfl, _, rfl, t3, ra, vs3, _, rfl, .inr ⟨sqt_up gr6.to k3, sqt_up gr6.to hra, ?_⟩⟩
      refine fr_zipT hzl (fun n σ H' => Gr M0 G H G4 H' ∧ H' f = some (.lst vs4) ∧ H' p = some (.dK (kvI (putsR ls (st.1, st.2.1) ((b.makes.zip row).take n)).1)) ∧ H' t = some (.dK (kvI (putsR ls (st.1, st.2.1) ((b.makes.zip row).take n)).2)) ∧ ∃ r1 r6, σ = [some (.ref x), some (.ref a), some (.ref c), some (.ref f), some (.ref wd), some (.ref sd), some sv, r1, some (.ref L), some (.ref ra), some pv, some (.ref p), some (.ref t), r6])
        ⟨gr6, hf6, hp6, ht6, _, _, rfl⟩ (fun n σ H' h => ⟨sqt_up h.1.to k3, sqt_up h.1.to hra⟩) (fun n u v σ H7 H8 hu hv ⟨gr7, hf7, hp7, ht7, r1, r6, es⟩ e8 => ?_) (fun σ H7 ⟨gr7, hf7, hp7, ht7, r1, r6, es⟩ => ?_)
      · subst es
        have gr8 := gr7.same e8
        obtain ⟨d, z, hz, rfl, hd⟩ := wire_at p3 hu gr8.to
        obtain ⟨m, hm, rfl⟩ := at_map hv
        have hzm : (b.makes.zip row)[n]? = some (z, m) := List.getElem?_zip_eq_some.2 ⟨hz, hm⟩
        have hpl := putsR_len ls ((b.makes.zip row).take n) (st.1, st.2.1)
        have hnl : ((b.makes.zip row).take n).length ≤ 6 := by rw [List.length_take, List.length_zip]; omega
        have hl1 := hok.len1
        have hl2 := hok.len2
        simp only at hpl
        have eput : putsR ls (st.1, st.2.1) ((b.makes.zip row).take (n + 1)) = putR ls (putsR ls (st.1, st.2.1) ((b.makes.zip row).take n)) (z, m) := by
          unfold putsR
          rw [foldl_snoc hzm]
        have hf8 := e8 _ _ hf7
        have hp8 := e8 _ _ hp7
        have ht8 := e8 _ _ ht7
        refine ⟨_, rfl, _, _, _, _, rfl, rfl, hd, rfl, _, rfl, _, _, rfl, .inr (sqt_up gr8.to hls), rfl, flat_strs _, _, rfl, ?_⟩
        rw [show (if false = true then !inV (.str z.1) (ls.map V.str) else inV (.str z.1) (ls.map V.str)) = decide (z.1 ∈ ls) from in_strs _ _]
        refine ite2 (fun hin => ?_) (fun hin => ?_)
        · have hin := of_decide_eq_true hin
          refine ⟨_, rfl, _, rfl, _, rfl, _, _, _, _, rfl, rfl, hd, rfl, t, _, rfl, DPut.k (k := Sum.inr z.1) ht8 (small_lt (by rw [kvI_len]; omega)), gr8.write ht0 htG, ?_, ?_, ?_, _, _, rfl⟩
          · rw [upd_ne (Ne.symm htf)]
            exact hf8
          · rw [upd_ne (Ne.symm htp), hp8, eput]
            unfold putR
            rw [if_pos hin]
          · rw [upd_at, kvI_put, eput]
            unfold putR
            rw [if_pos hin]
        · have hin : ¬ z.1 ∈ ls := fun y => hin (decide_eq_true y)
          refine ⟨_, rfl, _, rfl, _, rfl, _, _, _, _, rfl, rfl, hd, rfl, p, _, rfl, DPut.k (k := Sum.inr z.1) hp8 (small_lt (by rw [kvI_len]; omega)), gr8.write hp0 hpG, ?_, ?_, ?_, _, _, rfl⟩
          · rw [upd_ne (Ne.symm hpf)]
            exact hf8
          · rw [upd_at, kvI_put, eput]
            unfold putR
            rw [if_neg hin]
          · rw [upd_ne htp, ht8, eput]
            unfold putR
            rw [if_neg hin]
      · subst es
        have ez : (b.makes.zip row).take vs3.length = b.makes.zip row := List.take_of_length_le (by rw [List.length_zip]; omega)
        rw [ez] at hp7 ht7
        have gr8 := gr7.shut hp0 hpG hp7
        have htG8 : upd G4 p (.dK (kvI (putsR ls (st.1, st.2.1) (b.makes.zip row)).1)) t = none := by rw [upd_ne htp]; exact htG
        have gr9 := gr8.shut ht0 htG8 ht7
        have s8 := (same_new hpG (o := .dK (kvI (putsR ls (st.1, st.2.1) (b.makes.zip row)).1))).trans (same_new htG8 (o := .dK (kvI (putsR ls (st.1, st.2.1) (b.makes.zip row)).2)))
        have hpS : upd (upd G4 p (.dK (kvI (putsR ls (st.1, st.2.1) (b.makes.zip row)).1))) t (.dK (kvI (putsR ls (st.1, st.2.1) (b.makes.zip row)).2)) p = some (.dK (kvI (putsR ls (st.1, st.2.1) (b.makes.zip row)).1)) := by rw [upd_ne (Ne.symm htp), upd_at]
        have htS : upd (upd G4 p (.dK (kvI (putsR ls (st.1, st.2.1) (b.makes.zip row)).1))) t (.dK (kvI (putsR ls (st.1, st.2.1) (b.makes.zip row)).2)) t = some (.dK (kvI (putsR ls (st.1, st.2.1) (b.makes.zip row)).2)) := upd_at
        have hfS : upd (upd G4 p (.dK (kvI (putsR ls (st.1, st.2.1) (b.makes.zip row)).1))) t (.dK (kvI (putsR ls (st.1, st.2.1) (b.makes.zip row)).2)) f = none := by rw [upd_ne (Ne.symm htf), upd_ne (Ne.symm hpf)]; exact ho4
        generalize upd (upd G4 p (.dK (kvI (putsR ls (st.1, st.2.1) (b.makes.zip row)).1))) t (.dK (kvI (putsR ls (st.1, st.2.1) (b.makes.zip row)).2)) = G9 at gr9 s8 hpS htS hfS
        refine ⟨_, rfl, .inl ⟨rfl, _, .of hf7⟩, _, rfl, _, rfl, _, rfl, _, rfl, _, _, _, _, rfl, Up.up gr9.to hsh, Up.up gr9.to hpv, smr_of hok.sm, sm_nm (by decide) (by decide) (by omega) (by show k < 2 ^ 30; omega), fun u hu => ⟨(by show 3 ≤ sizeLine; decide), fun z hz => ?_⟩⟩
        have gr10 := gr9.seal (o := .tup [.int (tm st.2.2 (nm k 6)).1, .int (tm st.2.2 (nm k 6)).2]) hu
        have gr11 := gr10.seal (o := .tup [.ref p, .ref t, .ref u]) hz
        have sa := same_new (gr9.gh.free hu) (o := .tup [.int (tm st.2.2 (nm k 6)).1, .int (tm st.2.2 (nm k 6)).2])
        have sb := same_new (gr10.gh.free hz) (o := .tup [.ref p, .ref t, .ref u])
        have hfH : H f = none := hf
        have hf9 := same_new hz (o := .tup [.ref p, .ref t, .ref u]) _ _ (same_new hu (o := .tup [.int (tm st.2.2 (nm k 6)).1, .int (tm st.2.2 (nm k 6)).2]) _ _ hf7)
        have hfu : u ≠ f := fun z => by rw [z] at hu; rw [hf7] at hu; cases hu
        have hfz : z ≠ f := fun y => by rw [y, same_new hu (o := .tup [.int (tm st.2.2 (nm k 6)).1, .int (tm st.2.2 (nm k 6)).2]) _ _ hf7] at hz; cases hz
        refine ⟨f, vs4, _, rfl, rfl, hf9, small_lt ?_, ?_⟩
        · have := Paired.length hvs4
          rw [List.length_append, List.length_map, List.length_take] at this
          omega
        · refine ⟨_, _, gr11.write hfH ?_, upd_at, ?_, ?_, _, _, _, _, _, _, rfl⟩
          · rw [upd_ne (Ne.symm hfz), upd_ne (Ne.symm hfu)]
            exact hfS
          · rw [upd_ne (Ne.symm hfz), upd_ne (Ne.symm hfu)]
            exact hfS
          · rw [take_snoc hr, List.map_append, ← List.append_assoc]
            refine paired_snoc (paired_up ((s8.trans sa).trans sb) hvs4) ?_
            exact ⟨z, _, _, _, rfl, .of upd_at, ⟨p, rfl, (sa.trans sb) _ _ hpS⟩, ⟨t, rfl, (sa.trans sb) _ _ htS⟩, Up.up sb (rrt_new (x := tm st.2.2 (nm k 6)))⟩
    · subst es
      refine ⟨G4, vs4, gr4, hf4, ho4, ?_, _, _, _, _, _, _, _, _, _, _, rfl⟩
      rw [le, List.take_length] at hvs4
      have e : stepM ls b (sts.take (i + 1)) = stepM ls b (sts.take i) ++ (entAt b st.1).map (stepR ls b st) := by
        unfold stepM
        rw [take_snoc hs, List.flatMap_append, List.flatMap_cons, List.flatMap_nil, List.append_nil]
        rfl
      rw [e]
      exact hvs4
  · subst es
    rw [lp, List.take_length] at hvs
    exact ⟨_, rfl, q _ _ _ (gr.shut hf ho1 hf1) ⟨f, vs, rfl, .of upd_at, paired_up (same_new ho1) hvs⟩⟩
end
end K6

set_option Elab.async false
set_option linter.all false
set_option maxRecDepth 100000
set_option maxHeartbeats 4000000
namespace K6
open PySem PySem.Spec PyProof.Rows L2
section
variable {P : Program} {w : World} {K : PySem.W.Frag} {mg : Str → Option Value} {base : Heap}
/-! ### defs that may raise -/
structure CalX (P : Program) (w : World) (K : PySem.W.Frag) (mg : Str → Option Value) (base : Heap) (k : Nat) (x : Str) (sp : Sp) (dvs : List V) : Prop where
  ex : ∃ (f : Addr) (fd : FuncData) (ps : List Str) (ds : List Value), FnOk P w K mg base (L2.CX P w) k f fd ps sp ∧ mg x = some (.ref f) ∧ PySem.W.keepIn K (.ref f) = true ∧ Binds K fd ps ds ∧ Vals dvs ds
theorem pe_cx {X : Cx} {W : WX} {E : XK} {k j : Nat} {x : Str} {sp : Sp} {dvs : List V} {p pos : Pos} {e : Expr} {es : List Expr} {t : TA} (c : CalX X.prog X.w X.K X.mg X.base k x sp dvs) (hr : Room j X.A) (hk : k ≤ j) (hg : Gl X x) (tk : Takes X W) (hW : ∀ cls d σ H, E cls d H → W cls d σ H) (ha : PA X (e :: es) t)
    (hdb : (x == ("__debug__" : Str)) = false := by decide) (he : starEach (e :: es) X.env = (false, eval e X.env) :: starEach es X.env := by rfl) (hpl : (backTo pos (starEach es X.env)).any (·.1) = false := by rfl) :
    PE X (.Call (.Name x p) (e :: es) [] pos) (tCall sp dvs E t) := by
  obtain ⟨f, fd, ps, ds, F, hm, kp, b, d⟩ := c.ex
  exact pe_call F (hr.mono hk) hg hm kp b d (passes_call tk hW) ha hdb he hpl
theorem mkCalX {x : Str} {st : Stmt} {N ps : List Str} {k : Nat} {sp : Sp} (h : FnH K mg x st []) (S : FnScope N ps (defScope st))
    (bd : ∀ (kV doc pm : Value) (an : Option Addr) (cdv ct : Value) (us : List Value), us.length = ps.length → bindArgs (PySem.W.fnOf x x (defArgs st) (defBody st) (defScope st) .none kV doc pm an cdv ct) ⟨us, []⟩ = pure (ps.zip us))
    (len : ∀ vs H Q E, sp vs H Q E → vs.length = ps.length)
    (body : ∀ (f : Addr) (cdv : Value) (A : Around) (outer : List Env) (s : Shared) (H : Hp) (vs : List V) (Q : VK) (E : XK), Room k (A.deeper (envOfC x (defScope st) s.heap.objs.size f cdv)) → sp vs H Q E →
      ∃ t, PSs (cxOf (L2.CX P w) P w K mg base N x (defScope st) f cdv A outer s H E) (defBody st) t ∧ t { nx := fun _ H' => Q .non H', rt := Q } (start N vs) H) : CalX P w K mg base (k + 1) x sp [] := by
  obtain ⟨f, fd, F, hm⟩ := h
  exact ⟨f, fd, ps, [], F.ok S len fun cdv A outer s H vs Q E hr h => body f cdv A outer s H vs Q E hr h, hm, F.kp, F.bindsN bd, .nil⟩
theorem mkCalXD {x : Str} {st : Stmt} {N ps : List Str} {k : Nat} {sp : Sp} {dvs : List V} (n j : Nat) (hd : dvs ≠ []) (hn : n + (dvs.length - j) = ps.length) (h : FnH K mg x st dvs) (S : FnScope N ps (defScope st))
    (bd : ∀ (T : Addr) (kV doc pm : Value) (an : Option Addr) (cdv ct : Value) (us its : List Value), us.length = n → its.length = dvs.length →
      ∃ q, bindArgs (PySem.W.fnOf x x (defArgs st) (defBody st) (defScope st) (.ref T) kV doc pm an cdv ct) ⟨us, []⟩ = seqItems? (.ref T) >>= q ∧ q (some its.toArray) = pure (ps.zip (us ++ its.drop j)))
    (len : ∀ vs H Q E, sp vs H Q E → vs.length = ps.length)
    (body : ∀ (f : Addr) (cdv : Value) (A : Around) (outer : List Env) (s : Shared) (H : Hp) (vs : List V) (Q : VK) (E : XK), Room k (A.deeper (envOfC x (defScope st) s.heap.objs.size f cdv)) → sp vs H Q E →
      ∃ t, PSs (cxOf (L2.CX P w) P w K mg base N x (defScope st) f cdv A outer s H E) (defBody st) t ∧ t { nx := fun _ H' => Q .non H', rt := Q } (start N vs) H) : CalX P w K mg base (k + 1) x sp (dvs.drop j) := by
  obtain ⟨f, fd, F, hm⟩ := h
  obtain ⟨ds, hv, hb⟩ := F.binds1 n j hd hn bd
  exact ⟨f, fd, ps, ds, F.ok S len fun cdv A outer s H vs Q E hr h => body f cdv A outer s H vs Q E hr h, hm, F.kp, hb, hv⟩
/-! ### BadIns(place), BadPost(place) -/
def spOwn (C : Addr) : Sp := fun vs H Q _ => ∃ a y, vs = [.ref a, y] ∧ H a = some (exo a C none) ∧ ∀ dx, H dx = none → dx ≠ a → Q .non (upd (upd H dx (exd dx [("index", y)])) a (exo a C (some dx)))
structure Own (P : Program) (w : World) (K : PySem.W.Frag) (mg : Str → Option Value) (base : Heap) (C f : Addr) : Prop where
  ex : ∃ (fd : FuncData) (ps : List Str), FnOk P w K mg base CX0 1 f fd ps (spOwn C) ∧ Binds K fd ps []
theorem sc_BadIns_init : FnScope ["self", "index"] ["self", "index"] (defScope s_BadIns_init) := ⟨rfl, rfl, rfl, by decide +kernel, rfl, by decide +kernel, by decide +kernel⟩
theorem own_ins (T : Tx K mg) : Own P w K mg base (He.ga K "BadIns") (He.fAd K ("BadIns", some "__init__")) := by
  obtain ⟨fd, F⟩ := T.iBadIns
  refine ⟨fd, _, F.ok sc_BadIns_init (fun vs H Q E h => ?_) (fun cdv A outer s H vs Q E hr h => ?_), F.bindsN (fun _ _ _ _ _ _ us hl => match us, hl with | [_, _], _ => rfl)⟩
  · obtain ⟨_, _, rfl, _⟩ := h
    rfl
  obtain ⟨a, y, rfl, ha, q⟩ := h
  refine ⟨_, pss_one (ps_ost (pv 0) (pv 1)), ?_⟩
  exact ⟨_, rfl, _, rfl, a, _, rfl, T.eBadIns.oex, T.eBadIns.no, .inl ⟨ha, q⟩⟩
theorem sc_BadPost_init : FnScope ["self", "index"] ["self", "index"] (defScope s_BadPost_init) := ⟨rfl, rfl, rfl, by decide +kernel, rfl, by decide +kernel, by decide +kernel⟩
theorem own_post (T : Tx K mg) : Own P w K mg base (He.ga K "BadPost") (He.fAd K ("BadPost", some "__init__")) := by
  obtain ⟨fd, F⟩ := T.iBadPost
  refine ⟨fd, _, F.ok sc_BadPost_init (fun vs H Q E h => ?_) (fun cdv A outer s H vs Q E hr h => ?_), F.bindsN (fun _ _ _ _ _ _ us hl => match us, hl with | [_, _], _ => rfl)⟩
  · obtain ⟨_, _, rfl, _⟩ := h
    rfl
  obtain ⟨a, y, rfl, ha, q⟩ := h
  refine ⟨_, pss_one (ps_ost (pv 0) (pv 1)), ?_⟩
  exact ⟨_, rfl, _, rfl, a, _, rfl, T.eBadPost.oex, T.eBadPost.no, .inl ⟨ha, q⟩⟩
/-- the heap behind the making -/
theorem own_heap {H : Hp} {a C : Addr} {y : V} {E : Value → Option Addr → Hp → Prop} (ha : H a = none) (q : ∀ H' d, Same H H' → H' d = some (.xd [("index", y)]) → E (.ref C) (some d) H') (dx : Addr) (hdx : upd H a (exo a C none) dx = none) (hn : dx ≠ a) :
    V.non = V.non ∧ ∃ (d : Addr) (fs : List (Str × V)), upd (upd (upd H a (exo a C none)) dx (exd dx [("index", y)])) a (exo a C (some dx)) a = some (exo a C (some d)) ∧ upd (upd (upd H a (exo a C none)) dx (exd dx [("index", y)])) a (exo a C (some dx)) d = some (exd d fs) ∧ H d = none ∧
      E (.ref C) (some d) (upd (del (upd (upd (upd H a (exo a C none)) dx (exd dx [("index", y)])) a (exo a C (some dx))) a) d (.xd fs)) := by
  have hd0 : H dx = none := by
    rw [upd_ne hn] at hdx
    exact hdx
  refine ⟨rfl, dx, _, upd_at, by rw [upd_ne hn, upd_at], hd0, q _ _ (fun b o e => ?_) upd_at⟩
  have h1 : b ≠ dx := ne_of_none e hd0
  have h2 : b ≠ a := ne_of_none e ha
  rw [upd_ne h1, del_ne h2, upd_ne h2, upd_ne h1, upd_ne h2]
  exact e
def spCkI (K : PySem.W.Frag) : Sp := fun vs H Q E => ∃ (G : Hp) (v x r : V) (o : Option (List V)) (c : LC), vs = [v, x, .bl false] ∧ Same G H ∧ rChart K G v c ∧ FW K H (sizes (insOf c)) x r o ∧
  (r = .non → ∀ xs H' p, o = some xs → fwV (sizes (insOf c)) xs 0 = .non → Same H H' → SqT K H' p xs → Q (.ref p) H') ∧
  (r ≠ .non → ∀ H' d, Same H H' → H' d = some (.xd [("index", r)]) → E (.ref (He.ga K "BadIns")) (some d) H')
theorem sc_check_ins : FnScope ["chart", "ins", "unknown", "place"] ["chart", "ins", "unknown"] (defScope s_check_ins) := ⟨rfl, rfl, rfl, by decide +kernel, rfl, by decide +kernel, by decide +kernel⟩
theorem c_check_ins (T : Tx K mg) : CalX P w K mg base 3 "check_ins" (spCkI K) [.bl false] := by
  refine mkCalXD 2 0 (by intro z; cases z) rfl T.f_check_ins sc_check_ins (fun _ _ _ _ _ _ _ us its hl hm => match us, its, hl, hm with | [_, _], [_], _, _ => ⟨_, rfl, rfl⟩) (fun vs H Q E h => by obtain ⟨_, _, _, _, _, _, rfl, _⟩ := h; rfl) (fun f cdv A outer s H vs Q E hr h => ?_)
  obtain ⟨G, v, x, r, oo, c, rfl, g, ⟨y, dx, fs, rfl, hy, t1, t2, t3, t4, t5, t6, t7, rfl, h1, h2, h3, h4, h5, h6, h7⟩, hF, q1, q2⟩ := h
  obtain ⟨fdI, psI, FI, bI⟩ := (own_ins (P := P) (w := w) (base := base) T).ex
  refine ⟨_, pss_cons (ps_set (i := 3) sc_check_ins.nd rfl (Or.inl rfl) (C8.pe_c (c_first_wrong3 T) hr (by decide) (by rfl) (pa_cons (pe_fld (pv 0) rfl) (pa_cons (pv 1) (pa_cons (pv 2) pa_nil)))))
    (pss_cons (ps_if (pt_cmpR op_notN (pv 3) pe_non (nomark _)) (pss_one (ps_raise rfl (takes_of rfl rfl rfl rfl) (pmk_oex T.eBadIns.oex T.eBadIns.iC T.eBadIns.tI FI (hr.mono (by decide)) bI .nil pass0 (by rfl) T.eBadIns.mgC (pa_cons (pv 3) pa_nil)))) pss_nil)
    (pss_one (ps_ret (pe_callTy call_tuple_of (by rfl) T.tuple bt_tuple (pa_cons (pv 1) pa_nil))))), ?_⟩
  refine ⟨_, rfl, _, _, _, _, _, rfl, g _ _ hy, T.clChart, T.nChart_in_sizes, rfl, _, rfl, _, rfl, t7, sizes (insOf c), x, r, oo, rfl, .inr (sqt_up g h7), hF, fun H1 e1 => ⟨_, rfl, rfl, _, rfl, ?_⟩⟩
  by_cases hr' : r = .non
  · rw [decide_eq_true hr']
    refine iteF ?_
    rcases hF with ⟨_, _, _, z, _⟩ | ⟨b, xs, rfl, hb, _, hfw, rfl⟩
    · rw [z] at hr'
      cases hr'
    · rcases hb with hb | hb
      · exact ⟨_, rfl, b, xs, rfl, .inl ⟨e1.seq hb, fun p hp => q1 hr' xs _ p rfl (hfw.symm.trans hr') (e1.trans (same_new hp)) (.of upd_at)⟩⟩
      · exact ⟨_, rfl, b, xs, rfl, .inr ⟨sqt_up e1 hb, q1 hr' xs _ b rfl (hfw.symm.trans hr') e1 (sqt_up e1 hb)⟩⟩
  · rw [decide_eq_false hr']
    refine iteT ⟨_, rfl, (by show 1 ≤ 1000; decide), fun a ha => ⟨a, r, rfl, upd_at, fun dx hdx hn => ?_⟩⟩
    exact own_heap (E := E) ha (fun H' d e h => q2 hr' H' d (e1.trans e) h) dx hdx hn
def spCkP (K : PySem.W.Frag) : Sp := fun vs H Q E => ∃ (G : Hp) (v x r : V) (o : Option (List V)) (c : LC), vs = [v, x] ∧ Same G H ∧ rChart K G v c ∧ FW K H (sizes (letters c)) x r o ∧
  (r = .non → ∀ xs H' p, o = some xs → fwV (sizes (letters c)) xs 0 = .non → Same H H' → SqT K H' p xs → Q (.ref p) H') ∧
  (r ≠ .non → ∀ H' d, Same H H' → H' d = some (.xd [("index", r)]) → E (.ref (He.ga K "BadPost")) (some d) H')
theorem sc_check_post : FnScope ["chart", "post", "place"] ["chart", "post"] (defScope s_check_post) := ⟨rfl, rfl, rfl, by decide +kernel, rfl, by decide +kernel, by decide +kernel⟩
theorem c_check_post (T : Tx K mg) : CalX P w K mg base 3 "check_post" (spCkP K) [] := by
  refine mkCalX T.f_check_post sc_check_post (fun _ _ _ _ _ _ us hl => match us, hl with | [_, _], _ => rfl) (fun vs H Q E h => by obtain ⟨_, _, _, _, _, _, rfl, _⟩ := h; rfl) (fun f cdv A outer s H vs Q E hr h => ?_)
  obtain ⟨G, v, x, r, oo, c, rfl, g, ⟨y, dx, fs, rfl, hy, t1, t2, t3, t4, t5, t6, t7, rfl, h1, h2, h3, h4, h5, h6, h7⟩, hF, q1, q2⟩ := h
  obtain ⟨fdI, psI, FI, bI⟩ := (own_post (P := P) (w := w) (base := base) T).ex
  refine ⟨_, pss_cons (ps_set (i := 2) sc_check_post.nd rfl (Or.inl rfl) (C8.pe_c (c_first_wrong2 T) hr (by decide) (by rfl) (pa_cons (pe_fld (pv 0) rfl) (pa_cons (pv 1) pa_nil))))
    (pss_cons (ps_if (pt_cmpR op_notN (pv 2) pe_non (nomark _)) (pss_one (ps_raise rfl (takes_of rfl rfl rfl rfl) (pmk_oex T.eBadPost.oex T.eBadPost.iC T.eBadPost.tI FI (hr.mono (by decide)) bI .nil pass0 (by rfl) T.eBadPost.mgC (pa_cons (pv 2) pa_nil)))) pss_nil)
    (pss_one (ps_ret (pe_callTy call_tuple_of (by rfl) T.tuple bt_tuple (pa_cons (pv 1) pa_nil))))), ?_⟩
  refine ⟨_, rfl, _, _, _, _, _, rfl, g _ _ hy, T.clChart, T.nChart_letter_sizes, rfl, _, rfl, t5, sizes (letters c), x, r, oo, rfl, .inr (sqt_up g h5), hF, fun H1 e1 => ⟨_, rfl, rfl, _, rfl, ?_⟩⟩
  by_cases hr' : r = .non
  · rw [decide_eq_true hr']
    refine iteF ?_
    rcases hF with ⟨_, _, _, z, _⟩ | ⟨b, xs, rfl, hb, _, hfw, rfl⟩
    · rw [z] at hr'
      cases hr'
    · rcases hb with hb | hb
      · exact ⟨_, rfl, b, xs, rfl, .inl ⟨e1.seq hb, fun p hp => q1 hr' xs _ p rfl (hfw.symm.trans hr') (e1.trans (same_new hp)) (.of upd_at)⟩⟩
      · exact ⟨_, rfl, b, xs, rfl, .inr ⟨sqt_up e1 hb, q1 hr' xs _ b rfl (hfw.symm.trans hr') e1 (sqt_up e1 hb)⟩⟩
  · rw [decide_eq_false hr']
    refine iteT ⟨_, rfl, (by show 1 ≤ 1000; decide), fun a ha => ⟨a, r, rfl, upd_at, fun dx hdx hn => ?_⟩⟩
    exact own_heap (E := E) ha (fun H' d e h => q2 hr' H' d (e1.trans e) h) dx hdx hn
end
end K6

set_option Elab.async false
set_option linter.all false
set_option maxRecDepth 100000
set_option maxHeartbeats 4000000
namespace K6
open PySem PySem.Spec PyProof.Rows L2
/-! ### what is worked, in plain words -/
abbrev Row3 := List Int × List Int × (Int × Int)
def encRow3 (r : Row3) : PyData := .tuple [encRow r.1, encRow r.2.1, .tuple [.int r.2.2.1, .int r.2.2.2]]
def putsD (d : Dct) (zs : List Str) (ns : List Int) : Dct := (zs.zip ns).foldl (fun d x => putS d x.1 x.2) d
def initS (c : LC) (ns ms : List Int) : Sta := (putsD (putsD [] (names (insOf c)) ns) (names (letters c)) ms, [], (1, 1))
def statesAt (c : LC) (ns ms : List Int) (i : Nat) : List Sta := ((byDay c.boxes).take i).foldl (fun s b => stepM (names (letters c)) b s) [initS c ns ms]
def finS (c : LC) (ns ms : List Int) : List Sta := (byDay c.boxes).foldl (fun s b => stepM (names (letters c)) b s) [initS c ns ms]
def outS (c : LC) (st : Sta) : Row3 := (told st.1 c.wires, told st.2.1 (letters c), st.2.2)
def workedM (c : LC) (ns ms : List Int) : List Row3 := ((finS c ns ms).map (outS c)).mergeSort (PySem.W.dataLe false encRow3)
structure Runs (c : LC) (ns ms : List Int) : Prop where
  ok : ∀ i b, (byDay c.boxes)[i]? = some b → ∀ st ∈ statesAt c ns ms i, StOk b st
  len : ∀ i, (statesAt c ns ms i).length ≤ 1000
  known : ∀ st ∈ finS c ns ms, ∀ x ∈ c.wires, (getS st.1 x.1).isSome
  sent : ∀ st ∈ finS c ns ms, ∀ x ∈ letters c, (getS st.2.1 x.1).isSome
theorem fin_at (c : LC) (ns ms : List Int) : statesAt c ns ms (byDay c.boxes).length = finS c ns ms := by
  unfold statesAt finS
  rw [List.take_length]
theorem putsD_len : ∀ (xs : List (Str × Int)) (d : Dct), (xs.foldl (fun d x => putS d x.1 x.2) d).length ≤ d.length + xs.length
  | [], d => Nat.le_refl _
  | x :: xs, d => by
    have := putsD_len xs (putS d x.1 x.2)
    have := putS_len d x.1 x.2
    rw [List.foldl_cons, List.length_cons]
    omega
/-! ### the data of rows -/
theorem alike_row3 (r s : Row3) : PySem.W.alike (encRow3 r) (encRow3 s) = true := by
  show (PySem.W.alike (encRow r.1) (encRow s.1) && (PySem.W.alike (encRow r.2.1) (encRow s.2.1) && ((true && (true && true)) && true))) = true
  rw [alike_row, alike_row]
  rfl
theorem depth_row3 (r : Row3) : (encRow3 r).depth = 2 := by
  show max (PyData.depthAll (r.1.map .int) + 1) (max (PyData.depthAll (r.2.1.map .int) + 1) (max 1 0)) + 1 = 2
  rw [depth_ints, depth_ints]
  rfl
section
variable {P : Program} {w : World} {K : PySem.W.Frag} {mg : Str → Option Value} {base : Heap}
def rRow3 (K : PySem.W.Frag) : Rl Row3 := rP3 K (rT K rInt) (rT K rInt) (rRt K)
instance : Up (rRow3 K) := inferInstanceAs (Up (rP3 K (rT K rInt) (rT K rInt) (rRt K)))
theorem dp_row {H : Hp} {v : V} {r : List Int} (h : rT K rInt H v r) : Dp K H v (encRow r) := by
  obtain ⟨a, us, rfl, h1, h2⟩ := h
  have h2 := paired_ints h2
  subst h2
  exact .tup h1 (dp_ints r)
theorem dp_row3 {H : Hp} {v : V} {r : Row3} (h : rRow3 K H v r) : Dp K H v (encRow3 r) := by
  obtain ⟨a, _, _, _, rfl, h0, h1, h2, ⟨b, _, _, rfl, h3, rfl, rfl⟩⟩ := h
  exact .tup h0 (.cons (dp_row h1) (.cons (dp_row h2) (.cons (.tup h3 (.cons (.int _) (.cons (.int _) .nil))) .nil)))
/-- sorted of data, what a value stands for told at the call -/
def rSortG (K : PySem.W.Frag) {β : Type} (enc : β → PyData) : List V → Hp → VK → Prop := fun vs H Q => ∃ R : V → β → Prop, rSortD K enc (fun _ => R) vs H Q
theorem cr_sortG {X : Cx} {β : Type} {enc : β → PyData} (hu : X.A.units + 64 < cLine) : CallR X (.builtin "sorted") (rSortG X.K enc) := by
  intro pins s σ H xs us Q I r h
  obtain ⟨R, h⟩ := h
  exact cr_sortD hu pins s σ H xs us Q I r h
theorem sqt_upd {H : Hp} {p d : Addr} {xs : List V} {k : List (Key × V)} {o : HO} (h : SqT K H p xs) (hd : H d = some (.dK k)) : SqT K (upd H d o) p xs := by
  have hn : ∀ u, H p = some u → (∀ k, u ≠ .dK k) → p ≠ d := fun u e n z => by
    rw [z, hd] at e
    exact n k (Option.some.inj e).symm
  rcases h with (h | ⟨ob, h⟩) | h
  · exact .inl (.inl (by rw [upd_ne (hn _ h (by intro _ z; cases z))]; exact h))
  · exact .inl (.inr ⟨ob, by rw [upd_ne (hn _ h (by intro _ z; cases z))]; exact h⟩)
  · exact .inr h
/-- what was a good row is a row of whole numbers -/
theorem fw_fil : ∀ {ss : List Int} {xs : List V} (i : Nat), fwV ss xs i = .non → ∃ ns, xs = ns.map V.int ∧ Fil ss ns
  | [], [], _, _ => ⟨[], rfl, .nil⟩
  | [], _ :: _, _, h => by cases h
  | _ :: _, [], _, h => by cases h
  | s :: ss, x :: xs, i, h => by
    have h : (if wholeB x (.int 0) (.int (s - 1)) = true then fwV ss xs (i + 1) else V.int i) = .non := h
    cases hw : wholeB x (.int 0) (.int (s - 1)) with
    | false =>
      rw [hw, if_neg (by decide)] at h
      cases h
    | true =>
      rw [hw, if_pos rfl] at h
      obtain ⟨ns, rfl, hf⟩ := fw_fil (i + 1) h
      cases x with
      | int n =>
        refine ⟨n :: ns, rfl, .cons ?_ hf⟩
        have hw : (decide (0 ≤ n) && decide (n ≤ s - 1)) = true := hw
        rw [Bool.and_eq_true] at hw
        have h1 := of_decide_eq_true hw.1
        have h2 := of_decide_eq_true hw.2
        omega
      | _ => cases hw
def spWorked (K : PySem.W.Frag) : Sp := fun vs H Q E => ∃ (G : Hp) (v x y rx ry : V) (ox oy : Option (List V)) (c : LC), vs = [v, x, y] ∧ Same G H ∧ rChart K G v c ∧ ChartOk c ∧ FW K H (sizes (insOf c)) x rx ox ∧ FW K H (sizes (letters c)) y ry oy ∧
  (rx ≠ .non → ∀ H' d, Same H H' → H' d = some (.xd [("index", rx)]) → E (.ref (He.ga K "BadIns")) (some d) H') ∧
  (rx = .non → ry ≠ .non → ∀ H' d, Same H H' → H' d = some (.xd [("index", ry)]) → E (.ref (He.ga K "BadPost")) (some d) H') ∧
  (rx = .non → ry = .non → ∀ ns ms : List Int, ox = some (ns.map V.int) → oy = some (ms.map V.int) → Fil (sizes (insOf c)) ns → Fil (sizes (letters c)) ms →
    Runs c ns ms ∧ ∀ G' H' v', Gr M0 G H G' H' → rT K (rRow3 K) G' v' (workedM c ns ms) → Q v' H')
theorem sc_worked : FnScope ["chart", "ins", "post", "worths", "name", "worth", "states", "box", "rows", "known", "told", "share", "filling", "wire"] ["chart", "ins", "post"] (defScope s_worked) := ⟨rfl, rfl, rfl, by decide +kernel, rfl, by decide +kernel, by decide +kernel⟩
theorem c_worked (T : Tx K mg) : CalX P w K mg base 7 "worked" (spWorked K) [] := by
  refine mkCalX T.f_worked sc_worked (fun _ _ _ _ _ _ us hl => match us, hl with | [_, _, _], _ => rfl) (fun vs H Q E h => by obtain ⟨_, _, _, _, _, _, _, _, _, rfl, _⟩ := h; rfl) (fun f cdv A outer s H vs Q E hr h => ?_)
  obtain ⟨G, v, x, y, rx, ry, ox, oy, c, rfl, g, ⟨ch, dx, fs, rfl, hch, hat⟩, ho, hFx, hFy, qx, qy, qq⟩ := h
  have hchart : rChart K G (.ref ch) c := ⟨ch, dx, fs, rfl, hch, hat⟩
  obtain ⟨t1, t2, t3, t4, t5, t6, t7, rfl, ⟨_, ws1, e1, h1, p1⟩, h2, h3, h4, h5, h6, h7⟩ := hat
  cases e1
  obtain ⟨one, hO⟩ := T.ONE
  refine ⟨_, (pss_cons (ps_set (i := 3) sc_worked.nd rfl (Or.inl rfl) pe_dnewK)
      (pss_cons (ps_for (passes_of rfl) rfl (RZ.pi_zipA (by rfl) T.zip (pa_cons (pe_fld (pv 0) rfl) (pa_cons (pe_cx (c_check_ins T) hr (by decide) (by rfl) (takes_of rfl rfl rfl rfl) (fun _ _ _ _ h => h) (pa_cons (pv 0) (pa_cons (pv 1) pa_nil))) pa_nil))) (pg_tup rfl (pgs_cons (pg_name (i := 4) sc_worked.nd rfl (Or.inl rfl)) (pgs_cons (pg_name (i := 5) sc_worked.nd rfl (Or.inl rfl)) pgs_nil))) (pss_one (ps_dput (hu_of hr) (pv 3) (pv 4) (pv 5) rfl)))
      (pss_cons (ps_for (passes_of rfl) rfl (RZ.pi_zipA (by rfl) T.zip (pa_cons (pe_fld (pv 0) rfl) (pa_cons (pe_cx (c_check_post T) hr (by decide) (by rfl) (takes_of rfl rfl rfl rfl) (fun _ _ _ _ h => h) (pa_cons (pv 0) (pa_cons (pv 2) pa_nil))) pa_nil))) (pg_tup rfl (pgs_cons (pg_name (i := 4) sc_worked.nd rfl (Or.inl rfl)) (pgs_cons (pg_name (i := 5) sc_worked.nd rfl (Or.inl rfl)) pgs_nil))) (pss_one (ps_dput (hu_of hr) (pv 3) (pv 4) (pv 5) rfl)))
      (pss_cons (ps_set (i := 6) sc_worked.nd rfl (Or.inl rfl) (pe_lst (pa_cons (pe_tup (pa_cons (pv 3) (pa_cons pe_dnewK (pa_cons (pe_glob (v := V.ref _) (by rfl) hO.1 rfl) pa_nil)))) pa_nil)))
      (pss_cons (ps_for (passes_of rfl) rfl (pi_seq (C8.pe_c (c_boxes_by_day T) hr (by decide) (by rfl) (pa_cons (pv 0) pa_nil))) (pg_name (i := 7) sc_worked.nd rfl (Or.inl rfl)) (pss_one (ps_set (i := 6) sc_worked.nd rfl (Or.inl rfl) (C8.pe_c (c_worked_on T) hr (by decide) (by rfl) (pa_cons (pv 7) (pa_cons (pv 6) (pa_cons (pe_fld (pv 0) rfl) pa_nil)))))))
      (pss_cons (ps_set (i := 8) sc_worked.nd rfl (Or.inl rfl) (pe_lst pa_nil))
      (pss_cons (ps_for (passes_of rfl) rfl (pi_seq (pv 6)) (pg_tup rfl (pgs_cons (pg_name (i := 9) sc_worked.nd rfl (Or.inr rfl)) (pgs_cons (pg_name (i := 10) sc_worked.nd rfl (Or.inr rfl)) (pgs_cons (pg_name (i := 11) sc_worked.nd rfl (Or.inl rfl)) pgs_nil)))) (pss_cons (ps_set (i := 12) sc_worked.nd rfl (Or.inl rfl) (pe_callTy call_tuple_of (by rfl) T.tuple bt_tuple (pa_cons (pe_lc (own := [("wire", 13)]) rfl sc_worked.nd (pi_seq (pe_fld (pv 0) rfl)) (blkOk_by (own := [("wire", 13)]) (N := ["chart", "ins", "post", "worths", "name", "worth", "states", "box", "rows", "known", "told", "share", "filling", "wire"]) (sc := defScope s_worked) (by decide +kernel)) (fun _ _ _ _ _ => (pg_name (i := 13) sc_worked.nd rfl (Or.inl rfl))) (fun _ _ _ _ _ => pts_nil) (fun _ _ _ _ _ => (pe_dget (hu_of hr) (pv 9) (pe_ix (show IxR _ (rIxT K) from ix_tup) (pv 13) pe_int (fun _ _ => rfl)) (fun _ _ => rfl)))) pa_nil)))
      (pss_one (ps_expr (pe_bm PySem.F.plainAttrs_list PySem.F.slot_list_append PySem.F.type_list_append mt_append (pv 8) (pa_cons (pe_tup (pa_cons (pv 12) (pa_cons (pe_callTy call_tuple_of (by rfl) T.tuple bt_tuple (pa_cons (pe_lc (own := [("name", 4)]) rfl sc_worked.nd (pi_seq (pe_fld (pv 0) rfl)) (blkOk_by (own := [("name", 4)]) (N := ["chart", "ins", "post", "worths", "name", "worth", "states", "box", "rows", "known", "told", "share", "filling", "wire"]) (sc := defScope s_worked) (by decide +kernel)) (fun _ _ _ _ _ => (pg_name (i := 4) sc_worked.nd rfl (Or.inl rfl))) (fun _ _ _ _ _ => pts_nil) (fun _ _ _ _ _ => (pe_dget (hu_of hr) (pv 10) (pv 4) (fun _ _ => rfl)))) pa_nil)) (pa_cons (pv 11) pa_nil)))) pa_nil))))))
      (pss_one (ps_ret (pe_callTy call_tuple_of (by rfl) T.tuple bt_tuple (pa_cons (pe_callB (cr_sortG (enc := encRow3) hr.units) (by rfl) T.sorted bt_sorted (pa_cons (pv 8) pa_nil)) pa_nil))))))))))), ?_⟩
  refine fun d hd => ?_
  have hdG := g.free hd
  have gr0 := (Gr.refl (M := M0) g).new (o := .dK []) hd
  have e0 := same_new (o := .dK []) hd
  refine ⟨_, rfl, _, _, _, _, _, rfl, e0 _ _ (g _ _ hch), T.clChart, T.nChart_ins, rfl, _, rfl, _, rfl, G, _, x, rx, ox, c, rfl, gr0.gh, hchart, hFx.up e0, fun hrx xs H1 p hox hfw e1 hp => ?_, fun hrx H1 dd e1 h => qx hrx H1 dd (e0.trans e1) h⟩
  obtain ⟨ns, rfl, hns⟩ := fw_fil 0 hfw
  have gr1 := gr0.same e1
  have hd1 := e1 _ _ (upd_at (H := H) (p := d) (o := .dK []))
  have w6 := ho.wires6
  have li : (insOf c).length ≤ 6 := Nat.le_trans (List.length_filter_le _ _) w6
  have ll : (letters c).length ≤ 6 := Nat.le_trans (List.length_filter_le _ _) w6
  have hnl : ns.length = (insOf c).length := by rw [Paired.length hns, sizes_len]
  have hzl : ((names (insOf c)).map V.str).length = (ns.map V.int).length := by rw [List.length_map, List.length_map, names_len, hnl]
  refine ⟨t6, p, _, _, rfl, .inr ⟨sqt_up gr1.gh h6, hp, ?_⟩⟩
  refine fr_zipT hzl (fun i σ H' => Gr M0 G H G H' ∧ SqT K H' p (ns.map V.int) ∧ H' d = some (.dK (kvI ((((names (insOf c)).zip ns).take i).foldl (fun d x => putS d x.1 x.2) []))) ∧ ∃ r1 r2, σ = [some (.ref ch), some x, some y, some (.ref d), r1, r2, none, none, none, none, none, none, none, none])
    ⟨gr1, hp, hd1, _, _, rfl⟩ (fun i σ H' h => ⟨sqt_up h.1.gh h6, h.2.1⟩) (fun i u v σ H2 H3 hu hv ⟨gr, hp, hd2, r1, r2, es⟩ e3 => ?_) (fun σ H2 ⟨gr, hp, hd2, r1, r2, es⟩ => ?_)
  · subst es
    obtain ⟨z, hz, rfl⟩ := at_map hu
    obtain ⟨n, hn, rfl⟩ := at_map hv
    have hd3 := e3 _ _ hd2
    have hzn : ((names (insOf c)).zip ns)[i]? = some (z, n) := List.getElem?_zip_eq_some.2 ⟨hz, hn⟩
    refine ⟨_, rfl, _, rfl, _, rfl, d, _, rfl, DPut.k (k := Sum.inr z) hd3 (small_lt ?_), (gr.same e3).write hd hdG, sqt_upd (sqt_up e3 hp) hd3, ?_, _, _, rfl⟩
    · have := putsD_len (((names (insOf c)).zip ns).take i) []
      rw [List.length_take, List.length_zip, names_len] at this
      rw [kvI_len]
      simp only [List.length_nil] at this
      omega
    · rw [upd_at, kvI_put, foldl_snoc hzn]
  subst es
  have ez : ((names (insOf c)).zip ns).take ((names (insOf c)).map V.str).length = (names (insOf c)).zip ns := List.take_of_length_le (by rw [List.length_map, List.length_zip]; omega)
  rw [ez] at hd2
  -- the post
  refine ⟨_, rfl, _, _, _, _, _, rfl, gr.to _ _ hch, T.clChart, T.nChart_letters, rfl, _, rfl, _, rfl, G, _, y, ry, oy, c, rfl, gr.gh, hchart, hFy.up gr.all, fun hry ys H3 p' hoy hfw' e3 hp' => ?_, fun hry H3 dd e3 h => qy hrx hry H3 dd (gr.all.trans e3) h⟩
  obtain ⟨ms, rfl, hms⟩ := fw_fil 0 hfw'
  have hml : ms.length = (letters c).length := by rw [Paired.length hms, sizes_len]
  have gr3 := gr.same e3
  have hd3 := e3 _ _ hd2
  have hzl' : ((names (letters c)).map V.str).length = (ms.map V.int).length := by rw [List.length_map, List.length_map, names_len, hml]
  obtain ⟨runs, q⟩ := qq hrx hry ns ms hox hoy hns hms
  refine ⟨t4, p', _, _, rfl, .inr ⟨sqt_up gr3.gh h4, hp', ?_⟩⟩
  refine fr_zipT hzl' (fun i σ H' => Gr M0 G H G H' ∧ SqT K H' p' (ms.map V.int) ∧ H' d = some (.dK (kvI ((((names (letters c)).zip ms).take i).foldl (fun d x => putS d x.1 x.2) (putsD [] (names (insOf c)) ns)))) ∧ ∃ r1 r2, σ = [some (.ref ch), some x, some y, some (.ref d), r1, r2, none, none, none, none, none, none, none, none])
    ⟨gr3, hp', hd3, _, _, rfl⟩ (fun i σ H' h => ⟨sqt_up h.1.gh h4, h.2.1⟩) (fun i u v σ H4 H5 hu hv ⟨gr, hp, hd4, r1, r2, es⟩ e5 => ?_) (fun σ H4 ⟨gr, hp, hd4, r1, r2, es⟩ => ?_)
  · subst es
    obtain ⟨z, hz, rfl⟩ := at_map hu
    obtain ⟨n, hn, rfl⟩ := at_map hv
    have hd5 := e5 _ _ hd4
    have hzn : ((names (letters c)).zip ms)[i]? = some (z, n) := List.getElem?_zip_eq_some.2 ⟨hz, hn⟩
    refine ⟨_, rfl, _, rfl, _, rfl, d, _, rfl, DPut.k (k := Sum.inr z) hd5 (small_lt ?_), (gr.same e5).write hd hdG, sqt_upd (sqt_up e5 hp) hd5, ?_, _, _, rfl⟩
    · have h1 := putsD_len (((names (letters c)).zip ms).take i) (putsD [] (names (insOf c)) ns)
      have h2 := putsD_len ((names (insOf c)).zip ns) []
      rw [List.length_take, List.length_zip, names_len] at h1
      rw [List.length_zip, names_len] at h2
      rw [kvI_len]
      simp only [List.length_nil] at h2
      unfold putsD at h1 ⊢
      omega
    · rw [upd_at, kvI_put, foldl_snoc hzn]
  subst es
  have ez : ((names (letters c)).zip ms).take ((names (letters c)).map V.str).length = (names (letters c)).zip ms := List.take_of_length_le (by rw [List.length_map, List.length_zip]; omega)
  rw [ez] at hd4
  have hd4 : H4 d = some (.dK (kvI (initS c ns ms).1)) := hd4
  -- the first state
  refine ⟨_, rfl, fun e he => ⟨(by show 3 ≤ sizeLine; decide), fun t ht => ⟨(by show 1 ≤ sizeLine; decide), fun l hl => ?_⟩⟩⟩
  have gr5 := gr.shut hd hdG hd4
  have s5 := same_new hdG (o := .dK (kvI (initS c ns ms).1))
  have hdS : upd G d (.dK (kvI (initS c ns ms).1)) d = some (.dK (kvI (initS c ns ms).1)) := upd_at
  generalize upd G d (.dK (kvI (initS c ns ms).1)) = G5 at gr5 s5 hdS
  have gr6 := gr5.seal (o := .dK []) he
  have gr7 := gr6.seal (o := .tup [.ref d, .ref e, .ref one]) ht
  have gr8 := gr7.seal (o := .lst [.ref t]) hl
  have se := same_new (gr5.gh.free he) (o := .dK [])
  have st := same_new (gr6.gh.free ht) (o := .tup [.ref d, .ref e, .ref one])
  have sl := same_new (gr7.gh.free hl) (o := .lst [.ref t])
  have hs0 : rSt K (upd (upd G5 e (.dK [])) t (.tup [.ref d, .ref e, .ref one])) (.ref t) (initS c ns ms) :=
    ⟨t, _, _, _, rfl, .of upd_at, ⟨d, rfl, (se.trans st) _ _ hdS⟩, ⟨e, rfl, st _ _ upd_at⟩, one, _, _, rfl, hO.2 _, rfl, rfl⟩
  have hsts : rL K (rSt K) (upd (upd (upd G5 e (.dK [])) t (.tup [.ref d, .ref e, .ref one])) l (.lst [.ref t])) (.ref l) (statesAt c ns ms 0) := ⟨l, _, rfl, .of upd_at, .cons (Up.up sl hs0) .nil⟩
  generalize upd (upd (upd G5 e (.dK [])) t (.tup [.ref d, .ref e, .ref one])) l (.lst [.ref t]) = G8 at gr8 hsts
  generalize upd (upd (upd H4 e (.dK [])) t (.tup [.ref d, .ref e, .ref one])) l (.lst [.ref t]) = H8 at gr8 ⊢
  clear gr5 gr6 gr7
  clear st
  -- the boxes by their days
  refine ⟨_, rfl, G8, _, c, rfl, gr8.gh, Up.up gr8.gg hchart, ho, fun G9 H9 v9 gr9 hbd => ?_⟩
  obtain ⟨lb, bus, rfl, hlb, hbP⟩ := hbd
  have gr10 := gr8.trans gr9
  have hsts := Up.up gr9.gg hsts
  refine ⟨lb, bus, rfl, fr_seq (.inl hlb) (fun i σ H' => ∃ G' v, Gr M0 G H G' H' ∧ Same G9 G' ∧ rL K (rSt K) G' v (statesAt c ns ms i) ∧ ∃ r1 r2 r7, σ = [some (.ref ch), some x, some y, some (.ref d), r1, r2, some v, r7, none, none, none, none, none, none])
    ⟨G9, _, gr10, .refl _, hsts, _, _, _, rfl⟩ (fun i σ H' ⟨_, _, h, h2, _⟩ => h2.trans h.gh) (fun i v σ H1 hv ⟨G1, vst, gr, s9, hst, r1, r2, r7, es⟩ => ?_) (fun σ H1 ⟨G1, vst, gr, s9, hst, r1, r2, r7, es⟩ => ?_)⟩
  · subst es
    obtain ⟨b, hb, hbv⟩ := paired_at hbP hv
    obtain ⟨ls, lsv, rfl, hls, hlsP⟩ := hst
    have hbo : BoxOk b := ho.boxes b (by
      have m := List.mem_of_getElem? hb
      obtain ⟨_, _, m⟩ := List.mem_flatMap.1 m
      exact (List.mem_filter.1 m).1)
    refine ⟨_, rfl, _, rfl, _, rfl, _, _, _, _, _, rfl, gr.to _ _ hch, T.clChart, T.nChart_letters, rfl, G1, v, ls, t4, lsv, b, statesAt c ns ms i, names (letters c), rfl, gr.gh, Up.up s9 hbv, hbo, hls, hlsP, sqt_up gr.gg h4, runs.ok i b hb, runs.len i, fun G2 H2 v2 gr2 h2 => ?_⟩
    refine ⟨G2, v2, gr.trans gr2, s9.trans gr2.gg, ?_, _, _, _, rfl⟩
    have e : statesAt c ns ms (i + 1) = stepM (names (letters c)) b (statesAt c ns ms i) := by
      unfold statesAt
      rw [foldl_snoc hb]
    rw [e]
    exact h2
  subst es
  rw [Paired.length hbP, fin_at] at hst
  obtain ⟨ls, lsv, rfl, hls, hlsP⟩ := hst
  clear gr8 gr9 gr10
  have lenF : (finS c ns ms).length ≤ 1000 := by rw [← fin_at]; exact runs.len _
  refine ⟨(show 0 ≤ sizeLine by decide), fun f hf => ?_⟩
  have hf0 := gr.dm f hf
  have hfG := gr.gh.free hf
  refine ⟨_, rfl, ls, lsv, rfl, fr_seq (.inl hls) (fun i σ H' => ∃ G' vs, Gr M0 G H G' H' ∧ Same G1 G' ∧ H' f = some (.lst vs) ∧ G' f = none ∧ Paired (rRow3 K G') vs (((finS c ns ms).take i).map (outS c)) ∧ ∃ r1 r2 r7 r9 r10 r11 r12 r13, σ = [some (.ref ch), some x, some y, some (.ref d), r1, r2, some (.ref ls), r7, some (.ref f), r9, r10, r11, r12, r13])
    ⟨G1, [], gr.new hf, .refl _, upd_at, hfG, .nil, _, _, _, _, _, _, _, _, rfl⟩ (fun i σ H' ⟨_, _, h, h2, _⟩ => h2.trans h.gh) (fun i v σ H2 hv ⟨G2, vs, gr2, s2, hf2, ho2, hvs, r1, r2, r7, r9, r10, r11, r12, r13, es⟩ => ?_) (fun σ H2 ⟨G2, vs, gr2, s2, hf2, ho2, hvs, r1, r2, r7, r9, r10, r11, r12, r13, es⟩ => ?_)⟩
  · subst es
    have hi : i < lsv.length := (List.getElem?_eq_some_iff.1 hv).1
    obtain ⟨st, hs, hsv⟩ := paired_at hlsP hv
    have hsm := List.mem_of_getElem? hs
    obtain ⟨sa, _, _, sv, rfl, hsa, ⟨wd, rfl, hwd⟩, ⟨sd, rfl, hsd⟩, hsh⟩ := hsv
    have hwd := s2 _ _ hwd
    have hsd := s2 _ _ hsd
    refine g3_at (sqt_up (s2.trans gr2.gh) hsa) ?_
    have p1 := paired_up gr2.gg p1
    have h1 := sqt_up gr2.gg h1
    have lw := Paired.length p1
    refine ⟨_, rfl, _, _, _, _, _, rfl, gr2.to _ _ hch, T.clChart, T.nChart_wires, rfl, t1, ws1, rfl, .inr ⟨sqt_up gr2.gh h1, ?_⟩⟩
    refine lcM (K := K) (S := rInt) walk_tup (told st.1 c.wires) (by rw [lw, told, List.length_map]) (by rw [told, List.length_map]; omega) gr2.gh (fun H' e => sqt_up e h1) (fun j x' Ha Ha' Ga y Q' hy gr3 ⟨e, hx'⟩ k => ?_) (fun G3 H3 L3 vs3 gr3 hL3 hP3 hn3 => ?_) gName_mono
    · subst e
      obtain ⟨q1, z, hz, rfl, hq1⟩ := wire_at p1 hx' gr3.to
      obtain ⟨n, hn⟩ := Option.isSome_iff_exists.1 (runs.known st hsm z (List.mem_of_getElem? hz))
      have hg : DGet Ha' wd (.str z.1) (some (.int n)) := by
        rw [show some (V.int n) = valV (kvI st.1) (Sum.inr z.1) from by rw [kvI_get, hn]; rfl]
        exact DGet.k (k := Sum.inr z.1) (gr3.to _ _ hwd)
      refine ⟨rfl, _, rfl, _, rfl, _, _, _, _, rfl, rfl, hq1, rfl, wd, _, rfl, hg, k _ _ _ (.refl gr3.gh) ?_⟩
      have hy : (some z).map (fun x : Wire => (getS st.1 x.1).getD 0) = some y := by rw [← hz, ← List.getElem?_map]; exact hy
      have hy : (getS st.1 z.1).getD 0 = y := Option.some.inj hy
      rw [hn] at hy
      rw [← hy]
      rfl
    have hP3 := paired_ints hP3
    subst hP3
    have gr4 := gr2.trans gr3
    have hf3 := gr3.hh f _ (fun z => z) hf2
    have ho3 := gr3.open_ hf2 ho2
    have s3 := s2.trans gr3.gg
    have hvs := paired_up gr3.gg hvs
    refine ⟨_, _, rfl, .inl ⟨gr4.gh.seq hL3, fun tf htf => ?_⟩⟩
    have gr5 := gr4.seal (o := .tup ((told st.1 c.wires).map V.int)) htf
    have s4 := same_new (gr4.gh.free htf) (o := .tup ((told st.1 c.wires).map V.int))
    have hf4 := same_new htf (o := .tup ((told st.1 c.wires).map V.int)) _ _ hf3
    have ho4 := (Gr.refl (M := M0) gr4.gh |>.seal (o := .tup ((told st.1 c.wires).map V.int)) htf).open_ hf3 ho3
    have htf5 : rT K rInt (upd G3 tf (.tup ((told st.1 c.wires).map V.int))) (.ref tf) (told st.1 c.wires) := rT_new (gr4.gh.free htf) (ints_paired _)
    generalize upd G3 tf (.tup ((told st.1 c.wires).map V.int)) = G5 at gr5 s4 ho4 htf5
    generalize upd H3 tf (.tup ((told st.1 c.wires).map V.int)) = H5 at gr5 hf4 ⊢
    have sall := s3.trans s4
    have hsd := gr3.gg.trans s4 _ _ hsd
    have hvs := paired_up s4 hvs
    clear gr4 gr3
    -- rows.append
    refine ⟨_, rfl, .inl ⟨rfl, _, .of hf4⟩, _, rfl, _, rfl, _, _, _, _, _, rfl, gr5.to _ _ hch, T.clChart, T.nChart_letters, rfl, t4, _, rfl, .inr ⟨sqt_up gr5.to h4, ?_⟩⟩
    refine lcM (K := K) (S := rInt) walk_tup (told st.2.1 (letters c)) (by rw [List.length_map, names_len, told, List.length_map]) (by rw [told, List.length_map]; omega) gr5.gh (fun H' e => sqt_up (gr5.gg.trans e) h4) (fun j x' Ha Ha' Ga y Q' hy gr3 ⟨e, hx'⟩ k => ?_) (fun G6 H6 L6 vs6 gr6 hL6 hP6 hn6 => ?_) gName_mono
    · subst e
      obtain ⟨z, hz, rfl⟩ := at_map hx'
      obtain ⟨wz, hwz, hwn⟩ := List.getElem?_map .. ▸ hz |> Option.map_eq_some_iff.1
      subst hwn
      obtain ⟨n, hn⟩ := Option.isSome_iff_exists.1 (runs.sent st hsm wz (List.mem_of_getElem? hwz))
      have hg : DGet Ha' sd (.str wz.1) (some (.int n)) := by
        rw [show some (V.int n) = valV (kvI st.2.1) (Sum.inr wz.1) from by rw [kvI_get, hn]; rfl]
        exact DGet.k (k := Sum.inr wz.1) (gr3.to _ _ hsd)
      refine ⟨rfl, _, rfl, _, rfl, sd, _, rfl, hg, k _ _ _ (.refl gr3.gh) ?_⟩
      have hy : (some wz).map (fun x : Wire => (getS st.2.1 x.1).getD 0) = some y := by rw [← hwz, ← List.getElem?_map]; exact hy
      have hy : (getS st.2.1 wz.1).getD 0 = y := Option.some.inj hy
      rw [hn] at hy
      rw [← hy]
      rfl
    have hP6 := paired_ints hP6
    subst hP6
    have hf6 := gr6.hh f _ (fun z => z) hf4
    have ho6 := gr6.open_ hf4 ho4
    have gr7 := gr5.trans gr6
    refine ⟨_, _, rfl, .inl ⟨gr7.gh.seq hL6, fun ts hts => ⟨_, rfl, (by show 3 ≤ sizeLine; decide), fun tz htz => ?_⟩⟩⟩
    have gr8 := gr7.seal (o := .tup ((told st.2.1 (letters c)).map V.int)) hts
    have s8 := same_new (gr7.gh.free hts) (o := .tup ((told st.2.1 (letters c)).map V.int))
    have hts8 : rT K rInt (upd G6 ts (.tup ((told st.2.1 (letters c)).map V.int))) (.ref ts) (told st.2.1 (letters c)) := rT_new (gr7.gh.free hts) (ints_paired _)
    have hf8 := same_new hts (o := .tup ((told st.2.1 (letters c)).map V.int)) _ _ hf6
    have ho8 := (Gr.refl (M := M0) gr7.gh |>.seal (o := .tup ((told st.2.1 (letters c)).map V.int)) hts).open_ hf6 ho6
    have gr9 := gr8.seal (o := .tup [.ref tf, .ref ts, sv]) htz
    have s9 := same_new (gr8.gh.free htz) (o := .tup [.ref tf, .ref ts, sv])
    have hf9 := same_new htz (o := .tup [.ref tf, .ref ts, sv]) _ _ hf8
    have ho9 := (Gr.refl (M := M0) gr8.gh |>.seal (o := .tup [.ref tf, .ref ts, sv]) htz).open_ hf8 ho8
    have sA := gr6.gg.trans (s8.trans s9)
    refine ⟨f, vs, _, rfl, rfl, hf9, small_lt ?_, ?_⟩
    · have := Paired.length hvs
      rw [List.length_map, List.length_take] at this
      omega
    · refine ⟨_, _, gr9.write hf0 ho9, sall.trans sA, upd_at, ho9, ?_, _, _, _, _, _, _, _, _, rfl⟩
      rw [take_snoc hs, List.map_append]
      exact paired_snoc (paired_up sA hvs) ⟨tz, _, _, _, rfl, .of upd_at, Up.up sA htf5, Up.up s9 hts8, Up.up (sall.trans sA) hsh⟩
  subst es
  rw [Paired.length hlsP, List.take_length] at hvs
  refine ⟨_, rfl, fun v r => rRow3 K G2 v r, f, vs, (finS c ns ms).map (outS c), rfl, .of hf2, hvs, fun v r h => dp_row3 (Up.up gr2.gh h), PySem.W.AllAlike.of alike_row3, PySem.W.Sortable.tuples (fun r => ⟨_, _, rfl⟩), fun r _ => by rw [depth_row3]; decide, fun ys p2 hy hp2 => ?_⟩
  refine ⟨p2, ys, rfl, .inl ⟨.of upd_at, fun p3 hp3 => ?_⟩⟩
  have gr3 := gr2.new (o := .lst ys) hp2
  exact q _ _ _ (gr3.seal hp3) (rT_new (gr3.gh.free hp3) hy)
end
end K6

set_option Elab.async false
set_option linter.all false
set_option maxRecDepth 100000
set_option maxHeartbeats 4000000
namespace K6
open PySem PySem.Spec PyProof.Rows L2
section
variable {P : Program} {w : World} {K : PySem.W.Frag} {mg : Str → Option Value} {base : Heap}
/-! ### the law's own numbers -/
theorem euclid_half {x y m : Int} (h0 : 0 < y) (h : y ≤ x) (hx : 0 ≤ x) (hm : x * y * m < 2 ^ 60) (m0 : 0 ≤ m) : y * (x % y) * (m * 2) < 2 ^ 60 := by
  have h1 := Int.emod_lt_of_pos x h0
  have h2 := Int.emod_nonneg x (Int.ne_of_gt h0)
  have h3 : 2 * (x % y) ≤ x := by
    have e := Int.mul_ediv_add_emod x y
    have q : 1 ≤ x / y := by
      have := Int.ediv_le_ediv h0 h
      rwa [Int.ediv_self (Int.ne_of_gt h0)] at this
    have := Int.mul_le_mul_of_nonneg_left q (Int.le_of_lt h0)
    omega
  have h4 : y * m * (2 * (x % y)) ≤ y * m * x := Int.mul_le_mul_of_nonneg_left h3 (Int.mul_nonneg (Int.le_of_lt h0) m0)
  have e1 : y * (x % y) * (m * 2) = y * m * (2 * (x % y)) := by ac_rfl
  have e2 : y * m * x = x * y * m := by ac_rfl
  omega
theorem gcd_step {x y : Int} (hx : 0 ≤ x) (hy : 0 < y) : Nat.gcd y.natAbs (x % y).natAbs = Nat.gcd x.natAbs y.natAbs := by
  obtain ⟨a, rfl⟩ := Int.eq_ofNat_of_zero_le hx
  obtain ⟨b, rfl⟩ := Int.eq_ofNat_of_zero_le (Int.le_of_lt hy)
  rw [show ((a : Int) % (b : Int)) = ((a % b : Nat) : Int) from rfl, Int.natAbs_natCast, Int.natAbs_natCast, Int.natAbs_natCast, Nat.gcd_comm a b, Nat.gcd_rec b a, Nat.gcd_comm]
def spPart : Sp := fun vs H Q _ => ∃ a b, vs = [.int a, .int b] ∧ 0 ≤ a ∧ a < 2 ^ 30 ∧ 0 < b ∧ b < 2 ^ 30 ∧ Q (.int (Nat.gcd a.natAbs b.natAbs : Nat)) H
theorem sc_law_part : FnScope ["_law_one", "_law_other", "_law_step_here"] ["_law_one", "_law_other"] (defScope s_law_part) := ⟨rfl, rfl, rfl, by decide +kernel, rfl, by decide +kernel, by decide +kernel⟩
theorem c_law_part (T : Tx K mg) : C8.Cal P w K mg base 1 "_law_part" spPart [] := by
  refine mkCal T.f_law_part sc_law_part (fun _ _ _ _ _ _ us hl => match us, hl with | [_, _], _ => rfl) (fun vs H Q E h => ?_) (fun f cdv A outer s H vs Q E hr h => ?_)
  · obtain ⟨_, _, rfl, _⟩ := h
    rfl
  obtain ⟨a, b, rfl, a0, a1, b0, b1, q⟩ := h
  refine ⟨_, (pss_cons (ps_set (i := 0) sc_law_part.nd rfl (Or.inl rfl) (pe_callB call_abs (by rfl) T.abs bt_abs (pa_cons (pv 0) pa_nil)))
      (pss_cons (ps_set (i := 1) sc_law_part.nd rfl (Or.inl rfl) (pe_callB call_abs (by rfl) T.abs bt_abs (pa_cons (pv 1) pa_nil)))
      (pss_cons (ps_for PassesOwn.never rfl (pi_range1 (by rfl) T.range (pa_cons pe_int pa_nil)) (pg_name (i := 2) sc_law_part.nd rfl (Or.inl rfl)) (pss_cons (ps_if (pt_cmpR op_eq (pv 1) pe_int (nomark _)) (pss_one ps_break) pss_nil)
      (pss_one (ps_par (i := 0) (j := 1) (by rfl) sc_law_part.nd rfl rfl (by decide) rfl rfl (pa_cons (pv 1) (pa_cons (pe_op op_mod (pe_callTy call_int1 (by rfl) T.int bt_int (pa_cons (pv 0) pa_nil)) (pv 1)) pa_nil)) (by rfl)))))
      (pss_one (ps_ret (pv 0)))))), ?_⟩
  refine ⟨_, rfl, _, rfl, ?_⟩
  rw [if_neg (show ¬ a < 0 by omega)]
  refine ⟨_, rfl, _, rfl, ?_⟩
  rw [if_neg (show ¬ b < 0 by omega)]
  refine ⟨4000, rfl, by decide, by decide, fr_range (n := 4000) (fun i σ H' => H' = H ∧ ∃ x y r, σ = [some (.int x), some (.int y), r] ∧ 0 ≤ x ∧ 0 ≤ y ∧ Nat.gcd x.natAbs y.natAbs = Nat.gcd a.natAbs b.natAbs ∧ y < 2 ^ 30 ∧ x < 2 ^ 30 ∧ (1 ≤ i → y ≤ x ∧ x * y * 2 ^ (i - 1) < 2 ^ 60))
    ⟨rfl, a, b, _, rfl, a0, Int.le_of_lt b0, rfl, b1, a1, fun z => by omega⟩ (fun i σ H1 hi ⟨eH, x, y, r, es, x0, y0, hg, yb, xb, hh⟩ => ?_) (fun σ H1 ⟨eH, x, y, r, es, x0, y0, hg, yb, xb, hh⟩ => ?_)⟩
  · subst es eH
    refine ⟨_, rfl, rfl, _, rfl, ?_⟩
    by_cases hy : y = 0
    · subst hy
      refine iteT ⟨_, rfl, ?_⟩
      rw [show x = ((Nat.gcd a.natAbs b.natAbs : Nat) : Int) from by rw [← hg]; simp; omega]
      exact q
    · have hy0 : 0 < y := by omega
      refine ite2 (fun z => absurd (V.int.inj (of_decide_eq_true z)) hy) (fun _ => ?_)
      refine ⟨_, rfl, _, rfl, .inl ⟨_, rfl, _, rfl, _, _, rfl, rfl, hy0, _, _, rfl, rfl, y, x % y, _, rfl, y0, Int.emod_nonneg x (Int.ne_of_gt hy0), ?_, ?_, yb, fun _ => ⟨Int.le_of_lt (Int.emod_lt_of_pos x hy0), ?_⟩⟩⟩
      · rw [gcd_step x0 hy0, hg]
      · exact Int.lt_trans (Int.emod_lt_of_pos x hy0) yb
      · rw [Nat.add_sub_cancel]
        cases i with
        | zero =>
          have h1 := Int.emod_lt_of_pos x hy0
          have := mul_sm (a := y) (b := x % y) y0 yb (Int.emod_nonneg x (Int.ne_of_gt hy0)) (by omega)
          rw [Int.pow_zero, Int.mul_one]
          exact this
        | succ i =>
          obtain ⟨h1, h2⟩ := hh (by omega)
          rw [Int.pow_succ]
          exact euclid_half hy0 h1 x0 h2 (Int.pow_nonneg (by decide))
  · subst es eH
    obtain ⟨h1, h2⟩ := hh (by decide)
    have hy : y = 0 := by
      rcases Int.lt_or_eq_of_le y0 with z | z
      · exfalso
        have e1 : 1 ≤ x * y := by
          have := Int.mul_pos (show 0 < x by omega) z
          omega
        have e2 : (1 : Int) * 2 ^ (4000 - 1) ≤ x * y * 2 ^ (4000 - 1) := Int.mul_le_mul_of_nonneg_right e1 (Int.pow_nonneg (by decide))
        have e3 : (2 : Int) ^ 60 < 1 * 2 ^ (4000 - 1) := by decide +kernel
        omega
      · exact z.symm
    subst hy
    refine ⟨_, rfl, ?_⟩
    rw [show x = ((Nat.gcd a.natAbs b.natAbs : Nat) : Int) from by rw [← hg]; simp; omega]
    exact q
def spRatio : Sp := fun vs H Q _ => ∃ a b, vs = [.int a, .int b] ∧ 0 ≤ a ∧ a < 2 ^ 30 ∧ 0 < b ∧ b < 2 ^ 30 ∧ ∀ p, H p = none → Q (.ref p) (upd H p (.tup [.int (nm a b).1, .int (nm a b).2]))
theorem sc_law_ratio : FnScope ["_law_top", "_law_bottom", "_law_part_here"] ["_law_top", "_law_bottom"] (defScope s_law_ratio) := ⟨rfl, rfl, rfl, by decide +kernel, rfl, by decide +kernel, by decide +kernel⟩
theorem c_law_ratio (T : Tx K mg) : C8.Cal P w K mg base 2 "_law_ratio" spRatio [] := by
  refine mkCal T.f_law_ratio sc_law_ratio (fun _ _ _ _ _ _ us hl => match us, hl with | [_, _], _ => rfl) (fun vs H Q E h => ?_) (fun f cdv A outer s H vs Q E hr h => ?_)
  · obtain ⟨_, _, rfl, _⟩ := h
    rfl
  obtain ⟨a, b, rfl, a0, a1, b0, b1, q⟩ := h
  refine ⟨_, (pss_cons (ps_if (pt_cmpR op_lt (pv 1) pe_int (nomark _)) (pss_cons (ps_set (i := 0) sc_law_ratio.nd rfl (Or.inl rfl) (pe_un un_neg (pv 0)))
      (pss_one (ps_set (i := 1) sc_law_ratio.nd rfl (Or.inl rfl) (pe_un un_neg (pv 1))))) pss_nil)
      (pss_cons (ps_set (i := 2) sc_law_ratio.nd rfl (Or.inl rfl) (C8.pe_c (c_law_part T) hr (by decide) (by rfl) (pa_cons (pv 0) (pa_cons (pv 1) pa_nil))))
      (pss_one (ps_ret (pe_tup (pa_cons (pe_op op_fdivW (pv 0) (pv 2)) (pa_cons (pe_op op_fdivW (pv 1) (pv 2)) pa_nil))))))), ?_⟩
  have g0 := gcd_pos (a := a) b0
  have g1 := gcd_le (a := a) b0
  have d := fun k => div_ok (k := k) (i := ((Nat.gcd a.natAbs b.natAbs : Nat) : Int)) (by omega) (by omega)
  refine ⟨_, rfl, _, _, rfl, rfl, _, rfl, ?_⟩
  rw [decide_eq_false (show ¬ b < 0 by omega)]
  exact iteF ⟨_, rfl, _, rfl, _, _, rfl, a0, a1, b0, b1, _, rfl, _, rfl, _, _, rfl, rfl, d a, _, rfl, _, rfl, _, _, rfl, rfl, d b, (by show 2 ≤ sizeLine; decide), fun p hp => q p hp⟩
def sp2S (K : PySem.W.Frag) (f : Int × Int → Int × Int → Int × Int) : Sp := fun vs H Q _ => ∃ u v x y, vs = [u, v] ∧ rRt K H u x ∧ rRt K H v y ∧ SmS x ∧ SmS y ∧ ∀ p, H p = none → Q (.ref p) (upd H p (.tup [.int (f x y).1, .int (f x y).2]))
theorem mul_k {a b : Int} (h0 : 0 ≤ a) (h1 : a ≤ 1000) (g0 : 0 ≤ b) (g1 : b ≤ 1000) : 0 ≤ a * b ∧ a * b ≤ 1000000 := by
  refine ⟨Int.mul_nonneg h0 g0, ?_⟩
  have e1 : a * b ≤ a * 1000 := Int.mul_le_mul_of_nonneg_left g1 h0
  omega
theorem sc_law_times : FnScope ["_law_one", "_law_other"] ["_law_one", "_law_other"] (defScope s_law_times) := ⟨rfl, rfl, rfl, by decide +kernel, rfl, by decide +kernel, by decide +kernel⟩
theorem c_law_times (T : Tx K mg) : C8.Cal P w K mg base 3 "_law_times" (sp2S K tm) [] := by
  refine mkCal T.f_law_times sc_law_times (fun _ _ _ _ _ _ us hl => match us, hl with | [_, _], _ => rfl) (fun vs H Q E h => ?_) (fun f cdv A outer s H vs Q E hr h => ?_)
  · obtain ⟨_, _, _, _, rfl, _⟩ := h
    rfl
  obtain ⟨_, _, ⟨x1, x2⟩, ⟨y1, y2⟩, rfl, ⟨a, _, _, rfl, ha, rfl, rfl⟩, ⟨b, _, _, rfl, hb, rfl, rfl⟩, ⟨s1, s2, s3, s4⟩, ⟨t1, t2, t3, t4⟩, q⟩ := h
  refine ⟨_, (pss_one (ps_ret (C8.pe_c (c_law_ratio T) hr (by decide) (by rfl) (pa_cons (pe_op op_mul (pe_ix ix_tup (pv 0) pe_int (fun _ _ => rfl)) (pe_ix ix_tup (pv 1) pe_int (fun _ _ => rfl))) (pa_cons (pe_op op_mul (pe_ix ix_tup (pv 0) pe_int (fun _ _ => rfl)) (pe_ix ix_tup (pv 1) pe_int (fun _ _ => rfl))) pa_nil))))), ?_⟩
  simp only at s1 s2 s3 s4 t1 t2 t3 t4
  have m1 := mul_k s1 s2 t1 t2
  have m2 := mul_k (Int.le_of_lt s3) s4 (Int.le_of_lt t3) t4
  exact ⟨_, rfl, _, _, _, _, rfl, rfl, ha, rfl, _, rfl, _, _, _, _, rfl, rfl, hb, rfl, _, _, rfl, rfl, .inl ⟨by omega, by omega⟩, _, rfl, _, _, _, _, rfl, rfl, ha, rfl, _, rfl, _, _, _, _, rfl, rfl, hb, rfl, _, _, rfl, rfl, .inl ⟨by omega, by omega⟩, _, _, rfl, m1.1, (by simp only; omega), Int.mul_pos s3 t3, (by simp only; omega), q⟩
theorem sc_law_plus : FnScope ["_law_one", "_law_other"] ["_law_one", "_law_other"] (defScope s_law_plus) := ⟨rfl, rfl, rfl, by decide +kernel, rfl, by decide +kernel, by decide +kernel⟩
theorem c_law_plus (T : Tx K mg) : C8.Cal P w K mg base 3 "_law_plus" (sp2S K pl) [] := by
  refine mkCal T.f_law_plus sc_law_plus (fun _ _ _ _ _ _ us hl => match us, hl with | [_, _], _ => rfl) (fun vs H Q E h => ?_) (fun f cdv A outer s H vs Q E hr h => ?_)
  · obtain ⟨_, _, _, _, rfl, _⟩ := h
    rfl
  obtain ⟨_, _, ⟨x1, x2⟩, ⟨y1, y2⟩, rfl, ⟨a, _, _, rfl, ha, rfl, rfl⟩, ⟨b, _, _, rfl, hb, rfl, rfl⟩, ⟨s1, s2, s3, s4⟩, ⟨t1, t2, t3, t4⟩, q⟩ := h
  refine ⟨_, (pss_one (ps_ret (C8.pe_c (c_law_ratio T) hr (by decide) (by rfl) (pa_cons (pe_op op_add (pe_op op_mul (pe_ix ix_tup (pv 0) pe_int (fun _ _ => rfl)) (pe_ix ix_tup (pv 1) pe_int (fun _ _ => rfl))) (pe_op op_mul (pe_ix ix_tup (pv 1) pe_int (fun _ _ => rfl)) (pe_ix ix_tup (pv 0) pe_int (fun _ _ => rfl)))) (pa_cons (pe_op op_mul (pe_ix ix_tup (pv 0) pe_int (fun _ _ => rfl)) (pe_ix ix_tup (pv 1) pe_int (fun _ _ => rfl))) pa_nil))))), ?_⟩
  simp only at s1 s2 s3 s4 t1 t2 t3 t4
  have m1 := mul_k s1 s2 (Int.le_of_lt t3) t4
  have m3 := mul_k t1 t2 (Int.le_of_lt s3) s4
  have m2 := mul_k (Int.le_of_lt s3) s4 (Int.le_of_lt t3) t4
  exact ⟨_, rfl, _, _, _, _, rfl, rfl, ha, rfl, _, rfl, _, _, _, _, rfl, rfl, hb, rfl, _, _, rfl, rfl, .inl ⟨by omega, by omega⟩, _, rfl, _, _, _, _, rfl, rfl, hb, rfl, _, rfl, _, _, _, _, rfl, rfl, ha, rfl, _, _, rfl, rfl, .inl ⟨by omega, by omega⟩, _, _, rfl, rfl, _, rfl, _, _, _, _, rfl, rfl, ha, rfl, _, rfl, _, _, _, _, rfl, rfl, hb, rfl, _, _, rfl, rfl, .inl ⟨by omega, by omega⟩, _, _, rfl, (by simp only; omega), (by simp only; omega), Int.mul_pos s3 t3, (by simp only; omega), q⟩
theorem sc_law_many : FnScope ["_law_sizes_here", "_law_many_here", "_law_size_here"] ["_law_sizes_here"] (defScope s_law_many) := ⟨rfl, rfl, rfl, by decide +kernel, rfl, by decide +kernel, by decide +kernel⟩
theorem c_law_many (T : Tx K mg) : C8.Cal P w K mg base 1 "_law_many" (spMany K) [] := by
  refine mkCal T.f_law_many sc_law_many (fun _ _ _ _ _ _ us hl => match us, hl with | [_], _ => rfl) (fun vs H Q E h => ?_) (fun f cdv A outer s H vs Q E hr h => ?_)
  · obtain ⟨_, _, rfl, _⟩ := h
    rfl
  obtain ⟨a, ns, rfl, hx, hn, q⟩ := h
  refine ⟨_, (pss_cons (ps_set (i := 1) sc_law_many.nd rfl (Or.inl rfl) pe_int)
      (pss_cons (ps_for PassesOwn.never rfl (pi_seq (pv 0)) (pg_name (i := 2) sc_law_many.nd rfl (Or.inl rfl)) (pss_one (ps_set (i := 1) sc_law_many.nd rfl (Or.inl rfl) (pe_op op_mul (pv 1) (pv 2)))))
      (pss_one (ps_ret (pv 1))))), ?_⟩
  refine ⟨_, rfl, a, _, rfl, fr_seq hx (fun i σ H' => H' = H ∧ ∃ r, σ = [some (.ref a), some (.int (prodI (ns.take i))), r])
    ⟨rfl, _, rfl⟩ (fun _ _ _ h => h.1 ▸ .refl _) (fun i v σ H1 hv ⟨e, r, es⟩ => ?_) (fun σ H1 ⟨e, r, es⟩ => ?_)⟩
  · subst es e
    obtain ⟨n, hk, rfl⟩ := at_map hv
    have := hn n (List.mem_of_getElem? hk)
    refine ⟨_, rfl, _, rfl, _, _, rfl, rfl, .inr ⟨by have := this.1; omega, by have := this.2; omega⟩, rfl, some (.int n), ?_⟩
    rw [take_snoc hk, prodI, prodI, List.foldl_append]
    rfl
  · subst es e
    rw [List.length_map, List.take_length]
    exact ⟨_, rfl, q⟩
/-! ### fillings by their numbers -/
def fillI : List Int → Int → List Int
  | [], _ => []
  | s :: ss, n => (n / prodI ss % s) :: fillI ss n
theorem fillI_len : ∀ (ss : List Int) (n : Int), (fillI ss n).length = ss.length
  | [], _ => rfl
  | _ :: ss, n => congrArg (· + 1) (fillI_len ss n)
def spFi (K : PySem.W.Frag) : Sp := fun vs H Q _ => ∃ (a : Addr) (ss : List Int) (n : Int), vs = [.ref a, .int n] ∧ SqL K H a (ss.map V.int) ∧ ss.length ≤ 6 ∧ (∀ s ∈ ss, SizeOk s) ∧ 0 ≤ n ∧ ∀ H' p, Same H H' → H' p = none → Q (.ref p) (upd H' p (.tup ((fillI ss n).map V.int)))
theorem sc_law_filling : FnScope ["_law_sizes_here", "_law_number_here", "_law_out", "_law_back", "_law_size_here"] ["_law_sizes_here", "_law_number_here"] (defScope s_law_filling) := ⟨rfl, rfl, rfl, by decide +kernel, rfl, by decide +kernel, by decide +kernel⟩
theorem c_law_filling (T : Tx K mg) : C8.Cal P w K mg base 1 "_law_filling" (spFi K) [] := by
  refine mkCal T.f_law_filling sc_law_filling (fun _ _ _ _ _ _ us hl => match us, hl with | [_, _], _ => rfl) (fun vs H Q E h => ?_) (fun f cdv A outer s H vs Q E hr h => ?_)
  · obtain ⟨_, _, _, rfl, _⟩ := h
    rfl
  obtain ⟨a, ss, n, rfl, ha, h6, hs, n0, q⟩ := h
  refine ⟨_, (pss_cons (ps_set (i := 2) sc_law_filling.nd rfl (Or.inl rfl) (pe_lst pa_nil))
      (pss_cons (ps_for PassesOwn.never rfl (pi_range1 (by rfl) T.range (pa_cons (pe_callB call_len_seq (by rfl) T.len bt_len (pa_cons (pv 0) pa_nil)) pa_nil)) (pg_name (i := 3) sc_law_filling.nd rfl (Or.inl rfl)) (pss_cons (ps_set (i := 4) sc_law_filling.nd rfl (Or.inl rfl) (pe_ix ix_list (pv 0) (pe_op op_sub (pe_op op_sub (pe_callB call_len_seq (by rfl) T.len bt_len (pa_cons (pv 0) pa_nil)) pe_int) (pv 3)) (fun _ _ => rfl)))
      (pss_cons (ps_set (i := 2) sc_law_filling.nd rfl (Or.inl rfl) (pe_op op_cat (pe_lst (pa_cons (pe_op op_mod (pe_callTy call_int1 (by rfl) T.int bt_int (pa_cons (pv 1) pa_nil)) (pv 4)) pa_nil)) (pv 2)))
      (pss_one (ps_set (i := 1) sc_law_filling.nd rfl (Or.inl rfl) (pe_op op_fdivW (pv 1) (pv 4)))))))
      (pss_one (ps_ret (pe_callTy call_tuple_of (by rfl) T.tuple bt_tuple (pa_cons (pv 2) pa_nil)))))), ?_⟩
  refine ⟨(show 0 ≤ sizeLine by decide), fun l0 hl0 => ?_⟩
  have ha0 := (same_new (o := .lst []) hl0).seq ha
  have hlen : (ss.map V.int).length = ss.length := List.length_map ..
  refine ⟨_, rfl, a, _, rfl, .inl ha0, _, rfl, by omega, by omega, fr_range (n := (ss.map V.int).length) (fun k σ H' => Same H H' ∧ k ≤ ss.length ∧ ∃ l r r', H' l = some (.lst ((fillI (ss.drop (ss.length - k)) n).map V.int)) ∧ σ = [some (.ref a), some (.int (n / prodI (ss.drop (ss.length - k)))), some (.ref l), r, r'])
    ⟨same_new hl0, Nat.zero_le _, l0, _, _, by rw [Nat.sub_zero, List.drop_length]; exact upd_at, by rw [Nat.sub_zero, List.drop_length]; show _ = [_, some (V.int (n / 1)), _, _, _]; rw [Int.ediv_one]; rfl⟩ (fun k σ H1 hk ⟨e, _, l, r, r', hl, es⟩ => ?_) (fun σ H1 ⟨e, _, l, r, r', hl, es⟩ => ?_)⟩
  · subst es
    have hk' : k < ss.length := by omega
    obtain ⟨s, hsz⟩ : ∃ s, ss[ss.length - 1 - k]? = some s := ⟨ss[ss.length - 1 - k]'(by omega), List.getElem?_eq_getElem (by omega)⟩
    have sz := hs s (List.mem_of_getElem? hsz)
    have ei : (((ss.map V.int).length : Nat) : Int) - 1 - (0 + (k : Nat)) = ((ss.length - 1 - k : Nat) : Int) := by omega
    have hat : atI (ss.map V.int) ((((ss.map V.int).length : Nat) : Int) - 1 - (0 + (k : Nat))) = some (.int s) := by
      rw [ei]
      exact atI_nat (by rw [List.getElem?_map, hsz]; rfl)
    have ha1 := e.seq ha
    refine ⟨_, rfl, _, rfl, a, _, rfl, .inl ha1, _, _, rfl, rfl, _, rfl, _, _, rfl, rfl, _, _, _, _, rfl, rfl, ha1, hat, ?_⟩
    have ed : ss.drop (ss.length - (k + 1)) = s :: ss.drop (ss.length - k) := by
      rw [show ss.length - (k + 1) = ss.length - 1 - k by omega, drop_cons hsz, show ss.length - 1 - k + 1 = ss.length - k by omega]
    have fl := fillI_len (ss.drop (ss.length - k)) n
    rw [List.length_drop] at fl
    refine ⟨_, rfl, .inl ⟨_, rfl, _, rfl, _, _, rfl, rfl, sz.1, (by show 1 ≤ sizeLine; decide), fun p hp => ⟨_, rfl, p, l, _, _, rfl, rfl, upd_at, same_new hp _ _ hl, ?_, fun p2 hp2 => ?_⟩⟩⟩
    · exact small_of (by rw [List.length_map]; show 1 + _ ≤ _; omega)
    refine ⟨_, rfl, _, rfl, _, _, rfl, rfl, div_ok sz.1 (by have := sz.2; omega), (e.trans (same_new hp)).trans (same_new hp2), by omega, p2, some (.int (0 + (k : Nat))), some (.int s), ?_, ?_⟩
    · rw [ed, upd_at]
      rfl
    · rw [ed, prod_cons, Int.mul_comm s, ← Int.ediv_ediv_of_nonneg (Int.le_of_lt (prod_pos fun x m => hs x (List.mem_of_mem_drop m)))]
      rfl
  · subst es
    rw [hlen, Nat.sub_self, List.drop_zero] at hl
    exact ⟨_, rfl, l, _, rfl, .inl ⟨.of hl, fun p hp => q _ _ e hp⟩⟩
theorem fil_sizes {ss : List Int} (n : Int) (h : ∀ s ∈ ss, SizeOk s) : Fil ss (fillI ss n) := by
  induction ss with
  | nil => exact .nil
  | cons s ss ih =>
    have := h s (.head _)
    exact .cons ⟨Int.emod_nonneg _ (by have := this.1; omega), Int.emod_lt_of_pos _ this.1⟩ (ih fun x m => h x (.tail _ m))
def fillsI (ss : List Int) : List (List Int) := (List.range (prodI ss).toNat).map fun (n : Nat) => fillI ss n
def spFs (K : PySem.W.Frag) : Sp := fun vs H Q _ => ∃ (G : Hp) (a : Addr) (ss : List Int), vs = [.ref a] ∧ Same G H ∧ SqL K G a (ss.map V.int) ∧ ss.length ≤ 6 ∧ (∀ s ∈ ss, SizeOk s) ∧ prodI ss ≤ 1000 ∧ ∀ G' H' v, Gr M0 G H G' H' → rL K (rT K rInt) G' v (fillsI ss) → Q v H'
theorem sc_law_fillings : FnScope ["_law_sizes_here", "_law_number_here"] ["_law_sizes_here"] (defScope s_law_fillings) := ⟨rfl, rfl, rfl, by decide +kernel, rfl, by decide +kernel, by decide +kernel⟩
theorem c_law_fillings (T : Tx K mg) : C8.Cal P w K mg base 2 "_law_fillings" (spFs K) [] := by
  refine mkCal T.f_law_fillings sc_law_fillings (fun _ _ _ _ _ _ us hl => match us, hl with | [_], _ => rfl) (fun vs H Q E h => ?_) (fun f cdv A outer s H vs Q E hr h => ?_)
  · obtain ⟨_, _, _, rfl, _⟩ := h
    rfl
  obtain ⟨G, a, ss, rfl, g, ha, h6, hs, hp, q⟩ := h
  refine ⟨_, (pss_one (ps_ret (pe_lc (own := [("_law_number_here", 1)]) rfl sc_law_fillings.nd (pi_range1 (by rfl) T.range (pa_cons (C8.pe_c (c_law_many T) hr (by decide) (by rfl) (pa_cons (pv 0) pa_nil)) pa_nil)) (blkOk_by (own := [("_law_number_here", 1)]) (N := ["_law_sizes_here", "_law_number_here"]) (sc := defScope s_law_fillings) (by decide +kernel)) (fun _ _ _ _ _ => (pg_name (i := 1) sc_law_fillings.nd rfl (Or.inl rfl))) (fun _ _ _ _ _ => pts_nil) (fun _ _ _ _ _ => (C8.pe_c (c_law_filling T) hr (by decide) (by rfl) (pa_cons (pv 0) (pa_cons (pv 1) pa_nil))))))), ?_⟩
  have pp := prod_pos hs
  refine ⟨_, rfl, a, ss, rfl, .inl (g.seq ha), hs, _, rfl, by omega, by omega, ?_⟩
  refine lcM (K := K) (S := rT K rInt) walk_range (fillsI ss) (by rw [fillsI, List.length_map, List.length_range]) (by rw [fillsI, List.length_map, List.length_range]; omega) g (fun _ _ => trivial) (fun i x' Ha Ha' Ga y Q' hy gr ⟨e, hx⟩ k => ?_) (fun G' H' L vs gr hL hP hn => q _ _ _ gr ⟨L, vs, rfl, hL, hP⟩) gName_mono
  subst e hx
  refine ⟨rfl, _, rfl, _, rfl, a, ss, _, rfl, gr.to.seq ha, h6, hs, by omega, fun H' p e hp' => ?_⟩
  have hy : (fillsI ss)[i]? = some y := hy
  have ey : fillI ss (0 + (i : Nat)) = y := by
    rw [fillsI, List.getElem?_map] at hy
    obtain ⟨m, hm, rfl⟩ := Option.map_eq_some_iff.1 hy
    have := (List.getElem?_eq_some_iff.1 hm).2
    rw [List.getElem_range] at this
    rw [← this, Int.zero_add]
  refine k _ _ _ (((Gr.refl gr.gh).same e).seal hp') ?_
  rw [← ey]
  exact ⟨p, _, rfl, .of upd_at, ints_paired _⟩
def spNu (K : PySem.W.Frag) : Sp := fun vs H Q _ => ∃ a b ss ns, vs = [.ref a, .ref b] ∧ SqL K H a (ss.map V.int) ∧ SqL K H b (ns.map V.int) ∧ Fil ss ns ∧ (∀ s ∈ ss, SizeOk s) ∧ ss.length ≤ 100 ∧ Q (.int (numI 0 ss ns)) H
theorem sc_law_number : FnScope ["_law_sizes_here", "_law_filling_here", "_law_number_here", "_law_at"] ["_law_sizes_here", "_law_filling_here"] (defScope s_law_number) := ⟨rfl, rfl, rfl, by decide +kernel, rfl, by decide +kernel, by decide +kernel⟩
theorem c_law_number (T : Tx K mg) : C8.Cal P w K mg base 1 "_law_number" (spNu K) [] := by
  refine mkCal T.f_law_number sc_law_number (fun _ _ _ _ _ _ us hl => match us, hl with | [_, _], _ => rfl) (fun vs H Q E h => ?_) (fun f cdv A outer s H vs Q E hr h => ?_)
  · obtain ⟨_, _, _, _, rfl, _⟩ := h
    rfl
  obtain ⟨a, b, ss, ns, rfl, ha, hb, hf, hs, h6, q⟩ := h
  refine ⟨_, (pss_cons (ps_set (i := 2) sc_law_number.nd rfl (Or.inl rfl) pe_int)
      (pss_cons (ps_for PassesOwn.never rfl (pi_range1 (by rfl) T.range (pa_cons (pe_callB call_len_seq (by rfl) T.len bt_len (pa_cons (pv 0) pa_nil)) pa_nil)) (pg_name (i := 3) sc_law_number.nd rfl (Or.inl rfl)) (pss_one (ps_set (i := 2) sc_law_number.nd rfl (Or.inl rfl) (pe_op op_add (pe_op op_mul (pv 2) (pe_ix ix_list (pv 0) (pv 3) (fun _ _ => rfl))) (pe_ix ix_list (pv 1) (pv 3) (fun _ _ => rfl))))))
      (pss_one (ps_ret (pv 2))))), ?_⟩
  have hlen : (ss.map V.int).length = ss.length := List.length_map ..
  refine ⟨_, rfl, a, _, rfl, .inl ha, _, rfl, by omega, by omega, fr_range (n := (ss.map V.int).length) (fun i σ H' => H' = H ∧ ∃ m r, σ = [some (.ref a), some (.ref b), some (.int m), r] ∧ numI m (ss.drop i) (ns.drop i) = numI 0 ss ns)
    ⟨rfl, _, _, rfl, rfl⟩ (fun i σ H1 hi ⟨e, m, r, es, ef⟩ => ?_) (fun σ H1 ⟨e, m, r, es, ef⟩ => ?_)⟩
  · subst es e
    obtain ⟨n, hk⟩ : ∃ n, ss[i]? = some n := ⟨ss[i]'(by omega), List.getElem?_eq_getElem (by omega)⟩
    obtain ⟨y, hy, _⟩ := paired_to hf hk
    have sz := hs n (List.mem_of_getElem? hk)
    have e1 : atI (ss.map V.int) (0 + (i : Nat)) = some (.int n) := by
      rw [Int.zero_add]
      exact atI_nat (by rw [List.getElem?_map, hk]; rfl)
    have e2 : atI (ns.map V.int) (0 + (i : Nat)) = some (.int y) := by
      rw [Int.zero_add]
      exact atI_nat (by rw [List.getElem?_map, hy]; rfl)
    refine ⟨_, rfl, _, rfl, _, rfl, _, _, _, _, rfl, rfl, ha, e1, _, _, rfl, rfl, .inr ⟨by have := sz.1; omega, by have := sz.2; omega⟩, _, rfl, _, rfl, _, _, _, _, rfl, rfl, hb, e2, _, _, rfl, rfl, rfl, _, some (.int (0 + (i : Nat))), rfl, ?_⟩
    rw [drop_cons hk, drop_cons hy] at ef
    exact ef
  · subst es e
    rw [hlen, drop_all (Nat.le_refl _)] at ef
    refine ⟨_, rfl, ?_⟩
    rw [show m = numI 0 ss ns from by rw [← ef]; cases (List.drop ss.length ns) <;> rfl]
    exact q
/-! ### sizes of wires -/
def spSz (K : PySem.W.Frag) : Sp := fun vs H Q _ => ∃ (G : Hp) (a : Addr) (us : List V) (ws : List Wire), vs = [.ref a] ∧ Same G H ∧ SqL K G a us ∧ Paired (rW K G) us ws ∧ ws.length ≤ 100 ∧ ∀ G' H' p, Gr M0 G H G' H' → SqL K G' p ((sizes ws).map V.int) → Q (.ref p) H'
theorem sc_law_size : FnScope ["_law_wires", "_law_wire"] ["_law_wires"] (defScope s_law_size) := ⟨rfl, rfl, rfl, by decide +kernel, rfl, by decide +kernel, by decide +kernel⟩
theorem c_law_size (T : Tx K mg) : C8.Cal P w K mg base 1 "_law_size" (spSz K) [] := by
  refine mkCal T.f_law_size sc_law_size (fun _ _ _ _ _ _ us hl => match us, hl with | [_], _ => rfl) (fun vs H Q E h => ?_) (fun f cdv A outer s H vs Q E hr h => ?_)
  · obtain ⟨_, _, _, _, rfl, _⟩ := h
    rfl
  obtain ⟨G, a, us, ws, rfl, g, ha, hP, h6, q⟩ := h
  refine ⟨_, (pss_one (ps_ret (pe_lc (own := [("_law_wire", 1)]) rfl sc_law_size.nd (pi_seq (pv 0)) (blkOk_by (own := [("_law_wire", 1)]) (N := ["_law_wires", "_law_wire"]) (sc := defScope s_law_size) (by decide +kernel)) (fun _ _ _ _ _ => (pg_name (i := 1) sc_law_size.nd rfl (Or.inl rfl))) (fun _ _ _ _ _ => pts_nil) (fun _ _ _ _ _ => (pe_ix (show IxR _ (rIxT K) from ix_tup) (pv 1) pe_int (fun _ _ => rfl)))))), ?_⟩
  refine ⟨_, rfl, a, us, rfl, .inl ⟨g.seq ha, ?_⟩⟩
  refine lcM (K := K) (S := rInt) walk_list (sizes ws) (by rw [Paired.length hP, sizes_len]) (by rw [sizes_len]; omega) g (fun H' e => e.seq ha) (fun i x H1 H1' G1 z Q' hz gr ⟨e, hx⟩ k => ?_) (fun G2 H2 L vs gr hL hP2 hn => ?_) gName_mono
  · subst e
    obtain ⟨a, y, hy, rfl, hb⟩ := wire_at hP hx gr.to
    refine ⟨rfl, _, rfl, _, _, _, _, rfl, rfl, hb, rfl, k _ _ _ (.refl gr.gh) ?_⟩
    rw [← sizes_at hy hz]
    rfl
  · have hP2 := paired_ints hP2
    subst hP2
    exact q _ _ _ gr hL
/-! ### the law's boxes and charts -/
def rLE (K : PySem.W.Frag) : Rl Ent := rL K (rP K (rT K rInt) (rSh K))
instance : Up (rLE K) := inferInstanceAs (Up (rL K (rP K (rT K rInt) (rSh K))))
def rLB (K : PySem.W.Frag) : Rl LB := fun G v b => ∃ a t m e, v = .ref a ∧ SqL K G a [.int b.day, t, m, e] ∧ rL K (rW K) G t b.takes ∧ rL K (rW K) G m b.makes ∧ rL K (rLE K) G e b.ents
instance : Up (rLB K) := ⟨fun e ⟨a, t, m, n, h0, h1, h2, h3, h4⟩ => ⟨a, t, m, n, h0, e.seq h1, Up.up e h2, Up.up e h3, Up.up e h4⟩⟩
def rLC (K : PySem.W.Frag) : Rl LC := fun G v c => ∃ a t b o, v = .ref a ∧ SqL K G a [t, b, o] ∧ rL K (rW K) G t c.wires ∧ rL K (rLB K) G b c.boxes ∧ rL K rStr G o c.outs
instance : Up (rLC K) := ⟨fun e ⟨a, t, m, n, h0, h1, h2, h3, h4⟩ => ⟨a, t, m, n, h0, e.seq h1, Up.up e h2, Up.up e h3, Up.up e h4⟩⟩
def spBx (K : PySem.W.Frag) : Sp := fun vs H Q _ => ∃ (G : Hp) (v : V) (b : LB), vs = [v] ∧ Same G H ∧ rLB K G v b ∧ BoxOk b ∧ ∀ G' H' v', Gr M0 G H G' H' → rBox K G' v' b → Q v' H'
theorem sc_law_box : FnScope ["_law_box_here", "_law_entries", "_law_entry_here", "_law_row", "_law_share"] ["_law_box_here"] (defScope s_law_box) := ⟨rfl, rfl, rfl, by decide +kernel, rfl, by decide +kernel, by decide +kernel⟩
theorem c_law_box (T : Tx K mg) : C8.Cal P w K mg base 8 "_law_box" (spBx K) [] := by
  refine mkCal T.f_law_box sc_law_box (fun _ _ _ _ _ _ us hl => match us, hl with | [_], _ => rfl) (fun vs H Q E h => ?_) (fun f cdv A outer s H vs Q E hr h => ?_)
  · obtain ⟨_, _, _, rfl, _⟩ := h
    rfl
  obtain ⟨G, v, b, rfl, g, ⟨a, _, _, _, rfl, ha, ⟨t, tv, rfl, ht, hT⟩, ⟨m, mv, rfl, hm, hM⟩, ⟨e, ev, rfl, he, hE⟩⟩, ho, q⟩ := h
  refine ⟨_, (pss_cons (ps_set (i := 1) sc_law_box.nd rfl (Or.inl rfl) (pe_lst pa_nil))
      (pss_cons (ps_for PassesOwn.never rfl (pi_seq (pe_ix ix_list (pv 0) pe_int (fun _ _ => rfl))) (pg_name (i := 2) sc_law_box.nd rfl (Or.inl rfl)) (pss_one (ps_expr (pe_bm PySem.F.plainAttrs_list PySem.F.slot_list_append PySem.F.type_list_append mt_append (pv 1) (pa_cons (pe_ifExp (pt_cmpR op_eq (pe_callB call_len_seq (by rfl) T.len bt_len (pa_cons (pv 2) pa_nil)) pe_int (nomark _)) (pe_callTy call_list_of (by rfl) T.list bt_list (pa_cons (pe_ix ix_tup (pe_ix ix_list (pv 2) pe_int (fun _ _ => rfl)) pe_int (fun _ _ => rfl)) pa_nil)) (pe_lc (own := [("_law_row", 3), ("_law_share", 4)]) rfl sc_law_box.nd (pi_seq (pv 2)) (blkOk_by (own := [("_law_row", 3), ("_law_share", 4)]) (N := ["_law_box_here", "_law_entries", "_law_entry_here", "_law_row", "_law_share"]) (sc := defScope s_law_box) (by decide +kernel)) (fun _ _ _ _ _ => (show PG _ _ (gTup K 2 _) from (pg_tup rfl (pgs_cons (pg_name (i := 3) sc_law_box.nd rfl (Or.inl rfl)) (pgs_cons (pg_name (i := 4) sc_law_box.nd rfl (Or.inl rfl)) pgs_nil))))) (fun _ _ _ _ _ => pts_nil) (fun _ _ _ _ _ => (pe_tup (pa_cons (pe_callTy (show CallR _ _ (kListOf K) from call_list_of) (by rfl) T.list bt_list (pa_cons (pv 3) pa_nil)) (pa_cons (pv 4) pa_nil)))))) pa_nil)))))
      (pss_one (ps_ret (C8.pe_mk (c_Box T) hr (by decide) (by rfl) (pa_cons (pe_ix ix_list (pv 0) pe_int (fun _ _ => rfl)) (pa_cons (pe_callTy call_list_of (by rfl) T.list bt_list (pa_cons (pe_ix ix_list (pv 0) pe_int (fun _ _ => rfl)) pa_nil)) (pa_cons (pe_callTy call_list_of (by rfl) T.list bt_list (pa_cons (pe_ix ix_list (pv 0) pe_int (fun _ _ => rfl)) pa_nil)) (pa_cons (pv 1) pa_nil))))))))), ?_⟩
  have l3 := Paired.length hE
  have hel := ho.ents
  have hem := ho.many
  refine ⟨(show 0 ≤ sizeLine by decide), fun f hf => ?_⟩
  have hfG := g.free hf
  refine ⟨_, rfl, _, _, _, _, rfl, rfl, (g.trans (same_new hf)).seq ha, rfl, e, ev, rfl, fr_seq (.inl he) (fun i σ H' => ∃ G' vs, Gr M0 G H G' H' ∧ H' f = some (.lst vs) ∧ G' f = none ∧ Paired (rEB K G') vs (b.ents.take i) ∧ ∃ r1 r2 r3, σ = [some (.ref a), some (.ref f), r1, r2, r3])
    ⟨G, [], (Gr.refl g).new hf, upd_at, hfG, .nil, _, _, _, rfl⟩ (fun i σ H' ⟨_, _, h, _⟩ => h.to) (fun i v σ H1 hv ⟨G1, vs, gr, hf1, ho1, hvs, r1, r2, r3, es⟩ => ?_) (fun σ H1 ⟨G1, vs, gr, hf1, ho1, hvs, r1, r2, r3, es⟩ => ?_)⟩
  · subst es
    have hi : i < ev.length := (List.getElem?_eq_some_iff.1 hv).1
    obtain ⟨en, hen, hev⟩ := paired_at hE hv
    obtain ⟨p, ps, rfl, hp, hps⟩ := hev
    have hok := ho.entOk en (List.mem_of_getElem? hen)
    have hp1 := gr.to.seq hp
    have lps := Paired.length hps
    have hvl : vs.length < sizeLine := small_lt (by have := Paired.length hvs; rw [List.length_take] at this; omega)
    refine ⟨_, rfl, .inl ⟨rfl, _, .of hf1⟩, _, rfl, _, _, rfl, .inl hp1, rfl, _, rfl, ?_⟩
    rcases hok with ⟨r, rfl, hfl⟩ | ⟨x1, x2, k1, k2, rfl, _⟩
    · cases hps with
      | cons h1 hps =>
      cases hps
      obtain ⟨pa, _, sv, rfl, hpa, ⟨ra, rv, rfl, hra, hrp⟩, hsv⟩ := h1
      have hrp := paired_ints hrp
      subst hrp
      refine iteT ⟨_, rfl, _, _, _, _, rfl, rfl, hp1, rfl, _, _, _, _, rfl, rfl, sqt_up gr.to hpa, rfl, _, _, rfl, .inr (sqt_up gr.to hra), fun l hl => ?_⟩
      have gr2 := gr.seal (o := .lst (r.map V.int)) hl
      have hlf : l ≠ f := fun z => by rw [z, hf1] at hl; cases hl
      refine ⟨f, vs, _, rfl, rfl, same_new hl _ _ hf1, hvl, _, _, gr2.write hf ?_, upd_at, ?_, ?_, _, _, _, rfl⟩
      · rw [upd_ne (Ne.symm hlf)]
        exact ho1
      · rw [upd_ne (Ne.symm hlf)]
        exact ho1
      · rw [take_snoc hen]
        exact paired_snoc (paired_up (same_new (gr.gh.free hl)) hvs) (.inl ⟨r, rfl, l, _, rfl, .of upd_at, ints_paired r⟩)
    · refine ite2 (fun z => absurd (of_decide_eq_true z) (by rw [lps]; intro y; cases y)) (fun _ => ?_)
      refine ⟨_, rfl, p, ps, rfl, .inl ⟨hp1, ?_⟩⟩
      refine lcM (K := K) (S := rP K (rL K rInt) (rSh K)) walk_list [(x1, k1), (x2, k2)] lps (by show 2 ≤ 100000; decide) gr.gh (fun H' e => (gr.gg.trans e).seq hp) (fun j x Ha Ha' Ga z Q' hz gr2 ⟨e, hx⟩ k => ?_) (fun G2 H2 L vs2 gr2 hL hP2 hn => ?_) g2_mono
      · subst e
        obtain ⟨⟨r, k0⟩, hr, hrv⟩ := paired_at hps hx
        rw [hr] at hz
        cases hz
        obtain ⟨pa, _, sv, rfl, hpa, ⟨ra, rv, rfl, hra, hrp⟩, hsv⟩ := hrv
        have hrp := paired_ints hrp
        subst hrp
        have s2 := gr.gg.trans gr2.to
        refine g2_at (sqt_up s2 hpa) ⟨rfl, _, rfl, _, _, rfl, .inr (sqt_up s2 hra), fun l hl => ⟨_, rfl, (by show 2 ≤ sizeLine; decide), fun z hz => ?_⟩⟩
        have gr3 := ((Gr.refl (M := M0) gr2.gh).seal (o := .lst (r.map V.int)) hl).seal (o := .tup [.ref l, sv]) hz
        refine k _ _ _ gr3 ⟨z, _, _, rfl, .of upd_at, ⟨l, _, rfl, .of (same_new (((Gr.refl (M := M0) gr2.gh).seal (o := .lst (r.map V.int)) hl).gh.free hz) _ _ upd_at), ints_paired r⟩, Up.up ((gr.gg.trans gr2.gg).trans gr3.gg) hsv⟩
      · have gr3 := gr.trans gr2
        have hf2 := gr2.hh f _ (fun z => z) hf1
        have ho2 := gr2.open_ hf1 ho1
        refine ⟨f, vs, _, rfl, rfl, hf2, hvl, G2, _, gr3.write hf ho2, upd_at, ho2, ?_, _, _, _, rfl⟩
        rw [take_snoc hen]
        exact paired_snoc (paired_up gr2.gg hvs) (.inr ⟨_, _, rfl, L, vs2, rfl, hL, hP2⟩)
  · subst es
    rw [l3, List.take_length] at hvs
    have gr2 := gr.shut hf ho1 hf1
    have s1 := same_new ho1 (o := .lst vs)
    refine ⟨_, rfl, _, _, _, _, rfl, rfl, gr.to.seq ha, rfl, _, rfl, _, _, _, _, rfl, rfl, gr.to.seq ha, rfl, _, _, rfl, .inl (gr.to.seq ht), fun l1 hl1 => ⟨_, rfl, _, _, _, _, rfl, rfl, ((gr.to).trans (same_new hl1)).seq ha, rfl, _, _, rfl, .inl (((gr.to).trans (same_new hl1)).seq hm), fun l2 hl2 => ⟨_, rfl, ?_⟩⟩⟩
    have gr3 := gr2.seal (o := .lst tv) hl1
    have gr4 := gr3.seal (o := .lst mv) hl2
    have s2 := same_new (gr2.gh.free hl1) (o := .lst tv)
    have s3 := same_new (gr3.gh.free hl2) (o := .lst mv)
    refine mk_box gr4.gh ⟨⟨l1, _, rfl, .of (s3 _ _ upd_at), paired_up gr4.gg hT⟩, ⟨l2, _, rfl, .of upd_at, paired_up gr4.gg hM⟩, ⟨f, vs, rfl, .of ((s2.trans s3) _ _ upd_at), paired_up (s1.trans (s2.trans s3)) hvs⟩⟩ ho (fun G' H' v' gr5 h5 => ?_)
    exact q _ _ _ (gr4.trans gr5) h5
end
end K6

set_option Elab.async false
set_option linter.all false
set_option maxRecDepth 100000
set_option maxHeartbeats 4000000
namespace K6
open PySem PySem.Spec PyProof.Rows L2
/-! ### who is made -/
theorem getS_mday (b : LB) (z : Str) : ∀ (ws : List Wire) (d : Dct), (getS (mday d b ws) z).isSome = ((getS d z).isSome || decide (z ∈ names ws))
  | [], d => by simp [mday, names]
  | x :: ws, d => by
    show (getS (mday (putS d x.1 b.day) b ws) z).isSome = _
    rw [getS_mday b z ws, getS_put]
    by_cases e : z = x.1
    · subst e
      rw [if_pos rfl, decide_eq_true (show x.1 ∈ names (x :: ws) from .head _)]
      simp
    · rw [if_neg e]
      congr 1
      exact decide_eq_decide.2 ⟨fun m => .tail _ m, fun m => by
        cases m with
        | head => exact absurd rfl e
        | tail _ m => exact m⟩
theorem getS_mdict (z : Str) : ∀ (bs : List LB) (d : Dct), (getS (bs.foldl (fun d b => mday d b b.makes) d) z).isSome = ((getS d z).isSome || decide (z ∈ bs.flatMap fun b => names b.makes))
  | [], d => by simp
  | b :: bs, d => by
    rw [List.foldl_cons, getS_mdict z bs, getS_mday, List.flatMap_cons, Bool.or_assoc]
    congr 1
    rw [← Bool.decide_or]
    exact decide_eq_decide.2 List.mem_append.symm
section
variable {P : Program} {w : World} {K : PySem.W.Frag} {mg : Str → Option Value} {base : Heap}
def spLt (K : PySem.W.Frag) (f : LC → List Wire) : Sp := fun vs H Q _ => ∃ (G : Hp) (v : V) (c : LC), vs = [v] ∧ Same G H ∧ rLC K G v c ∧ ChartOk c ∧ ∀ G' H' v', Gr M0 G H G' H' → rL K (rW K) G' v' (f c) → Q v' H'
theorem sc_law_letters : FnScope ["_law_chart_here", "_law_days_here", "_law_box_here", "_law_wire", "_law_found"] ["_law_chart_here"] (defScope s_law_letters) := ⟨rfl, rfl, rfl, by decide +kernel, rfl, by decide +kernel, by decide +kernel⟩
theorem c_law_letters (T : Tx K mg) : C8.Cal P w K mg base 1 "_law_letters" (spLt K letters) [] := by
  refine mkCal T.f_law_letters sc_law_letters (fun _ _ _ _ _ _ us hl => match us, hl with | [_], _ => rfl) (fun vs H Q E h => ?_) (fun f cdv A outer s H vs Q E hr h => ?_)
  · obtain ⟨_, _, _, rfl, _⟩ := h
    rfl
  obtain ⟨G, v, c, rfl, g, ⟨a, _, _, o, rfl, ha, ⟨tw, wv, rfl, hw, hW⟩, ⟨tb, bv, rfl, hb, hB⟩, hout⟩, ho, q⟩ := h
  refine ⟨_, (pss_cons (ps_set (i := 1) sc_law_letters.nd rfl (Or.inl rfl) pe_dnewK)
      (pss_cons (ps_for PassesOwn.never rfl (pi_seq (pe_ix ix_list (pv 0) pe_int (fun _ _ => rfl))) (pg_name (i := 2) sc_law_letters.nd rfl (Or.inl rfl)) (pss_one (ps_for PassesOwn.never rfl (pi_seq (pe_ix ix_list (pv 2) pe_int (fun _ _ => rfl))) (pg_name (i := 3) sc_law_letters.nd rfl (Or.inl rfl)) (pss_one (ps_dput (hu_of hr) (pv 1) (pe_ix ix_tup (pv 3) pe_int (fun _ _ => rfl)) (pe_ix ix_list (pv 2) pe_int (fun _ _ => rfl)) rfl)))))
      (pss_cons (ps_set (i := 4) sc_law_letters.nd rfl (Or.inr rfl) (pe_lst pa_nil))
      (pss_cons (ps_for PassesOwn.never rfl (pi_seq (pe_ix ix_list (pv 0) pe_int (fun _ _ => rfl))) (pg_name (i := 2) sc_law_letters.nd rfl (Or.inl rfl)) (pss_one (ps_for PassesOwn.never rfl (pi_seq (pe_ix ix_list (pv 2) pe_int (fun _ _ => rfl))) (pg_name (i := 3) sc_law_letters.nd rfl (Or.inl rfl)) (pss_one (ps_if (PW.pt (pw_and (pt_cmp (pc_din (hu_of hr) (pe_ix ix_tup (pv 3) pe_int (fun _ _ => rfl)) (pv 1)) (by rfl)) (pw_and1 (pt_cmpR op_le (pe_ix ix_list (pv 2) pe_int (fun _ _ => rfl)) (pe_dget (hu_of hr) (pv 1) (pe_ix ix_tup (pv 3) pe_int (fun _ _ => rfl)) (fun _ _ => rfl)) (nomark _))))) (pss_one (ps_expr (pe_bm PySem.F.plainAttrs_list PySem.F.slot_list_append PySem.F.type_list_append mt_append (pv 4) (pa_cons (pe_ix ix_tup (pv 3) pe_int (fun _ _ => rfl)) pa_nil)))) pss_nil)))))
      (pss_one (ps_ret (pe_lc (own := [("_law_wire", 3)]) rfl sc_law_letters.nd (pi_seq (pe_ix ix_list (pv 0) pe_int (fun _ _ => rfl))) (blkOk_by (own := [("_law_wire", 3)]) (N := ["_law_chart_here", "_law_days_here", "_law_box_here", "_law_wire", "_law_found"]) (sc := defScope s_law_letters) (by decide +kernel)) (fun _ _ _ _ _ => (pg_name (i := 3) sc_law_letters.nd rfl (Or.inl rfl))) (fun _ _ _ _ _ => pts_one (pt_cmpR (show OpR _ _ (rIn K false) from op_in_seq) (pe_ix (show IxR _ (rIxT K) from ix_tup) (pv 3) pe_int (fun _ _ => rfl)) (pv 4) (by rfl))) (fun _ _ _ _ _ => (pv 3))))))))), ?_⟩
  have b3 := ho.boxes3
  have w6 := ho.wires6
  have lb := Paired.length hB
  have lw := Paired.length hW
  refine fun d hd => ?_
  have hdG := g.free hd
  have e0 := same_new (o := .dK []) hd
  refine ⟨_, rfl, _, _, _, _, rfl, rfl, (g.trans e0).seq ha, rfl, tb, bv, rfl, fr_seq (.inl hb) (fun i σ H' => Gr M0 G H G H' ∧ H' d = some (.dK (kvI (mdict (c.boxes.take i)))) ∧ (mdict (c.boxes.take i)).length ≤ 6 * i ∧ ∃ r r', σ = [some (.ref a), some (.ref d), r, r', none])
    ⟨(Gr.refl g).new hd, upd_at, Nat.le_refl _, _, _, rfl⟩ (fun i σ H' h => h.1.gh) (fun i v σ H1 hv ⟨gr, hd1, hle, r, r', es⟩ => ?_) (fun σ H1 ⟨gr, hd1, hle, r, r', es⟩ => ?_)⟩
  · subst es
    have hi : i < bv.length := (List.getElem?_eq_some_iff.1 hv).1
    obtain ⟨b, hbi, hbv⟩ := paired_at hB hv
    have hbo := ho.boxes b (List.mem_of_getElem? hbi)
    obtain ⟨x, _, _, _, rfl, hx, _, ⟨tm, mv, rfl, hm, hM⟩, _⟩ := hbv
    have m6 := hbo.makes6
    refine ⟨_, rfl, _, _, _, _, rfl, rfl, gr.gh.seq hx, rfl, tm, mv, rfl, fr_seq (.inl hm) (fun j σ H' => Gr M0 G H G H' ∧ H' d = some (.dK (kvI (mday (mdict (c.boxes.take i)) b (b.makes.take j)))) ∧ ∃ r', σ = [some (.ref a), some (.ref d), some (.ref x), r', none])
      ⟨gr, hd1, _, rfl⟩ (fun i σ H' h => h.1.gh) (fun j v σ H2 hv ⟨gr, hd2, r', es⟩ => ?_) (fun σ H2 ⟨gr, hd2, r', es⟩ => ?_)⟩
    · subst es
      obtain ⟨q1, y, hy, rfl, hc⟩ := wire_at hM hv gr.gh
      refine ⟨_, rfl, _, _, _, _, rfl, rfl, gr.gh.seq hx, rfl, _, rfl, _, rfl, _, _, _, _, rfl, rfl, hc, rfl, d, _, rfl, DPut.k (k := Sum.inr y.1) hd2 (small_lt ?_), ?_⟩
      · rw [kvI_len]
        have := mday_len b (b.makes.take j) (mdict (c.boxes.take i))
        rw [List.length_take] at this
        omega
      · refine ⟨gr.write hd hdG, ?_, _, rfl⟩
        rw [upd_at, kvI_put]
        unfold mday
        rw [foldl_snoc hy]
    · subst es
      have e : mdict (c.boxes.take (i + 1)) = mday (mdict (c.boxes.take i)) b b.makes := by
        unfold mdict
        rw [foldl_snoc hbi]
      rw [Paired.length hM, List.take_length, ← e] at hd2
      refine ⟨gr, hd2, ?_, _, _, rfl⟩
      rw [e]
      have := mday_len b b.makes (mdict (c.boxes.take i))
      omega
  subst es
  rw [lb, List.take_length] at hd1
  have gr1 := gr.shut hd hdG hd1
  have hdS : upd G d (.dK (kvI (mdict c.boxes))) d = some (.dK (kvI (mdict c.boxes))) := upd_at
  have s1 := same_new hdG (o := .dK (kvI (mdict c.boxes)))
  have eD : lets c.boxes = letP (mdict c.boxes) (allPairs c.boxes) := rfl
  generalize upd G d (.dK (kvI (mdict c.boxes))) = G1 at gr1 hdS s1
  generalize mdict c.boxes = D at hdS eD
  clear gr
  refine ⟨(show 0 ≤ sizeLine by decide), fun f hf => ?_⟩
  have hf0 := gr1.dm f hf
  have hfG := gr1.gh.free hf
  have hfg := s1.free hfG
  refine ⟨_, rfl, _, _, _, _, rfl, rfl, (gr1.to.trans (same_new hf)).seq ha, rfl, tb, bv, rfl, fr_seq (.inl (s1.seq hb)) (fun i σ H' => Gr M0 G H G1 H' ∧ H' f = some (.lst ((letP D (allPairs (c.boxes.take i))).map V.str)) ∧ ∃ r r', σ = [some (.ref a), some (.ref d), r, r', some (.ref f)])
    ⟨gr1.new hf, upd_at, _, _, rfl⟩ (fun i σ H' h => h.1.gh) (fun i v σ H2 hv ⟨gr, hf2, r, r', es⟩ => ?_) (fun σ H2 ⟨gr, hf2, r, r', es⟩ => ?_)⟩
  · subst es
    have hi : i < bv.length := (List.getElem?_eq_some_iff.1 hv).1
    obtain ⟨b, hbi, hbv⟩ := paired_at hB hv
    have hbo := ho.boxes b (List.mem_of_getElem? hbi)
    obtain ⟨x, _, _, _, rfl, hx, ⟨tt, tv, rfl, ht, hT⟩, _⟩ := hbv
    have m6 := hbo.takes6
    have hx := s1.seq hx
    have lt := Paired.length hT
    have hll : (allPairs (c.boxes.take i)).length ≤ 6 * i := by
      have : ∀ l : List LB, (∀ b ∈ l, BoxOk b) → (allPairs l).length ≤ 6 * l.length := by
        intro l
        induction l with
        | nil => intro _; simp [allPairs]
        | cons b l ih =>
          intro h
          have h1 := ih fun x m => h x (.tail _ m)
          have h2 := (h b (.head _)).takes6
          unfold allPairs at h1 ⊢
          rw [List.flatMap_cons, List.length_append, List.length_cons]
          unfold pairsOf at h1 ⊢
          rw [List.length_map]
          omega
      have h := this (c.boxes.take i) fun b m => ho.boxes b (List.mem_of_mem_take m)
      rw [List.length_take] at h
      omega
    refine ⟨_, rfl, _, _, _, _, rfl, rfl, gr.gh.seq hx, rfl, tt, tv, rfl, fr_seq (.inl (s1.seq ht)) (fun j σ H' => Gr M0 G H G1 H' ∧ H' f = some (.lst ((letP D (allPairs (c.boxes.take i) ++ pairsOf b (b.takes.take j))).map V.str)) ∧ ∃ r', σ = [some (.ref a), some (.ref d), some (.ref x), r', some (.ref f)])
      ⟨gr, by simpa [pairsOf] using hf2, _, rfl⟩ (fun i σ H' h => h.1.gh) (fun j v σ H3 hv ⟨gr, hf3, r', es⟩ => ?_) (fun σ H3 ⟨gr, hf3, r', es⟩ => ?_)⟩
    · subst es
      have hj : j < tv.length := (List.getElem?_eq_some_iff.1 hv).1
      obtain ⟨q1, y, hy, rfl, hc⟩ := wire_at (paired_up s1 hT) hv gr.gh
      have hd3 := gr.gh _ _ hdS
      have epre : pairsOf b (b.takes.take (j + 1)) = pairsOf b (b.takes.take j) ++ [(b.day, y.1)] := by
        unfold pairsOf
        rw [take_snoc hy, List.map_append]
        rfl
      have hg : DGet H3 d (.str y.1) ((getS D y.1).map V.int) := by
        rw [← kvI_get]
        exact DGet.k (k := Sum.inr y.1) hd3
      refine ⟨_, rfl, _, _, _, _, rfl, rfl, hc, rfl, _, rfl, d, _, rfl, hg, _, rfl, ?_⟩
      have skip : late D (b.day, y.1) = false → Gr M0 G H G1 H3 ∧ H3 f = some (.lst ((letP D (allPairs (c.boxes.take i) ++ pairsOf b (b.takes.take (j + 1)))).map V.str)) ∧ ∃ r', [some (V.ref a), some (.ref d), some (.ref x), some (.ref q1), some (.ref f)] = [some (V.ref a), some (.ref d), some (.ref x), r', some (.ref f)] := fun hlt => by
        refine ⟨gr, ?_, _, rfl⟩
        rw [epre, ← List.append_assoc, letP_app D _ [(b.day, y.1)]]
        rw [show letP D [(b.day, y.1)] = [] from by unfold letP; rw [List.filter_cons_of_neg (by rw [hlt]; decide)]; rfl, List.append_nil]
        exact hf3
      cases hgy : getS D y.1 with
      | none =>
        refine iteF ?_
        exact skip (by unfold late; rw [hgy])
      | some m =>
        rw [hgy] at hg
        refine iteT ⟨_, rfl, _, _, _, _, rfl, rfl, gr.gh.seq hx, rfl, _, rfl, _, rfl, _, _, _, _, rfl, rfl, hc, rfl, d, _, rfl, hg, _, _, rfl, rfl, _, rfl, ?_⟩
        refine ite2 (fun z => ?_) (fun z => skip (by unfold late; rw [hgy]; exact decide_eq_false fun y => z (decide_eq_true y)))
        have z := of_decide_eq_true z
        refine ⟨_, rfl, .inl ⟨rfl, _, .of hf3⟩, _, rfl, _, _, _, _, rfl, rfl, hc, rfl, f, _, _, rfl, rfl, hf3, small_lt ?_, gr.write hf0 hfG, ?_, _, rfl⟩
        · rw [List.length_map]
          unfold letP
          rw [List.length_map]
          have := List.length_filter_le (late D) (allPairs (c.boxes.take i) ++ pairsOf b (b.takes.take j))
          have e2 : (pairsOf b (b.takes.take j)).length ≤ 6 := by unfold pairsOf; rw [List.length_map, List.length_take]; omega
          rw [List.length_append] at this
          omega
        · rw [upd_at, epre, ← List.append_assoc, letP_app D _ [(b.day, y.1)]]
          rw [show letP D [(b.day, y.1)] = [y.1] from by unfold letP; rw [List.filter_cons_of_pos (by unfold late; rw [hgy]; exact decide_eq_true z)]; rfl]
          rw [List.map_append]
          rfl
    · subst es
      rw [lt, List.take_length] at hf3
      refine ⟨gr, ?_, _, _, rfl⟩
      unfold allPairs at hf3 ⊢
      rw [take_snoc hbi, List.flatMap_append, List.flatMap_cons, List.flatMap_nil, List.append_nil]
      exact hf3
  subst es
  rw [lb, List.take_length, ← eD] at hf2
  have gr2 := gr.shut hf0 hfG hf2
  have s2 := same_new hfG (o := .lst ((lets c.boxes).map V.str))
  have hfS : upd G1 f (.lst ((lets c.boxes).map V.str)) f = some (.lst ((lets c.boxes).map V.str)) := upd_at
  generalize upd G1 f (.lst ((lets c.boxes).map V.str)) = G2 at gr2 s2 hfS
  have s12 := s1.trans s2
  refine ⟨_, rfl, _, _, _, _, rfl, rfl, gr2.to.seq ha, rfl, tw, wv, rfl, .inl ⟨gr2.to.seq hw, ?_⟩⟩
  refine lcF (K := K) (S := rW K) walk_list c.wires (fun x : Wire => decide (x.1 ∈ lets c.boxes)) id lw (by omega) gr2.gh (fun H' e => (s12.trans e).seq hw) (fun i x' Ha Ha' Ga y Q' R hy gr3 ⟨e, hx⟩ k kn => ?_) (fun Gb Hb L vs gr3 hL hP hn => ?_)
  · subst e
    obtain ⟨y', hy', hyv⟩ := paired_at hW hx
    obtain ⟨q2, rfl, hc⟩ := wire_up (s12.trans gr3.to) hyv
    rw [hy'] at hy
    cases hy
    refine ⟨rfl, _, rfl, _, _, _, _, rfl, rfl, hc, rfl, _, rfl, _, _, rfl, .inl (.of (gr3.to _ _ hfS)), rfl, flat_strs _, _, rfl, ?_⟩
    rw [show (if false = true then !inV (.str y.1) ((lets c.boxes).map V.str) else inV (.str y.1) ((lets c.boxes).map V.str)) = decide (y.1 ∈ lets c.boxes) from in_strs _ _]
    refine ite2 (fun z => ⟨_, rfl, k _ _ _ (.refl gr3.gh) z (Up.up (s12.trans gr3.gg) hyv)⟩) (fun z => kn _ _ (.refl gr3.gh) (Bool.eq_false_iff.2 z))
  · rw [List.map_id] at hP
    exact q _ _ _ (gr2.trans gr3) ⟨L, vs, rfl, hL, hP⟩
theorem sc_law_ins : FnScope ["_law_chart_here", "_law_made", "_law_box_here", "_law_wire"] ["_law_chart_here"] (defScope s_law_ins) := ⟨rfl, rfl, rfl, by decide +kernel, rfl, by decide +kernel, by decide +kernel⟩
theorem c_law_ins (T : Tx K mg) : C8.Cal P w K mg base 1 "_law_ins" (spLt K insOf) [] := by
  refine mkCal T.f_law_ins sc_law_ins (fun _ _ _ _ _ _ us hl => match us, hl with | [_], _ => rfl) (fun vs H Q E h => ?_) (fun f cdv A outer s H vs Q E hr h => ?_)
  · obtain ⟨_, _, _, rfl, _⟩ := h
    rfl
  obtain ⟨G, v, c, rfl, g, ⟨a, _, _, o, rfl, ha, ⟨tw, wv, rfl, hw, hW⟩, ⟨tb, bv, rfl, hb, hB⟩, hout⟩, ho, q⟩ := h
  refine ⟨_, (pss_cons (ps_set (i := 1) sc_law_ins.nd rfl (Or.inr rfl) (pe_lst pa_nil))
      (pss_cons (ps_for PassesOwn.never rfl (pi_seq (pe_ix ix_list (pv 0) pe_int (fun _ _ => rfl))) (pg_name (i := 2) sc_law_ins.nd rfl (Or.inl rfl)) (pss_one (ps_set (i := 1) sc_law_ins.nd rfl (Or.inr rfl) (pe_op op_cat (pv 1) (pe_lc (own := [("_law_wire", 3)]) rfl sc_law_ins.nd (pi_seq (pe_ix ix_list (pv 2) pe_int (fun _ _ => rfl))) (blkOk_by (own := [("_law_wire", 3)]) (N := ["_law_chart_here", "_law_made", "_law_box_here", "_law_wire"]) (sc := defScope s_law_ins) (by decide +kernel)) (fun _ _ _ _ _ => (pg_name (i := 3) sc_law_ins.nd rfl (Or.inl rfl))) (fun _ _ _ _ _ => pts_nil) (fun _ _ _ _ _ => (pe_ix (show IxR _ (rIxT K) from ix_tup) (pv 3) pe_int (fun _ _ => rfl))))))))
      (pss_one (ps_ret (pe_lc (own := [("_law_wire", 3)]) rfl sc_law_ins.nd (pi_seq (pe_ix ix_list (pv 0) pe_int (fun _ _ => rfl))) (blkOk_by (own := [("_law_wire", 3)]) (N := ["_law_chart_here", "_law_made", "_law_box_here", "_law_wire"]) (sc := defScope s_law_ins) (by decide +kernel)) (fun _ _ _ _ _ => (pg_name (i := 3) sc_law_ins.nd rfl (Or.inl rfl))) (fun _ _ _ _ _ => pts_one (pt_cmpR (show OpR _ _ (rIn K true) from op_notIn_seq) (pe_ix (show IxR _ (rIxT K) from ix_tup) (pv 3) pe_int (fun _ _ => rfl)) (pv 1) (by rfl))) (fun _ _ _ _ _ => (pv 3))))))), ?_⟩
  have b3 := ho.boxes3
  have w6 := ho.wires6
  have lb := Paired.length hB
  have lw := Paired.length hW
  refine ⟨(show 0 ≤ sizeLine by decide), fun f hf => ?_⟩
  refine ⟨_, rfl, _, _, _, _, rfl, rfl, (g.trans (same_new hf)).seq ha, rfl, tb, bv, rfl, fr_seq (.inl hb) (fun i σ H' => ∃ G' f, Gr M0 G H G' H' ∧ H' f = some (.lst (((c.boxes.take i).flatMap fun b => names b.makes).map V.str)) ∧ ∃ r r', σ = [some (.ref a), some (.ref f), r, r'])
    ⟨G, f, (Gr.refl g).new hf, upd_at, _, _, rfl⟩ (fun i σ H' ⟨_, _, h, _⟩ => h.to) (fun i v σ H1 hv ⟨G1, f, gr, hf1, r, r', es⟩ => ?_) (fun σ H1 ⟨G1, f, gr, hf1, r, r', es⟩ => ?_)⟩
  · subst es
    have hi : i < bv.length := (List.getElem?_eq_some_iff.1 hv).1
    obtain ⟨b, hbi, hbv⟩ := paired_at hB hv
    have hbo := ho.boxes b (List.mem_of_getElem? hbi)
    obtain ⟨x, _, _, _, rfl, hx, _, ⟨tm, mv, rfl, hm, hM⟩, _⟩ := hbv
    have m6 := hbo.makes6
    have lm := Paired.length hM
    refine ⟨_, rfl, _, rfl, _, _, _, _, rfl, rfl, gr.to.seq hx, rfl, tm, mv, rfl, .inl ⟨gr.to.seq hm, ?_⟩⟩
    refine lcM (K := K) (S := rStr) walk_list (names b.makes) (by rw [lm, names_len]) (by rw [names_len]; omega) gr.gh (fun H' e => (gr.gg.trans e).seq hm) (fun j x' Ha Ha' Ga z Q' hz gr2 ⟨e, hx'⟩ k => ?_) (fun G2 H2 L vs gr2 hL hP hn => ?_) gName_mono
    · subst e
      obtain ⟨q1, y, hy, rfl, hq⟩ := wire_at hM hx' (gr.gg.trans gr2.to)
      refine ⟨rfl, _, rfl, _, _, _, _, rfl, rfl, hq, rfl, k _ _ _ (.refl gr2.gh) ?_⟩
      rw [← names_at hy hz]
      rfl
    · have hP := paired_strs hP
      subst hP
      have hf2 := gr2.hh f _ (fun z => z) hf1
      have hfl : ((c.boxes.take i).flatMap fun b => names b.makes).length ≤ 100 := by
        have : ∀ l : List LB, (∀ b ∈ l, BoxOk b) → (l.flatMap fun b => names b.makes).length ≤ 6 * l.length := by
          intro l
          induction l with
          | nil => intro _; simp
          | cons b l ih =>
            intro h
            have h1 := ih fun x m => h x (.tail _ m)
            have h2 := (h b (.head _)).makes6
            rw [List.flatMap_cons, List.length_append, List.length_cons, names_len]
            omega
        have h := this (c.boxes.take i) fun b m => ho.boxes b (List.mem_of_mem_take m)
        rw [List.length_take] at h
        omega
      refine ⟨f, L, _, _, rfl, rfl, hf2, gr2.gh _ _ hn, small_of (by rw [List.length_map, List.length_map, names_len]; omega), fun p hp => ⟨G2, p, (gr.trans gr2).new hp, ?_, _, _, rfl⟩⟩
      rw [upd_at, take_snoc hbi, List.flatMap_append, List.flatMap_cons, List.flatMap_nil, List.append_nil, List.map_append]
  subst es
  rw [lb, List.take_length] at hf1
  -- the list of the made: it stands
  have hmade : ∀ z : Str, (getS (mdict c.boxes) z).isSome = decide (z ∈ c.boxes.flatMap fun b => names b.makes) := fun z => by
    have := getS_mdict z c.boxes []
    rw [show (getS [] z).isSome = false from rfl, Bool.false_or] at this
    exact this
  refine ⟨_, rfl, _, _, _, _, rfl, rfl, gr.to.seq ha, rfl, tw, wv, rfl, .inl ⟨gr.to.seq hw, ?_⟩⟩
  refine lcF (K := K) (S := rW K) walk_list c.wires (fun x : Wire => !(getS (mdict c.boxes) x.1).isSome) id lw (by omega) gr.gh (fun H' e => (gr.gg.trans e).seq hw) (fun i x' Ha Ha' Ga y Q' R hy gr3 ⟨e, hx⟩ k kn => ?_) (fun Gb Hb L vs gr3 hL hP hn => ?_)
  · subst e
    obtain ⟨y', hy', hyv⟩ := paired_at hW hx
    obtain ⟨q2, rfl, hc⟩ := wire_up (gr.gg.trans gr3.to) hyv
    rw [hy'] at hy
    cases hy
    refine ⟨rfl, _, rfl, _, _, _, _, rfl, rfl, hc, rfl, _, rfl, _, _, rfl, .inl (.of (gr3.all _ _ hf1)), rfl, flat_strs _, _, rfl, ?_⟩
    rw [show (if true = true then !inV (.str y.1) ((c.boxes.flatMap fun b => names b.makes).map V.str) else inV (.str y.1) ((c.boxes.flatMap fun b => names b.makes).map V.str)) = !(getS (mdict c.boxes) y.1).isSome from by rw [if_pos rfl, in_strs, hmade]]
    refine ite2 (fun z => ⟨_, rfl, k _ _ _ (.refl gr3.gh) z (Up.up (gr.gg.trans gr3.gg) hyv)⟩) (fun z => kn _ _ (.refl gr3.gh) (Bool.eq_false_iff.2 z))
  · rw [List.map_id] at hP
    exact q _ _ _ (gr.trans gr3) ⟨L, vs, rfl, hL, hP⟩
end
end K6

set_option Elab.async false
set_option linter.all false
set_option maxRecDepth 100000
set_option maxHeartbeats 4000000
namespace K6
open PySem PySem.Spec PyProof.Rows L2
section
variable {P : Program} {w : World} {K : PySem.W.Frag} {mg : Str → Option Value} {base : Heap}
def spPo (K : PySem.W.Frag) (f : LC → List Wire) : Sp := fun vs H Q _ => ∃ (G : Hp) (v : V) (c : LC), vs = [v] ∧ Same G H ∧ rLC K G v c ∧ ChartOk c ∧ ∀ G' H' v', Gr M0 G H G' H' → rL K (rT K rInt) G' v' (fillsI (sizes (f c))) → Q v' H'
theorem size_sub {c : LC} (ho : ChartOk c) (p : Wire → Bool) : ∀ n ∈ sizes (c.wires.filter p), SizeOk n := fun n m => by
  obtain ⟨y, hy, rfl⟩ := List.mem_map.1 m
  have := ho.wires.1 y (List.mem_filter.1 hy).1
  exact ⟨by have := this.2.1; omega, by have := this.2.2; omega⟩
theorem sc_law_posts : FnScope ["_law_chart_here"] ["_law_chart_here"] (defScope s_law_posts) := ⟨rfl, rfl, rfl, by decide +kernel, rfl, by decide +kernel, by decide +kernel⟩
theorem c_law_posts (T : Tx K mg) : C8.Cal P w K mg base 3 "_law_posts" (spPo K letters) [] := by
  refine mkCal T.f_law_posts sc_law_posts (fun _ _ _ _ _ _ us hl => match us, hl with | [_], _ => rfl) (fun vs H Q E h => ?_) (fun f cdv A outer s H vs Q E hr h => ?_)
  · obtain ⟨_, _, _, rfl, _⟩ := h
    rfl
  obtain ⟨G, v, c, rfl, g, hc, ho, q⟩ := h
  refine ⟨_, (pss_one (ps_ret (C8.pe_c (c_law_fillings T) hr (by decide) (by rfl) (pa_cons (C8.pe_c (c_law_size T) hr (by decide) (by rfl) (pa_cons (C8.pe_c (c_law_letters T) hr (by decide) (by rfl) (pa_cons (pv 0) pa_nil)) pa_nil)) pa_nil)))), ?_⟩
  have hp := ho.post
  have w6 := ho.wires6
  have l6 : (letters c).length ≤ 6 := Nat.le_trans (List.length_filter_le _ _) w6
  refine ⟨_, rfl, G, v, c, rfl, g, hc, ho, fun G1 H1 v1 gr1 h1 => ?_⟩
  obtain ⟨a, us, rfl, ha, hP⟩ := h1
  exact ⟨G1, a, us, letters c, rfl, gr1.gh, ha, hP, by omega, fun G2 H2 p gr2 h2 => ⟨G2, p, _, rfl, gr2.gh, h2, by rw [sizes_len]; exact l6, size_sub ho _, by omega, fun G3 H3 v3 gr3 h3 => q _ _ _ ((gr1.trans gr2).trans gr3) h3⟩⟩
theorem sc_law_all_ins : FnScope ["_law_chart_here"] ["_law_chart_here"] (defScope s_law_all_ins) := ⟨rfl, rfl, rfl, by decide +kernel, rfl, by decide +kernel, by decide +kernel⟩
theorem c_law_all_ins (T : Tx K mg) : C8.Cal P w K mg base 3 "_law_all_ins" (spPo K insOf) [] := by
  refine mkCal T.f_law_all_ins sc_law_all_ins (fun _ _ _ _ _ _ us hl => match us, hl with | [_], _ => rfl) (fun vs H Q E h => ?_) (fun f cdv A outer s H vs Q E hr h => ?_)
  · obtain ⟨_, _, _, rfl, _⟩ := h
    rfl
  obtain ⟨G, v, c, rfl, g, hc, ho, q⟩ := h
  refine ⟨_, (pss_one (ps_ret (C8.pe_c (c_law_fillings T) hr (by decide) (by rfl) (pa_cons (C8.pe_c (c_law_size T) hr (by decide) (by rfl) (pa_cons (C8.pe_c (c_law_ins T) hr (by decide) (by rfl) (pa_cons (pv 0) pa_nil)) pa_nil)) pa_nil)))), ?_⟩
  have hp := ho.ins
  have w6 := ho.wires6
  have l6 : (insOf c).length ≤ 6 := Nat.le_trans (List.length_filter_le _ _) w6
  refine ⟨_, rfl, G, v, c, rfl, g, hc, ho, fun G1 H1 v1 gr1 h1 => ?_⟩
  obtain ⟨a, us, rfl, ha, hP⟩ := h1
  exact ⟨G1, a, us, insOf c, rfl, gr1.gh, ha, hP, by omega, fun G2 H2 p gr2 h2 => ⟨G2, p, _, rfl, gr2.gh, h2, by rw [sizes_len]; exact l6, size_sub ho _, by omega, fun G3 H3 v3 gr3 h3 => q _ _ _ ((gr1.trans gr2).trans gr3) h3⟩⟩
/-! ### _law_built -/
def spBu (K : PySem.W.Frag) : Sp := fun vs H Q _ => ∃ (G : Hp) (v : V) (c : LC), vs = [v] ∧ Same G H ∧ rLC K G v c ∧ ChartOk c ∧ ∀ G' H' v', Gr M0 G H G' H' → rChart K G' v' c → Q v' H'
theorem sc_law_built : FnScope ["_law_chart_here", "_law_box_here"] ["_law_chart_here"] (defScope s_law_built) := ⟨rfl, rfl, rfl, by decide +kernel, rfl, by decide +kernel, by decide +kernel⟩
theorem c_law_built (T : Tx K mg) : C8.Cal P w K mg base 9 "_law_built" (spBu K) [] := by
  refine mkCal T.f_law_built sc_law_built (fun _ _ _ _ _ _ us hl => match us, hl with | [_], _ => rfl) (fun vs H Q E h => ?_) (fun f cdv A outer s H vs Q E hr h => ?_)
  · obtain ⟨_, _, _, rfl, _⟩ := h
    rfl
  obtain ⟨G, v, c, rfl, g, ⟨a, _, _, _, rfl, ha, ⟨tw, wv, rfl, hw, hW⟩, ⟨tb, bv, rfl, hb, hB⟩, ⟨to, ov, rfl, hto, hO⟩⟩, ho, q⟩ := h
  have hO := paired_strs hO
  subst hO
  refine ⟨_, (pss_one (ps_ret (C8.pe_mk (c_Chart T) hr (by decide) (by rfl) (pa_cons (pe_callTy call_list_of (by rfl) T.list bt_list (pa_cons (pe_ix ix_list (pv 0) pe_int (fun _ _ => rfl)) pa_nil)) (pa_cons (pe_lc (own := [("_law_box_here", 1)]) rfl sc_law_built.nd (pi_seq (pe_ix ix_list (pv 0) pe_int (fun _ _ => rfl))) (blkOk_by (own := [("_law_box_here", 1)]) (N := ["_law_chart_here", "_law_box_here"]) (sc := defScope s_law_built) (by decide +kernel)) (fun _ _ _ _ _ => (pg_name (i := 1) sc_law_built.nd rfl (Or.inl rfl))) (fun _ _ _ _ _ => pts_nil) (fun _ _ _ _ _ => (C8.pe_c (c_law_box T) hr (by decide) (by rfl) (pa_cons (pv 1) pa_nil)))) (pa_cons (pe_callTy call_list_of (by rfl) T.list bt_list (pa_cons (pe_ix ix_list (pv 0) pe_int (fun _ _ => rfl)) pa_nil)) pa_nil)))))), ?_⟩
  have b3 := ho.boxes3
  have lb := Paired.length hB
  refine ⟨_, rfl, _, _, _, _, rfl, rfl, g.seq ha, rfl, _, _, rfl, .inl (g.seq hw), fun l1 hl1 => ?_⟩
  have gr1 := (Gr.refl (M := M0) g).seal (o := .lst wv) hl1
  have hL1 : upd G l1 (.lst wv) l1 = some (.lst wv) := upd_at
  generalize upd G l1 (.lst wv) = G1 at gr1 hL1
  generalize upd H l1 (.lst wv) = H1 at gr1 ⊢
  refine ⟨_, rfl, _, _, _, _, rfl, rfl, gr1.to.seq ha, rfl, tb, bv, rfl, .inl ⟨gr1.to.seq hb, ?_⟩⟩
  refine lcM (K := K) (S := rBox K) walk_list c.boxes lb (by omega) gr1.gh (fun H' e => (gr1.gg.trans e).seq hb) (fun j x Ha Ha' Ga z Q' hz gr2 ⟨e, hx⟩ k => ?_) (fun G2 H2 L vs2 gr2 hL hP2 hn => ?_) gName_mono
  · subst e
    obtain ⟨b, hbz, hbv⟩ := paired_at hB hx
    rw [hbz] at hz
    cases hz
    exact ⟨rfl, _, rfl, Ga, _, z, rfl, gr2.gh, Up.up (gr1.gg.trans gr2.gg) hbv, ho.boxes z (List.mem_of_getElem? hbz), fun G3 H3 v3 gr3 h3 => k _ _ _ gr3 h3⟩
  have gr2' := gr1.trans gr2
  refine ⟨_, rfl, _, _, _, _, rfl, rfl, gr2'.to.seq ha, rfl, _, _, rfl, .inl (gr2'.to.seq hto), fun l3 hl3 => ?_⟩
  have gr3 := gr2'.seal (o := .lst (c.outs.map V.str)) hl3
  have s3 := same_new (gr2'.gh.free hl3) (o := .lst (c.outs.map V.str))
  refine mk_chart gr3.gh ⟨⟨l1, _, rfl, .of ((gr2.gg.trans s3) _ _ hL1), paired_up gr3.gg hW⟩, ⟨L, vs2, rfl, s3.seq hL, paired_up s3 hP2⟩, .of upd_at⟩ ho (fun G' H' v' gr5 h5 => q _ _ _ (gr3.trans gr5) h5)
/-! ### _law_step -/
def rSL (K : PySem.W.Frag) : Rl Sta := fun G v st => ∃ a u d s, v = .ref a ∧ SqL K G a [u, d, s] ∧ rD G u st.1 ∧ rD G d st.2.1 ∧ rRt K G s st.2.2
instance : Up (rSL K) := ⟨fun e ⟨a, t, m, n, h0, h1, h2, h3, h4⟩ => ⟨a, t, m, n, h0, e.seq h1, Up.up e h2, Up.up e h3, Up.up e h4⟩⟩
abbrev gl3 (K : PySem.W.Frag) (i j k : Nat) : TG := gLst K 3 (gCons (gName i) (gCons (gName j) (gCons (gName k) gNil)))
theorem gl3_at {i j k : Nat} {a : Addr} {x y z : V} {σ : L2.St} {H : Hp} {Q : L2.St → Hp → Prop} (h : SqL K H a [x, y, z]) (q : Q (((σ.set i (some x)).set j (some y)).set k (some z)) H) : gl3 K i j k (.ref a) σ H Q :=
  ⟨a, [x, y, z], rfl, h, rfl, x, [y, z], rfl, y, [z], rfl, z, [], rfl, rfl, q⟩
theorem sms_nm {k : Int} (h0 : 0 ≤ k) (h6 : k ≤ 6) : SmS (nm k 6) := by
  have h1 := nm_nn (a := k) (b := 6) (by decide) h0
  have h2 := nm_le1 (a := k) (b := 6) (by decide) h0
  have h3 := nm_pos (a := k) (b := 6) (by decide)
  have h4 := nm_le (a := k) (b := 6) (by decide)
  exact ⟨h1, by omega, h3, by omega⟩
def spSp (K : PySem.W.Frag) : Sp := fun vs H Q _ => ∃ (G : Hp) (v : V) (a c : Addr) (us : List V) (b : LB) (sts : List Sta) (ls : List Str), vs = [v, .ref a, .ref c] ∧ Same G H ∧ rLB K G v b ∧ BoxOk b ∧ SqL K G a us ∧ Paired (rSL K G) us sts ∧ SqL K G c (ls.map V.str) ∧ (∀ st ∈ sts, StOk b st) ∧ sts.length ≤ 1000 ∧
  ∀ G' H' v', Gr M0 G H G' H' → rL K (rSL K) G' v' (stepM ls b sts) → Q v' H'
theorem sc_law_step : FnScope ["_law_box_here", "_law_ways", "_law_letters_here", "_law_out", "_law_worths", "_law_sent", "_law_share", "_law_told", "_law_row", "_law_part_here", "_law_known", "_law_other", "_law_at", "_law_name_here", "_law_wire"] ["_law_box_here", "_law_ways", "_law_letters_here"] (defScope s_law_step) := ⟨rfl, rfl, rfl, by decide +kernel, rfl, by decide +kernel, by decide +kernel⟩
theorem c_law_step (T : Tx K mg) : C8.Cal P w K mg base 4 "_law_step" (spSp K) [] := by
  refine mkCal T.f_law_step sc_law_step (fun _ _ _ _ _ _ us hl => match us, hl with | [_, _, _], _ => rfl) (fun vs H Q E h => ?_) (fun f cdv A outer s H vs Q E hr h => ?_)
  · obtain ⟨_, _, _, _, _, _, _, _, rfl, _⟩ := h
    rfl
  obtain ⟨G, v, a, c, us, b, sts, ls, rfl, g, ⟨x, _, _, _, rfl, hx, ⟨tt, tv, rfl, ht, hT⟩, ⟨tmk, mv, rfl, hm, hM⟩, ⟨te, ev, rfl, he, hE⟩⟩, hb, ha, hP, hls, hst, hsl, q⟩ := h
  have m6 := hb.makes6
  have n6 := hb.takes6
  have l1 := Paired.length hT
  have l3 := Paired.length hM
  have lp := Paired.length hP
  refine ⟨_, (pss_cons (ps_set (i := 3) sc_law_step.nd rfl (Or.inl rfl) (pe_lst pa_nil))
      (pss_cons (ps_for PassesOwn.never rfl (pi_seq (pv 1)) (pg_lst rfl (pgs_cons (pg_name (i := 4) sc_law_step.nd rfl (Or.inr rfl)) (pgs_cons (pg_name (i := 5) sc_law_step.nd rfl (Or.inl rfl)) (pgs_cons (pg_name (i := 6) sc_law_step.nd rfl (Or.inl rfl)) pgs_nil)))) (pss_cons (ps_setLc (i := 7) (own := [("_law_wire", 14)]) rfl sc_law_step.nd rfl rfl (sw_true rfl rfl rfl (by decide +kernel)) (pi_seq (pe_ix ix_list (pv 0) pe_int (fun _ _ => rfl))) (blkOk_by (own := [("_law_wire", 14)]) (N := ["_law_box_here", "_law_ways", "_law_letters_here", "_law_out", "_law_worths", "_law_sent", "_law_share", "_law_told", "_law_row", "_law_part_here", "_law_known", "_law_other", "_law_at", "_law_name_here", "_law_wire"]) (sc := defScope s_law_step) (by decide +kernel)) (fun _ _ _ _ _ => (pg_name (i := 14) sc_law_step.nd rfl (Or.inl rfl))) (fun _ _ _ _ _ => pts_nil) (fun _ _ _ _ _ => (pe_dget (hu_of hr) (pv 4) (pe_ix (show IxR _ (rIxT K) from ix_tup) (pv 14) pe_int (fun _ _ => rfl)) (fun _ _ => rfl))))
      (pss_one (ps_for PassesOwn.never rfl (pi_seq (pe_ix ix_list (pe_ix ix_list (pv 0) pe_int (fun _ _ => rfl)) (C8.pe_c (c_law_number T) hr (by decide) (by rfl) (pa_cons (C8.pe_c (c_law_size T) hr (by decide) (by rfl) (pa_cons (pe_ix ix_list (pv 0) pe_int (fun _ _ => rfl)) pa_nil)) (pa_cons (pv 7) pa_nil))) (fun _ _ => rfl))) (pg_tup rfl (pgs_cons (pg_name (i := 8) sc_law_step.nd rfl (Or.inl rfl)) (pgs_cons (pg_name (i := 9) sc_law_step.nd rfl (Or.inl rfl)) pgs_nil))) (pss_cons (ps_set (i := 10) sc_law_step.nd rfl (Or.inl rfl) (pe_callTy call_dictD (by rfl) T.dict bt_dict (pa_cons (pv 4) pa_nil)))
      (pss_cons (ps_set (i := 11) sc_law_step.nd rfl (Or.inl rfl) (pe_callTy call_dictD (by rfl) T.dict bt_dict (pa_cons (pv 5) pa_nil)))
      (pss_cons (ps_for PassesOwn.never rfl (pi_range1 (by rfl) T.range (pa_cons (pe_callB call_len_seq (by rfl) T.len bt_len (pa_cons (pv 8) pa_nil)) pa_nil)) (pg_name (i := 12) sc_law_step.nd rfl (Or.inl rfl)) (pss_cons (ps_set (i := 13) sc_law_step.nd rfl (Or.inl rfl) (pe_ix ix_tup (pe_ix ix_list (pe_ix ix_list (pv 0) pe_int (fun _ _ => rfl)) (pv 12) (fun _ _ => rfl)) pe_int (fun _ _ => rfl)))
      (pss_one (ps_if (pt_cmpR op_in_seq (pv 13) (pv 2) (by rfl)) (pss_one (ps_dput (hu_of hr) (pv 11) (pv 13) (pe_ix ix_tup (pv 8) (pv 12) (fun _ _ => rfl)) rfl)) (pss_one (ps_dput (hu_of hr) (pv 10) (pv 13) (pe_ix ix_tup (pv 8) (pv 12) (fun _ _ => rfl)) rfl))))))
      (pss_one (ps_expr (pe_bm PySem.F.plainAttrs_list PySem.F.slot_list_append PySem.F.type_list_append mt_append (pv 3) (pa_cons (pe_lst (pa_cons (pv 10) (pa_cons (pv 11) (pa_cons (C8.pe_c (c_law_times T) hr (by decide) (by rfl) (pa_cons (pv 6) (pa_cons (pv 9) pa_nil))) pa_nil)))) pa_nil)))))))))))
      (pss_one (ps_ret (pv 3))))), ?_⟩
  refine ⟨(show 0 ≤ sizeLine by decide), fun f hf => ?_⟩
  have hfG := g.free hf
  refine ⟨_, rfl, a, us, rfl, fr_seq (.inl ha) (fun i σ H' => ∃ G' vs, Gr M0 G H G' H' ∧ H' f = some (.lst vs) ∧ G' f = none ∧ Paired (rSL K G') vs (stepM ls b (sts.take i)) ∧ ∃ r1 r2 r3 r4 r5 r6 r7 r8 r9 r10 r11, σ = [some (.ref x), some (.ref a), some (.ref c), some (.ref f), r1, r2, r3, r4, r5, r6, r7, r8, r9, r10, r11])
    ⟨G, [], (Gr.refl g).new hf, upd_at, hfG, .nil, _, _, _, _, _, _, _, _, _, _, _, rfl⟩ (fun i σ H' ⟨_, _, h, _⟩ => h.to) (fun i v σ H1 hv ⟨G1, vs, gr, hf1, ho1, hvs, r1, r2, r3, r4, r5, r6, r7, r8, r9, r10, r11, es⟩ => ?_) (fun σ H1 ⟨G1, vs, gr, hf1, ho1, hvs, r1, r2, r3, r4, r5, r6, r7, r8, r9, r10, r11, es⟩ => ?_)⟩
  · subst es
    have hi : i < us.length := (List.getElem?_eq_some_iff.1 hv).1
    obtain ⟨st, hs, hsv⟩ := paired_at hP hv
    have hok := hst st (List.mem_of_getElem? hs)
    obtain ⟨sa, _, _, sv, rfl, hsa, ⟨wd, rfl, hwd⟩, ⟨sd, rfl, hsd⟩, hsh⟩ := hsv
    refine gl3_at (gr.to.seq hsa) ?_
    refine ⟨_, rfl, _, _, _, _, rfl, rfl, gr.to.seq hx, rfl, tt, tv, rfl, .inl ⟨gr.to.seq ht, ?_⟩⟩
    refine lcM (K := K) (S := rInt) walk_list (told st.1 b.takes) (by rw [l1, told, List.length_map]) (by rw [told, List.length_map]; omega) gr.gh (fun H' e => (gr.gg.trans e).seq ht) (fun j x' Ha Ha' Ga y Q' hy gr2 ⟨e, hx'⟩ k => ?_) (fun G2 H2 L vs2 gr2 hL hP2 hn => ?_) gName_mono
    · subst e
      obtain ⟨d, z, hz, rfl, hd⟩ := wire_at hT hx' (gr.gg.trans gr2.to)
      obtain ⟨n, hn, _⟩ := hok.has z (List.mem_of_getElem? hz)
      have hg : DGet Ha' wd (.str z.1) (some (.int n)) := by
        rw [show some (V.int n) = valV (kvI st.1) (Sum.inr z.1) from by rw [kvI_get, hn]; rfl]
        exact DGet.k (k := Sum.inr z.1) ((gr.gg.trans gr2.to) _ _ hwd)
      refine ⟨rfl, _, rfl, _, rfl, _, _, _, _, rfl, rfl, hd, rfl, wd, _, rfl, hg, k _ _ _ (.refl gr2.gh) ?_⟩
      have hy : (some z).map (fun x : Wire => (getS st.1 x.1).getD 0) = some y := by rw [← hz, ← List.getElem?_map]; exact hy
      have hy : (getS st.1 z.1).getD 0 = y := Option.some.inj hy
      rw [hn] at hy
      rw [← hy]
      rfl
    have hP2 := paired_ints hP2
    subst hP2
    have hf2 := gr2.hh f _ (fun z => z) hf1
    have ho2 := gr2.open_ hf1 ho1
    have hvs := paired_up gr2.gg hvs
    have gr := gr.trans gr2
    clear gr2
    have hent := ent_at hb hok
    have heo := ent_ok (d := st.1) hb
    obtain ⟨ve, hve, hvr⟩ := paired_to hE hent.2
    refine ⟨_, rfl, _, _, _, _, rfl, rfl, gr.to.seq hx, rfl, _, rfl, _, _, _, _, rfl, rfl, gr.to.seq hx, rfl, G2, tt, tv, b.takes, rfl, gr.gh, gr.gg.seq ht, paired_up gr.gg hT, by omega, fun G3 H3 p gr3 hp => ?_⟩
    have hei : atI ev (numI 0 (sizes b.takes) (told st.1 b.takes)) = some ve := by
      have := atI_nat hve
      rw [Int.toNat_of_nonneg hent.1] at this
      exact this
    have gr4 := gr.trans gr3
    refine ⟨_, rfl, p, L, sizes b.takes, told st.1 b.takes, rfl, gr3.gh.seq hp, gr3.to.seq hL, told_fil hok.has, size_ok hb.takes, by rw [sizes_len]; omega, te, ev, _, ve, rfl, rfl, gr4.to.seq he, hei, ?_⟩
    obtain ⟨ta, es, rfl, hta, hes⟩ := hvr
    have hf3 := gr3.hh f _ (fun z => z) hf2
    have ho3 := gr3.open_ hf2 ho2
    have hvs := paired_up gr3.gg hvs
    have hL3 := gr3.gg.seq hL
    clear gr3 gr
    have le := Paired.length hes
    have hsl2 := stepM_len (ls := ls) hb (sts.take i)
    have hti : (sts.take i).length = i := by rw [List.length_take]; omega
    refine ⟨ta, es, rfl, fr_seq (.inl hta) (fun j σ H' => ∃ G' vs, Gr M0 G H G' H' ∧ H' f = some (.lst vs) ∧ G' f = none ∧ Paired (rSL K G') vs (stepM ls b (sts.take i) ++ ((entAt b st.1).take j).map (stepR ls b st)) ∧ ∃ r1 r2 r3 r4 r5 r6 r7, σ = [some (.ref x), some (.ref a), some (.ref c), some (.ref f), some (.ref wd), some (.ref sd), some sv, some (.ref L), r1, r2, r3, r4, r5, r6, r7])
      ⟨G3, vs, gr4, hf3, ho3, by rw [List.take_zero, List.map_nil, List.append_nil]; exact hvs, _, _, _, _, _, _, _, rfl⟩ (fun j σ H' ⟨_, _, h, _⟩ => h.to) (fun j v σ H4 hv ⟨G4, vs4, gr4, hf4, ho4, hvs4, r1, r2, r3, r4, r5, r6, r7, es⟩ => ?_) (fun σ H4 ⟨G4, vs4, gr4, hf4, ho4, hvs4, r1, r2, r3, r4, r5, r6, r7, es⟩ => ?_)⟩
    · subst es
      have hj : j < es.length := (List.getElem?_eq_some_iff.1 hv).1
      obtain ⟨⟨row, k⟩, hr, hrv⟩ := paired_at hes hv
      obtain ⟨pa, _, pv, rfl, hpa, ⟨ra, rvs, rfl, hra, hrp⟩, hpv⟩ := hrv
      have hrp : rvs = row.map V.int := paired_ints hrp
      subst hrp
      obtain ⟨hrl, hk0, hk6, _⟩ := heo.2 (row, k) (List.mem_of_getElem? hr)
      have hrl : row.length = b.makes.length := hrl
      refine g2_at (sqt_up gr4.to hpa) ?_
      -- known
      refine ⟨_, rfl, wd, _, rfl, .inl (gr4.to _ _ hwd), fun p hp => ?_⟩
      have hp0 := gr4.dm p hp
      have hpG := gr4.gh.free hp
      have gr5 := gr4.new (o := .dK (kvI st.1)) hp
      have e5 := same_new (o := .dK (kvI st.1)) hp
      have hf5 := e5 _ _ hf4
      have hp5 : upd H4 p (.dK (kvI st.1)) p = some (.dK (kvI st.1)) := upd_at
      have hpf : p ≠ f := fun z => by rw [z] at hp; rw [hf4] at hp; cases hp
      generalize upd H4 p (.dK (kvI st.1)) = H5 at gr5 e5 hf5 hp5 ⊢
      -- told
      refine ⟨_, rfl, sd, _, rfl, .inl (gr5.to _ _ hsd), fun t ht => ?_⟩
      have ht0 := gr5.dm t ht
      have htG := gr5.gh.free ht
      have gr6 := gr5.new (o := .dK (kvI st.2.1)) ht
      have e6 := same_new (o := .dK (kvI st.2.1)) ht
      have hf6 := e6 _ _ hf5
      have hp6 := e6 _ _ hp5
      have ht6 : upd H5 t (.dK (kvI st.2.1)) t = some (.dK (kvI st.2.1)) := upd_at
      have htf : t ≠ f := fun z => by rw [z] at ht; rw [hf5] at ht; cases ht
      have htp : t ≠ p := fun z => by rw [z] at ht; rw [hp5] at ht; cases ht
      generalize upd H5 t (.dK (kvI st.2.1)) = H6 at gr6 e6 hf6 hp6 ht6 ⊢
      have hzl : (row.map V.int).length = row.length := List.length_map ..
      refine ⟨_, rfl, _, _, rfl, .inr (sqt_up gr6.to hra), _, rfl, by omega, by omega, fr_range (n := (row.map V.int).length) (fun n σ H' => Gr M0 G H G4 H' ∧ H' f = some (.lst vs4) ∧ H' p = some (.dK (kvI (putsR ls (st.1, st.2.1) ((b.makes.zip row).take n)).1)) ∧ H' t = some (.dK (kvI (putsR ls (st.1, st.2.1) ((b.makes.zip row).take n)).2)) ∧ ∃ r1 r6 r7, σ = [some (.ref x), some (.ref a), some (.ref c), some (.ref f), some (.ref wd), some (.ref sd), some sv, some (.ref L), some (.ref ra), some pv, some (.ref p), some (.ref t), r1, r6, r7])
        ⟨gr6, hf6, hp6, ht6, _, _, _, rfl⟩ (fun n σ H7 hn ⟨gr7, hf7, hp7, ht7, r1, r6, r7, es⟩ => ?_) (fun σ H7 ⟨gr7, hf7, hp7, ht7, r1, r6, r7, es⟩ => ?_)⟩
      · subst es
        obtain ⟨z, hz⟩ : ∃ z, b.makes[n]? = some z := ⟨b.makes[n]'(by omega), List.getElem?_eq_getElem (by omega)⟩
        obtain ⟨m, hm'⟩ : ∃ m, row[n]? = some m := ⟨row[n]'(by omega), List.getElem?_eq_getElem (by omega)⟩
        obtain ⟨zv, hzv, hzr⟩ := paired_to hM hz
        obtain ⟨d, rfl, hd⟩ := wire_up gr7.to hzr
        have hzm : (b.makes.zip row)[n]? = some (z, m) := List.getElem?_zip_eq_some.2 ⟨hz, hm'⟩
        have a1 : atI mv (0 + (n : Nat)) = some (.ref d) := by rw [Int.zero_add]; exact atI_nat hzv
        have a2 : atI (row.map V.int) (0 + (n : Nat)) = some (.int m) := by rw [Int.zero_add]; exact atI_nat (by rw [List.getElem?_map, hm']; rfl)
        have hpl := putsR_len ls ((b.makes.zip row).take n) (st.1, st.2.1)
        have hnl : ((b.makes.zip row).take n).length ≤ 6 := by rw [List.length_take, List.length_zip]; omega
        have hl1 := hok.len1
        have hl2 := hok.len2
        simp only at hpl
        have eput : putsR ls (st.1, st.2.1) ((b.makes.zip row).take (n + 1)) = putR ls (putsR ls (st.1, st.2.1) ((b.makes.zip row).take n)) (z, m) := by
          unfold putsR
          rw [foldl_snoc hzm]
        refine ⟨_, rfl, _, _, _, _, rfl, rfl, gr7.to.seq hx, rfl, _, rfl, _, _, _, _, rfl, rfl, gr7.to.seq hm, a1, _, _, _, _, rfl, rfl, hd, rfl, _, rfl, _, rfl, _, _, rfl, .inl (gr7.to.seq hls), rfl, flat_strs _, _, rfl, ?_⟩
        rw [show (if false = true then !inV (.str z.1) (ls.map V.str) else inV (.str z.1) (ls.map V.str)) = decide (z.1 ∈ ls) from in_strs _ _]
        refine ite2 (fun hin => ?_) (fun hin => ?_)
        · have hin := of_decide_eq_true hin
          refine ⟨_, rfl, _, rfl, _, _, _, _, rfl, rfl, sqt_up gr7.to hra, a2, _, rfl, _, rfl, t, _, rfl, DPut.k (k := Sum.inr z.1) ht7 (small_lt (by rw [kvI_len]; omega)), gr7.write ht0 htG, ?_, ?_, ?_, _, _, _, rfl⟩
          · rw [upd_ne (Ne.symm htf)]
            exact hf7
          · rw [upd_ne (Ne.symm htp), hp7, eput]
            unfold putR
            rw [if_pos hin]
          · rw [upd_at, kvI_put, eput]
            unfold putR
            rw [if_pos hin]
        · have hin : ¬ z.1 ∈ ls := fun y => hin (decide_eq_true y)
          refine ⟨_, rfl, _, rfl, _, _, _, _, rfl, rfl, sqt_up gr7.to hra, a2, _, rfl, _, rfl, p, _, rfl, DPut.k (k := Sum.inr z.1) hp7 (small_lt (by rw [kvI_len]; omega)), gr7.write hp0 hpG, ?_, ?_, ?_, _, _, _, rfl⟩
          · rw [upd_ne (Ne.symm hpf)]
            exact hf7
          · rw [upd_at, kvI_put, eput]
            unfold putR
            rw [if_neg hin]
          · rw [upd_ne htp, ht7, eput]
            unfold putR
            rw [if_neg hin]
      · subst es
        have ez : (b.makes.zip row).take (row.map V.int).length = b.makes.zip row := List.take_of_length_le (by rw [List.length_zip]; omega)
        rw [ez] at hp7 ht7
        have gr8 := gr7.shut hp0 hpG hp7
        have htG8 : upd G4 p (.dK (kvI (putsR ls (st.1, st.2.1) (b.makes.zip row)).1)) t = none := by rw [upd_ne htp]; exact htG
        have gr9 := gr8.shut ht0 htG8 ht7
        have s8 := (same_new hpG (o := .dK (kvI (putsR ls (st.1, st.2.1) (b.makes.zip row)).1))).trans (same_new htG8 (o := .dK (kvI (putsR ls (st.1, st.2.1) (b.makes.zip row)).2)))
        have hpS : upd (upd G4 p (.dK (kvI (putsR ls (st.1, st.2.1) (b.makes.zip row)).1))) t (.dK (kvI (putsR ls (st.1, st.2.1) (b.makes.zip row)).2)) p = some (.dK (kvI (putsR ls (st.1, st.2.1) (b.makes.zip row)).1)) := by rw [upd_ne (Ne.symm htp), upd_at]
        have htS : upd (upd G4 p (.dK (kvI (putsR ls (st.1, st.2.1) (b.makes.zip row)).1))) t (.dK (kvI (putsR ls (st.1, st.2.1) (b.makes.zip row)).2)) t = some (.dK (kvI (putsR ls (st.1, st.2.1) (b.makes.zip row)).2)) := upd_at
        have hfS : upd (upd G4 p (.dK (kvI (putsR ls (st.1, st.2.1) (b.makes.zip row)).1))) t (.dK (kvI (putsR ls (st.1, st.2.1) (b.makes.zip row)).2)) f = none := by rw [upd_ne (Ne.symm htf), upd_ne (Ne.symm hpf)]; exact ho4
        generalize upd (upd G4 p (.dK (kvI (putsR ls (st.1, st.2.1) (b.makes.zip row)).1))) t (.dK (kvI (putsR ls (st.1, st.2.1) (b.makes.zip row)).2)) = G9 at gr9 s8 hpS htS hfS
        refine ⟨_, rfl, .inl ⟨rfl, _, .of hf7⟩, _, rfl, _, rfl, _, rfl, _, rfl, _, _, _, _, rfl, Up.up gr9.to hsh, Up.up gr9.to hpv, hok.sm, sms_nm (by omega) hk6, fun u hu => ⟨(by show 3 ≤ sizeLine; decide), fun z hz => ?_⟩⟩
        have gr10 := gr9.seal (o := .tup [.int (tm st.2.2 (nm k 6)).1, .int (tm st.2.2 (nm k 6)).2]) hu
        have gr11 := gr10.seal (o := .lst [.ref p, .ref t, .ref u]) hz
        have sa := same_new (gr9.gh.free hu) (o := .tup [.int (tm st.2.2 (nm k 6)).1, .int (tm st.2.2 (nm k 6)).2])
        have sb := same_new (gr10.gh.free hz) (o := .lst [.ref p, .ref t, .ref u])
        have hfH : H f = none := hf
        have hf9 := same_new hz (o := .lst [.ref p, .ref t, .ref u]) _ _ (same_new hu (o := .tup [.int (tm st.2.2 (nm k 6)).1, .int (tm st.2.2 (nm k 6)).2]) _ _ hf7)
        have hfu : u ≠ f := fun z => by rw [z] at hu; rw [hf7] at hu; cases hu
        have hfz : z ≠ f := fun y => by rw [y, same_new hu (o := .tup [.int (tm st.2.2 (nm k 6)).1, .int (tm st.2.2 (nm k 6)).2]) _ _ hf7] at hz; cases hz
        refine ⟨f, vs4, _, rfl, rfl, hf9, small_lt ?_, ?_⟩
        · have := Paired.length hvs4
          rw [List.length_append, List.length_map, List.length_take] at this
          omega
        · refine ⟨_, _, gr11.write hfH ?_, upd_at, ?_, ?_, _, _, _, _, _, _, _, rfl⟩
          · rw [upd_ne (Ne.symm hfz), upd_ne (Ne.symm hfu)]
            exact hfS
          · rw [upd_ne (Ne.symm hfz), upd_ne (Ne.symm hfu)]
            exact hfS
          · rw [take_snoc hr, List.map_append, ← List.append_assoc]
            refine paired_snoc (paired_up ((s8.trans sa).trans sb) hvs4) ?_
            exact ⟨z, _, _, _, rfl, .of upd_at, ⟨p, rfl, (sa.trans sb) _ _ hpS⟩, ⟨t, rfl, (sa.trans sb) _ _ htS⟩, Up.up sb (rrt_new (x := tm st.2.2 (nm k 6)))⟩
    · subst es
      refine ⟨G4, vs4, gr4, hf4, ho4, ?_, _, _, _, _, _, _, _, _, _, _, _, rfl⟩
      rw [le, List.take_length] at hvs4
      have e : stepM ls b (sts.take (i + 1)) = stepM ls b (sts.take i) ++ (entAt b st.1).map (stepR ls b st) := by
        unfold stepM
        rw [take_snoc hs, List.flatMap_append, List.flatMap_cons, List.flatMap_nil, List.append_nil]
        rfl
      rw [e]
      exact hvs4
  · subst es
    rw [lp, List.take_length] at hvs
    exact ⟨_, rfl, q _ _ _ (gr.shut hf ho1 hf1) ⟨f, vs, rfl, .of upd_at, paired_up (same_new ho1) hvs⟩⟩
end
end K6

set_option Elab.async false
set_option linter.all false
set_option maxRecDepth 100000
set_option maxHeartbeats 4000000
namespace K6
open PySem PySem.Spec PyProof.Rows L2
/-! ### the boxes by their days, as the law walks them -/
def preD (bs : List LB) (i j : Nat) : List LB := ((List.range i).flatMap fun (d : Nat) => bs.filter fun b => decide (b.day = (d : Int))) ++ (bs.take j).filter fun b => decide (b.day = (i : Int))
theorem preD_zero (bs : List LB) (i : Nat) : preD bs i 0 = (List.range i).flatMap fun (d : Nat) => bs.filter fun b => decide (b.day = (d : Int)) := by
  unfold preD
  rw [List.take_zero, List.filter_nil, List.append_nil]
theorem preD_end (bs : List LB) (i : Nat) : preD bs i bs.length = preD bs (i + 1) 0 := by
  rw [preD_zero]
  unfold preD
  rw [List.take_length, List.range_succ, List.flatMap_append, List.flatMap_cons, List.flatMap_nil, List.append_nil]
theorem preD_yes {bs : List LB} {i j : Nat} {b : LB} (hb : bs[j]? = some b) (h : b.day = (i : Int)) : preD bs i (j + 1) = preD bs i j ++ [b] := by
  unfold preD
  rw [take_snoc hb, List.filter_append, List.filter_cons_of_pos (p := fun b : LB => decide (b.day = (i : Int))) (decide_eq_true h), List.filter_nil, List.append_assoc]
theorem preD_no {bs : List LB} {i j : Nat} {b : LB} (hb : bs[j]? = some b) (h : ¬ b.day = (i : Int)) : preD bs i (j + 1) = preD bs i j := by
  unfold preD
  rw [take_snoc hb, List.filter_append, List.filter_cons_of_neg (p := fun b : LB => decide (b.day = (i : Int))) (by rw [decide_eq_false h]; decide), List.filter_nil, List.append_nil]
theorem byDay_split {bs : List LB} {i j : Nat} {b : LB} (hi : i < 10) (hb : bs[j]? = some b) (h : b.day = (i : Int)) : ∃ r, byDay bs = preD bs i j ++ b :: r := by
  have e1 : List.range 10 = List.range i ++ (i :: (List.range' (i + 1) (9 - i))) := by
    rw [List.range_eq_range', List.range_eq_range']
    have : List.range' 0 10 = List.range' 0 i ++ List.range' (0 + i) (10 - i) := by
      rw [List.range'_append_1]
      congr 1
      omega
    rw [this, Nat.zero_add, show 10 - i = (9 - i) + 1 by omega, List.range'_succ]
  have e2 : bs = bs.take j ++ b :: bs.drop (j + 1) := by rw [← drop_cons hb, List.take_append_drop]
  refine ⟨((bs.drop (j + 1)).filter fun b => decide (b.day = (i : Int))) ++ ((List.range' (i + 1) (9 - i)).flatMap fun (d : Nat) => bs.filter fun b => decide (b.day = (d : Int))), ?_⟩
  unfold byDay preD
  rw [e1, List.flatMap_append, List.flatMap_cons]
  have e3 : (bs.filter fun b => decide (b.day = (i : Int))) = ((bs.take j).filter fun b => decide (b.day = (i : Int))) ++ b :: ((bs.drop (j + 1)).filter fun b => decide (b.day = (i : Int))) := by
    conv => lhs; rw [e2]
    rw [List.filter_append, List.filter_cons_of_pos (p := fun b : LB => decide (b.day = (i : Int))) (decide_eq_true h)]
  rw [e3]
  simp only [List.append_assoc, List.cons_append]
def foldD (c : LC) (ns ms : List Int) (l : List LB) : List Sta := l.foldl (fun s b => stepM (names (letters c)) b s) [initS c ns ms]
theorem foldD_at {c : LC} {ns ms : List Int} {l r : List LB} {b : LB} (h : byDay c.boxes = l ++ b :: r) : (byDay c.boxes)[l.length]? = some b ∧ statesAt c ns ms l.length = foldD c ns ms l := by
  unfold statesAt foldD
  rw [h]
  simp
theorem foldD_snoc (c : LC) (ns ms : List Int) (l : List LB) (b : LB) : foldD c ns ms (l ++ [b]) = stepM (names (letters c)) b (foldD c ns ms l) := by
  unfold foldD
  rw [List.foldl_append]
  rfl
section
variable {P : Program} {w : World} {K : PySem.W.Frag} {mg : Str → Option Value} {base : Heap}
def spDy (K : PySem.W.Frag) : Sp := fun vs H Q _ => ∃ (G : Hp) (v : V) (a b : Addr) (c : LC) (ns ms : List Int), vs = [v, .ref a, .ref b] ∧ Same G H ∧ rLC K G v c ∧ ChartOk c ∧ SqT K G a (ns.map V.int) ∧ SqT K G b (ms.map V.int) ∧ Fil (sizes (insOf c)) ns ∧ Fil (sizes (letters c)) ms ∧ Runs c ns ms ∧ ∀ G' H' v', Gr M0 G H G' H' → rL K (rRow3 K) G' v' (workedM c ns ms) → Q v' H'
theorem sc_law_days : FnScope ["_law_chart_here", "_law_x", "_law_y", "_law_letters_here", "_law_worths", "_law_at", "_law_ways", "_law_day", "_law_box_here", "_law_out", "_law_sent", "_law_share", "_law_wire", "_law_name_here"] ["_law_chart_here", "_law_x", "_law_y"] (defScope s_law_days) := ⟨rfl, rfl, rfl, by decide +kernel, rfl, by decide +kernel, by decide +kernel⟩
theorem c_law_days (T : Tx K mg) : C8.Cal P w K mg base 5 "_law_days" (spDy K) [] := by
  refine mkCal T.f_law_days sc_law_days (fun _ _ _ _ _ _ us hl => match us, hl with | [_, _, _], _ => rfl) (fun vs H Q E h => ?_) (fun f cdv A outer s H vs Q E hr h => ?_)
  · obtain ⟨_, _, _, _, _, _, _, rfl, _⟩ := h
    rfl
  obtain ⟨G, v, xa, ya, c, ns, ms, rfl, g, hc, ho, hxa, hya, hns, hms, runs, q⟩ := h
  have hchart := hc
  obtain ⟨a, _, _, _, rfl, ha, ⟨tw, wv, rfl, hw, hW⟩, ⟨tb, bv, rfl, hb, hB⟩, hout⟩ := hc
  refine ⟨_, (pss_cons (ps_setLc (i := 3) (own := [("_law_wire", 12)]) rfl sc_law_days.nd rfl rfl (sw_true rfl rfl rfl (by decide +kernel)) (pi_seq (C8.pe_c (c_law_letters T) hr (by decide) (by rfl) (pa_cons (pv 0) pa_nil))) (blkOk_by (own := [("_law_wire", 12)]) (N := ["_law_chart_here", "_law_x", "_law_y", "_law_letters_here", "_law_worths", "_law_at", "_law_ways", "_law_day", "_law_box_here", "_law_out", "_law_sent", "_law_share", "_law_wire", "_law_name_here"]) (sc := defScope s_law_days) (by decide +kernel)) (fun _ _ _ _ _ => (pg_name (i := 12) sc_law_days.nd rfl (Or.inl rfl))) (fun _ _ _ _ _ => pts_nil) (fun _ _ _ _ _ => (pe_ix (show IxR _ (rIxT K) from ix_tup) (pv 12) pe_int (fun _ _ => rfl))))
      (pss_cons (ps_set (i := 4) sc_law_days.nd rfl (Or.inr rfl) pe_dnewK)
      (pss_cons (ps_for PassesOwn.never rfl (pi_range1 (by rfl) T.range (pa_cons (pe_callB call_len_seq (by rfl) T.len bt_len (pa_cons (pv 1) pa_nil)) pa_nil)) (pg_name (i := 5) sc_law_days.nd rfl (Or.inl rfl)) (pss_one (ps_dput (hu_of hr) (pv 4) (pe_ix ix_tup (pe_ix ix_list (C8.pe_c (c_law_ins T) hr (by decide) (by rfl) (pa_cons (pv 0) pa_nil)) (pv 5) (fun _ _ => rfl)) pe_int (fun _ _ => rfl)) (pe_ix ix_tup (pv 1) (pv 5) (fun _ _ => rfl)) rfl)))
      (pss_cons (ps_for PassesOwn.never rfl (pi_range1 (by rfl) T.range (pa_cons (pe_callB call_len_seq (by rfl) T.len bt_len (pa_cons (pv 2) pa_nil)) pa_nil)) (pg_name (i := 5) sc_law_days.nd rfl (Or.inl rfl)) (pss_one (ps_dput (hu_of hr) (pv 4) (pe_ix ix_list (pv 3) (pv 5) (fun _ _ => rfl)) (pe_ix ix_tup (pv 2) (pv 5) (fun _ _ => rfl)) rfl)))
      (pss_cons (ps_set (i := 6) sc_law_days.nd rfl (Or.inl rfl) (pe_lst (pa_cons (pe_lst (pa_cons (pv 4) (pa_cons pe_dnewK (pa_cons (pe_tup (pa_cons pe_int (pa_cons pe_int pa_nil))) pa_nil)))) pa_nil)))
      (pss_cons (ps_for PassesOwn.never rfl (pi_range1 (by rfl) T.range (pa_cons pe_int pa_nil)) (pg_name (i := 7) sc_law_days.nd rfl (Or.inl rfl)) (pss_one (ps_for PassesOwn.never rfl (pi_seq (pe_ix ix_list (pv 0) pe_int (fun _ _ => rfl))) (pg_name (i := 8) sc_law_days.nd rfl (Or.inl rfl)) (pss_one (ps_if (pt_cmpR op_eq (pe_ix ix_list (pv 8) pe_int (fun _ _ => rfl)) (pv 7) (nomark _)) (pss_one (ps_set (i := 6) sc_law_days.nd rfl (Or.inl rfl) (C8.pe_c (c_law_step T) hr (by decide) (by rfl) (pa_cons (pv 8) (pa_cons (pv 6) (pa_cons (pv 3) pa_nil)))))) pss_nil)))))
      (pss_cons (ps_set (i := 9) sc_law_days.nd rfl (Or.inl rfl) (pe_lst pa_nil))
      (pss_cons (ps_for PassesOwn.never rfl (pi_seq (pv 6)) (pg_lst rfl (pgs_cons (pg_name (i := 4) sc_law_days.nd rfl (Or.inr rfl)) (pgs_cons (pg_name (i := 10) sc_law_days.nd rfl (Or.inr rfl)) (pgs_cons (pg_name (i := 11) sc_law_days.nd rfl (Or.inl rfl)) pgs_nil)))) (pss_one (ps_expr (pe_bm PySem.F.plainAttrs_list PySem.F.slot_list_append PySem.F.type_list_append mt_append (pv 9) (pa_cons (pe_tup (pa_cons (pe_callTy call_tuple_of (by rfl) T.tuple bt_tuple (pa_cons (pe_lc (own := [("_law_wire", 12)]) rfl sc_law_days.nd (pi_seq (pe_ix ix_list (pv 0) pe_int (fun _ _ => rfl))) (blkOk_by (own := [("_law_wire", 12)]) (N := ["_law_chart_here", "_law_x", "_law_y", "_law_letters_here", "_law_worths", "_law_at", "_law_ways", "_law_day", "_law_box_here", "_law_out", "_law_sent", "_law_share", "_law_wire", "_law_name_here"]) (sc := defScope s_law_days) (by decide +kernel)) (fun _ _ _ _ _ => (pg_name (i := 12) sc_law_days.nd rfl (Or.inl rfl))) (fun _ _ _ _ _ => pts_nil) (fun _ _ _ _ _ => (pe_dget (hu_of hr) (pv 4) (pe_ix (show IxR _ (rIxT K) from ix_tup) (pv 12) pe_int (fun _ _ => rfl)) (fun _ _ => rfl)))) pa_nil)) (pa_cons (pe_callTy call_tuple_of (by rfl) T.tuple bt_tuple (pa_cons (pe_lc (own := [("_law_name_here", 13)]) rfl sc_law_days.nd (pi_seq (pv 3)) (blkOk_by (own := [("_law_name_here", 13)]) (N := ["_law_chart_here", "_law_x", "_law_y", "_law_letters_here", "_law_worths", "_law_at", "_law_ways", "_law_day", "_law_box_here", "_law_out", "_law_sent", "_law_share", "_law_wire", "_law_name_here"]) (sc := defScope s_law_days) (by decide +kernel)) (fun _ _ _ _ _ => (pg_name (i := 13) sc_law_days.nd rfl (Or.inl rfl))) (fun _ _ _ _ _ => pts_nil) (fun _ _ _ _ _ => (pe_dget (hu_of hr) (pv 10) (pv 13) (fun _ _ => rfl)))) pa_nil)) (pa_cons (pv 11) pa_nil)))) pa_nil)))))
      (pss_one (ps_ret (pe_callB (cr_sortG (enc := encRow3) hr.units) (by rfl) T.sorted bt_sorted (pa_cons (pv 9) pa_nil)))))))))))), ?_⟩
  have b3 := ho.boxes3
  have w6 := ho.wires6
  have lb := Paired.length hB
  have lw := Paired.length hW
  have li : (insOf c).length ≤ 6 := Nat.le_trans (List.length_filter_le _ _) w6
  have ll : (letters c).length ≤ 6 := Nat.le_trans (List.length_filter_le _ _) w6
  have hnl : ns.length = (insOf c).length := by rw [Paired.length hns, sizes_len]
  have hml : ms.length = (letters c).length := by rw [Paired.length hms, sizes_len]
  -- the letters' names
  refine ⟨_, rfl, G, _, c, rfl, g, hchart, ho, fun G1 H1 v1 gr1 h1 => ?_⟩
  obtain ⟨tl, lv, rfl, htl, hL⟩ := h1
  refine ⟨tl, lv, rfl, .inl ⟨gr1.gh.seq htl, ?_⟩⟩
  refine lcM (K := K) (S := rStr) walk_list (names (letters c)) (by rw [Paired.length hL, names_len]) (by rw [names_len]; omega) gr1.gh (fun H' e => e.seq htl) (fun j x' Ha Ha' Ga z Q' hz gr2 ⟨e, hx'⟩ k => ?_) (fun G2 H2 L vs gr2 hLs hP hn => ?_) gName_mono
  · subst e
    obtain ⟨q1, y, hy, rfl, hq⟩ := wire_at hL hx' gr2.to
    refine ⟨rfl, _, rfl, _, _, _, _, rfl, rfl, hq, rfl, k _ _ _ (.refl gr2.gh) ?_⟩
    rw [← names_at hy hz]
    rfl
  have hP := paired_strs hP
  subst hP
  have gr := gr1.trans gr2
  clear gr2
  clear gr1
  -- the worths of the ins
  refine fun d hd => ?_
  have hd0 := gr.dm d hd
  have hdG := gr.gh.free hd
  refine ⟨_, rfl, _, _, rfl, .inr (sqt_up (gr.to.trans (same_new hd)) hxa), _, rfl, by rw [List.length_map]; omega, by rw [List.length_map]; omega, fr_range (n := (ns.map V.int).length) (fun i σ H' => ∃ G', Gr M0 G H G' H' ∧ Same G2 G' ∧ G' d = none ∧ H' d = some (.dK (kvI ((((names (insOf c)).zip ns).take i).foldl (fun d x => putS d x.1 x.2) []))) ∧ ∃ r5, σ = [some (.ref a), some (.ref xa), some (.ref ya), some (.ref L), some (.ref d), r5, none, none, none, none, none, none, none, none])
    ⟨G2, gr.new hd, .refl _, hdG, upd_at, _, rfl⟩ (fun i σ H3 hi ⟨G3, gr3, s3, hd3, hdv, r5, es⟩ => ?_) (fun σ H3 ⟨G3, gr3, s3, hd3, hdv, r5, es⟩ => ?_)⟩
  · subst es
    rw [List.length_map] at hi
    obtain ⟨n, hn'⟩ : ∃ n, ns[i]? = some n := ⟨ns[i]'hi, List.getElem?_eq_getElem hi⟩
    obtain ⟨x, hx⟩ : ∃ x, (insOf c)[i]? = some x := ⟨(insOf c)[i]'(by omega), List.getElem?_eq_getElem (by omega)⟩
    have a2 : atI (ns.map V.int) (0 + (i : Nat)) = some (.int n) := by rw [Int.zero_add]; exact atI_nat (by rw [List.getElem?_map, hn']; rfl)
    refine ⟨_, rfl, _, rfl, _, _, _, _, rfl, rfl, sqt_up gr3.to hxa, a2, _, rfl, _, rfl, G3, _, c, rfl, gr3.gh, Up.up gr3.gg hchart, ho, fun G4 H4 v4 gr4 h4 => ?_⟩
    obtain ⟨ti, iv, rfl, hti, hI⟩ := h4
    obtain ⟨xv, hxv, hxr⟩ := paired_to hI hx
    obtain ⟨xd, rfl, hxd⟩ := wire_up gr4.gh hxr
    have a1 : atI iv (0 + (i : Nat)) = some (.ref xd) := by rw [Int.zero_add]; exact atI_nat hxv
    have hdv4 := gr4.hh d _ (fun z => z) hdv
    have hd4 := gr4.open_ hdv hd3
    have hzn : ((names (insOf c)).zip ns)[i]? = some (x.1, n) := List.getElem?_zip_eq_some.2 ⟨by rw [names, List.getElem?_map, hx]; rfl, hn'⟩
    refine ⟨_, rfl, _, _, _, _, rfl, rfl, gr4.gh.seq hti, a1, _, _, _, _, rfl, rfl, hxd, rfl, d, _, rfl, DPut.k (k := Sum.inr x.1) hdv4 (small_lt ?_), G4, (gr3.trans gr4).write hd0 hd4, s3.trans gr4.gg, hd4, ?_, _, rfl⟩
    · have := putsD_len (((names (insOf c)).zip ns).take i) []
      rw [List.length_take, List.length_zip, names_len] at this
      rw [kvI_len]
      simp only [List.length_nil] at this
      omega
    · rw [upd_at, kvI_put, foldl_snoc hzn]
  subst es
  have ez : ((names (insOf c)).zip ns).take (ns.map V.int).length = (names (insOf c)).zip ns := List.take_of_length_le (by rw [List.length_map, List.length_zip]; omega)
  rw [ez] at hdv
  have hLs := s3.seq hLs
  clear gr
  -- the worths of the letters
  refine ⟨_, rfl, _, _, rfl, .inr (sqt_up gr3.to hya), _, rfl, by rw [List.length_map]; omega, by rw [List.length_map]; omega, fr_range (n := (ms.map V.int).length) (fun i σ H' => Gr M0 G H G3 H' ∧ H' d = some (.dK (kvI ((((names (letters c)).zip ms).take i).foldl (fun d x => putS d x.1 x.2) (putsD [] (names (insOf c)) ns)))) ∧ ∃ r5, σ = [some (.ref a), some (.ref xa), some (.ref ya), some (.ref L), some (.ref d), r5, none, none, none, none, none, none, none, none])
    ⟨gr3, hdv, _, rfl⟩ (fun i σ H4 hi ⟨gr4, hdv4, r5, es⟩ => ?_) (fun σ H4 ⟨gr4, hdv4, r5, es⟩ => ?_)⟩
  · subst es
    rw [List.length_map] at hi
    obtain ⟨n, hn'⟩ : ∃ n, ms[i]? = some n := ⟨ms[i]'hi, List.getElem?_eq_getElem hi⟩
    obtain ⟨x, hx⟩ : ∃ x, (names (letters c))[i]? = some x := ⟨(names (letters c))[i]'(by rw [names_len]; omega), List.getElem?_eq_getElem (by rw [names_len]; omega)⟩
    have a2 : atI (ms.map V.int) (0 + (i : Nat)) = some (.int n) := by rw [Int.zero_add]; exact atI_nat (by rw [List.getElem?_map, hn']; rfl)
    have a1 : atI ((names (letters c)).map V.str) (0 + (i : Nat)) = some (.str x) := by rw [Int.zero_add]; exact atI_nat (by rw [List.getElem?_map, hx]; rfl)
    have hzn : ((names (letters c)).zip ms)[i]? = some (x, n) := List.getElem?_zip_eq_some.2 ⟨hx, hn'⟩
    refine ⟨_, rfl, _, rfl, _, _, _, _, rfl, rfl, sqt_up gr4.to hya, a2, _, rfl, _, rfl, _, rfl, _, _, _, _, rfl, rfl, gr4.gh.seq hLs, a1, d, _, rfl, DPut.k (k := Sum.inr x) hdv4 (small_lt ?_), gr4.write hd0 hd3, ?_, _, rfl⟩
    · have h1 := putsD_len (((names (letters c)).zip ms).take i) (putsD [] (names (insOf c)) ns)
      have h2 := putsD_len ((names (insOf c)).zip ns) []
      rw [List.length_take, List.length_zip, names_len] at h1
      rw [List.length_zip, names_len] at h2
      rw [kvI_len]
      simp only [List.length_nil] at h2
      unfold putsD at h1 ⊢
      omega
    · rw [upd_at, kvI_put, foldl_snoc hzn]
  subst es
  have ez : ((names (letters c)).zip ms).take (ms.map V.int).length = (names (letters c)).zip ms := List.take_of_length_le (by rw [List.length_map, List.length_zip]; omega)
  rw [ez] at hdv4
  have hdv4 : H4 d = some (.dK (kvI (initS c ns ms).1)) := hdv4
  clear gr3
  -- the first way
  refine ⟨_, rfl, fun e he => ⟨(by show 2 ≤ sizeLine; decide), fun u hu => ⟨(by show 3 ≤ sizeLine; decide), fun t ht => ⟨(by show 1 ≤ sizeLine; decide), fun l hl => ?_⟩⟩⟩⟩
  have gr5 := gr4.shut hd0 hd3 hdv4
  have s5 := same_new hd3 (o := .dK (kvI (initS c ns ms).1))
  have hdS : upd G3 d (.dK (kvI (initS c ns ms).1)) d = some (.dK (kvI (initS c ns ms).1)) := upd_at
  have hLs := s5.seq hLs
  generalize upd G3 d (.dK (kvI (initS c ns ms).1)) = G5 at gr5 s5 hdS hLs
  have gr6 := gr5.seal (o := .dK []) he
  have gr6' := gr6.seal (o := .tup [.int 1, .int 1]) hu
  have gr7 := gr6'.seal (o := .lst [.ref d, .ref e, .ref u]) ht
  have gr8 := gr7.seal (o := .lst [.ref t]) hl
  have se := same_new (gr5.gh.free he) (o := .dK [])
  have su := same_new (gr6.gh.free hu) (o := .tup [.int 1, .int 1])
  have st := same_new (gr6'.gh.free ht) (o := .lst [.ref d, .ref e, .ref u])
  have sl := same_new (gr7.gh.free hl) (o := .lst [.ref t])
  have hs0 : rSL K (upd (upd (upd G5 e (.dK [])) u (.tup [.int 1, .int 1])) t (.lst [.ref d, .ref e, .ref u])) (.ref t) (initS c ns ms) :=
    ⟨t, _, _, _, rfl, .of upd_at, ⟨d, rfl, ((se.trans su).trans st) _ _ hdS⟩, ⟨e, rfl, (su.trans st) _ _ upd_at⟩, u, _, _, rfl, .of (st _ _ upd_at), rfl, rfl⟩
  have hsts : rL K (rSL K) (upd (upd (upd (upd G5 e (.dK [])) u (.tup [.int 1, .int 1])) t (.lst [.ref d, .ref e, .ref u])) l (.lst [.ref t])) (.ref l) (foldD c ns ms (preD c.boxes 0 0)) := ⟨l, _, rfl, .of upd_at, .cons (Up.up sl hs0) .nil⟩
  have s8 := ((se.trans su).trans st).trans sl
  have hLs := s8.seq hLs
  clear s8
  generalize upd (upd (upd (upd G5 e (.dK [])) u (.tup [.int 1, .int 1])) t (.lst [.ref d, .ref e, .ref u])) l (.lst [.ref t]) = G8 at gr8 hsts hLs
  generalize upd (upd (upd (upd H4 e (.dK [])) u (.tup [.int 1, .int 1])) t (.lst [.ref d, .ref e, .ref u])) l (.lst [.ref t]) = H8 at gr8 ⊢
  clear gr5 gr6 gr6' gr7
  clear st su sl se
  -- the days
  refine ⟨10, rfl, by decide, by decide, fr_range (n := 10) (fun i σ H' => ∃ G' v, Gr M0 G H G' H' ∧ Same G8 G' ∧ rL K (rSL K) G' v (foldD c ns ms (preD c.boxes i 0)) ∧ ∃ r5 r7 r8, σ = [some (.ref a), some (.ref xa), some (.ref ya), some (.ref L), some (.ref d), r5, some v, r7, r8, none, none, none, none, none])
    ⟨G8, _, gr8, .refl _, hsts, _, _, _, rfl⟩ (fun i σ H9 hi ⟨G9, v9, gr9, s9, h9, r5, r7, r8, es⟩ => ?_) (fun σ H9 ⟨G9, v9, gr9, s9, h9, r5, r7, r8, es⟩ => ?_)⟩
  · subst es
    refine ⟨_, rfl, _, _, _, _, rfl, rfl, gr9.to.seq ha, rfl, tb, bv, rfl, fr_seq (.inl hb) (fun j σ H' => ∃ G' v, Gr M0 G H G' H' ∧ Same G8 G' ∧ rL K (rSL K) G' v (foldD c ns ms (preD c.boxes i j)) ∧ ∃ r5 r8, σ = [some (.ref a), some (.ref xa), some (.ref ya), some (.ref L), some (.ref d), r5, some v, some (.int (0 + (i : Nat))), r8, none, none, none, none, none])
      ⟨G9, _, gr9, s9, h9, _, _, rfl⟩ (fun j σ H' ⟨_, _, h, _⟩ => h.to) (fun j v σ H10 hv ⟨G10, v10, gr10, s10, h10, r5, r8, es⟩ => ?_) (fun σ H10 ⟨G10, v10, gr10, s10, h10, r5, r8, es⟩ => ?_)⟩
    · subst es
      obtain ⟨b, hbi, hbv⟩ := paired_at hB hv
      have hbl := hbv
      obtain ⟨x, _, _, _, rfl, hx, _⟩ := hbl
      refine ⟨_, rfl, _, _, _, _, rfl, rfl, gr10.to.seq hx, rfl, _, rfl, rfl, _, rfl, ?_⟩
      refine ite2 (fun z => ?_) (fun z => ?_)
      · have hday : b.day = (i : Int) := by have := V.int.inj (of_decide_eq_true z); omega
        obtain ⟨rest, hsplit⟩ := byDay_split hi hbi hday
        obtain ⟨f1, f2⟩ := foldD_at (ns := ns) (ms := ms) hsplit
        obtain ⟨lz, lzv, rfl, hlz, hlzP⟩ := h10
        refine ⟨_, rfl, _, rfl, _, rfl, G10, _, lz, L, lzv, b, foldD c ns ms (preD c.boxes i j), names (letters c), rfl, gr10.gh, Up.up gr10.gg hbv, ho.boxes b (List.mem_of_getElem? hbi), hlz, hlzP, s10.seq hLs, ?_, ?_, fun G11 H11 v11 gr11 h11 => ?_⟩
        · rw [← f2]
          exact runs.ok _ b f1
        · rw [← f2]
          exact runs.len _
        · refine ⟨G11, v11, gr10.trans gr11, s10.trans gr11.gg, ?_, _, _, rfl⟩
          rw [preD_yes hbi hday, foldD_snoc]
          exact h11
      · have hday : ¬ b.day = (i : Int) := fun y => z (decide_eq_true (congrArg V.int (by omega)))
        refine ⟨G10, v10, gr10, s10, ?_, _, _, rfl⟩
        rw [preD_no hbi hday]
        exact h10
    · subst es
      refine ⟨G10, v10, gr10, s10, ?_, _, _, _, rfl⟩
      rw [lb, preD_end] at h10
      exact h10
  subst es
  have hfin : foldD c ns ms (preD c.boxes 10 0) = finS c ns ms := by
    rw [preD_zero]
    rfl
  rw [hfin] at h9
  obtain ⟨ls, lsv, rfl, hls, hlsP⟩ := h9
  have hLs := s9.seq hLs
  clear gr8
  have lenF : (finS c ns ms).length ≤ 1000 := by rw [← fin_at]; exact runs.len _
  refine ⟨(show 0 ≤ sizeLine by decide), fun f hf => ?_⟩
  have hf0 := gr9.dm f hf
  have hfG := gr9.gh.free hf
  refine ⟨_, rfl, ls, lsv, rfl, fr_seq (.inl hls) (fun i σ H' => ∃ G' vs, Gr M0 G H G' H' ∧ Same G9 G' ∧ H' f = some (.lst vs) ∧ G' f = none ∧ Paired (rRow3 K G') vs (((finS c ns ms).take i).map (outS c)) ∧ ∃ r4 r5 r7 r8 r10 r11 r12 r13, σ = [some (.ref a), some (.ref xa), some (.ref ya), some (.ref L), r4, r5, some (.ref ls), r7, r8, some (.ref f), r10, r11, r12, r13])
    ⟨G9, [], gr9.new hf, .refl _, upd_at, hfG, .nil, _, _, _, _, _, _, _, _, rfl⟩ (fun i σ H' ⟨_, _, h, h2, _⟩ => h2.trans h.gh) (fun i v σ H2 hv ⟨G2, vs, gr2, s2, hf2, ho2, hvs, r4, r5, r7, r8, r10, r11, r12, r13, es⟩ => ?_) (fun σ H2 ⟨G2, vs, gr2, s2, hf2, ho2, hvs, r4, r5, r7, r8, r10, r11, r12, r13, es⟩ => ?_)⟩
  · subst es
    have hi : i < lsv.length := (List.getElem?_eq_some_iff.1 hv).1
    obtain ⟨st, hs, hsv⟩ := paired_at hlsP hv
    have hsm := List.mem_of_getElem? hs
    obtain ⟨sa, _, _, sv, rfl, hsa, ⟨wd, rfl, hwd⟩, ⟨sd, rfl, hsd⟩, hsh⟩ := hsv
    have hwd := s2 _ _ hwd
    have hsd := s2 _ _ hsd
    refine gl3_at ((s2.trans gr2.gh).seq hsa) ?_
    have hW := paired_up gr2.gg hW
    have hw := gr2.gg.seq hw
    refine ⟨_, rfl, .inl ⟨rfl, _, .of hf2⟩, _, rfl, _, _, _, _, rfl, rfl, gr2.to.seq ha, rfl, tw, wv, rfl, .inl ⟨gr2.gh.seq hw, ?_⟩⟩
    refine lcM (K := K) (S := rInt) walk_list (told st.1 c.wires) (by rw [lw, told, List.length_map]) (by rw [told, List.length_map]; omega) gr2.gh (fun H' e => e.seq hw) (fun j x' Ha Ha' Ga y Q' hy gr3 ⟨e, hx'⟩ k => ?_) (fun G3 H3 L3 vs3 gr3 hL3 hP3 hn3 => ?_) gName_mono
    · subst e
      obtain ⟨q1, z, hz, rfl, hq1⟩ := wire_at hW hx' gr3.to
      obtain ⟨n, hn⟩ := Option.isSome_iff_exists.1 (runs.known st hsm z (List.mem_of_getElem? hz))
      have hg : DGet Ha' wd (.str z.1) (some (.int n)) := by
        rw [show some (V.int n) = valV (kvI st.1) (Sum.inr z.1) from by rw [kvI_get, hn]; rfl]
        exact DGet.k (k := Sum.inr z.1) (gr3.to _ _ hwd)
      refine ⟨rfl, _, rfl, _, rfl, _, _, _, _, rfl, rfl, hq1, rfl, wd, _, rfl, hg, k _ _ _ (.refl gr3.gh) ?_⟩
      have hy : (some z).map (fun x : Wire => (getS st.1 x.1).getD 0) = some y := by rw [← hz, ← List.getElem?_map]; exact hy
      have hy : (getS st.1 z.1).getD 0 = y := Option.some.inj hy
      rw [hn] at hy
      rw [← hy]
      rfl
    have hP3 := paired_ints hP3
    subst hP3
    have gr4 := gr2.trans gr3
    have hf3 := gr3.hh f _ (fun z => z) hf2
    have ho3 := gr3.open_ hf2 ho2
    have s3 := s2.trans gr3.gg
    have hvs := paired_up gr3.gg hvs
    refine ⟨_, _, rfl, .inl ⟨gr4.gh.seq hL3, fun tf htf => ?_⟩⟩
    have gr5 := gr4.seal (o := .tup ((told st.1 c.wires).map V.int)) htf
    have s4 := same_new (gr4.gh.free htf) (o := .tup ((told st.1 c.wires).map V.int))
    have hf4 := same_new htf (o := .tup ((told st.1 c.wires).map V.int)) _ _ hf3
    have ho4 := (Gr.refl (M := M0) gr4.gh |>.seal (o := .tup ((told st.1 c.wires).map V.int)) htf).open_ hf3 ho3
    have htf5 : rT K rInt (upd G3 tf (.tup ((told st.1 c.wires).map V.int))) (.ref tf) (told st.1 c.wires) := rT_new (gr4.gh.free htf) (ints_paired _)
    generalize upd G3 tf (.tup ((told st.1 c.wires).map V.int)) = G5' at gr5 s4 ho4 htf5
    generalize upd H3 tf (.tup ((told st.1 c.wires).map V.int)) = H5' at gr5 hf4 ⊢
    have sall := s3.trans s4
    have hsd := gr3.gg.trans s4 _ _ hsd
    have hvs := paired_up s4 hvs
    clear gr4 gr3
    have hLz := sall.seq hLs
    refine ⟨_, rfl, _, _, rfl, .inl ⟨gr5.gh.seq hLz, ?_⟩⟩
    refine lcM (K := K) (S := rInt) walk_list (told st.2.1 (letters c)) (by rw [List.length_map, names_len, told, List.length_map]) (by rw [told, List.length_map]; omega) gr5.gh (fun H' e => e.seq hLz) (fun j x' Ha Ha' Ga y Q' hy gr3 ⟨e, hx'⟩ k => ?_) (fun G6 H6 L6 vs6 gr6 hL6 hP6 hn6 => ?_) gName_mono
    · subst e
      obtain ⟨z, hz, rfl⟩ := at_map hx'
      obtain ⟨wz, hwz, hwn⟩ := at_map (show ((letters c).map (·.1))[j]? = some z from hz)
      subst hwn
      obtain ⟨n, hn⟩ := Option.isSome_iff_exists.1 (runs.sent st hsm wz (List.mem_of_getElem? hwz))
      have hg : DGet Ha' sd (.str wz.1) (some (.int n)) := by
        rw [show some (V.int n) = valV (kvI st.2.1) (Sum.inr wz.1) from by rw [kvI_get, hn]; rfl]
        exact DGet.k (k := Sum.inr wz.1) (gr3.to _ _ hsd)
      refine ⟨rfl, _, rfl, _, rfl, sd, _, rfl, hg, k _ _ _ (.refl gr3.gh) ?_⟩
      have hy : (some wz).map (fun x : Wire => (getS st.2.1 x.1).getD 0) = some y := by rw [← hwz, ← List.getElem?_map]; exact hy
      have hy : (getS st.2.1 wz.1).getD 0 = y := Option.some.inj hy
      rw [hn] at hy
      rw [← hy]
      rfl
    have hP6 := paired_ints hP6
    subst hP6
    have hf6 := gr6.hh f _ (fun z => z) hf4
    have ho6 := gr6.open_ hf4 ho4
    have gr7 := gr5.trans gr6
    refine ⟨_, _, rfl, .inl ⟨gr7.gh.seq hL6, fun ts hts => ⟨_, rfl, (by show 3 ≤ sizeLine; decide), fun tz htz => ?_⟩⟩⟩
    have gr8 := gr7.seal (o := .tup ((told st.2.1 (letters c)).map V.int)) hts
    have s8 := same_new (gr7.gh.free hts) (o := .tup ((told st.2.1 (letters c)).map V.int))
    have hts8 : rT K rInt (upd G6 ts (.tup ((told st.2.1 (letters c)).map V.int))) (.ref ts) (told st.2.1 (letters c)) := rT_new (gr7.gh.free hts) (ints_paired _)
    have hf8 := same_new hts (o := .tup ((told st.2.1 (letters c)).map V.int)) _ _ hf6
    have ho8 := (Gr.refl (M := M0) gr7.gh |>.seal (o := .tup ((told st.2.1 (letters c)).map V.int)) hts).open_ hf6 ho6
    have gr9 := gr8.seal (o := .tup [.ref tf, .ref ts, sv]) htz
    have s9 := same_new (gr8.gh.free htz) (o := .tup [.ref tf, .ref ts, sv])
    have hf9 := same_new htz (o := .tup [.ref tf, .ref ts, sv]) _ _ hf8
    have ho9 := (Gr.refl (M := M0) gr8.gh |>.seal (o := .tup [.ref tf, .ref ts, sv]) htz).open_ hf8 ho8
    have sA := gr6.gg.trans (s8.trans s9)
    refine ⟨f, vs, _, rfl, rfl, hf9, small_lt ?_, ?_⟩
    · have := Paired.length hvs
      rw [List.length_map, List.length_take] at this
      omega
    · refine ⟨_, _, gr9.write hf0 ho9, sall.trans sA, upd_at, ho9, ?_, _, _, _, _, _, _, _, _, rfl⟩
      rw [take_snoc hs, List.map_append]
      exact paired_snoc (paired_up sA hvs) ⟨tz, _, _, _, rfl, .of upd_at, Up.up sA htf5, Up.up s9 hts8, Up.up (sall.trans sA) hsh⟩
  subst es
  rw [Paired.length hlsP, List.take_length] at hvs
  refine ⟨_, rfl, fun v r => rRow3 K G2 v r, f, vs, (finS c ns ms).map (outS c), rfl, .of hf2, hvs, fun v r h => dp_row3 (Up.up gr2.gh h), PySem.W.AllAlike.of alike_row3, PySem.W.Sortable.tuples (fun r => ⟨_, _, rfl⟩), fun r _ => by rw [depth_row3]; decide, fun ys p2 hy hp2 => ?_⟩
  exact q _ _ _ (gr2.seal hp2) ⟨p2, ys, rfl, .of upd_at, paired_up (same_new (gr2.gh.free hp2)) hy⟩
end
end K6

set_option Elab.async false
set_option linter.all false
set_option maxRecDepth 100000
set_option maxHeartbeats 4000000
namespace K6
open PySem PySem.Spec PyProof.Rows L2
section
variable {P : Program} {w : World} {K : PySem.W.Frag} {mg : Str → Option Value} {base : Heap}
/-! ### all tuples and whole numbers -/
inductive TupV (K : PySem.W.Frag) (H : Hp) : Nat → V → Prop
  | int (n : Nat) (i : Int) : TupV K H n (.int i)
  | tup {n : Nat} {a : Addr} {vs : List V} (h : SqT K H a vs) (hl : vs.length ≤ 1000) (hv : ∀ v ∈ vs, TupV K H n v) : TupV K H (n + 1) (.ref a)
theorem TupV.up {H H' : Hp} (e : Same H H') : ∀ {n : Nat} {v : V}, TupV K H n v → TupV K H' n v := by
  intro n v h
  induction h with
  | int n i => exact .int n i
  | tup h hl hv ih => exact .tup (sqt_up e h) hl ih
def spTu (K : PySem.W.Frag) (n : Nat) : Sp := fun vs H Q _ => ∃ v, vs = [v] ∧ TupV K H n v ∧ ∀ H', Same H H' → Q (.bl true) H'
theorem sc_law_tuples : FnScope ["_law_thing", "_law_item"] ["_law_thing"] (defScope s_law_tuples) := ⟨rfl, rfl, rfl, by decide +kernel, rfl, by decide +kernel, by decide +kernel⟩
theorem c_law_tuples0 (T : Tx K mg) : C8.Cal P w K mg base 1 "_law_tuples" (spTu K 0) [] := by
  refine mkCal T.f_law_tuples sc_law_tuples (fun _ _ _ _ _ _ us hl => match us, hl with | [_], _ => rfl) (fun vs H Q E h => ?_) (fun f cdv A outer s H vs Q E hr h => ?_)
  · obtain ⟨_, rfl, _⟩ := h
    rfl
  obtain ⟨v, rfl, ht, q⟩ := h
  cases ht with
  | int _ i =>
  refine ⟨_, (pss_cons (ps_if (pt_val (pe_callB call_isi (by rfl) T.isinstance bt_isinstance (pa_cons (pv 0) (pa_cons (pe_bltn (v := .ty "tuple") (by rfl) T.tuple bt_tuple rfl) pa_nil)))) (pss_one ps_never) pss_nil)
      (pss_one (ps_ret (pe_or (pe_cmpR op_isN (pv 0) pe_non (nomark _)) (pe_or (pe_callB call_isi (by rfl) T.isinstance bt_isinstance (pa_cons (pv 0) (pa_cons (pe_bltn (v := .ty "str") (by rfl) T.str bt_str rfl) pa_nil))) (pe_one (pe_and (pe_callB call_isi (by rfl) T.isinstance bt_isinstance (pa_cons (pv 0) (pa_cons (pe_bltn (v := .ty "int") (by rfl) T.int bt_int rfl) pa_nil))) (pe_one (pe_not (pe_callB call_isi (by rfl) T.isinstance bt_isinstance (pa_cons (pv 0) (pa_cons (pe_bltn (v := .ty "bool") (by rfl) T.bool bt_bool rfl) pa_nil)))))))))))), ?_⟩
  have h := Th.int (K := K) (H := H) i
  refine ⟨_, rfl, _, _, _, _, _, rfl, .ty _, (h).ty, kit_isa _ .tup (by decide), _, rfl, iteF ⟨_, rfl, rfl, _, rfl, iteF ⟨_, rfl, _, _, _, _, _, rfl, .ty _, (h).ty, kit_isa _ .str (by decide), _, rfl, iteF ⟨_, rfl, _, _, _, _, _, rfl, .ty _, (h).ty, kit_isa _ .int (by decide), _, rfl, iteT ⟨_, rfl, _, _, _, _, _, rfl, .ty _, (h).ty, kit_isa _ .bl (by decide), _, rfl, q _ (.refl _)⟩⟩⟩⟩⟩
theorem c_law_tuplesS (T : Tx K mg) (n k : Nat) (c_rec : C8.Cal P w K mg base k "_law_tuples" (spTu K n) []) : C8.Cal P w K mg base (k + 1) "_law_tuples" (spTu K (n + 1)) [] := by
  refine mkCal T.f_law_tuples sc_law_tuples (fun _ _ _ _ _ _ us hl => match us, hl with | [_], _ => rfl) (fun vs H Q E h => ?_) (fun f cdv A outer s H vs Q E hr h => ?_)
  · obtain ⟨_, rfl, _⟩ := h
    rfl
  obtain ⟨v, rfl, ht, q⟩ := h
  refine ⟨_, (pss_cons (ps_if (pt_val (pe_callB call_isi (by rfl) T.isinstance bt_isinstance (pa_cons (pv 0) (pa_cons (pe_bltn (v := .ty "tuple") (by rfl) T.tuple bt_tuple rfl) pa_nil)))) (pss_one (ps_ret (pe_notT (pe_lc (own := [("_law_item", 1)]) rfl sc_law_tuples.nd (pi_seq (pv 0)) (blkOk_by (own := [("_law_item", 1)]) (N := ["_law_thing", "_law_item"]) (sc := defScope s_law_tuples) (by decide +kernel)) (fun _ _ _ _ _ => (pg_name (i := 1) sc_law_tuples.nd rfl (Or.inl rfl))) (fun _ _ _ _ _ => pts_one (pt_not (pt_val (C8.pe_c c_rec hr (Nat.le_refl _) (by rfl) (pa_cons (pv 1) pa_nil))))) (fun _ _ _ _ _ => pe_int))))) pss_nil)
      (pss_one (ps_ret (pe_or (pe_cmpR op_isN (pv 0) pe_non (nomark _)) (pe_or (pe_callB call_isi (by rfl) T.isinstance bt_isinstance (pa_cons (pv 0) (pa_cons (pe_bltn (v := .ty "str") (by rfl) T.str bt_str rfl) pa_nil))) (pe_one (pe_and (pe_callB call_isi (by rfl) T.isinstance bt_isinstance (pa_cons (pv 0) (pa_cons (pe_bltn (v := .ty "int") (by rfl) T.int bt_int rfl) pa_nil))) (pe_one (pe_not (pe_callB call_isi (by rfl) T.isinstance bt_isinstance (pa_cons (pv 0) (pa_cons (pe_bltn (v := .ty "bool") (by rfl) T.bool bt_bool rfl) pa_nil)))))))))))), ?_⟩
  cases ht with
  | int _ i =>
    have h := Th.int (K := K) (H := H) i
    refine ⟨_, rfl, _, _, _, _, _, rfl, .ty _, (h).ty, kit_isa _ .tup (by decide), _, rfl, iteF ⟨_, rfl, rfl, _, rfl, iteF ⟨_, rfl, _, _, _, _, _, rfl, .ty _, (h).ty, kit_isa _ .str (by decide), _, rfl, iteF ⟨_, rfl, _, _, _, _, _, rfl, .ty _, (h).ty, kit_isa _ .int (by decide), _, rfl, iteT ⟨_, rfl, _, _, _, _, _, rfl, .ty _, (h).ty, kit_isa _ .bl (by decide), _, rfl, q _ (.refl _)⟩⟩⟩⟩⟩
  | @tup _ a vs ha hl hv =>
    refine ⟨_, rfl, _, _, _, _, _, rfl, .ty _, (Th.tup ha).ty, kit_isa _ .tup (by decide), _, rfl, iteT ⟨_, rfl, a, vs, rfl, .inr ⟨ha, ?_⟩⟩⟩
    refine lcF (K := K) (S := rInt) (G := H) walk_tup vs (fun _ => false) (fun _ => (1 : Int)) rfl (by omega) (.refl _) (fun H' e => sqt_up e ha) (fun i x' Ha Ha' Ga y Q' R hy gr ⟨e, hx⟩ k kn => ?_) (fun Gb Hb L vs' gr hL hP hn => ?_)
    · subst e
      have hx : y = x' := by rw [hy] at hx; exact Option.some.inj hx
      subst hx
      refine ⟨rfl, _, rfl, y, rfl, (hv y (List.mem_of_getElem? hy)).up gr.to, fun H1 e1 => ⟨_, rfl, iteF ?_⟩⟩
      exact kn _ _ ((Gr.refl gr.gh).same e1) rfl
    · rw [show vs.filter (fun _ => false) = [] from List.filter_eq_nil_iff.2 fun _ _ z => by cases z] at hP
      have e : vs' = [] := by
        cases hP
        rfl
      subst e
      exact ⟨false, .inl ⟨[], gr.gh.seq hL, rfl⟩, q _ gr.all⟩
theorem c_law_tuples (T : Tx K mg) : C8.Cal P w K mg base 4 "_law_tuples" (spTu K 3) [] :=
  c_law_tuplesS T 2 3 (c_law_tuplesS T 1 2 (c_law_tuplesS T 0 1 (c_law_tuples0 T)))
/-! ### the law's first wrong place -/
theorem sc_law_whole : FnScope ["_law_thing", "_law_low", "_law_high"] ["_law_thing", "_law_low", "_law_high"] (defScope s_law_whole) := ⟨rfl, rfl, rfl, by decide +kernel, rfl, by decide +kernel, by decide +kernel⟩
def spWh (K : PySem.W.Frag) : Sp := fun vs H Q _ => ∃ x lo hi, vs = [x, .int lo, .int hi] ∧ (∃ t, Th K H x t) ∧ Q (.bl (wholeB x (.int lo) (.int hi))) H
theorem c_law_whole (T : Tx K mg) : C8.Cal P w K mg base 1 "_law_whole" (spWh K) [] := by
  refine mkCal T.f_law_whole sc_law_whole (fun _ _ _ _ _ _ us hl => match us, hl with | [_, _, _], _ => rfl) (fun vs H Q E h => ?_) (fun f cdv A outer s H vs Q E hr h => ?_)
  · obtain ⟨_, _, _, rfl, _⟩ := h
    rfl
  obtain ⟨x, lo, hi, rfl, ⟨t, ht⟩, q⟩ := h
  refine ⟨_, (pss_one (ps_ret (pe_and (pe_callB call_isi (by rfl) T.isinstance bt_isinstance (pa_cons (pv 0) (pa_cons (pe_bltn (v := .ty "int") (by rfl) T.int bt_int rfl) pa_nil))) (pe_and (pe_not (pe_callB call_isi (by rfl) T.isinstance bt_isinstance (pa_cons (pv 0) (pa_cons (pe_bltn (v := .ty "bool") (by rfl) T.bool bt_bool rfl) pa_nil)))) (pe_one (pe_chain op_le op_le (pv 1) (pv 0) (pv 2))))))), ?_⟩
  refine ⟨_, rfl, _, _, _, _, _, rfl, .ty _, (ht).ty, kit_isa _ .int (by decide), _, rfl, ?_⟩
  cases ht with
  | int i =>
    refine iteT ⟨_, rfl, _, _, _, _, _, rfl, .ty _, ((Th.int (K := K) (H := H) i)).ty, kit_isa _ .bl (by decide), _, rfl, _, rfl, iteT ⟨_, rfl, _, rfl, _, _, rfl, rfl, _, rfl, ?_⟩⟩
    have q : Q (.bl (decide (lo ≤ i) && decide (i ≤ hi))) H := q
    refine ite2 (fun z => ⟨_, rfl, _, _, rfl, rfl, ?_⟩) (fun z => ?_)
    · rw [z, Bool.true_and] at q
      exact q
    · rw [Bool.eq_false_iff.2 z, Bool.false_and] at q
      exact q
  | bl b => exact iteT ⟨_, rfl, _, _, _, _, _, rfl, .ty _, ((Th.bl (K := K) (H := H) b)).ty, kit_isa _ .bl (by decide), _, rfl, _, rfl, iteF q⟩
  | _ => exact iteF q
def spWp (K : PySem.W.Frag) : Sp := fun vs H Q _ => ∃ a ss x r o, vs = [.ref a, x, .bl false] ∧ SqL K H a (ss.map V.int) ∧ ss.length ≤ 100 ∧ FW K H ss x r o ∧ ∀ H', Same H H' → Q r H'
theorem sc_law_wrong_place : FnScope ["_law_sizes_here", "_law_thing", "_law_unknown", "_law_at"] ["_law_sizes_here", "_law_thing", "_law_unknown"] (defScope s_law_wrong_place) := ⟨rfl, rfl, rfl, by decide +kernel, rfl, by decide +kernel, by decide +kernel⟩
theorem c_law_wrong_place (T : Tx K mg) : C8.Cal P w K mg base 2 "_law_wrong_place" (spWp K) [] := by
  refine mkCal T.f_law_wrong_place sc_law_wrong_place (fun _ _ _ _ _ _ us hl => match us, hl with | [_, _, _], _ => rfl) (fun vs H Q E h => ?_) (fun f cdv A outer s H vs Q E hr h => ?_)
  · obtain ⟨_, _, _, _, _, rfl, _⟩ := h
    rfl
  obtain ⟨a, ss, x, r, oo, rfl, hx, hl, h, q⟩ := h
  refine ⟨_, (pss_cons (ps_if (pt_not (pt_val (pe_callB call_isiT (by rfl) T.isinstance bt_isinstance (pa_cons (pv 1) (pa_cons (pe_tup (pa_cons (pe_bltn (v := .ty "list") (by rfl) T.list bt_list rfl) (pa_cons (pe_bltn (v := .ty "tuple") (by rfl) T.tuple bt_tuple rfl) pa_nil))) pa_nil))))) (pss_one (ps_ret pe_int)) pss_nil)
      (pss_cons (ps_for PassesOwn.never rfl (pi_range1 (by rfl) T.range (pa_cons (pe_callB call_len_seq (by rfl) T.len bt_len (pa_cons (pv 0) pa_nil)) pa_nil)) (pg_name (i := 3) sc_law_wrong_place.nd rfl (Or.inl rfl)) (pss_cons (ps_if (pt_cmpR op_ge (pv 3) (pe_callB call_len_seq (by rfl) T.len bt_len (pa_cons (pv 1) pa_nil)) (nomark _)) (pss_one (ps_ret (pv 3))) pss_nil)
      (pss_cons (ps_if (PW.pt (pw_and (pt_val (pv 2)) (pw_and1 (pt_cmpR op_isN (pe_ix ix_seq (pv 1) (pv 3) (fun _ _ => rfl)) pe_non (nomark _))))) (pss_one ps_continue) pss_nil)
      (pss_one (ps_if (pt_not (pt_val (C8.pe_c (c_law_whole T) hr (by decide) (by rfl) (pa_cons (pe_ix ix_seq (pv 1) (pv 3) (fun _ _ => rfl)) (pa_cons pe_int (pa_cons (pe_op op_sub (pe_ix ix_list (pv 0) (pv 3) (fun _ _ => rfl)) pe_int) pa_nil)))))) (pss_one (ps_ret (pv 3))) pss_nil)))))
      (pss_one (ps_ret (pe_ifExp (pt_cmpR op_gt (pe_callB call_len_seq (by rfl) T.len bt_len (pa_cons (pv 1) pa_nil)) (pe_callB call_len_seq (by rfl) T.len bt_len (pa_cons (pv 0) pa_nil)) (nomark _)) (pe_callB call_len_seq (by rfl) T.len bt_len (pa_cons (pv 0) pa_nil)) pe_non))))), ?_⟩
  rcases h with ⟨t, hT, ht, rfl, _⟩ | ⟨b, xs, rfl, hb, hth, rfl, _⟩
  · refine ⟨_, rfl, (by show 2 ≤ sizeLine; decide), fun p hp =>  ⟨_, _, _, _, _, _, rfl, upd_at, .cons (.ty _) (.cons (.ty _) .nil), ((hT.up (same_new hp))).ty, kit_lt _, _, rfl, ?_⟩⟩
    rw [ht]
    exact iteT (q _ (same_new hp))
  have hT : ∃ t, Th K H (.ref b) t ∧ (t.isa .lst || t.isa .tup) = true := by
    rcases hb with hb | hb
    · exact ⟨_, .lst hb, rfl⟩
    · exact ⟨_, .tup hb, rfl⟩
  obtain ⟨t, hT, ht⟩ := hT
  refine ⟨_, rfl, (by show 2 ≤ sizeLine; decide), fun p hp =>  ⟨_, _, _, _, _, _, rfl, upd_at, .cons (.ty _) (.cons (.ty _) .nil), ((hT.up (same_new hp))).ty, kit_lt _, _, rfl, ?_⟩⟩
  rw [ht]
  have e0 := same_new (o := .tup [.ty "list", .ty "tuple"]) hp
  have hlen : (ss.map V.int).length = ss.length := List.length_map ..
  refine iteF ⟨_, rfl, a, _, rfl, .inl (e0.seq hx), _, rfl, by omega, by omega, fr_range (n := (ss.map V.int).length) (fun i σ H' => H' = upd H p (.tup [.ty "list", .ty "tuple"]) ∧ ∃ r, σ = [some (.ref a), some (.ref b), some (.bl false), r] ∧ fwV (ss.drop i) (xs.drop i) i = fwV ss xs 0)
    ⟨rfl, _, rfl, rfl⟩ (fun i σ H1 hi ⟨e, r, es, ef⟩ => ?_) (fun σ H1 ⟨e, r, es, ef⟩ => ?_)⟩
  · subst es e
    obtain ⟨n, hk⟩ : ∃ n, ss[i]? = some n := ⟨ss[i]'(by omega), List.getElem?_eq_getElem (by omega)⟩
    rw [drop_cons hk] at ef
    have hb2 := hb.up e0
    refine ⟨_, rfl, _, rfl, b, _, rfl, hb2, _, _, rfl, rfl, _, rfl, ?_⟩
    cases hxi : xs[i]? with
    | none =>
      have hl := List.getElem?_eq_none_iff.1 hxi
      rw [drop_all hl] at ef
      rw [decide_eq_true (show ((xs.length : Nat) : Int) ≤ 0 + (i : Nat) by omega)]
      refine iteT ⟨_, rfl, ?_⟩
      rw [Int.zero_add, show V.int (i : Nat) = fwV ss xs 0 from ef]
      exact q _ e0
    | some y =>
      have hl := (List.getElem?_eq_some_iff.1 hxi).1
      rw [decide_eq_false (show ¬ ((xs.length : Nat) : Int) ≤ 0 + (i : Nat) by omega)]
      refine iteF ⟨_, rfl, _, rfl, iteF ?_⟩
      rw [drop_cons hxi] at ef
      obtain ⟨ty, hty⟩ := hth y (List.mem_of_getElem? hxi)
      have a1 : atI (ss.map V.int) (0 + (i : Nat)) = some (.int n) := by rw [Int.zero_add]; exact atI_nat (by rw [List.getElem?_map, hk]; rfl)
      refine ⟨_, rfl, _, rfl, ?_⟩
      rw [Int.zero_add] at a1
      rw [show V.int (0 + (i : Nat)) = V.int (i : Nat) from by rw [Int.zero_add]]
      refine ix_any hb2 hxi ?_
      refine ⟨_, rfl, _, rfl, _, _, _, _, rfl, rfl, e0.seq hx, a1, _, _, rfl, rfl, _, _, _, rfl, ⟨_, hty.up e0⟩, _, rfl, ?_⟩
      cases hw : wholeB y (.int 0) (.int (n - 1)) with
      | true =>
        refine iteF ⟨rfl, _, rfl, ?_⟩
        rw [← ef]
        show _ = if _ then _ else _
        rw [hw, if_pos rfl]
      | false =>
        refine iteT ⟨_, rfl, ?_⟩
        have ef : (if wholeB y (.int 0) (.int (n - 1)) = true then fwV (ss.drop (i + 1)) (xs.drop (i + 1)) (i + 1) else V.int (i : Nat)) = fwV ss xs 0 := ef
        rw [hw, if_neg (by decide)] at ef
        rw [ef]
        exact q _ e0
  · subst es e
    rw [hlen, drop_all (Nat.le_refl _)] at ef
    refine ⟨_, rfl, b, _, rfl, hb.up e0, _, rfl, a, _, rfl, .inl (e0.seq hx), _, _, rfl, rfl, _, rfl, ?_⟩
    refine ite2 (fun hg => ⟨_, rfl, a, _, rfl, .inl (e0.seq hx), ?_⟩) (fun hg => ?_)
    · have hg := of_decide_eq_true hg
      rw [hlen] at hg ⊢
      rw [fwV_long (fun z => by have := congrArg List.length z; simp at this; omega)] at ef
      rw [ef]
      exact q _ e0
    · have hg : ¬ ((ss.length : Nat) : Int) < (xs.length : Nat) := fun z => hg (by rw [hlen]; exact decide_eq_true z)
      rw [drop_all (by omega)] at ef
      rw [show V.non = fwV ss xs 0 from ef]
      exact q _ e0
end
end K6

set_option Elab.async false
set_option linter.all false
set_option maxRecDepth 100000
set_option maxHeartbeats 4000000
namespace K6
open PySem PySem.Spec PyProof.Rows L2
section
variable {P : Program} {w : World} {K : PySem.W.Frag} {mg : Str → Option Value} {base : Heap}
/-! ### the hand -/
structure HA (K : PySem.W.Frag) (x : Addr) (G H : Hp) (c : Addr) (ns : List Int) (p r t : Int) : Prop where
  hG : G x = none
  hH : H x = some (.lst [.ref c, .int p, .int r, .int t])
  hc : SqL K G c (ns.map V.int)
  len : ns.length ≤ 100
  nn : ∀ n ∈ ns, 0 ≤ n
  p0 : 0 ≤ p
  p1 : p ≤ ns.length
  r0 : 0 ≤ r
  t0 : 0 ≤ t
  t1 : t < 2 ^ 31
def Hd (K : PySem.W.Frag) (x : Addr) (G H : Hp) : Prop := ∃ c ns p r t, HA K x G H c ns p r t
theorem HA.put {x : Addr} {G H : Hp} {c : Addr} {ns : List Int} {p r t p' r' t' : Int} (h : HA K x G H c ns p r t) (p0 : 0 ≤ p') (p1 : p' ≤ ns.length) (r0 : 0 ≤ r') (t0 : 0 ≤ t') (t1 : t' < 2 ^ 31) : HA K x G (upd H x (.lst [.ref c, .int p', .int r', .int t'])) c ns p' r' t' :=
  ⟨h.hG, upd_at, h.hc, h.len, h.nn, p0, p1, r0, t0, t1⟩
theorem Hd.step {x : Addr} {G H G' H' : Hp} (h : Hd K x G H) (e : Gr M0 G H G' H') : Hd K x G' H' := by
  obtain ⟨c, ns, p, r, t, h⟩ := h
  exact ⟨c, ns, p, r, t, e.open_ h.hH h.hG, e.hh x _ (fun z => z) h.hH, e.gg.seq h.hc, h.len, h.nn, h.p0, h.p1, h.r0, h.t0, h.t1⟩
theorem Hd.same {x : Addr} {G H H' : Hp} (h : Hd K x G H) (g : Same G H) (e : Same H H') : Hd K x G H' := h.step ((Gr.refl g).same e)
abbrev Mx (x : Addr) : Addr → Prop := fun a => a = x
def spMixed : Sp := fun vs H Q _ => ∃ n t, vs = [.int n, .int t] ∧ 0 ≤ n ∧ n < 2 ^ 32 ∧ 0 ≤ t ∧ t ≤ 1000 ∧ ∀ r, 0 ≤ r → Q (.int r) H
theorem sc_law_mixed : FnScope ["_law_number_here", "_law_turn", "_law_once", "_law_twice"] ["_law_number_here", "_law_turn"] (defScope s_law_mixed) := ⟨rfl, rfl, rfl, by decide +kernel, rfl, by decide +kernel, by decide +kernel⟩
theorem c_law_mixed (T : Tx K mg) : C8.Cal P w K mg base 1 "_law_mixed" spMixed [] := by
  refine mkCal T.f_law_mixed sc_law_mixed (fun _ _ _ _ _ _ us hl => match us, hl with | [_, _], _ => rfl) (fun vs H Q E h => ?_) (fun f cdv A outer s H vs Q E hr h => ?_)
  · obtain ⟨_, _, rfl, _⟩ := h
    rfl
  obtain ⟨n, t, rfl, n0, n1, t0, t1, q⟩ := h
  refine ⟨_, (pss_cons (ps_set (i := 2) sc_law_mixed.nd rfl (Or.inl rfl) (pe_op op_mod (pe_callTy call_int1 (by rfl) T.int bt_int (pa_cons (pe_op op_add (pe_op op_add (pe_op op_mul (pv 0) pe_int) (pe_op op_mul (pv 1) pe_int)) pe_int) pa_nil)) pe_int))
      (pss_cons (ps_set (i := 3) sc_law_mixed.nd rfl (Or.inl rfl) (pe_op op_mod (pe_callTy call_int1 (by rfl) T.int bt_int (pa_cons (pe_op op_add (pe_op op_add (pe_op op_mul (pv 2) (pv 2)) (pe_op op_mul (pv 1) pe_int)) (pe_op op_fdivW (pv 2) pe_int)) pa_nil)) pe_int))
      (pss_one (ps_ret (pe_op op_fdivW (pe_callTy call_int1 (by rfl) T.int bt_int (pa_cons (pe_op op_mod (pe_callTy call_int1 (by rfl) T.int bt_int (pa_cons (pe_op op_add (pe_op op_mul (pv 3) pe_int) (pe_op op_fdivW (pv 2) pe_int)) pa_nil)) pe_int) pa_nil)) pe_int))))), ?_⟩
  refine ⟨_, rfl, _, _, rfl, rfl, .inl ⟨by omega, by omega⟩, _, rfl, _, _, rfl, rfl, .inl ⟨by omega, by omega⟩, _, _, rfl, rfl, _, _, rfl, rfl, .inl ⟨_, rfl, _, _, rfl, rfl, (by show (0 : Int) < 2147483399; decide), ?_⟩⟩
  have o0 := Int.emod_nonneg (n * 40692 + t * 8117 + 50821) (show (2147483399 : Int) ≠ 0 by decide)
  have o1 := Int.emod_lt_of_pos (n * 40692 + t * 8117 + 50821) (show (0 : Int) < 2147483399 by decide)
  refine ⟨_, rfl, _, rfl, _, _, rfl, rfl, .inl ⟨by omega, by omega⟩, _, rfl, _, _, rfl, rfl, .inl ⟨by omega, by omega⟩, _, _, rfl, rfl, _, rfl, _, _, rfl, rfl, div_ok (by decide) (by decide), _, _, rfl, rfl, .inl ⟨_, rfl, _, _, rfl, rfl, (by show (0 : Int) < 2147483629; decide), ?_⟩⟩
  have wb : ∀ a : Int, -(2 ^ 64) < a % 2147483629 ∧ a % 2147483629 < 2 ^ 64 := fun a => ⟨by omega, by omega⟩
  refine ⟨_, rfl, _, _, rfl, rfl, .inl (wb _), _, rfl, _, _, rfl, rfl, div_ok (by decide) (by decide), _, _, rfl, rfl, .inl ⟨_, rfl, _, _, rfl, rfl, (by show (0 : Int) < 2147483587; decide), .inl ⟨_, rfl, _, _, rfl, rfl, div_ok (by decide) (by decide), q _ ?_⟩⟩⟩
  exact Int.ediv_nonneg (Int.emod_nonneg _ (by decide)) (by decide)
def spTake (K : PySem.W.Frag) : Sp := fun vs H Q _ => ∃ G x m, vs = [.ref x, .int m] ∧ Same G H ∧ Hd K x G H ∧ 0 < m ∧ m < 2 ^ 64 ∧ ∀ H' r, 0 ≤ r → r < m → Gr (Mx x) G H G H' → Hd K x G H' → Q (.int r) H'
theorem sc_law_take : FnScope ["_law_hand_here", "_law_many_here", "_law_cell", "_law_rest"] ["_law_hand_here", "_law_many_here"] (defScope s_law_take) := ⟨rfl, rfl, rfl, by decide +kernel, rfl, by decide +kernel, by decide +kernel⟩
theorem c_law_take (T : Tx K mg) : C8.Cal P w K mg base 2 "_law_take" (spTake K) [] := by
  refine mkCal T.f_law_take sc_law_take (fun _ _ _ _ _ _ us hl => match us, hl with | [_, _], _ => rfl) (fun vs H Q E h => ?_) (fun f cdv A outer s H vs Q E hr h => ?_)
  · obtain ⟨_, _, _, rfl, _⟩ := h
    rfl
  obtain ⟨G, x, m, rfl, g, ⟨c, ns, p, r, t, hh⟩, m0, m1, q⟩ := h
  refine ⟨_, (pss_cons (ps_if (PW.pt (pw_and (pt_cmpR op_eq (pe_ix ix_list (pv 0) pe_int (fun _ _ => rfl)) pe_int (nomark _)) (pw_and1 (pt_cmpR op_lt (pe_ix ix_list (pv 0) pe_int (fun _ _ => rfl)) (pe_callB call_len_seq (by rfl) T.len bt_len (pa_cons (pe_ix ix_list (pv 0) pe_int (fun _ _ => rfl)) pa_nil)) (nomark _))))) (pss_cons (ps_set (i := 2) sc_law_take.nd rfl (Or.inl rfl) (pe_ix ix_list (pe_ix ix_list (pv 0) pe_int (fun _ _ => rfl)) (pe_ix ix_list (pv 0) pe_int (fun _ _ => rfl)) (fun _ _ => rfl)))
      (pss_cons (ps_asg (pe_op op_add (pe_ix ix_list (pv 0) pe_int (fun _ _ => rfl)) pe_int) (pg_sub (pv 0) pe_int set_list))
      (pss_cons (ps_if (pt_cmpR op_lt (pv 2) (pe_op op_pow pe_int pe_int) (nomark _)) (pss_one (ps_ret (pe_op op_mod (pe_callTy call_int1 (by rfl) T.int bt_int (pa_cons (C8.pe_c (c_law_mixed T) hr (by decide) (by rfl) (pa_cons (pe_op op_mod (pe_callTy call_int1 (by rfl) T.int bt_int (pa_cons (pv 2) pa_nil)) pe_int) (pa_cons (pe_ix ix_list (pv 0) pe_int (fun _ _ => rfl)) pa_nil))) pa_nil)) (pv 1)))) pss_nil)
      (pss_one (ps_asg (pv 2) (pg_sub (pv 0) pe_int set_list)))))) pss_nil)
      (pss_cons (ps_if (pt_cmpR op_gt (pe_ix ix_list (pv 0) pe_int (fun _ _ => rfl)) pe_int (nomark _)) (pss_cons (ps_set (i := 3) sc_law_take.nd rfl (Or.inl rfl) (pe_ix ix_list (pv 0) pe_int (fun _ _ => rfl)))
      (pss_cons (ps_asg (pe_op op_fdivW (pe_callTy call_int1 (by rfl) T.int bt_int (pa_cons (pv 3) pa_nil)) (pv 1)) (pg_sub (pv 0) pe_int set_list))
      (pss_one (ps_ret (pe_op op_mod (pe_callTy call_int1 (by rfl) T.int bt_int (pa_cons (pv 3) pa_nil)) (pv 1)))))) pss_nil)
      (pss_cons (ps_asg (pe_op op_mod (pe_callTy call_int1 (by rfl) T.int bt_int (pa_cons (pe_op op_add (pe_ix ix_list (pv 0) pe_int (fun _ _ => rfl)) pe_int) pa_nil)) pe_int) (pg_sub (pv 0) pe_int set_list))
      (pss_one (ps_ret (pe_op op_mod (pe_callTy call_int1 (by rfl) T.int bt_int (pa_cons (C8.pe_c (c_law_mixed T) hr (by decide) (by rfl) (pa_cons (pe_ix ix_list (pv 0) pe_int (fun _ _ => rfl)) (pa_cons (pe_ix ix_list (pv 0) pe_int (fun _ _ => rfl)) pa_nil))) pa_nil)) (pv 1))))))), ?_⟩
  have gr0 := Gr.refl (M := Mx x) g
  refine ⟨_, rfl, _, _, _, _, rfl, rfl, .of hh.hH, rfl, rfl, _, rfl, ?_⟩
  refine ite2 (fun z1 => ?_) (fun z1 => iteF ?_)
  · have z1 : r = 0 := V.int.inj (of_decide_eq_true z1)
    refine ⟨_, rfl, _, _, _, _, rfl, rfl, .of hh.hH, rfl, _, rfl, _, _, _, _, rfl, rfl, .of hh.hH, rfl, c, _, rfl, .inl (g.seq hh.hc), _, _, rfl, rfl, _, rfl, ?_⟩
    refine ite2 (fun z2 => ?_) (fun z2 => ?_)
    · have z2 := of_decide_eq_true z2
      rw [List.length_map] at z2
      obtain ⟨n, hn⟩ : ∃ n, ns[p.toNat]? = some n := ⟨ns[p.toNat]'(by have := hh.p0; omega), List.getElem?_eq_getElem _⟩
      have n0 := hh.nn n (List.mem_of_getElem? hn)
      have hat : atI (ns.map V.int) p = some (.int n) := by
        have := atI_nat (xs := ns.map V.int) (j := p.toNat) (v := .int n) (by rw [List.getElem?_map, hn]; rfl)
        rwa [Int.toNat_of_nonneg hh.p0] at this
      have h1 := hh.put (p' := p + 1) (r' := r) (t' := t) (by have := hh.p0; omega) (by omega) hh.r0 hh.t0 hh.t1
      have gr1 := gr0.writeM (o := .lst [.ref c, .int (p + 1), .int r, .int t]) rfl (by rw [hh.hH]; intro z; cases z) hh.hG
      refine ⟨_, rfl, _, _, _, _, rfl, rfl, .of hh.hH, rfl, _, rfl, _, _, _, _, rfl, rfl, .of hh.hH, rfl, _, _, _, _, rfl, rfl, g.seq hh.hc, hat, _, rfl, _, _, _, _, rfl, rfl, .of hh.hH, rfl, _, _, rfl, rfl, _, rfl, x, _, _, _, rfl, rfl, hh.hH, rfl, ?_⟩
      refine ⟨_, rfl, _, _, rfl, rfl, ⟨by decide, by decide, by decide⟩, _, _, rfl, rfl, _, rfl, ?_⟩
      refine ite2 (fun z3 => ?_) (fun z3 => ?_)
      · have b0 := Int.emod_nonneg n (show (2147483399 : Int) ≠ 0 by decide)
        have b1 := Int.emod_lt_of_pos n (show (0 : Int) < 2147483399 by decide)
        refine ⟨_, rfl, .inl ⟨_, rfl, _, _, rfl, rfl, (by show (0 : Int) < 2147483399; decide), _, rfl, _, _, _, _, rfl, rfl, .of h1.hH, rfl, _, _, rfl, b0, by omega, h1.p0, by have := h1.p1; have := h1.len; omega, fun u u0 => .inl ⟨_, rfl, _, rfl, _, _, rfl, rfl, m0, ?_⟩⟩⟩
        exact q _ _ (Int.emod_nonneg _ (Int.ne_of_gt m0)) (Int.emod_lt_of_pos _ m0) gr1 ⟨_, _, _, _, _, h1⟩
      · have h2 := h1.put (p' := p + 1) (r' := n) (t' := t) h1.p0 h1.p1 n0 h1.t0 h1.t1
        have gr2 := gr1.writeM (o := .lst [.ref c, .int (p + 1), .int n, .int t]) rfl (by rw [h1.hH]; intro z; cases z) h1.hG
        refine ⟨_, rfl, _, rfl, x, _, _, _, rfl, rfl, h1.hH, rfl, ?_⟩
        refine ⟨_, rfl, _, _, _, _, rfl, rfl, .of h2.hH, rfl, _, _, rfl, rfl, _, rfl, ?_⟩
        refine ite2 (fun zt => ?_) (fun zt => ?_)
        · have zt := of_decide_eq_true zt
          refine ⟨_, rfl, _, _, _, _, rfl, rfl, .of h2.hH, rfl, _, rfl, .inl ⟨_, rfl, _, rfl, _, _, rfl, rfl, div_ok m0 m1, _, rfl, x, _, _, _, rfl, rfl, h2.hH, rfl, _, rfl, .inl ⟨_, rfl, _, rfl, _, _, rfl, rfl, m0, ?_⟩⟩⟩
          exact q _ _ (Int.emod_nonneg _ (Int.ne_of_gt m0)) (Int.emod_lt_of_pos _ m0) (gr2.writeM rfl (by rw [h2.hH]; intro z; cases z) h2.hG) ⟨_, _, _, _, _, h2.put h2.p0 h2.p1 (Int.ediv_nonneg h2.r0 (Int.le_of_lt m0)) h2.t0 h2.t1⟩
        · have b0 := Int.emod_nonneg (t + 1) (show (2147483563 : Int) ≠ 0 by decide)
          have b1 := Int.emod_lt_of_pos (t + 1) (show (0 : Int) < 2147483563 by decide)
          have hz := h2.put (p' := p + 1) (r' := n) (t' := (t + 1) % 2147483563) h2.p0 h2.p1 h2.r0 b0 (by omega)
          have gz := gr2.writeM (o := .lst [.ref c, .int (p + 1), .int (n), .int ((t + 1) % 2147483563)]) rfl (by rw [h2.hH]; intro z; cases z) h2.hG
          refine ⟨_, rfl, _, _, _, _, rfl, rfl, .of h2.hH, rfl, _, _, rfl, rfl, .inl ⟨_, rfl, _, _, rfl, rfl, (by show (0 : Int) < 2147483563; decide), _, rfl, x, _, _, _, rfl, rfl, h2.hH, rfl, _, rfl, _, _, _, _, rfl, rfl, .of hz.hH, rfl, _, rfl, _, _, _, _, rfl, rfl, .of hz.hH, rfl, _, _, rfl, b0, by omega, h2.p0, by have := h2.p1; have := h2.len; omega, fun u u0 => .inl ⟨_, rfl, _, rfl, _, _, rfl, rfl, m0, ?_⟩⟩⟩
          exact q _ _ (Int.emod_nonneg _ (Int.ne_of_gt m0)) (Int.emod_lt_of_pos _ m0) gz ⟨_, _, _, _, _, hz⟩
    · refine ⟨_, rfl, _, _, _, _, rfl, rfl, .of hh.hH, rfl, _, _, rfl, rfl, _, rfl, ?_⟩
      refine ite2 (fun zt => ?_) (fun zt => ?_)
      · have zt := of_decide_eq_true zt
        refine ⟨_, rfl, _, _, _, _, rfl, rfl, .of hh.hH, rfl, _, rfl, .inl ⟨_, rfl, _, rfl, _, _, rfl, rfl, div_ok m0 m1, _, rfl, x, _, _, _, rfl, rfl, hh.hH, rfl, _, rfl, .inl ⟨_, rfl, _, rfl, _, _, rfl, rfl, m0, ?_⟩⟩⟩
        exact q _ _ (Int.emod_nonneg _ (Int.ne_of_gt m0)) (Int.emod_lt_of_pos _ m0) (gr0.writeM rfl (by rw [hh.hH]; intro z; cases z) hh.hG) ⟨_, _, _, _, _, hh.put hh.p0 hh.p1 (Int.ediv_nonneg hh.r0 (Int.le_of_lt m0)) hh.t0 hh.t1⟩
      · have b0 := Int.emod_nonneg (t + 1) (show (2147483563 : Int) ≠ 0 by decide)
        have b1 := Int.emod_lt_of_pos (t + 1) (show (0 : Int) < 2147483563 by decide)
        have hz := hh.put (p' := p) (r' := r) (t' := (t + 1) % 2147483563) hh.p0 hh.p1 hh.r0 b0 (by omega)
        have gz := gr0.writeM (o := .lst [.ref c, .int (p), .int (r), .int ((t + 1) % 2147483563)]) rfl (by rw [hh.hH]; intro z; cases z) hh.hG
        refine ⟨_, rfl, _, _, _, _, rfl, rfl, .of hh.hH, rfl, _, _, rfl, rfl, .inl ⟨_, rfl, _, _, rfl, rfl, (by show (0 : Int) < 2147483563; decide), _, rfl, x, _, _, _, rfl, rfl, hh.hH, rfl, _, rfl, _, _, _, _, rfl, rfl, .of hz.hH, rfl, _, rfl, _, _, _, _, rfl, rfl, .of hz.hH, rfl, _, _, rfl, b0, by omega, hh.p0, by have := hh.p1; have := hh.len; omega, fun u u0 => .inl ⟨_, rfl, _, rfl, _, _, rfl, rfl, m0, ?_⟩⟩⟩
        exact q _ _ (Int.emod_nonneg _ (Int.ne_of_gt m0)) (Int.emod_lt_of_pos _ m0) gz ⟨_, _, _, _, _, hz⟩
  · refine ⟨_, rfl, _, _, _, _, rfl, rfl, .of hh.hH, rfl, _, _, rfl, rfl, _, rfl, ?_⟩
    refine ite2 (fun zt => ?_) (fun zt => ?_)
    · have zt := of_decide_eq_true zt
      refine ⟨_, rfl, _, _, _, _, rfl, rfl, .of hh.hH, rfl, _, rfl, .inl ⟨_, rfl, _, rfl, _, _, rfl, rfl, div_ok m0 m1, _, rfl, x, _, _, _, rfl, rfl, hh.hH, rfl, _, rfl, .inl ⟨_, rfl, _, rfl, _, _, rfl, rfl, m0, ?_⟩⟩⟩
      exact q _ _ (Int.emod_nonneg _ (Int.ne_of_gt m0)) (Int.emod_lt_of_pos _ m0) (gr0.writeM rfl (by rw [hh.hH]; intro z; cases z) hh.hG) ⟨_, _, _, _, _, hh.put hh.p0 hh.p1 (Int.ediv_nonneg hh.r0 (Int.le_of_lt m0)) hh.t0 hh.t1⟩
    · have b0 := Int.emod_nonneg (t + 1) (show (2147483563 : Int) ≠ 0 by decide)
      have b1 := Int.emod_lt_of_pos (t + 1) (show (0 : Int) < 2147483563 by decide)
      have hz := hh.put (p' := p) (r' := r) (t' := (t + 1) % 2147483563) hh.p0 hh.p1 hh.r0 b0 (by omega)
      have gz := gr0.writeM (o := .lst [.ref c, .int (p), .int (r), .int ((t + 1) % 2147483563)]) rfl (by rw [hh.hH]; intro z; cases z) hh.hG
      refine ⟨_, rfl, _, _, _, _, rfl, rfl, .of hh.hH, rfl, _, _, rfl, rfl, .inl ⟨_, rfl, _, _, rfl, rfl, (by show (0 : Int) < 2147483563; decide), _, rfl, x, _, _, _, rfl, rfl, hh.hH, rfl, _, rfl, _, _, _, _, rfl, rfl, .of hz.hH, rfl, _, rfl, _, _, _, _, rfl, rfl, .of hz.hH, rfl, _, _, rfl, b0, by omega, hh.p0, by have := hh.p1; have := hh.len; omega, fun u u0 => .inl ⟨_, rfl, _, rfl, _, _, rfl, rfl, m0, ?_⟩⟩⟩
      exact q _ _ (Int.emod_nonneg _ (Int.ne_of_gt m0)) (Int.emod_lt_of_pos _ m0) gz ⟨_, _, _, _, _, hz⟩
end
end K6

set_option Elab.async false
set_option linter.all false
set_option maxRecDepth 100000
set_option maxHeartbeats 4000000
namespace K6
open PySem PySem.Spec PyProof.Rows L2
section
variable {P : Program} {w : World} {K : PySem.W.Frag} {mg : Str → Option Value} {base : Heap}
def spHand (K : PySem.W.Frag) : Sp := fun vs H Q _ => ∃ (G : Hp) (a : Addr) (ns : List Int), vs = [.ref a] ∧ Same G H ∧ SqL K G a (ns.map V.int) ∧ ns.length ≤ 100 ∧ ∀ G' H' x, Gr M0 G H G' H' → Hd K x G' H' → Q (.ref x) H'
theorem sc_law_hand : FnScope ["_law_script", "_law_total", "_law_cells", "_law_cell"] ["_law_script"] (defScope s_law_hand) := ⟨rfl, rfl, rfl, by decide +kernel, rfl, by decide +kernel, by decide +kernel⟩
theorem c_law_hand (T : Tx K mg) : C8.Cal P w K mg base 1 "_law_hand" (spHand K) [] := by
  refine mkCal T.f_law_hand sc_law_hand (fun _ _ _ _ _ _ us hl => match us, hl with | [_], _ => rfl) (fun vs H Q E h => ?_) (fun f cdv A outer s H vs Q E hr h => ?_)
  · obtain ⟨_, _, _, rfl, _⟩ := h
    rfl
  obtain ⟨G, a, ns, rfl, g, ha, hl, q⟩ := h
  refine ⟨_, (pss_cons (ps_set (i := 1) sc_law_hand.nd rfl (Or.inl rfl) (pe_op op_add (pe_callB call_len_seq (by rfl) T.len bt_len (pa_cons (pv 0) pa_nil)) pe_int))
      (pss_cons (ps_set (i := 2) sc_law_hand.nd rfl (Or.inl rfl) (pe_lst pa_nil))
      (pss_cons (ps_for PassesOwn.never rfl (pi_seq (pv 0)) (pg_name (i := 3) sc_law_hand.nd rfl (Or.inl rfl)) (pss_cons (ps_set (i := 1) sc_law_hand.nd rfl (Or.inl rfl) (pe_op op_mod (pe_callTy call_int1 (by rfl) T.int bt_int (pa_cons (pe_op op_add (pe_op op_mul (pv 1) pe_int) (pe_callTy call_int1 (by rfl) T.int bt_int (pa_cons (pv 3) pa_nil))) pa_nil)) pe_int))
      (pss_one (ps_expr (pe_bm PySem.F.plainAttrs_list PySem.F.slot_list_append PySem.F.type_list_append mt_append (pv 2) (pa_cons (pe_callB call_abs (by rfl) T.abs bt_abs (pa_cons (pe_callTy call_int1 (by rfl) T.int bt_int (pa_cons (pv 3) pa_nil)) pa_nil)) pa_nil))))))
      (pss_one (ps_ret (pe_lst (pa_cons (pv 2) (pa_cons pe_int (pa_cons pe_int (pa_cons (pv 1) pa_nil)))))))))), ?_⟩
  refine ⟨_, rfl, a, _, rfl, .inl (g.seq ha), _, _, rfl, rfl, (show 0 ≤ sizeLine by decide), fun l hl0 => ?_⟩
  have hlG := g.free hl0
  have hlen : (ns.map V.int).length = ns.length := List.length_map ..
  let ab : Int → Int := fun n => if n < 0 then -n else n
  refine ⟨_, rfl, a, _, rfl, fr_seq (.inl ha) (fun i σ H' => Gr M0 G H G H' ∧ H' l = some (.lst (((ns.take i).map ab).map V.int)) ∧ ∃ t r, σ = [some (.ref a), some (.int t), some (.ref l), r] ∧ 0 ≤ t ∧ t < 2 ^ 31)
    ⟨(Gr.refl g).new hl0, upd_at, _, _, rfl, by omega, by omega⟩ (fun i σ H' h => h.1.gh) (fun i v σ H1 hv ⟨gr, hl1, t, r, es, t0, t1⟩ => ?_) (fun σ H1 ⟨gr, hl1, t, r, es, t0, t1⟩ => ?_)⟩
  · subst es
    have hi := (List.getElem?_eq_some_iff.1 hv).1
    obtain ⟨n, hn, rfl⟩ := at_map hv
    refine ⟨_, rfl, _, _, rfl, rfl, .inl ⟨by omega, by omega⟩, _, rfl, .inl ⟨_, rfl, _, _, rfl, rfl, .inl ⟨_, rfl, _, _, rfl, rfl, (by show (0 : Int) < 2147483563; decide), ?_⟩⟩⟩
    have b0 := Int.emod_nonneg (t * 1033 + n) (show (2147483563 : Int) ≠ 0 by decide)
    have b1 := Int.emod_lt_of_pos (t * 1033 + n) (show (0 : Int) < 2147483563 by decide)
    refine ⟨_, rfl, .inl ⟨rfl, _, .of hl1⟩, _, rfl, .inl ⟨_, rfl, _, rfl, l, _, _, rfl, rfl, hl1, small_lt ?_, gr.write hl0 hlG, ?_, _, _, rfl, b0, by omega⟩⟩
    · rw [List.length_map, List.length_map, List.length_take]
      omega
    · rw [upd_at, take_snoc hn, List.map_append, List.map_append]
      rfl
  · subst es
    rw [hlen, List.take_length] at hl1
    have gr1 := gr.shut hl0 hlG hl1
    have hcs : SqL K (upd G l (.lst ((ns.map ab).map V.int))) l ((ns.map ab).map V.int) := .of upd_at
    generalize upd G l (.lst ((ns.map ab).map V.int)) = G1 at gr1 hcs
    refine ⟨_, rfl, _, rfl, (by show 4 ≤ sizeLine; decide), fun x hx => ?_⟩
    refine q _ _ x (gr1.new hx) ⟨l, ns.map ab, 0, 0, t, gr1.gh.free hx, upd_at, hcs, by rw [List.length_map]; exact hl, fun m hm => ?_, Int.le_refl _, by omega, Int.le_refl _, t0, t1⟩
    obtain ⟨n, _, rfl⟩ := List.mem_map.1 hm
    show 0 ≤ if n < 0 then -n else n
    by_cases h : n < 0
    · rw [if_pos h]
      omega
    · rw [if_neg h]
      omega
/-! ### names -/
theorem small_len : smallZ.cps.toList.length = 26 := by decide +kernel
theorem small_at {n : Int} (h0 : 0 ≤ n) (h1 : n < 26) : ∃ c, smallZ.cps.toList[n.toNat]? = some c ∧ atI smallZ.cps.toList n = some c ∧ c ∈ smallZ.cps.toList := by
  have hl := small_len
  have h : n.toNat < smallZ.cps.toList.length := by omega
  refine ⟨smallZ.cps.toList[n.toNat], List.getElem?_eq_getElem h, ?_, List.getElem_mem h⟩
  have := atI_nat (List.getElem?_eq_getElem h)
  rwa [Int.toNat_of_nonneg h0] at this
def spNm (K : PySem.W.Frag) : Sp := fun vs H Q _ => ∃ (G : Hp) (x : Addr) (n : Int), vs = [.ref x, .int n] ∧ Same G H ∧ Hd K x G H ∧ 0 ≤ n ∧ n < 26 ∧ ∀ H' z, NameOk z → z.cps[0]? = smallZ.cps.toList[n.toNat]? → Gr (Mx x) G H G H' → Hd K x G H' → Q (.str z) H'
theorem sc_law_name : FnScope ["_law_hand_here", "_law_first", "_law_word", "_law_step_here"] ["_law_hand_here", "_law_first"] (defScope s_law_name) := ⟨rfl, rfl, rfl, by decide +kernel, rfl, by decide +kernel, by decide +kernel⟩
theorem c_law_name (T : Tx K mg) : C8.Cal P w K mg base 3 "_law_name" (spNm K) [] := by
  refine mkCal T.f_law_name sc_law_name (fun _ _ _ _ _ _ us hl => match us, hl with | [_, _], _ => rfl) (fun vs H Q E h => ?_) (fun f cdv A outer s H vs Q E hr h => ?_)
  · obtain ⟨_, _, _, rfl, _⟩ := h
    rfl
  obtain ⟨G, x, n, rfl, g, hd, n0, n1, q⟩ := h
  refine ⟨_, (pss_cons (ps_set (i := 2) sc_law_name.nd rfl (Or.inl rfl) (pe_ix ix_str pe_str (pv 1) (fun _ _ => rfl)))
      (pss_cons (ps_for PassesOwn.never rfl (pi_range1 (by rfl) T.range (pa_cons (pe_ix ix_tup (pe_tup (pa_cons pe_int (pa_cons pe_int (pa_cons pe_int (pa_cons pe_int (pa_cons pe_int pa_nil)))))) (C8.pe_c (c_law_take T) hr (by decide) (by rfl) (pa_cons (pv 0) (pa_cons pe_int pa_nil))) (fun _ _ => rfl)) pa_nil)) (pg_name (i := 3) sc_law_name.nd rfl (Or.inl rfl)) (pss_one (ps_set (i := 2) sc_law_name.nd rfl (Or.inl rfl) (pe_op op_add_str (pv 2) (pe_ix ix_str pe_str (C8.pe_c (c_law_take T) hr (by decide) (by rfl) (pa_cons (pv 0) (pa_cons pe_int pa_nil))) (fun _ _ => rfl))))))
      (pss_one (ps_ret (pv 2))))), ?_⟩
  obtain ⟨c0, hc0, hat0, hm0⟩ := small_at n0 n1
  refine ⟨_, rfl, smallZ, n, c0, rfl, rfl, small_of (show smallZ.cps.size ≤ 100000 by decide +kernel), hat0, ?_⟩
  refine ⟨(by show 5 ≤ sizeLine; decide), fun p hp => ⟨_, rfl, G, x, 5, rfl, g.trans (same_new hp), hd.same g (same_new hp), by decide, by decide, fun H1 r r0 r1 gr1 hd1 => ?_⟩⟩
  have hpx : p ≠ x := fun z => by
    obtain ⟨_, _, _, _, _, hh⟩ := hd
    rw [z, hh.hH] at hp
    cases hp
  have hp1 : H1 p = some (.tup [.int 0, .int 0, .int 1, .int 3, .int 7]) := gr1.hh p _ hpx upd_at
  have gr0 : Gr (Mx x) G H G H1 := ((Gr.refl g).new hp).trans gr1
  obtain ⟨k, hk7, hat⟩ : ∃ k : Nat, k ≤ 7 ∧ atI [V.int 0, .int 0, .int 1, .int 3, .int 7] r = some (.int (k : Int)) := by
    rcases (show r = 0 ∨ r = 1 ∨ r = 2 ∨ r = 3 ∨ r = 4 by omega) with rfl | rfl | rfl | rfl | rfl
    · exact ⟨0, by decide, rfl⟩
    · exact ⟨0, by decide, rfl⟩
    · exact ⟨1, by decide, rfl⟩
    · exact ⟨3, by decide, rfl⟩
    · exact ⟨7, by decide, rfl⟩
  refine ⟨_, _, _, _, rfl, rfl, .of hp1, hat, _, rfl, by omega, by omega, fr_range (n := k) (fun i σ H' => Gr (Mx x) G H G H' ∧ Hd K x G H' ∧ ∃ z r, σ = [some (.ref x), some (.int n), some (.str z), r] ∧ z.cps.size = 1 + i ∧ (∀ (j c : Nat), z.cps[j]? = some c → c ∈ smallZ.cps.toList) ∧ z.cps[0]? = some c0)
    ⟨gr0, hd1, ⟨#[c0]⟩, _, rfl, rfl, fun j c h => ?_, rfl⟩ (fun i σ H2 hi ⟨gr2, hd2, z, r, es, z1, z2, z3⟩ => ?_) (fun σ H2 ⟨gr2, hd2, z, r, es, z1, z2, z3⟩ => ?_)⟩
  · have h := Array.mem_of_getElem? h
    have h : c ∈ #[c0] := h
    rw [Array.mem_singleton.1 h]
    exact hm0
  · subst es
    refine ⟨_, rfl, _, rfl, G, x, 26, rfl, gr2.gh, hd2, by decide, by decide, fun H3 u u0 u1 gr3 hd3 => ?_⟩
    obtain ⟨c1, hc1, hat1, hm1⟩ := small_at u0 u1
    refine ⟨smallZ, u, c1, rfl, rfl, small_of (show smallZ.cps.size ≤ 100000 by decide +kernel), hat1, _, _, rfl, rfl, small_of (by show z.cps.size + 1 ≤ 100000; omega), gr2.trans gr3, hd3, _, _, rfl, ?_, fun j c h => ?_, ?_⟩
    · show (z.cps ++ #[c1]).size = _
      rw [Array.size_append, z1]
      rfl
    · have h : (z.cps ++ #[c1])[j]? = some c := h
      have h := Array.mem_of_getElem? h
      rcases Array.mem_append.1 h with m | m
      · obtain ⟨j', hj'⟩ := Array.getElem?_of_mem m
        exact z2 j' c hj'
      · rw [Array.mem_singleton.1 m]
        exact hm1
    · show (z.cps ++ #[c1])[0]? = _
      rw [Array.getElem?_append_left (by omega)]
      exact z3
  · subst es
    exact ⟨_, rfl, q _ z ⟨by omega, by omega, z2⟩ (z3.trans hc0.symm) gr2 hd2⟩
end
end K6

set_option Elab.async false
set_option linter.all false
set_option maxRecDepth 100000
set_option maxHeartbeats 4000000
namespace K6
open PySem PySem.Spec PyProof.Rows L2
/-! ### fillings in order -/
theorem prod_snoc (ss : List Int) (s : Int) : prodI (ss ++ [s]) = prodI ss * s := by
  unfold prodI
  rw [List.foldl_append]
  rfl
theorem num_fill : ∀ {ss : List Int} (n : Int), (∀ s ∈ ss, SizeOk s) → 0 ≤ n → n < prodI ss → numI 0 ss (fillI ss n) = n
  | [], n, _, h0, h1 => by
    have h1 : n < 1 := h1
    show (0 : Int) = n
    omega
  | s :: ss, n, hs, h0, h1 => by
    have hs' := fun x m => hs x (List.Mem.tail s m)
    have pp := prod_pos hs'
    rw [prod_cons] at h1
    have e : numI 0 (s :: ss) (fillI (s :: ss) n) = numI (0 * s + n / prodI ss % s) ss (fillI ss n) := rfl
    have e2 : ∀ (ss : List Int) (n : Int), (∀ s ∈ ss, SizeOk s) → fillI ss n = fillI ss (n % prodI ss) := by
      intro ss
      induction ss with
      | nil => intro _ _; rfl
      | cons s ss ih =>
        intro n hs
        have hs' := fun x m => hs x (List.Mem.tail s m)
        have pp := prod_pos hs'
        have sp := (hs s (.head _)).1
        show (n / prodI ss % s) :: fillI ss n = (n % prodI (s :: ss) / prodI ss % s) :: fillI ss (n % prodI (s :: ss))
        rw [ih n hs', ih (n % prodI (s :: ss)) hs', prod_cons]
        have e1 : n % (s * prodI ss) % prodI ss = n % prodI ss := Int.emod_emod_of_dvd n (Int.dvd_mul_left s (prodI ss))
        have e3 : n % (s * prodI ss) / prodI ss % s = n / prodI ss % s := by
          have d := Int.mul_ediv_add_emod n (s * prodI ss)
          have : n = n % (s * prodI ss) + (s * (n / (s * prodI ss))) * prodI ss := by
            have : s * prodI ss * (n / (s * prodI ss)) = (s * (n / (s * prodI ss))) * prodI ss := by ac_rfl
            omega
          conv => rhs; rw [this]
          rw [Int.add_mul_ediv_right _ _ (Int.ne_of_gt pp), Int.add_mul_emod_self_left]
        rw [e1, e3]
    rw [e, numI_acc _ _ _ (fil_sizes n hs'), e2 ss n hs', num_fill (n % prodI ss) hs' (Int.emod_nonneg _ (Int.ne_of_gt pp)) (Int.emod_lt_of_pos _ pp), Int.zero_mul, Int.zero_add]
    have q1 : n / prodI ss < s := Int.ediv_lt_of_lt_mul pp h1
    rw [Int.emod_eq_of_lt (Int.ediv_nonneg h0 (Int.le_of_lt pp)) q1, Int.mul_comm]
    exact Int.mul_ediv_add_emod n (prodI ss)
theorem row_le : ∀ {ss r1 r2 : List Int}, Fil ss r1 → Fil ss r2 → numI 0 ss r1 ≤ numI 0 ss r2 → PyProof.Rows.lexLt PyProof.Rows.itemOrd (PySem.W.keyToksAll (r2.map .int)) (PySem.W.keyToksAll (r1.map .int)) = false
  | _, _, _, .nil, .nil, _ => PyProof.Rows.lex_irrefl _
  | s :: ss, x :: r1, y :: r2, .cons h1 t1, .cons h2 t2, h => by
    rw [List.map_cons, List.map_cons, PySem.W.dataLt_cons rfl]
    have n1 := numI_lt t1
    have n2 := numI_lt t2
    have e1 : numI 0 (s :: ss) (x :: r1) = x * prodI ss + numI 0 ss r1 := by
      show numI (0 * s + x) ss r1 = _
      rw [numI_acc _ _ _ t1, Int.zero_mul, Int.zero_add]
    have e2 : numI 0 (s :: ss) (y :: r2) = y * prodI ss + numI 0 ss r2 := by
      show numI (0 * s + y) ss r2 = _
      rw [numI_acc _ _ _ t2, Int.zero_mul, Int.zero_add]
    rw [e1, e2] at h
    by_cases e : y = x
    · subst e
      rw [if_pos (show PyData.eqv (.int y) (.int y) = true by show (y == y) = true; simp)]
      exact row_le t1 t2 (by omega)
    · rw [if_neg (show ¬ PyData.eqv (.int y) (.int x) = true by show ¬ (y == x) = true; simp [e])]
      rw [PySem.W.dataLt_int]
      refine decide_eq_false fun z => ?_
      have : (y + 1) * prodI ss ≤ x * prodI ss := Int.mul_le_mul_of_nonneg_right (by omega) (by omega)
      rw [Int.add_mul, Int.one_mul] at this
      omega
theorem fill_le {ss : List Int} {m n : Int} (hs : ∀ s ∈ ss, SizeOk s) (h0 : 0 ≤ m) (h : m < n) (h1 : n < prodI ss) : PySem.W.dataLe false encRow (fillI ss m) (fillI ss n) = true ∧ fillI ss m ≠ fillI ss n := by
  have e1 := num_fill m hs h0 (by omega)
  have e2 := num_fill n hs (by omega) h1
  refine ⟨?_, fun z => ?_⟩
  · rw [PySem.W.dataLe_eq]
    show (!PySem.W.dataLt (encRow (fillI ss n)) (encRow (fillI ss m))) = true
    unfold encRow
    rw [PySem.W.dataLt_tuple, row_le (fil_sizes m hs) (fil_sizes n hs) (by omega)]
    rfl
  · rw [z] at e1
    omega
section
variable {P : Program} {w : World} {K : PySem.W.Frag} {mg : Str → Option Value} {base : Heap}
theorem Hd.upd {x l : Addr} {G H : Hp} {o : HO} (h : Hd K x G H) (n : l ≠ x) : Hd K x G (upd H l o) := by
  obtain ⟨c, ns, p, r, t, h⟩ := h
  exact ⟨c, ns, p, r, t, h.hG, by rw [upd_ne (Ne.symm n)]; exact h.hH, h.hc, h.len, h.nn, h.p0, h.p1, h.r0, h.t0, h.t1⟩
theorem Hd.ne {x l : Addr} {G H : Hp} (h : Hd K x G H) (n : H l = none) : l ≠ x := fun z => by
  obtain ⟨c, ns, p, r, t, h⟩ := h
  rw [z, h.hH] at n
  cases n
def spSzs (K : PySem.W.Frag) : Sp := fun vs H Q _ => ∃ (G : Hp) (x : Addr), vs = [.ref x, .int 27] ∧ Same G H ∧ Hd K x G H ∧ ∀ G' H' p (ss : List Int), 1 ≤ ss.length → ss.length ≤ 4 → (∀ s ∈ ss, 2 ≤ s ∧ s ≤ 4) → prodI ss ≤ 27 → Gr (Mx x) G H G' H' → Hd K x G' H' → SqL K G' p (ss.map V.int) → Q (.ref p) H'
theorem sc_law_sizes : FnScope ["_law_hand_here", "_law_most", "_law_sizes_here", "_law_product", "_law_step_here", "_law_size_here"] ["_law_hand_here", "_law_most"] (defScope s_law_sizes) := ⟨rfl, rfl, rfl, by decide +kernel, rfl, by decide +kernel, by decide +kernel⟩
theorem c_law_sizes (T : Tx K mg) : C8.Cal P w K mg base 3 "_law_sizes" (spSzs K) [] := by
  refine mkCal T.f_law_sizes sc_law_sizes (fun _ _ _ _ _ _ us hl => match us, hl with | [_, _], _ => rfl) (fun vs H Q E h => ?_) (fun f cdv A outer s H vs Q E hr h => ?_)
  · obtain ⟨_, _, rfl, _⟩ := h
    rfl
  obtain ⟨G, x, rfl, g, hd, q⟩ := h
  refine ⟨_, (pss_cons (ps_set (i := 2) sc_law_sizes.nd rfl (Or.inl rfl) (pe_lst pa_nil))
      (pss_cons (ps_set (i := 3) sc_law_sizes.nd rfl (Or.inl rfl) pe_int)
      (pss_cons (ps_for PassesOwn.never rfl (pi_range1 (by rfl) T.range (pa_cons (pe_op op_add pe_int (C8.pe_c (c_law_take T) hr (by decide) (by rfl) (pa_cons (pv 0) (pa_cons pe_int pa_nil)))) pa_nil)) (pg_name (i := 4) sc_law_sizes.nd rfl (Or.inl rfl)) (pss_cons (ps_set (i := 5) sc_law_sizes.nd rfl (Or.inl rfl) (pe_ix ix_tup (pe_tup (pa_cons pe_int (pa_cons pe_int (pa_cons pe_int (pa_cons pe_int (pa_cons pe_int (pa_cons pe_int (pa_cons pe_int (pa_cons pe_int pa_nil))))))))) (C8.pe_c (c_law_take T) hr (by decide) (by rfl) (pa_cons (pv 0) (pa_cons pe_int pa_nil))) (fun _ _ => rfl)))
      (pss_cons (ps_if (pt_cmpR op_gt (pe_op op_mul (pv 3) (pv 5)) (pv 1) (nomark _)) (pss_one (ps_set (i := 5) sc_law_sizes.nd rfl (Or.inl rfl) pe_int)) pss_nil)
      (pss_one (ps_if (pt_cmpR op_le (pe_op op_mul (pv 3) (pv 5)) (pv 1) (nomark _)) (pss_cons (ps_expr (pe_bm PySem.F.plainAttrs_list PySem.F.slot_list_append PySem.F.type_list_append mt_append (pv 2) (pa_cons (pv 5) pa_nil)))
      (pss_one (ps_set (i := 3) sc_law_sizes.nd rfl (Or.inl rfl) (pe_op op_mul (pv 3) (pv 5))))) pss_nil)))))
      (pss_one (ps_ret (pv 2)))))), ?_⟩
  refine ⟨(show 0 ≤ sizeLine by decide), fun l hl0 => ?_⟩
  have hlG := g.free hl0
  have hlx := hd.ne hl0
  have e0 := same_new (o := .lst []) hl0
  refine ⟨_, rfl, G, x, 4, rfl, g.trans e0, hd.same g e0, by decide, by decide, fun H1 r r0 r1 gr1 hd1 => ?_⟩
  have gr0 : Gr (Mx x) G H G H1 := ((Gr.refl g).new hl0).trans gr1
  have hl1 := gr1.hh l _ hlx upd_at
  refine ⟨_, _, rfl, rfl, _, rfl, by omega, by omega, fr_range (n := (1 + r).toNat) (fun i σ H' => Gr (Mx x) G H G H' ∧ Hd K x G H' ∧ ∃ (ss : List Int) (r4 r5 : Option V), σ = [some (.ref x), some (.int 27), some (.ref l), some (.int (prodI ss)), r4, r5] ∧ H' l = some (.lst (ss.map V.int)) ∧ ss.length ≤ i ∧ (1 ≤ i → 1 ≤ ss.length) ∧ (∀ s ∈ ss, 2 ≤ s ∧ s ≤ 4) ∧ prodI ss ≤ 27)
    ⟨gr0, hd1, ([] : List Int), _, _, rfl, hl1, Nat.le_refl 0, (fun h => by omega), (by intro s m; cases m), (by show (1 : Int) ≤ 27; decide)⟩ (fun i σ H2 hi ⟨gr2, hd2, ss, r4, r5, es, hl2, hsl, h1, hs, hp⟩ => ?_) (fun σ H2 ⟨gr2, hd2, ss, r4, r5, es, hl2, hsl, h1, hs, hp⟩ => ?_)⟩
  · subst es
    refine ⟨(by show 8 ≤ sizeLine; decide), fun p hp' => ⟨_, rfl, G, x, 8, rfl, gr2.gh.trans (same_new hp'), hd2.same gr2.gh (same_new hp'), by decide, by decide, fun H4 u u0 u1 gr4 hd4 => ?_⟩⟩
    have hpx : p ≠ x := hd2.ne hp'
    have hp4 := gr4.hh p _ hpx upd_at
    have hl4 := gr4.hh l _ hlx (same_new hp' _ _ hl2)
    have gr4 : Gr (Mx x) G H G H4 := (gr2.new hp').trans gr4
    obtain ⟨s, s2, s4, hat⟩ : ∃ s : Int, 2 ≤ s ∧ s ≤ 4 ∧ atI [V.int 2, .int 2, .int 2, .int 3, .int 3, .int 2, .int 3, .int 4] u = some (.int s) := by
      rcases (show u = 0 ∨ u = 1 ∨ u = 2 ∨ u = 3 ∨ u = 4 ∨ u = 5 ∨ u = 6 ∨ u = 7 by omega) with rfl | rfl | rfl | rfl | rfl | rfl | rfl | rfl
      · exact ⟨2, by decide, by decide, rfl⟩
      · exact ⟨2, by decide, by decide, rfl⟩
      · exact ⟨2, by decide, by decide, rfl⟩
      · exact ⟨3, by decide, by decide, rfl⟩
      · exact ⟨3, by decide, by decide, rfl⟩
      · exact ⟨2, by decide, by decide, rfl⟩
      · exact ⟨3, by decide, by decide, rfl⟩
      · exact ⟨4, by decide, by decide, rfl⟩
    have pp : 0 < prodI ss := prod_pos fun s m => ⟨by have := (hs s m).1; omega, by have := (hs s m).2; omega⟩
    refine ⟨_, _, _, _, rfl, rfl, .of hp4, hat, _, rfl, _, rfl, _, _, rfl, rfl, .inl ⟨by omega, by omega⟩, _, rfl, _, _, rfl, rfl, _, rfl, ?_⟩
    refine ite2 (fun z4 => ?_) (fun z4 => ?_)
    · refine ⟨_, rfl, _, rfl, _, _, rfl, rfl, .inl ⟨by omega, by omega⟩, _, rfl, _, _, rfl, rfl, _, rfl, ?_⟩
      refine ite2 (fun z5 => ?_) (fun z5 => ?_)
      · have z5 := of_decide_eq_true z5
        refine ⟨_, rfl, .inl ⟨rfl, _, .of hl4⟩, _, rfl, l, _, _, rfl, rfl, hl4, small_lt (by rw [List.length_map]; omega), _, rfl, _, rfl, _, _, rfl, rfl, .inl ⟨by omega, by omega⟩, gr4.write hl0 hlG, hd4.upd hlx, ss ++ [2], some (.int (0 + (i : Nat))), some (.int 2), ?_, ?_, ?_, fun _ => ?_, ?_, ?_⟩
        · rw [prod_snoc]
          rfl
        · rw [upd_at, List.map_append]
          rfl
        · rw [List.length_append]
          show ss.length + 1 ≤ i + 1
          omega
        · rw [List.length_append]
          show 1 ≤ ss.length + 1
          omega
        · intro y m
          rcases List.mem_append.1 m with m | m
          · exact hs y m
          · rw [List.mem_singleton.1 m]
            omega
        · rw [prod_snoc]
          exact z5
      · have z5 := fun y => z5 (decide_eq_true y)
        refine ⟨gr4, hd4, ss, _, _, rfl, hl4, by omega, fun _ => ?_, hs, hp⟩
        rcases Nat.eq_zero_or_pos ss.length with e | e
        · have e := List.length_eq_zero_iff.1 e
          subst e
          exact absurd (show prodI [] * 2 ≤ 27 by show 1 * 2 ≤ 27; omega) z5
        · exact e
    · refine ⟨_, rfl, _, rfl, _, _, rfl, rfl, .inl ⟨by omega, by omega⟩, _, rfl, _, _, rfl, rfl, _, rfl, ?_⟩
      refine ite2 (fun z5 => ?_) (fun z5 => ?_)
      · have z5 := of_decide_eq_true z5
        refine ⟨_, rfl, .inl ⟨rfl, _, .of hl4⟩, _, rfl, l, _, _, rfl, rfl, hl4, small_lt (by rw [List.length_map]; omega), _, rfl, _, rfl, _, _, rfl, rfl, .inl ⟨by omega, by omega⟩, gr4.write hl0 hlG, hd4.upd hlx, ss ++ [s], some (.int (0 + (i : Nat))), some (.int s), ?_, ?_, ?_, fun _ => ?_, ?_, ?_⟩
        · rw [prod_snoc]
          rfl
        · rw [upd_at, List.map_append]
          rfl
        · rw [List.length_append]
          show ss.length + 1 ≤ i + 1
          omega
        · rw [List.length_append]
          show 1 ≤ ss.length + 1
          omega
        · intro y m
          rcases List.mem_append.1 m with m | m
          · exact hs y m
          · rw [List.mem_singleton.1 m]
            omega
        · rw [prod_snoc]
          exact z5
      · have z5 := fun y => z5 (decide_eq_true y)
        refine ⟨gr4, hd4, ss, _, _, rfl, hl4, by omega, fun _ => ?_, hs, hp⟩
        rcases Nat.eq_zero_or_pos ss.length with e | e
        · have e := List.length_eq_zero_iff.1 e
          subst e
          exact absurd (show prodI [] * s ≤ 27 by show 1 * s ≤ 27; omega) z5
        · exact e
  · subst es
    refine ⟨_, rfl, q _ _ l ss (h1 (by omega)) (by omega) hs hp (gr2.shut hl0 hlG hl2) ?_ (.of upd_at)⟩
    obtain ⟨c, ns, p, r, t, h⟩ := hd2
    exact ⟨c, ns, p, r, t, by rw [upd_ne (Ne.symm hlx)]; exact h.hG, h.hH, (same_new hlG).seq h.hc, h.len, h.nn, h.p0, h.p1, h.r0, h.t0, h.t1⟩
end
end K6

set_option Elab.async false
set_option linter.all false
set_option maxRecDepth 100000
set_option maxHeartbeats 4000000
namespace K6
open PySem PySem.Spec PyProof.Rows L2
section
variable {P : Program} {w : World} {K : PySem.W.Frag} {mg : Str → Option Value} {base : Heap}
theorem paired_erase {α β : Type} {F : β → α → Prop} : ∀ {vs : List β} {xs : List α} (k : Nat), Paired F vs xs → Paired F (vs.eraseIdx k) (xs.eraseIdx k)
  | _, _, _, .nil => .nil
  | _, _, 0, .cons r t => t
  | _, _, k + 1, .cons r t => .cons r (paired_erase k t)
theorem erase_perm {α : Type} {y : α} : ∀ {xs : List α} {k : Nat}, xs[k]? = some y → (y :: xs.eraseIdx k).Perm xs
  | [], _, h => by cases h
  | x :: xs, 0, h => by
    have e := Option.some.inj h
    subst e
    exact .refl _
  | x :: xs, k + 1, h => (List.Perm.swap x y (xs.eraseIdx k)).trans ((erase_perm (xs := xs) (k := k) h).cons x)
def spSome (K : PySem.W.Frag) {α : Type} (R : Rl α) : Sp := fun vs H Q _ => ∃ (G : Hp) (x a : Addr) (us : List V) (xs : List α) (m : Int), vs = [.ref x, .ref a, .int m] ∧ Same G H ∧ Hd K x G H ∧ SqL K G a us ∧ Paired (R G) us xs ∧ xs.length ≤ 100 ∧ 0 ≤ m ∧ m ≤ 1000 ∧
  ∀ G' H' p (ys rest : List α), (ys ++ rest).Perm xs → ys.length = min m.toNat xs.length → Gr (Mx x) G H G' H' → Hd K x G' H' → rL K R G' (.ref p) ys → Q (.ref p) H'
theorem sc_law_some : FnScope ["_law_hand_here", "_law_things", "_law_many_here", "_law_rest", "_law_out", "_law_step_here"] ["_law_hand_here", "_law_things", "_law_many_here"] (defScope s_law_some) := ⟨rfl, rfl, rfl, by decide +kernel, rfl, by decide +kernel, by decide +kernel⟩
theorem c_law_some {α : Type} {R : Rl α} [Up R] (T : Tx K mg) : C8.Cal P w K mg base 3 "_law_some" (spSome K R) [] := by
  refine mkCal T.f_law_some sc_law_some (fun _ _ _ _ _ _ us hl => match us, hl with | [_, _, _], _ => rfl) (fun vs H Q E h => ?_) (fun f cdv A outer s H vs Q E hr h => ?_)
  · obtain ⟨_, _, _, _, _, _, rfl, _⟩ := h
    rfl
  obtain ⟨G, x, a, us, xs, m, rfl, g, hd, ha, hP, hl, m0, m1, q⟩ := h
  refine ⟨_, (pss_cons (ps_set (i := 3) sc_law_some.nd rfl (Or.inl rfl) (pe_callTy call_list_of (by rfl) T.list bt_list (pa_cons (pv 1) pa_nil)))
      (pss_cons (ps_set (i := 4) sc_law_some.nd rfl (Or.inl rfl) (pe_lst pa_nil))
      (pss_cons (ps_for PassesOwn.never rfl (pi_range1 (by rfl) T.range (pa_cons (pe_callB (call_min2 rfl) (by rfl) T.min bt_min (pa_cons (pv 2) (pa_cons (pe_callB call_len_seq (by rfl) T.len bt_len (pa_cons (pv 1) pa_nil)) pa_nil))) pa_nil)) (pg_name (i := 5) sc_law_some.nd rfl (Or.inl rfl)) (pss_one (ps_expr (pe_bm PySem.F.plainAttrs_list PySem.F.slot_list_append PySem.F.type_list_append mt_append (pv 4) (pa_cons (pe_bm PySem.F.plainAttrs_list PySem.F.slot_list_pop PySem.F.type_list_pop mt_popAt (pv 3) (pa_cons (C8.pe_c (c_law_take T) hr (by decide) (by rfl) (pa_cons (pv 0) (pa_cons (pe_callB call_len_seq (by rfl) T.len bt_len (pa_cons (pv 3) pa_nil)) pa_nil))) pa_nil)) pa_nil)))))
      (pss_one (ps_ret (pv 4)))))), ?_⟩
  have hul := Paired.length hP
  refine ⟨_, rfl, _, _, rfl, .inl (g.seq ha), fun l hl0 => ?_⟩
  have hlG := g.free hl0
  have hlx := hd.ne hl0
  have e0 := same_new (o := .lst us) hl0
  refine ⟨(show 0 ≤ sizeLine by decide), fun o ho0' => ?_⟩
  have ho0 := e0.free ho0'
  have hoG := g.free ho0
  have hox := hd.ne ho0
  have hol : o ≠ l := fun z => by
    rw [z, upd_at] at ho0'
    cases ho0'
  have e1 := e0.trans (same_new (o := .lst []) ho0')
  have hm : ((if ((us.length : Nat) : Int) < m then ((us.length : Nat) : Int) else m)).toNat = min m.toNat xs.length := by
    by_cases z : ((us.length : Nat) : Int) < m
    · rw [if_pos z]
      omega
    · rw [if_neg z]
      omega
  have hmb : -(2 ^ 62) ≤ (if ((us.length : Nat) : Int) < m then ((us.length : Nat) : Int) else m) ∧ (if ((us.length : Nat) : Int) < m then ((us.length : Nat) : Int) else m) < 2 ^ 62 := by
    by_cases z : ((us.length : Nat) : Int) < m
    · rw [if_pos z]
      omega
    · rw [if_neg z]
      omega
  refine ⟨_, rfl, _, rfl, _, _, rfl, .inl ((g.trans e1).seq ha), _, _, rfl, _, rfl, hmb.1, hmb.2, ?_⟩
  rw [hm]
  refine fr_range (n := min m.toNat xs.length) (fun i σ H' => Gr (Mx x) G H G H' ∧ Hd K x G H' ∧ ∃ (vs ws : List V) (ys rs : List α) (r : Option V), σ = [some (.ref x), some (.ref a), some (.int m), some (.ref l), some (.ref o), r] ∧ H' l = some (.lst vs) ∧ H' o = some (.lst ws) ∧ Paired (R G) vs rs ∧ Paired (R G) ws ys ∧ (ys ++ rs).Perm xs ∧ ys.length = i)
    ⟨((Gr.refl g).new hl0).new ho0', hd.same g e1, us, [], [], xs, _, rfl, by rw [upd_ne (Ne.symm hol), upd_at], upd_at, hP, .nil, .refl _, rfl⟩ (fun i σ H1 hi ⟨gr, hd1, vs, ws, ys, rs, r, es, hl1, ho1, hvs, hws, hpm, hyl⟩ => ?_) (fun σ H1 ⟨gr, hd1, vs, ws, ys, rs, r, es, hl1, ho1, hvs, hws, hpm, hyl⟩ => ?_)
  · subst es
    have hpl := hpm.length_eq
    rw [List.length_append] at hpl
    have hvl := Paired.length hvs
    have hwl := Paired.length hws
    have hlen : vs.length = xs.length - i := by omega
    have hpos : (0 : Int) < (vs.length : Nat) := by
      have := Nat.min_le_right m.toNat xs.length
      omega
    refine ⟨_, rfl, .inl ⟨rfl, _, .of ho1⟩, _, rfl, .inl ⟨rfl, _, .of hl1⟩, _, rfl, _, rfl, _, _, rfl, .inl (.of hl1), G, x, _, rfl, gr.gh, hd1, hpos, by omega, fun H2 u u0 u1 gr2 hd2 => ?_⟩
    have hl2 := gr2.hh l _ hlx hl1
    have ho2 := gr2.hh o _ hox ho1
    obtain ⟨y, hy⟩ : ∃ y, vs[u.toNat]? = some y := ⟨vs[u.toNat]'(by omega), List.getElem?_eq_getElem (by omega)⟩
    obtain ⟨z, hz, hyz⟩ := paired_at hvs hy
    have hsq : seqIndex? u vs.length = some u.toNat := by
      have hj : (if u < 0 then u + (vs.length : Nat) else u) = u := if_neg (by omega)
      unfold seqIndex?
      simp only [hj]
      rw [if_pos (by rw [Bool.and_eq_true]; exact ⟨decide_eq_true u0, decide_eq_true u1⟩)]
    have gr3 := (gr.trans gr2).write (l := l) (o := .lst (vs.eraseIdx u.toNat)) hl0 hlG
    have ho3 : upd H2 l (.lst (vs.eraseIdx u.toNat)) o = some (.lst ws) := by rw [upd_ne hol]; exact ho2
    refine ⟨l, _, _, _, _, rfl, rfl, hl2, by omega, by omega, hsq, hy, o, ws, _, rfl, rfl, ho3, small_lt (by omega), gr3.write ho0 hoG, (hd2.upd hlx).upd hox, vs.eraseIdx u.toNat, ws ++ [y], ys ++ [z], rs.eraseIdx u.toNat, _, rfl, ?_, upd_at, paired_erase _ hvs, paired_snoc hws hyz, ?_, ?_⟩
    · rw [upd_ne (Ne.symm hol), upd_at]
    · rw [List.append_assoc]
      exact ((erase_perm hz).append_left ys).trans hpm
    · rw [List.length_append, hyl]
      rfl
  · subst es
    have gr2 := gr.shut ho0 hoG ho1
    refine ⟨_, rfl, q _ _ o ys rs hpm hyl gr2 ?_ ⟨o, ws, rfl, .of upd_at, paired_up (same_new hoG) hws⟩⟩
    obtain ⟨c, ns, p, r, t, h⟩ := hd1
    exact ⟨c, ns, p, r, t, by rw [upd_ne (Ne.symm hox)]; exact h.hG, h.hH, (same_new hoG).seq h.hc, h.len, h.nn, h.p0, h.p1, h.r0, h.t0, h.t1⟩
end
end K6

set_option Elab.async false
set_option linter.all false
set_option maxRecDepth 100000
set_option maxHeartbeats 4000000
namespace K6
open PySem PySem.Spec PyProof.Rows L2
section
variable {P : Program} {w : World} {K : PySem.W.Frag} {mg : Str → Option Value} {base : Heap}
theorem prod_two_le {ss : List Int} (hs : ∀ s ∈ ss, 2 ≤ s ∧ s ≤ 4) (h : ss ≠ []) : 2 ≤ prodI ss := by
  cases ss with
  | nil => exact absurd rfl h
  | cons s ss =>
    rw [prod_cons]
    have p : 0 < prodI ss := prod_pos fun x m => ⟨by have := (hs x (.tail _ m)).1; omega, by have := (hs x (.tail _ m)).2; omega⟩
    have h1 := (hs s (.head _)).1
    have := Int.mul_le_mul_of_nonneg_right h1 (Int.le_of_lt p)
    omega
def spLe (K : PySem.W.Frag) : Sp := fun vs H Q _ => ∃ (G : Hp) (x a : Addr) (ss : List Int), vs = [.ref x, .ref a, .bl true] ∧ Same G H ∧ Hd K x G H ∧ SqL K G a (ss.map V.int) ∧ ss.length ≤ 6 ∧ ss ≠ [] ∧ (∀ s ∈ ss, 2 ≤ s ∧ s ≤ 4) ∧ prodI ss ≤ 1000 ∧
  ∀ G' H' v e, EntOk ss e → Gr (Mx x) G H G' H' → Hd K x G' H' → rLE K G' v e → Q v H'
theorem sc_law_entry : FnScope ["_law_hand_here", "_law_sizes_here", "_law_chance", "_law_many_here", "_law_row", "_law_kind", "_law_other", "_law_low", "_law_high", "_law_shares"] ["_law_hand_here", "_law_sizes_here", "_law_chance"] (defScope s_law_entry) := ⟨rfl, rfl, rfl, by decide +kernel, rfl, by decide +kernel, by decide +kernel⟩
theorem c_law_entry (T : Tx K mg) : C8.Cal P w K mg base 3 "_law_entry" (spLe K) [] := by
  refine mkCal T.f_law_entry sc_law_entry (fun _ _ _ _ _ _ us hl => match us, hl with | [_, _, _], _ => rfl) (fun vs H Q E h => ?_) (fun f cdv A outer s H vs Q E hr h => ?_)
  · obtain ⟨_, _, _, _, rfl, _⟩ := h
    rfl
  obtain ⟨G, x, a, ss, rfl, g, hd, ha, h6, hne, hs, hp, q⟩ := h
  have hok : ∀ s ∈ ss, SizeOk s := fun s m => ⟨by have := (hs s m).1; omega, by have := (hs s m).2; omega⟩
  have p2 := prod_two_le hs hne
  have e6 : nm 6 6 = (1, 1) := nm_one (by decide)
  refine ⟨_, (pss_cons (ps_set (i := 3) sc_law_entry.nd rfl (Or.inl rfl) (C8.pe_c (c_law_many T) hr (by decide) (by rfl) (pa_cons (pv 1) pa_nil)))
      (pss_cons (ps_set (i := 4) sc_law_entry.nd rfl (Or.inl rfl) (C8.pe_c (c_law_take T) hr (by decide) (by rfl) (pa_cons (pv 0) (pa_cons (pv 3) pa_nil))))
      (pss_cons (ps_set (i := 5) sc_law_entry.nd rfl (Or.inl rfl) (pe_ifExp (pt_val (pv 2)) (C8.pe_c (c_law_take T) hr (by decide) (by rfl) (pa_cons (pv 0) (pa_cons pe_int pa_nil))) pe_int))
      (pss_cons (ps_if (pt_cmpR op_lt (pv 5) pe_int (nomark _)) (pss_one (ps_ret (pe_lst (pa_cons (pe_tup (pa_cons (C8.pe_c (c_law_filling T) hr (by decide) (by rfl) (pa_cons (pv 1) (pa_cons (pv 4) pa_nil))) (pa_cons (pe_tup (pa_cons pe_int (pa_cons pe_int pa_nil))) pa_nil))) pa_nil)))) pss_nil)
      (pss_cons (ps_set (i := 6) sc_law_entry.nd rfl (Or.inl rfl) (pe_op op_mod (pe_callTy call_int1 (by rfl) T.int bt_int (pa_cons (pe_op op_add (pe_op op_add (pv 4) pe_int) (C8.pe_c (c_law_take T) hr (by decide) (by rfl) (pa_cons (pv 0) (pa_cons (pe_op op_sub (pv 3) pe_int) pa_nil)))) pa_nil)) (pv 3)))
      (pss_cons (ps_set (i := 7) sc_law_entry.nd rfl (Or.inl rfl) (pe_callB (call_min2 rfl) (by rfl) T.min bt_min (pa_cons (pv 4) (pa_cons (pv 6) pa_nil))))
      (pss_cons (ps_set (i := 8) sc_law_entry.nd rfl (Or.inl rfl) (pe_callB (call_max2 rfl) (by rfl) T.max bt_max (pa_cons (pv 4) (pa_cons (pv 6) pa_nil))))
      (pss_cons (ps_set (i := 9) sc_law_entry.nd rfl (Or.inl rfl) (pe_ifExp (pt_cmpR op_eq (pv 5) pe_int (nomark _)) (pe_tup (pa_cons (pe_tup (pa_cons pe_int (pa_cons pe_int pa_nil))) (pa_cons (pe_tup (pa_cons pe_int (pa_cons pe_int pa_nil))) pa_nil))) (pe_ifExp (pt_truth (C8.pe_c (c_law_take T) hr (by decide) (by rfl) (pa_cons (pv 0) (pa_cons pe_int pa_nil))) (by intro _; rfl)) (pe_tup (pa_cons (pe_tup (pa_cons pe_int (pa_cons pe_int pa_nil))) (pa_cons (pe_tup (pa_cons pe_int (pa_cons pe_int pa_nil))) pa_nil))) (pe_tup (pa_cons (pe_tup (pa_cons pe_int (pa_cons pe_int pa_nil))) (pa_cons (pe_tup (pa_cons pe_int (pa_cons pe_int pa_nil))) pa_nil))))))
      (pss_one (ps_ret (pe_lst (pa_cons (pe_tup (pa_cons (C8.pe_c (c_law_filling T) hr (by decide) (by rfl) (pa_cons (pv 1) (pa_cons (pv 7) pa_nil))) (pa_cons (pe_ix ix_tup (pv 9) pe_int (fun _ _ => rfl)) pa_nil))) (pa_cons (pe_tup (pa_cons (C8.pe_c (c_law_filling T) hr (by decide) (by rfl) (pa_cons (pv 1) (pa_cons (pv 8) pa_nil))) (pa_cons (pe_ix ix_tup (pv 9) pe_int (fun _ _ => rfl)) pa_nil))) pa_nil))))))))))))), ?_⟩
  refine ⟨_, rfl, a, ss, rfl, .inl (g.seq ha), hok, _, rfl, _, rfl, G, x, prodI ss, rfl, g, hd, by omega, by omega, fun H1 row row0 row1 gr1 hd1 => ?_⟩
  refine ⟨_, rfl, _, rfl, iteT ⟨_, rfl, G, x, 4, rfl, gr1.gh, hd1, by decide, by decide, fun H2 kd kd0 kd1 gr2 hd2 => ?_⟩⟩
  have gr2 := gr1.trans gr2
  clear gr1
  refine ⟨_, rfl, _, _, rfl, rfl, _, rfl, ?_⟩
  refine ite2 (fun zk => ?_) (fun zk => ?_)
  · refine ⟨_, rfl, _, rfl, a, ss, row, rfl, gr2.gh.seq ha, h6, hok, row0, fun H3 p1 e3 hp1 => ⟨(by show 2 ≤ sizeLine; decide), fun c1 hc1 => ⟨(by show 2 ≤ sizeLine; decide), fun p3 hp3 => ⟨(by show 1 ≤ sizeLine; decide), fun p4 hp4 => ?_⟩⟩⟩⟩
    have g3 := gr2.same e3
    have ga := g3.seal (o := .tup ((fillI ss row).map V.int)) hp1
    have gb := ga.seal (o := .tup [.int 1, .int 1]) hc1
    have gc := gb.seal (o := .tup [.ref p1, .ref c1]) hp3
    have gd := gc.seal (o := .lst [.ref p3]) hp4
    have sb := same_new (ga.gh.free hc1) (o := .tup [.int 1, .int 1])
    have sc := same_new (gb.gh.free hp3) (o := .tup [.ref p1, .ref c1])
    have sd := same_new (gc.gh.free hp4) (o := .lst [.ref p3])
    have dd := ((((hd2.same gr2.gh e3).step ((Gr.refl (M := M0) g3.gh).seal (o := .tup ((fillI ss row).map V.int)) hp1)).step ((Gr.refl (M := M0) ga.gh).seal (o := .tup [.int 1, .int 1]) hc1)).step ((Gr.refl (M := M0) gb.gh).seal (o := .tup [.ref p1, .ref c1]) hp3)).step ((Gr.refl (M := M0) gc.gh).seal (o := .lst [.ref p3]) hp4)
    exact q _ _ _ [(fillI ss row, 6)] (.inl ⟨_, rfl, fil_sizes _ hok⟩) gd dd ⟨p4, _, rfl, .of upd_at, .cons ⟨p3, _, _, rfl, .of (sd _ _ upd_at), ⟨p1, _, rfl, .of (((sb.trans sc).trans sd) _ _ upd_at), ints_paired _⟩, ⟨c1, _, _, rfl, .of ((sc.trans sd) _ _ upd_at), by show V.int 1 = V.int (nm 6 6).1; rw [e6], by show V.int 1 = V.int (nm 6 6).2; rw [e6]⟩⟩ .nil⟩
  · refine ⟨_, rfl, _, _, rfl, rfl, _, rfl, _, rfl, _, _, rfl, rfl, G, x, _, rfl, gr2.gh, hd2, by omega, by omega, fun H3 u u0 u1 gr3 hd3 => ?_⟩
    have gr3 := gr2.trans gr3
    refine ⟨_, _, rfl, rfl, .inl ⟨_, rfl, _, rfl, _, _, rfl, rfl, (by omega), ?_⟩⟩
    have o0 := Int.emod_nonneg (row + 1 + u) (show prodI ss ≠ 0 by omega)
    have o1 := Int.emod_lt_of_pos (row + 1 + u) (show 0 < prodI ss by omega)
    have on : (row + 1 + u) % prodI ss ≠ row := by
      intro z
      rcases Int.lt_or_le (row + 1 + u) (prodI ss) with y | y
      · rw [Int.emod_eq_of_lt (by omega) y] at z
        omega
      · have : (row + 1 + u) % prodI ss = row + 1 + u - prodI ss := by
          rw [← Int.sub_emod_right (row + 1 + u) (prodI ss), Int.emod_eq_of_lt (by omega) (by omega)]
        omega
    refine ⟨_, rfl, _, rfl, _, _, rfl, _, rfl, _, rfl, _, _, rfl, ?_⟩
    have hlo : ∃ lo hi, (if (row + 1 + u) % prodI ss < row then (row + 1 + u) % prodI ss else row) = lo ∧ (if (row + 1 + u) % prodI ss > row then (row + 1 + u) % prodI ss else row) = hi ∧ 0 ≤ lo ∧ lo < hi ∧ hi < prodI ss := by
      rcases Int.lt_or_gt_of_ne on with z | z
      · exact ⟨_, _, if_pos z, if_neg (by omega), o0, z, row1⟩
      · exact ⟨_, _, if_neg (by omega), if_pos z, row0, z, o1⟩
    obtain ⟨lo, hi, elo, ehi, lo0, lohi, hi1⟩ := hlo
    have hle := fill_le hok lo0 lohi hi1
    simp only [elo, ehi]
    refine ⟨_, rfl, rfl, _, rfl, ?_⟩
    refine ite2 (fun z2 => ?_) (fun z2 => ?_)
    · refine ⟨(by show 2 ≤ sizeLine; decide), fun c1 hz1 => ⟨(by show 2 ≤ sizeLine; decide), fun c2 hz2 => ⟨(by show 2 ≤ sizeLine; decide), fun sh hz3 => ?_⟩⟩⟩
      have ga := gr3.seal (o := .tup [.int 1, .int 2]) hz1
      have gb := ga.seal (o := .tup [.int 1, .int 2]) hz2
      have gc := gb.seal (o := .tup [.ref c1, .ref c2]) hz3
      have sb := same_new (ga.gh.free hz2) (o := .tup [.int 1, .int 2])
      have sc := same_new (gb.gh.free hz3) (o := .tup [.ref c1, .ref c2])
      have dc := ((hd3.step ((Gr.refl (M := M0) gr3.gh).seal (o := .tup [.int 1, .int 2]) hz1)).step ((Gr.refl (M := M0) ga.gh).seal (o := .tup [.int 1, .int 2]) hz2)).step ((Gr.refl (M := M0) gb.gh).seal (o := .tup [.ref c1, .ref c2]) hz3)
      have hc1 : rSh K (upd (upd (upd G c1 (.tup [.int 1, .int 2])) c2 (.tup [.int 1, .int 2])) sh (.tup [.ref c1, .ref c2])) (.ref c1) 3 := ⟨c1, _, _, rfl, .of ((sb.trans sc) _ _ upd_at), by show V.int 1 = V.int (nm 3 6).1; decide +kernel, by show V.int 2 = V.int (nm 3 6).2; decide +kernel⟩
      have hc2 : rSh K (upd (upd (upd G c1 (.tup [.int 1, .int 2])) c2 (.tup [.int 1, .int 2])) sh (.tup [.ref c1, .ref c2])) (.ref c2) 3 := ⟨c2, _, _, rfl, .of (sc _ _ upd_at), by show V.int 1 = V.int (nm 3 6).1; decide +kernel, by show V.int 2 = V.int (nm 3 6).2; decide +kernel⟩
      have hsh : upd (upd (upd H3 c1 (.tup [.int 1, .int 2])) c2 (.tup [.int 1, .int 2])) sh (.tup [.ref c1, .ref c2]) sh = some (.tup [.ref c1, .ref c2]) := upd_at
      generalize upd (upd (upd G c1 (.tup [.int 1, .int 2])) c2 (.tup [.int 1, .int 2])) sh (.tup [.ref c1, .ref c2]) = Gs at gc dc hc1 hc2
      generalize upd (upd (upd H3 c1 (.tup [.int 1, .int 2])) c2 (.tup [.int 1, .int 2])) sh (.tup [.ref c1, .ref c2]) = Hs at gc dc hsh ⊢
      refine ⟨_, rfl, _, rfl, a, ss, lo, rfl, gc.to.seq ha, h6, hok, lo0, fun H6 p1 e6 hp1 => ?_⟩
      have gr6 := (gc.same e6).seal (o := .tup ((fillI ss lo).map V.int)) hp1
      have t6 := e6.trans (same_new (o := .tup ((fillI ss lo).map V.int)) hp1)
      have f6 : rT K rInt (upd Gs p1 (.tup ((fillI ss lo).map V.int))) (.ref p1) (fillI ss lo) := ⟨p1, _, rfl, .of upd_at, ints_paired _⟩
      have s6 := same_new ((gc.same e6).gh.free hp1) (o := .tup ((fillI ss lo).map V.int))
      have d6 := (dc.same gc.gh e6).step ((Gr.refl (M := M0) (gc.same e6).gh).seal (o := .tup ((fillI ss lo).map V.int)) hp1)
      refine ⟨_, rfl, _, _, _, _, rfl, rfl, .of (t6 _ _ hsh), rfl, (by show 2 ≤ sizeLine; decide), fun p2 hp2 => ?_⟩
      have gr7 := gr6.seal (o := .tup [.ref p1, .ref c1]) hp2
      have t7 := t6.trans (same_new (o := .tup [.ref p1, .ref c1]) hp2)
      have s7 := same_new (gr6.gh.free hp2) (o := .tup [.ref p1, .ref c1])
      have d7 := d6.step ((Gr.refl (M := M0) gr6.gh).seal (o := .tup [.ref p1, .ref c1]) hp2)
      have f7 : rP K (rT K rInt) (rSh K) (upd (upd Gs p1 (.tup ((fillI ss lo).map V.int))) p2 (.tup [.ref p1, .ref c1])) (.ref p2) (fillI ss lo, 3) := ⟨p2, _, _, rfl, .of upd_at, Up.up s7 f6, Up.up (s6.trans s7) hc1⟩
      refine ⟨_, rfl, _, rfl, a, ss, hi, rfl, gr7.to.seq ha, h6, hok, (by omega), fun H8 p3 e8 hp3 => ?_⟩
      have gr8 := (gr7.same e8).seal (o := .tup ((fillI ss hi).map V.int)) hp3
      have t8 := (t7.trans e8).trans (same_new (o := .tup ((fillI ss hi).map V.int)) hp3)
      have s8 := same_new ((gr7.same e8).gh.free hp3) (o := .tup ((fillI ss hi).map V.int))
      have d8 := (d7.same gr7.gh e8).step ((Gr.refl (M := M0) (gr7.same e8).gh).seal (o := .tup ((fillI ss hi).map V.int)) hp3)
      refine ⟨_, rfl, _, _, _, _, rfl, rfl, .of (t8 _ _ hsh), rfl, (by show 2 ≤ sizeLine; decide), fun p4 hp4 => ⟨(by show 2 ≤ sizeLine; decide), fun p5 hp5 => ?_⟩⟩
      have gr9 := gr8.seal (o := .tup [.ref p3, .ref c2]) hp4
      have s9 := same_new (gr8.gh.free hp4) (o := .tup [.ref p3, .ref c2])
      have d9 := d8.step ((Gr.refl (M := M0) gr8.gh).seal (o := .tup [.ref p3, .ref c2]) hp4)
      have gr10 := gr9.seal (o := .lst [.ref p2, .ref p4]) hp5
      have s10 := same_new (gr9.gh.free hp5) (o := .lst [.ref p2, .ref p4])
      have d10 := d9.step ((Gr.refl (M := M0) gr9.gh).seal (o := .lst [.ref p2, .ref p4]) hp5)
      refine q _ _ _ [(fillI ss lo, 3), (fillI ss hi, 3)] (.inr ⟨_, _, _, _, rfl, fil_sizes _ hok, fil_sizes _ hok, hle.2, hle.1, by decide, by decide, by decide⟩) gr10 d10 ⟨p5, _, rfl, .of upd_at, .cons (Up.up ((s8.trans s9).trans s10) f7) (.cons ⟨p4, _, _, rfl, .of (s10 _ _ upd_at), ⟨p3, _, rfl, .of ((s9.trans s10) _ _ upd_at), ints_paired _⟩, Up.up ((((s6.trans s7).trans s8).trans s9).trans s10) hc2⟩ .nil)⟩
    · refine ⟨_, rfl, G, x, 2, rfl, gr3.gh, hd3, by decide, by decide, fun H4 b b0 b1 gr4 hd4 => ⟨_, rfl, ?_⟩⟩
      have gr4 := gr3.trans gr4
      refine ite2 (fun zb => ?_) (fun zb => ?_)
      · refine ⟨(by show 2 ≤ sizeLine; decide), fun c1 hz1 => ⟨(by show 2 ≤ sizeLine; decide), fun c2 hz2 => ⟨(by show 2 ≤ sizeLine; decide), fun sh hz3 => ?_⟩⟩⟩
        have ga := gr4.seal (o := .tup [.int 1, .int 3]) hz1
        have gb := ga.seal (o := .tup [.int 2, .int 3]) hz2
        have gc := gb.seal (o := .tup [.ref c1, .ref c2]) hz3
        have sb := same_new (ga.gh.free hz2) (o := .tup [.int 2, .int 3])
        have sc := same_new (gb.gh.free hz3) (o := .tup [.ref c1, .ref c2])
        have dc := ((hd4.step ((Gr.refl (M := M0) gr4.gh).seal (o := .tup [.int 1, .int 3]) hz1)).step ((Gr.refl (M := M0) ga.gh).seal (o := .tup [.int 2, .int 3]) hz2)).step ((Gr.refl (M := M0) gb.gh).seal (o := .tup [.ref c1, .ref c2]) hz3)
        have hc1 : rSh K (upd (upd (upd G c1 (.tup [.int 1, .int 3])) c2 (.tup [.int 2, .int 3])) sh (.tup [.ref c1, .ref c2])) (.ref c1) 2 := ⟨c1, _, _, rfl, .of ((sb.trans sc) _ _ upd_at), by show V.int 1 = V.int (nm 2 6).1; decide +kernel, by show V.int 3 = V.int (nm 2 6).2; decide +kernel⟩
        have hc2 : rSh K (upd (upd (upd G c1 (.tup [.int 1, .int 3])) c2 (.tup [.int 2, .int 3])) sh (.tup [.ref c1, .ref c2])) (.ref c2) 4 := ⟨c2, _, _, rfl, .of (sc _ _ upd_at), by show V.int 2 = V.int (nm 4 6).1; decide +kernel, by show V.int 3 = V.int (nm 4 6).2; decide +kernel⟩
        have hsh : upd (upd (upd H4 c1 (.tup [.int 1, .int 3])) c2 (.tup [.int 2, .int 3])) sh (.tup [.ref c1, .ref c2]) sh = some (.tup [.ref c1, .ref c2]) := upd_at
        generalize upd (upd (upd G c1 (.tup [.int 1, .int 3])) c2 (.tup [.int 2, .int 3])) sh (.tup [.ref c1, .ref c2]) = Gs at gc dc hc1 hc2
        generalize upd (upd (upd H4 c1 (.tup [.int 1, .int 3])) c2 (.tup [.int 2, .int 3])) sh (.tup [.ref c1, .ref c2]) = Hs at gc dc hsh ⊢
        refine ⟨_, rfl, _, rfl, a, ss, lo, rfl, gc.to.seq ha, h6, hok, lo0, fun H6 p1 e6 hp1 => ?_⟩
        have gr6 := (gc.same e6).seal (o := .tup ((fillI ss lo).map V.int)) hp1
        have t6 := e6.trans (same_new (o := .tup ((fillI ss lo).map V.int)) hp1)
        have f6 : rT K rInt (upd Gs p1 (.tup ((fillI ss lo).map V.int))) (.ref p1) (fillI ss lo) := ⟨p1, _, rfl, .of upd_at, ints_paired _⟩
        have s6 := same_new ((gc.same e6).gh.free hp1) (o := .tup ((fillI ss lo).map V.int))
        have d6 := (dc.same gc.gh e6).step ((Gr.refl (M := M0) (gc.same e6).gh).seal (o := .tup ((fillI ss lo).map V.int)) hp1)
        refine ⟨_, rfl, _, _, _, _, rfl, rfl, .of (t6 _ _ hsh), rfl, (by show 2 ≤ sizeLine; decide), fun p2 hp2 => ?_⟩
        have gr7 := gr6.seal (o := .tup [.ref p1, .ref c1]) hp2
        have t7 := t6.trans (same_new (o := .tup [.ref p1, .ref c1]) hp2)
        have s7 := same_new (gr6.gh.free hp2) (o := .tup [.ref p1, .ref c1])
        have d7 := d6.step ((Gr.refl (M := M0) gr6.gh).seal (o := .tup [.ref p1, .ref c1]) hp2)
        have f7 : rP K (rT K rInt) (rSh K) (upd (upd Gs p1 (.tup ((fillI ss lo).map V.int))) p2 (.tup [.ref p1, .ref c1])) (.ref p2) (fillI ss lo, 2) := ⟨p2, _, _, rfl, .of upd_at, Up.up s7 f6, Up.up (s6.trans s7) hc1⟩
        refine ⟨_, rfl, _, rfl, a, ss, hi, rfl, gr7.to.seq ha, h6, hok, (by omega), fun H8 p3 e8 hp3 => ?_⟩
        have gr8 := (gr7.same e8).seal (o := .tup ((fillI ss hi).map V.int)) hp3
        have t8 := (t7.trans e8).trans (same_new (o := .tup ((fillI ss hi).map V.int)) hp3)
        have s8 := same_new ((gr7.same e8).gh.free hp3) (o := .tup ((fillI ss hi).map V.int))
        have d8 := (d7.same gr7.gh e8).step ((Gr.refl (M := M0) (gr7.same e8).gh).seal (o := .tup ((fillI ss hi).map V.int)) hp3)
        refine ⟨_, rfl, _, _, _, _, rfl, rfl, .of (t8 _ _ hsh), rfl, (by show 2 ≤ sizeLine; decide), fun p4 hp4 => ⟨(by show 2 ≤ sizeLine; decide), fun p5 hp5 => ?_⟩⟩
        have gr9 := gr8.seal (o := .tup [.ref p3, .ref c2]) hp4
        have s9 := same_new (gr8.gh.free hp4) (o := .tup [.ref p3, .ref c2])
        have d9 := d8.step ((Gr.refl (M := M0) gr8.gh).seal (o := .tup [.ref p3, .ref c2]) hp4)
        have gr10 := gr9.seal (o := .lst [.ref p2, .ref p4]) hp5
        have s10 := same_new (gr9.gh.free hp5) (o := .lst [.ref p2, .ref p4])
        have d10 := d9.step ((Gr.refl (M := M0) gr9.gh).seal (o := .lst [.ref p2, .ref p4]) hp5)
        refine q _ _ _ [(fillI ss lo, 2), (fillI ss hi, 4)] (.inr ⟨_, _, _, _, rfl, fil_sizes _ hok, fil_sizes _ hok, hle.2, hle.1, by decide, by decide, by decide⟩) gr10 d10 ⟨p5, _, rfl, .of upd_at, .cons (Up.up ((s8.trans s9).trans s10) f7) (.cons ⟨p4, _, _, rfl, .of (s10 _ _ upd_at), ⟨p3, _, rfl, .of ((s9.trans s10) _ _ upd_at), ints_paired _⟩, Up.up ((((s6.trans s7).trans s8).trans s9).trans s10) hc2⟩ .nil)⟩
      · refine ⟨(by show 2 ≤ sizeLine; decide), fun c1 hz1 => ⟨(by show 2 ≤ sizeLine; decide), fun c2 hz2 => ⟨(by show 2 ≤ sizeLine; decide), fun sh hz3 => ?_⟩⟩⟩
        have ga := gr4.seal (o := .tup [.int 2, .int 3]) hz1
        have gb := ga.seal (o := .tup [.int 1, .int 3]) hz2
        have gc := gb.seal (o := .tup [.ref c1, .ref c2]) hz3
        have sb := same_new (ga.gh.free hz2) (o := .tup [.int 1, .int 3])
        have sc := same_new (gb.gh.free hz3) (o := .tup [.ref c1, .ref c2])
        have dc := ((hd4.step ((Gr.refl (M := M0) gr4.gh).seal (o := .tup [.int 2, .int 3]) hz1)).step ((Gr.refl (M := M0) ga.gh).seal (o := .tup [.int 1, .int 3]) hz2)).step ((Gr.refl (M := M0) gb.gh).seal (o := .tup [.ref c1, .ref c2]) hz3)
        have hc1 : rSh K (upd (upd (upd G c1 (.tup [.int 2, .int 3])) c2 (.tup [.int 1, .int 3])) sh (.tup [.ref c1, .ref c2])) (.ref c1) 4 := ⟨c1, _, _, rfl, .of ((sb.trans sc) _ _ upd_at), by show V.int 2 = V.int (nm 4 6).1; decide +kernel, by show V.int 3 = V.int (nm 4 6).2; decide +kernel⟩
        have hc2 : rSh K (upd (upd (upd G c1 (.tup [.int 2, .int 3])) c2 (.tup [.int 1, .int 3])) sh (.tup [.ref c1, .ref c2])) (.ref c2) 2 := ⟨c2, _, _, rfl, .of (sc _ _ upd_at), by show V.int 1 = V.int (nm 2 6).1; decide +kernel, by show V.int 3 = V.int (nm 2 6).2; decide +kernel⟩
        have hsh : upd (upd (upd H4 c1 (.tup [.int 2, .int 3])) c2 (.tup [.int 1, .int 3])) sh (.tup [.ref c1, .ref c2]) sh = some (.tup [.ref c1, .ref c2]) := upd_at
        generalize upd (upd (upd G c1 (.tup [.int 2, .int 3])) c2 (.tup [.int 1, .int 3])) sh (.tup [.ref c1, .ref c2]) = Gs at gc dc hc1 hc2
        generalize upd (upd (upd H4 c1 (.tup [.int 2, .int 3])) c2 (.tup [.int 1, .int 3])) sh (.tup [.ref c1, .ref c2]) = Hs at gc dc hsh ⊢
        refine ⟨_, rfl, _, rfl, a, ss, lo, rfl, gc.to.seq ha, h6, hok, lo0, fun H6 p1 e6 hp1 => ?_⟩
        have gr6 := (gc.same e6).seal (o := .tup ((fillI ss lo).map V.int)) hp1
        have t6 := e6.trans (same_new (o := .tup ((fillI ss lo).map V.int)) hp1)
        have f6 : rT K rInt (upd Gs p1 (.tup ((fillI ss lo).map V.int))) (.ref p1) (fillI ss lo) := ⟨p1, _, rfl, .of upd_at, ints_paired _⟩
        have s6 := same_new ((gc.same e6).gh.free hp1) (o := .tup ((fillI ss lo).map V.int))
        have d6 := (dc.same gc.gh e6).step ((Gr.refl (M := M0) (gc.same e6).gh).seal (o := .tup ((fillI ss lo).map V.int)) hp1)
        refine ⟨_, rfl, _, _, _, _, rfl, rfl, .of (t6 _ _ hsh), rfl, (by show 2 ≤ sizeLine; decide), fun p2 hp2 => ?_⟩
        have gr7 := gr6.seal (o := .tup [.ref p1, .ref c1]) hp2
        have t7 := t6.trans (same_new (o := .tup [.ref p1, .ref c1]) hp2)
        have s7 := same_new (gr6.gh.free hp2) (o := .tup [.ref p1, .ref c1])
        have d7 := d6.step ((Gr.refl (M := M0) gr6.gh).seal (o := .tup [.ref p1, .ref c1]) hp2)
        have f7 : rP K (rT K rInt) (rSh K) (upd (upd Gs p1 (.tup ((fillI ss lo).map V.int))) p2 (.tup [.ref p1, .ref c1])) (.ref p2) (fillI ss lo, 4) := ⟨p2, _, _, rfl, .of upd_at, Up.up s7 f6, Up.up (s6.trans s7) hc1⟩
        refine ⟨_, rfl, _, rfl, a, ss, hi, rfl, gr7.to.seq ha, h6, hok, (by omega), fun H8 p3 e8 hp3 => ?_⟩
        have gr8 := (gr7.same e8).seal (o := .tup ((fillI ss hi).map V.int)) hp3
        have t8 := (t7.trans e8).trans (same_new (o := .tup ((fillI ss hi).map V.int)) hp3)
        have s8 := same_new ((gr7.same e8).gh.free hp3) (o := .tup ((fillI ss hi).map V.int))
        have d8 := (d7.same gr7.gh e8).step ((Gr.refl (M := M0) (gr7.same e8).gh).seal (o := .tup ((fillI ss hi).map V.int)) hp3)
        refine ⟨_, rfl, _, _, _, _, rfl, rfl, .of (t8 _ _ hsh), rfl, (by show 2 ≤ sizeLine; decide), fun p4 hp4 => ⟨(by show 2 ≤ sizeLine; decide), fun p5 hp5 => ?_⟩⟩
        have gr9 := gr8.seal (o := .tup [.ref p3, .ref c2]) hp4
        have s9 := same_new (gr8.gh.free hp4) (o := .tup [.ref p3, .ref c2])
        have d9 := d8.step ((Gr.refl (M := M0) gr8.gh).seal (o := .tup [.ref p3, .ref c2]) hp4)
        have gr10 := gr9.seal (o := .lst [.ref p2, .ref p4]) hp5
        have s10 := same_new (gr9.gh.free hp5) (o := .lst [.ref p2, .ref p4])
        have d10 := d9.step ((Gr.refl (M := M0) gr9.gh).seal (o := .lst [.ref p2, .ref p4]) hp5)
        refine q _ _ _ [(fillI ss lo, 4), (fillI ss hi, 2)] (.inr ⟨_, _, _, _, rfl, fil_sizes _ hok, fil_sizes _ hok, hle.2, hle.1, by decide, by decide, by decide⟩) gr10 d10 ⟨p5, _, rfl, .of upd_at, .cons (Up.up ((s8.trans s9).trans s10) f7) (.cons ⟨p4, _, _, rfl, .of (s10 _ _ upd_at), ⟨p3, _, rfl, .of ((s9.trans s10) _ _ upd_at), ints_paired _⟩, Up.up ((((s6.trans s7).trans s8).trans s9).trans s10) hc2⟩ .nil)⟩
end
end K6

set_option Elab.async false
set_option linter.all false
set_option maxRecDepth 100000
set_option maxHeartbeats 4000000
namespace K6
open PySem PySem.Spec PyProof.Rows L2
section
variable {P : Program} {w : World} {K : PySem.W.Frag} {mg : Str → Option Value} {base : Heap}
/-- all at once: the growth and the hand -/
structure Go (K : PySem.W.Frag) (x : Addr) (G H G' H' : Hp) : Prop where
  gr : Gr (Mx x) G H G' H'
  hd : Hd K x G' H'
section
variable {x p : Addr} {G H G1 H1 G2 H2 : Hp} {o : HO}
theorem Go.seal (g : Go K x G H G1 H1) (hp : H1 p = none) : Go K x G H (upd G1 p o) (upd H1 p o) := ⟨g.gr.seal hp, g.hd.step ((Gr.refl (M := M0) g.gr.gh).seal hp)⟩
theorem Go.new (g : Go K x G H G1 H1) (hp : H1 p = none) : Go K x G H G1 (upd H1 p o) := ⟨g.gr.new hp, g.hd.same g.gr.gh (same_new hp)⟩
theorem Go.step (g : Go K x G H G1 H1) (e : Gr M0 G1 H1 G2 H2) : Go K x G H G2 H2 := ⟨g.gr.trans (e.up fun _ z => z.elim), g.hd.step e⟩
theorem Go.same (g : Go K x G H G1 H1) (e : Same H1 H2) : Go K x G H G1 H2 := ⟨g.gr.same e, g.hd.same g.gr.gh e⟩
theorem Go.hand (g : Go K x G H G1 H1) (e : Gr (Mx x) G1 H1 G2 H2) (h : Hd K x G2 H2) : Go K x G H G2 H2 := ⟨g.gr.trans e, h⟩
theorem Go.refl (g : Same G H) (h : Hd K x G H) : Go K x G H G H := ⟨.refl g, h⟩
theorem Go.write (g : Go K x G H G1 H1) (h0 : H p = none) (h1 : G1 p = none) (n : p ≠ x) : Go K x G H G1 (upd H1 p o) := ⟨g.gr.write h0 h1, g.hd.upd n⟩
end
def spOdd (K : PySem.W.Frag) : Sp := fun vs H Q _ => ∃ (G : Hp) (x : Addr) (b : Int), vs = [.ref x, .int b] ∧ Same G H ∧ Hd K x G H ∧ ∀ G' H' v t, Th K G' v t → Go K x G H G' H' → Q v H'
theorem sc_law_odd : FnScope ["_law_hand_here", "_law_bound", "_law_kind"] ["_law_hand_here", "_law_bound"] (defScope s_law_odd) := ⟨rfl, rfl, rfl, by decide +kernel, rfl, by decide +kernel, by decide +kernel⟩
theorem c_law_odd (T : Tx K mg) : C8.Cal P w K mg base 3 "_law_odd" (spOdd K) [] := by
  refine mkCal T.f_law_odd sc_law_odd (fun _ _ _ _ _ _ us hl => match us, hl with | [_, _], _ => rfl) (fun vs H Q E h => ?_) (fun f cdv A outer s H vs Q E hr h => ?_)
  · obtain ⟨_, _, _, rfl, _⟩ := h
    rfl
  obtain ⟨G, x, b, rfl, g, hd, q⟩ := h
  refine ⟨_, (pss_cons (ps_set (i := 2) sc_law_odd.nd rfl (Or.inl rfl) (C8.pe_c (c_law_take T) hr (by decide) (by rfl) (pa_cons (pv 0) (pa_cons pe_int pa_nil))))
      (pss_cons (ps_if (pt_cmpR op_eq (pv 2) pe_int (nomark _)) (pss_one (ps_ret (pe_op op_add (pv 1) (C8.pe_c (c_law_take T) hr (by decide) (by rfl) (pa_cons (pv 0) (pa_cons (pe_op op_pow pe_int pe_int) pa_nil)))))) pss_nil)
      (pss_cons (ps_if (pt_cmpR op_eq (pv 2) pe_int (nomark _)) (pss_one (ps_ret (pe_op op_sub (pe_un un_neg pe_int) (C8.pe_c (c_law_take T) hr (by decide) (by rfl) (pa_cons (pv 0) (pa_cons (pe_op op_pow pe_int pe_int) pa_nil)))))) pss_nil)
      (pss_one (ps_ret (pe_ix ix_tup (pe_tup (pa_cons pe_bl (pa_cons pe_bl (pa_cons pe_non (pa_cons pe_str (pa_cons (pe_tup (pa_cons pe_int pa_nil)) (pa_cons pe_str (pa_cons (pv 1) pa_nil)))))))) (pe_op op_sub (pv 2) pe_int) (fun _ _ => rfl))))))), ?_⟩
  refine ⟨_, rfl, G, x, 9, rfl, g, hd, by decide, by decide, fun H1 k k0 k1 gr1 hd1 => ?_⟩
  have g1 := (Go.refl g hd).hand gr1 hd1
  have big : (0 : Int) < 10 ^ (12 : Int).toNat ∧ (10 : Int) ^ (12 : Int).toNat < 2 ^ 64 := by decide +kernel
  have cp : CPow 10 12 := ⟨by decide, by decide, by decide⟩
  rcases (show k = 0 ∨ k = 1 ∨ k = 2 ∨ k = 3 ∨ k = 4 ∨ k = 5 ∨ k = 6 ∨ k = 7 ∨ k = 8 by omega) with rfl | rfl | rfl | rfl | rfl | rfl | rfl | rfl | rfl
  · exact ⟨_, rfl, rfl, _, rfl, iteT ⟨_, rfl, _, rfl, _, _, rfl, rfl, cp, G, x, _, rfl, gr1.gh, hd1, big.1, big.2, fun H2 u _ _ gr2 hd2 => ⟨_, _, rfl, rfl, q _ _ _ _ (.int _) (g1.hand gr2 hd2)⟩⟩⟩
  · exact ⟨_, rfl, rfl, _, rfl, iteF ⟨_, rfl, rfl, _, rfl, iteT ⟨_, rfl, _, rfl, _, _, rfl, rfl, cp, G, x, _, rfl, gr1.gh, hd1, big.1, big.2, fun H2 u _ _ gr2 hd2 => ⟨_, _, rfl, rfl, q _ _ _ _ (.int _) (g1.hand gr2 hd2)⟩⟩⟩⟩
  · refine ⟨_, rfl, rfl, _, rfl, iteF ⟨_, rfl, rfl, _, rfl, iteF ⟨(by show 1 ≤ sizeLine; decide), fun p hp => ⟨_, rfl, (by show 7 ≤ sizeLine; decide), fun z hz => ⟨_, rfl, _, _, rfl, rfl, _, _, _, _, rfl, rfl, .of upd_at, rfl, ?_⟩⟩⟩⟩⟩
    exact q _ _ _ _ (.bl true) ((g1.seal hp).new hz)
  · refine ⟨_, rfl, rfl, _, rfl, iteF ⟨_, rfl, rfl, _, rfl, iteF ⟨(by show 1 ≤ sizeLine; decide), fun p hp => ⟨_, rfl, (by show 7 ≤ sizeLine; decide), fun z hz => ⟨_, rfl, _, _, rfl, rfl, _, _, _, _, rfl, rfl, .of upd_at, rfl, ?_⟩⟩⟩⟩⟩
    exact q _ _ _ _ (.bl false) ((g1.seal hp).new hz)
  · refine ⟨_, rfl, rfl, _, rfl, iteF ⟨_, rfl, rfl, _, rfl, iteF ⟨(by show 1 ≤ sizeLine; decide), fun p hp => ⟨_, rfl, (by show 7 ≤ sizeLine; decide), fun z hz => ⟨_, rfl, _, _, rfl, rfl, _, _, _, _, rfl, rfl, .of upd_at, rfl, ?_⟩⟩⟩⟩⟩
    exact q _ _ _ _ .non ((g1.seal hp).new hz)
  · refine ⟨_, rfl, rfl, _, rfl, iteF ⟨_, rfl, rfl, _, rfl, iteF ⟨(by show 1 ≤ sizeLine; decide), fun p hp => ⟨_, rfl, (by show 7 ≤ sizeLine; decide), fun z hz => ⟨_, rfl, _, _, rfl, rfl, _, _, _, _, rfl, rfl, .of upd_at, rfl, ?_⟩⟩⟩⟩⟩
    exact q _ _ _ _ (.str _) ((g1.seal hp).new hz)
  · refine ⟨_, rfl, rfl, _, rfl, iteF ⟨_, rfl, rfl, _, rfl, iteF ⟨(by show 1 ≤ sizeLine; decide), fun p hp => ⟨_, rfl, (by show 7 ≤ sizeLine; decide), fun z hz => ⟨_, rfl, _, _, rfl, rfl, _, _, _, _, rfl, rfl, .of upd_at, rfl, ?_⟩⟩⟩⟩⟩
    exact q _ _ _ _ (.tup (.of upd_at)) ((g1.seal hp).new hz)
  · refine ⟨_, rfl, rfl, _, rfl, iteF ⟨_, rfl, rfl, _, rfl, iteF ⟨(by show 1 ≤ sizeLine; decide), fun p hp => ⟨_, rfl, (by show 7 ≤ sizeLine; decide), fun z hz => ⟨_, rfl, _, _, rfl, rfl, _, _, _, _, rfl, rfl, .of upd_at, rfl, ?_⟩⟩⟩⟩⟩
    exact q _ _ _ _ (.str _) ((g1.seal hp).new hz)
  · refine ⟨_, rfl, rfl, _, rfl, iteF ⟨_, rfl, rfl, _, rfl, iteF ⟨(by show 1 ≤ sizeLine; decide), fun p hp => ⟨_, rfl, (by show 7 ≤ sizeLine; decide), fun z hz => ⟨_, rfl, _, _, rfl, rfl, _, _, _, _, rfl, rfl, .of upd_at, rfl, ?_⟩⟩⟩⟩⟩
    exact q _ _ _ _ (.int b) ((g1.seal hp).new hz)
def spRid (K : PySem.W.Frag) : Sp := fun vs H Q _ => ∃ (G : Hp) (x : Addr), vs = [.ref x] ∧ Same G H ∧ Hd K x G H ∧ ∀ G' H' v t, Th K G' v t → (t.isa .lst || t.isa .tup) = false → Go K x G H G' H' → Q v H'
theorem sc_law_rid : FnScope ["_law_hand_here"] ["_law_hand_here"] (defScope s_law_rid) := ⟨rfl, rfl, rfl, by decide +kernel, rfl, by decide +kernel, by decide +kernel⟩
theorem c_law_rid (T : Tx K mg) : C8.Cal P w K mg base 3 "_law_rid" (spRid K) [] := by
  refine mkCal T.f_law_rid sc_law_rid (fun _ _ _ _ _ _ us hl => match us, hl with | [_], _ => rfl) (fun vs H Q E h => ?_) (fun f cdv A outer s H vs Q E hr h => ?_)
  · obtain ⟨_, _, rfl, _⟩ := h
    rfl
  obtain ⟨G, x, rfl, g, hd, q⟩ := h
  refine ⟨_, (pss_one (ps_ret (pe_ix ix_tup (pe_tup (pa_cons pe_non (pa_cons pe_int (pa_cons pe_str (pa_cons pe_bl (pa_cons (pe_disp (pps_cons pe_int pe_int pps_nil) (by rfl) (by rfl) (fun z => by cases z) (by decide)) (pa_cons (pe_un un_neg pe_int) pa_nil))))))) (C8.pe_c (c_law_take T) hr (by decide) (by rfl) (pa_cons (pv 0) (pa_cons pe_int pa_nil))) (fun _ _ => rfl)))), ?_⟩
  refine fun p hp => ⟨upd_at, [(Sum.inl 0, .int 1)], rfl, by decide, _, rfl, (by show 6 ≤ sizeLine; decide), fun z hz => ?_⟩
  have hpx := hd.ne hp
  have hpG := g.free hp
  have g1 : Go K x G H G (upd (upd H p (.dK [])) p (.dK (mergeK [] [(Sum.inl 0, .int 1)]))) := ((Go.refl g hd).new hp).write hp hpG hpx
  have g2 : Go K x G H (upd G p (.dK (mergeK [] [(Sum.inl 0, .int 1)]))) (upd (upd H p (.dK [])) p (.dK (mergeK [] [(Sum.inl 0, .int 1)]))) := ⟨g1.gr.shut hp hpG upd_at, by
    obtain ⟨c, ns, pp, r, t, h⟩ := g1.hd
    exact ⟨c, ns, pp, r, t, by rw [upd_ne (Ne.symm hpx)]; exact h.hG, h.hH, (same_new hpG).seq h.hc, h.len, h.nn, h.p0, h.p1, h.r0, h.t0, h.t1⟩⟩
  have hdic : upd G p (.dK (mergeK [] [(Sum.inl 0, .int 1)])) p = some (.dK (mergeK [] [(Sum.inl 0, .int 1)])) := upd_at
  generalize upd G p (.dK (mergeK [] [(Sum.inl 0, .int 1)])) = G2 at g2 hdic
  have g3 := g2.new (o := .tup [.non, .int 3, .str "ab", .bl true, .ref p, .int (-1)]) hz
  refine ⟨_, rfl, G2, x, 6, rfl, g3.gr.gh, g3.hd, by decide, by decide, fun H1 k k0 k1 gr1 hd1 => ?_⟩
  have hzx := g2.hd.ne hz
  have hz1 := gr1.hh z _ hzx upd_at
  have g4 := g3.hand gr1 hd1
  rcases (show k = 0 ∨ k = 1 ∨ k = 2 ∨ k = 3 ∨ k = 4 ∨ k = 5 by omega) with rfl | rfl | rfl | rfl | rfl | rfl
  · exact ⟨_, _, _, _, rfl, rfl, .of hz1, rfl, q _ _ _ _ .non rfl g4⟩
  · exact ⟨_, _, _, _, rfl, rfl, .of hz1, rfl, q _ _ _ _ (.int _) rfl g4⟩
  · exact ⟨_, _, _, _, rfl, rfl, .of hz1, rfl, q _ _ _ _ (.str _) rfl g4⟩
  · exact ⟨_, _, _, _, rfl, rfl, .of hz1, rfl, q _ _ _ _ (.bl _) rfl g4⟩
  · exact ⟨_, _, _, _, rfl, rfl, .of hz1, rfl, q _ _ _ _ (.dic hdic) rfl g4⟩
  · exact ⟨_, _, _, _, rfl, rfl, .of hz1, rfl, q _ _ _ _ (.int _) rfl g4⟩
def spLists (K : PySem.W.Frag) : Sp := fun vs H Q _ => ∃ (G : Hp) (x a : Addr) (us : List V), vs = [.ref x, .ref a] ∧ Same G H ∧ Hd K x G H ∧ (SqT K G a us ∨ (H a = some (.lst us) ∧ a ≠ x)) ∧ ∀ G' H' p, Sq K G' p us → Go K x G H G' H' → Q (.ref p) H'
theorem sc_law_lists : FnScope ["_law_hand_here", "_law_thing"] ["_law_hand_here", "_law_thing"] (defScope s_law_lists) := ⟨rfl, rfl, rfl, by decide +kernel, rfl, by decide +kernel, by decide +kernel⟩
theorem c_law_lists (T : Tx K mg) : C8.Cal P w K mg base 3 "_law_lists" (spLists K) [] := by
  refine mkCal T.f_law_lists sc_law_lists (fun _ _ _ _ _ _ us hl => match us, hl with | [_, _], _ => rfl) (fun vs H Q E h => ?_) (fun f cdv A outer s H vs Q E hr h => ?_)
  · obtain ⟨_, _, _, _, rfl, _⟩ := h
    rfl
  obtain ⟨G, x, a, us, rfl, g, hd, ha, q⟩ := h
  refine ⟨_, (pss_one (ps_ret (pe_ifExp (pt_truth (C8.pe_c (c_law_take T) hr (by decide) (by rfl) (pa_cons (pv 0) (pa_cons pe_int pa_nil))) (by intro _; rfl)) (pe_callTy call_list_of (by rfl) T.list bt_list (pa_cons (pv 1) pa_nil)) (pe_callTy call_tuple_of (by rfl) T.tuple bt_tuple (pa_cons (pv 1) pa_nil))))), ?_⟩
  refine ⟨_, rfl, G, x, 2, rfl, g, hd, by decide, by decide, fun H1 k k0 k1 gr1 hd1 => ⟨_, rfl, ?_⟩⟩
  have g1 := (Go.refl g hd).hand gr1 hd1
  refine ite2 (fun zb => ?_) (fun zb => ?_)
  · rcases ha with ha | ⟨ha, hx⟩
    · exact ⟨_, rfl, a, us, rfl, .inr (sqt_up gr1.gh ha), fun l hl => q _ _ l (.inl (.of upd_at)) (g1.seal hl)⟩
    · exact ⟨_, rfl, a, us, rfl, .inl (.of (gr1.hh a _ hx ha)), fun l hl => q _ _ l (.inl (.of upd_at)) (g1.seal hl)⟩
  · rcases ha with ha | ⟨ha, hx⟩
    · exact ⟨_, rfl, a, us, rfl, .inr ⟨sqt_up gr1.gh ha, q _ _ a (.inr ha) g1⟩⟩
    · exact ⟨_, rfl, a, us, rfl, .inl ⟨.of (gr1.hh a _ hx ha), fun l hl => q _ _ l (.inr (.of upd_at)) (g1.seal hl)⟩⟩
def spSpoil (K : PySem.W.Frag) : Sp := fun vs H Q _ => ∃ (G : Hp) (x a b : Addr) (ss ns : List Int), vs = [.ref x, .ref a, .ref b] ∧ Same G H ∧ Hd K x G H ∧ SqL K G a (ss.map V.int) ∧ SqT K G b (ns.map V.int) ∧ ss.length = ns.length ∧ ns.length ≤ 100 ∧
  ∀ G' H' v r o, FW K G' ss v r o → Go K x G H G' H' → Q v H'
theorem sc_law_spoilt_row : FnScope ["_law_hand_here", "_law_sizes_here", "_law_row", "_law_out", "_law_kind", "_law_at"] ["_law_hand_here", "_law_sizes_here", "_law_row"] (defScope s_law_spoilt_row) := ⟨rfl, rfl, rfl, by decide +kernel, rfl, by decide +kernel, by decide +kernel⟩
theorem c_law_spoilt_row (T : Tx K mg) : C8.Cal P w K mg base 4 "_law_spoilt_row" (spSpoil K) [] := by
  refine mkCal T.f_law_spoilt_row sc_law_spoilt_row (fun _ _ _ _ _ _ us hl => match us, hl with | [_, _, _], _ => rfl) (fun vs H Q E h => ?_) (fun f cdv A outer s H vs Q E hr h => ?_)
  · obtain ⟨_, _, _, _, _, _, rfl, _⟩ := h
    rfl
  obtain ⟨G, x, a, b, ss, ns, rfl, g, hd, ha, hb, hl, h1, q⟩ := h
  refine ⟨_, (pss_cons (ps_set (i := 3) sc_law_spoilt_row.nd rfl (Or.inl rfl) (pe_callTy call_list_of (by rfl) T.list bt_list (pa_cons (pv 2) pa_nil)))
      (pss_cons (ps_set (i := 4) sc_law_spoilt_row.nd rfl (Or.inl rfl) (C8.pe_c (c_law_take T) hr (by decide) (by rfl) (pa_cons (pv 0) (pa_cons pe_int pa_nil))))
      (pss_cons (ps_if (pt_cmpR op_eq (pv 4) pe_int (nomark _)) (pss_one (ps_ret (C8.pe_c (c_law_rid T) hr (by decide) (by rfl) (pa_cons (pv 0) pa_nil)))) pss_nil)
      (pss_cons (ps_if (PW.pt (pw_and (pt_cmpR op_eq (pv 4) pe_int (nomark _)) (pw_and1 (pt_truth (pv 3) (by intro _; rfl))))) (pss_cons (ps_set (i := 5) sc_law_spoilt_row.nd rfl (Or.inl rfl) (C8.pe_c (c_law_take T) hr (by decide) (by rfl) (pa_cons (pv 0) (pa_cons (pe_callB call_len_seq (by rfl) T.len bt_len (pa_cons (pv 3) pa_nil)) pa_nil))))
      (pss_one (ps_asg (C8.pe_c (c_law_odd T) hr (by decide) (by rfl) (pa_cons (pv 0) (pa_cons (pe_ix ix_list (pv 1) (pv 5) (fun _ _ => rfl)) pa_nil))) (pg_sub (pv 3) (pv 5) set_list)))) pss_nil)
      (pss_cons (ps_if (PW.pt (pw_and (pt_cmpR op_eq (pv 4) pe_int (nomark _)) (pw_and1 (pt_truth (pv 3) (by intro _; rfl))))) (pss_one (ps_expr (pe_bm0 PySem.F.plainAttrs_list PySem.F.slot_list_pop PySem.F.type_list_pop mt_pop (pv 3)))) pss_nil)
      (pss_cons (ps_if (pt_cmpR op_eq (pv 4) pe_int (nomark _)) (pss_one (ps_expr (pe_bm PySem.F.plainAttrs_list PySem.F.slot_list_append PySem.F.type_list_append mt_append (pv 3) (pa_cons pe_int pa_nil)))) pss_nil)
      (pss_one (ps_ret (C8.pe_c (c_law_lists T) hr (by decide) (by rfl) (pa_cons (pv 0) (pa_cons (pv 3) pa_nil))))))))))), ?_⟩
  refine ⟨_, rfl, b, _, rfl, .inr (sqt_up g hb), fun l hl0 => ?_⟩
  have hlG := g.free hl0
  have hlx := hd.ne hl0
  have g0 := (Go.refl g hd).new (o := .lst (ns.map V.int)) hl0
  refine ⟨_, rfl, G, x, 5, rfl, g0.gr.gh, g0.hd, by decide, by decide, fun H1 k k0 k1 gr1 hd1 => ?_⟩
  have g1 := g0.hand gr1 hd1
  have hl1 : H1 l = some (.lst (ns.map V.int)) := gr1.hh l _ hlx upd_at
  clear gr1
  -- the end, whatever the list holds
  have fin : ∀ (us : List V) (G2 H2 : Hp), H2 l = some (.lst us) → (∀ v ∈ us, ∃ t, Th K G2 v t) → Go K x G H G2 H2 → spLists K [.ref x, .ref l] H2 Q C8.E0 := fun us G2 H2 e ht g2 =>
    ⟨G2, x, l, us, rfl, g2.gr.gh, g2.hd, .inr ⟨e, hlx⟩, fun G3 H3 p hp g3 => q _ _ _ _ _ (.inr ⟨p, us, rfl, hp, fun v m => (ht v m).imp fun t h => h.up g3.gr.gg, rfl, rfl⟩) ⟨g2.gr.trans g3.gr, g3.hd⟩⟩
  rcases (show k = 0 ∨ k = 1 ∨ k = 2 ∨ k = 3 ∨ k = 4 by omega) with rfl | rfl | rfl | rfl | rfl
  · refine ⟨_, rfl, rfl, _, rfl, iteT ⟨_, rfl, G, x, rfl, g1.gr.gh, g1.hd, fun G2 H2 v t ht hn g2 => q _ _ v _ none (.inl ⟨t, ht, hn, rfl, rfl⟩) ⟨g1.gr.trans g2.gr, g2.hd⟩⟩⟩
  · refine ⟨_, rfl, rfl, _, rfl, iteF ⟨_, rfl, rfl, _, rfl, iteT ⟨_, rfl, _, .inl ⟨_, .of hl1, rfl⟩, ?_⟩⟩⟩
    cases ns with
    | nil =>
      refine iteF ⟨_, rfl, rfl, _, rfl, iteF (iteF ⟨_, rfl, rfl, _, rfl, iteF ⟨_, rfl, _, rfl, ?_⟩⟩)⟩
      exact fin _ _ _ hl1 (fun v m => nomatch m) g1
    | cons n ns =>
      refine iteT ⟨_, rfl, _, rfl, l, _, rfl, .inl (.of hl1), G, x, _, rfl, g1.gr.gh, g1.hd, ?_, ?_, fun H2 u u0 u1 gr2 hd2 => ?_⟩
      · rw [List.length_map]
        show (0 : Int) < ((ns.length + 1 : Nat) : Int)
        omega
      · rw [List.length_map]
        omega
      rw [List.length_map] at u1
      have g2 := g1.hand gr2 hd2
      have hl2 := gr2.hh l _ hlx hl1
      obtain ⟨s, hs⟩ : ∃ s, ss[u.toNat]? = some s := ⟨ss[u.toNat]'(by omega), List.getElem?_eq_getElem (by omega)⟩
      have hat : atI (ss.map V.int) u = some (.int s) := by
        have := atI_nat (xs := ss.map V.int) (j := u.toNat) (v := .int s) (by rw [List.getElem?_map, hs]; rfl)
        rwa [Int.toNat_of_nonneg u0] at this
      refine ⟨_, rfl, _, rfl, _, rfl, _, _, _, _, rfl, rfl, g2.gr.gh.seq ha, hat, G, x, s, rfl, g2.gr.gh, g2.hd, fun G3 H3 v t ht g3 => ?_⟩
      have g4 : Go K x G H G3 H3 := ⟨g2.gr.trans g3.gr, g3.hd⟩
      have hl3 := g3.gr.hh l _ hlx hl2
      have ho3 := g3.gr.open_ hl2 hlG
      have hix : ixN ((n :: ns).map V.int).length u = some u.toNat := by
        unfold ixN
        rw [if_pos u0, List.length_map, if_pos (by omega)]
      refine ⟨_, rfl, _, rfl, l, _, _, _, rfl, rfl, hl3, hix, _, rfl, rfl, _, rfl, iteF (iteF ⟨_, rfl, rfl, _, rfl, iteF ⟨_, rfl, _, rfl, ?_⟩⟩)⟩
      refine fin _ _ _ upd_at (fun y m => ?_) (g4.write hl0 ho3 hlx)
      rcases List.mem_or_eq_of_mem_set m with m | m
      · exact th_ints y m
      · rw [m]
        exact ⟨t, ht⟩
  · refine ⟨_, rfl, rfl, _, rfl, iteF ⟨_, rfl, rfl, _, rfl, iteF (iteF ⟨_, rfl, rfl, _, rfl, iteT ⟨_, rfl, _, .inl ⟨_, .of hl1, rfl⟩, ?_⟩⟩)⟩⟩
    cases ns with
    | nil =>
      refine iteF ⟨_, rfl, rfl, _, rfl, iteF ⟨_, rfl, _, rfl, ?_⟩⟩
      exact fin _ _ _ hl1 (fun v m => nomatch m) g1
    | cons n ns =>
      obtain ⟨y, hy⟩ : ∃ y, ((n :: ns).map V.int)[((n :: ns).map V.int).length - 1]? = some y := ⟨_, List.getElem?_eq_getElem (by rw [List.length_map]; show ns.length + 1 - 1 < ns.length + 1; omega)⟩
      refine iteT ⟨_, rfl, .inl ⟨rfl, _, .of hl1⟩, l, _, y, rfl, rfl, hl1, hy, _, rfl, rfl, _, rfl, iteF ⟨_, rfl, _, rfl, ?_⟩⟩
      refine fin _ _ _ upd_at (fun y m => th_ints y (List.dropLast_subset _ m)) (g1.write hl0 hlG hlx)
  · refine ⟨_, rfl, rfl, _, rfl, iteF ⟨_, rfl, rfl, _, rfl, iteF (iteF ⟨_, rfl, rfl, _, rfl, iteF (iteF ⟨_, rfl, rfl, _, rfl, iteT ⟨_, rfl, .inl ⟨rfl, _, .of hl1⟩, l, _, _, rfl, rfl, hl1, small_lt (by rw [List.length_map]; omega), _, rfl, _, rfl, ?_⟩⟩)⟩)⟩⟩
    refine fin _ _ _ upd_at (fun y m => ?_) (g1.write hl0 hlG hlx)
    rcases List.mem_append.1 m with m | m
    · exact th_ints y m
    · rw [List.mem_singleton.1 m]
      exact ⟨_, .int 0⟩
  · refine ⟨_, rfl, rfl, _, rfl, iteF ⟨_, rfl, rfl, _, rfl, iteF (iteF ⟨_, rfl, rfl, _, rfl, iteF (iteF ⟨_, rfl, rfl, _, rfl, iteF ⟨_, rfl, _, rfl, ?_⟩⟩)⟩)⟩⟩
    exact fin _ _ _ hl1 th_ints g1
end
end K6

set_option Elab.async false
set_option linter.all false
set_option maxRecDepth 100000
set_option maxHeartbeats 4000000
namespace K6
open PySem PySem.Spec PyProof.Rows L2
section
variable {P : Program} {w : World} {K : PySem.W.Frag} {mg : Str → Option Value} {base : Heap}
theorem pe_cxS {X : Cx} {W : WX} {k j : Nat} {x : Str} {sp : Sp} {p pos : Pos} {e : Expr} {es : List Expr} {t : TA} (c : CalX X.prog X.w X.K X.mg X.base k x sp []) (hr : Room j X.A) (hk : k ≤ j) (hg : Gl X x) (tk : Takes X W) (ha : PA X (e :: es) t)
    (hdb : (x == ("__debug__" : Str)) = false := by decide) (he : starEach (e :: es) X.env = (false, eval e X.env) :: starEach es X.env := by rfl) (hpl : (backTo pos (starEach es X.env)).any (·.1) = false := by rfl) :
    PE X (.Call (.Name x p) (e :: es) [] pos) (tCallS sp (WE W) t) := by
  obtain ⟨f, fd, ps, ds, F, hm, kp, b, d⟩ := c.ex
  cases d
  exact pe_callS F (hr.mono hk) hg hm kp b (fun σ => passAt tk σ) ha hdb he hpl
def spLw (K : PySem.W.Frag) : Sp := fun vs H Q _ => ∃ (G : Hp) (v x y rx ry : V) (ox oy : Option (List V)) (c : LC), vs = [v, x, y] ∧ Same G H ∧ rChart K G v c ∧ ChartOk c ∧ FW K H (sizes (insOf c)) x rx ox ∧ FW K H (sizes (letters c)) y ry oy ∧
  (rx ≠ .non → ∀ H' p, Same H H' → H' p = some (.lst [.str "ins", rx]) → Q (.ref p) H') ∧
  (rx = .non → ry ≠ .non → ∀ H' p, Same H H' → H' p = some (.lst [.str "post", ry]) → Q (.ref p) H') ∧
  (rx = .non → ry = .non → ∀ ns ms : List Int, ox = some (ns.map V.int) → oy = some (ms.map V.int) → Fil (sizes (insOf c)) ns → Fil (sizes (letters c)) ms →
    Runs c ns ms ∧ ∀ G' H' v', Gr M0 G H G' H' → rT K (rRow3 K) G' v' (workedM c ns ms) → Q v' H')
theorem sc_law_worked : FnScope ["_law_chart_here", "_law_x", "_law_y", "_law_found", "wrong"] ["_law_chart_here", "_law_x", "_law_y"] (defScope s_law_worked) := ⟨rfl, rfl, rfl, by decide +kernel, rfl, by decide +kernel, by decide +kernel⟩
theorem c_law_worked (T : Tx K mg) : C8.Cal P w K mg base 8 "_law_worked" (spLw K) [] := by
  refine mkCal T.f_law_worked sc_law_worked (fun _ _ _ _ _ _ us hl => match us, hl with | [_, _, _], _ => rfl) (fun vs H Q E h => by obtain ⟨_, _, _, _, _, _, _, _, _, rfl, _⟩ := h; rfl) (fun f cdv A outer s H vs Q E hr h => ?_)
  obtain ⟨G, v, x, y, rx, ry, ox, oy, c, rfl, g, hc, ho, hx, hy, qx, qy, qq⟩ := h
  refine ⟨_, pss_cons (ps_try_cl (i := 4) rfl rfl sc_law_worked.nd rfl rfl (fun W pn xe tk _ => pss_one (ps_set (i := 3) sc_law_worked.nd rfl (Or.inl rfl) (pe_cxS (c_worked T) hr (by decide) (by rfl) tk (pa_cons (pv 0) (pa_cons (pv 1) (pa_cons (pv 2) pa_nil))))))
      (.cons ⟨by rfl, by decide, .inl T.eBadIns.mgC⟩ (fun a oe cls d pn hz hf => pss_one (ps_set (i := 3) sc_law_worked.nd rfl (Or.inl rfl) (pe_lst (pa_cons pe_str (pa_cons (pe_xf T.eBadIns.xf T.eBadIns.no hz hf (pv 4)) pa_nil)))))
        (.cons ⟨by rfl, by decide, .inl T.eBadPost.mgC⟩ (fun a oe cls d pn hz hf => pss_one (ps_set (i := 3) sc_law_worked.nd rfl (Or.inl rfl) (pe_lst (pa_cons pe_str (pa_cons (pe_xf T.eBadPost.xf T.eBadPost.no hz hf (pv 4)) pa_nil))))) .nil)))
    (pss_one (ps_ret (pv 3))), ?_⟩
  refine ⟨_, rfl, _, rfl, _, rfl, G, v, x, y, rx, ry, ox, oy, c, rfl, g, hc, ho, hx, hy, fun h1 H' d e hd => ?_, fun h1 h2 H' d e hd => ?_, fun h1 h2 ns ms e1 e2 f1 f2 => ⟨(qq h1 h2 ns ms e1 e2 f1 f2).1, fun G' H' v' gr hv => ⟨_, rfl, (qq h1 h2 ns ms e1 e2 f1 f2).2 G' H' v' gr hv⟩⟩⟩
  · refine ⟨true, T.xII, fun _ a ha => ⟨_, rfl, rfl, rfl, d, _, rx, rfl, hd, rfl, (by show 2 ≤ sizeLine; decide), fun p hp => ⟨_, rfl, qx h1 _ p (e.trans (same_new hp)) upd_at⟩⟩, (by intro z; cases z)⟩
  · refine ⟨false, T.xPI, (by intro z; cases z), fun _ => ⟨true, T.xPP, fun _ a ha => ⟨_, rfl, rfl, rfl, d, _, ry, rfl, hd, rfl, (by show 2 ≤ sizeLine; decide), fun p hp => ⟨_, rfl, qy h1 h2 _ p (e.trans (same_new hp)) upd_at⟩⟩, by intro z; cases z⟩⟩
end
end K6

set_option Elab.async false
set_option linter.all false
set_option maxRecDepth 100000
set_option maxHeartbeats 4000000
namespace K6
open PySem PySem.Spec PyProof.Rows L2
/-! ### comprehensions that ask the hand -/
theorem Hd.upd2 {K : PySem.W.Frag} {x l : Addr} {G H : Hp} {o : HO} (h : Hd K x G H) (n : l ≠ x) (e : G l = none) : Hd K x (L2.upd G l o) H := by
  obtain ⟨c, ns, p, r, t, h⟩ := h
  exact ⟨c, ns, p, r, t, by rw [upd_ne (Ne.symm n)]; exact h.hG, h.hH, (same_new e).seq h.hc, h.len, h.nn, h.p0, h.p1, h.r0, h.t0, h.t1⟩
theorem jok_hd {K : PySem.W.Frag} {x : Addr} {G H : Hp} (h : Hd K x G H) : JOk (fun G' H' => Hd K x G' H') H :=
  ⟨fun l G' H' o hl j => j.upd (h.ne hl), fun l G' H' o hl hg j => j.upd2 (h.ne hl) hg⟩
theorem lcH {It0 : It} {n : Nat} {Gd : Hp → Prop} {Y : Nat → Hp → V → Hp → Prop} (wk : Walk It0 n Gd Y) {β : Type} {S : Rl β} [Up S] {G H : Hp} {x : Addr} (Rel : Nat → List β → Prop) {g : TG} {te : TE} {ns : List Nat} {σ : L2.St} {Q : Addr → Hp → Prop} {K : PySem.W.Frag}
    (hG : Same G H) (hd0 : Hd K x G H) (hGd : ∀ H', Same G H' → Gd H') (r0 : Rel 0 []) (hb : ∀ i ys, i ≤ n → Rel i ys → ys.length ≤ 100000)
    (hs : ∀ i v H1 H1' G1 ys (Q' : VK), i < n → Go K x G H G1 H1 → Rel i ys → Y i H1 v H1' → (∀ y z G4 H4, Go K x G1 H1 G4 H4 → S G4 y z → Rel (i + 1) (ys ++ [z]) → Q' y H4) → g v (wipe σ ns) H1' fun σ2 H2 => wipe σ2 ns = wipe σ ns ∧ te σ2 H2 Q')
    (hd : ∀ G' H' L vs ys, Go K x G H G' H' → SqL K G' L vs → Paired (S G') vs ys → Rel n ys → G' L = some (.lst vs) → Q L H') (hg : ∀ v σ H (A B : L2.St → Hp → Prop), (∀ σ H, A σ H → B σ H) → g v σ H A → g v σ H B) :
    ∀ L, H L = none → ∃ W : Nat → Nat → Hp → Prop, (∃ m, W 0 m (upd H L (.lst []))) ∧ ∀ i m H, W i m H → (It0.stop i H ∧ Q L H) ∨ (It0.go i H ∧ ∃ Nx : Hp → Prop, (∀ H', Nx H' → ∃ m', m' < m ∧ W (i + 1) m' H') ∧
      ∀ v H', It0.yld i H v H' → g v (wipe σ ns) H' fun σ2 H2 => wipe σ2 ns = wipe σ ns ∧ tYes σ2 H2 fun b H3 => if b = true then te σ2 H3 fun y H4 => ∃ acc, H4 L = some (.lst acc) ∧ acc.length < sizeLine ∧ Nx (upd H4 L (.lst (acc ++ [y]))) else Nx H3) :=
  lcW (K := K) (S := S) (M := Mx x) (J := fun G' H' => Hd K x G' H') (Rel := Rel) wk hG hGd (fun l hl => hd0.ne hl) (jok_hd hd0) hd0 r0
    (fun L hL i v H1 H1' G1 vs ys hi I y => by
      refine hg _ _ _ _ _ ?_ (hs i v H1 H1' G1 ys (fun y H4 => ∃ acc, H4 L = some (.lst acc) ∧ acc.length < sizeLine ∧ LcV S (Mx x) G H (fun G' H' => Hd K x G' H') Rel L (i + 1) (upd H4 L (.lst (acc ++ [y])))) hi ⟨I.gr, I.j⟩ I.rel y fun y z G4 H4 e hy hr => ?_)
      · exact fun σ H h => ⟨h.1, tyes h.2⟩
      · exact lc_put I hL (hd0.ne hL) (jok_hd hd0) e.gr e.hd hy hr (hb i ys (by omega) I.rel))
    (fun G' H' L ys gr hl r j hL => by
      obtain ⟨vs, h1, h2⟩ := hL
      exact hd G' H' L vs ys ⟨gr, j⟩ (.of h1) h2 r h1)
/-! ### lists that were open, all shut -/
theorem seal_all {K : PySem.W.Frag} {x : Addr} {G H : Hp} {f : Addr → List V} : ∀ (gs : List Addr) {G1 H1 : Hp}, Go K x G H G1 H1 → gs.Nodup → (∀ g ∈ gs, H1 g = some (.lst (f g)) ∧ G1 g = none ∧ H g = none ∧ g ≠ x) →
    ∃ G2, Go K x G H G2 H1 ∧ Same G1 G2 ∧ (∀ g ∈ gs, G2 g = some (.lst (f g))) ∧ ∀ l, l ∉ gs → G2 l = G1 l
  | [], G1, H1, go, _, _ => ⟨G1, go, .refl _, (by intro _ m; cases m), fun _ _ => rfl⟩
  | g :: gs, G1, H1, go, nd, h => by
    obtain ⟨h1, h2, h3, h4⟩ := h g (.head _)
    have nd' := List.nodup_cons.1 nd
    have go1 : Go K x G H (upd G1 g (.lst (f g))) H1 := ⟨go.gr.shut h3 h2 h1, go.hd.upd2 h4 h2⟩
    obtain ⟨G2, go2, s, a, b⟩ := seal_all gs go1 nd'.2 fun g' m => by
      obtain ⟨k1, k2, k3, k4⟩ := h g' (.tail _ m)
      exact ⟨k1, by rw [upd_ne (fun z => nd'.1 (by rw [← z]; exact m))]; exact k2, k3, k4⟩
    refine ⟨G2, go2, (same_new h2).trans s, fun g' m => ?_, fun l m => ?_⟩
    · cases m with
      | head => exact s _ _ upd_at
      | tail _ m => exact a g' m
    · rw [b l fun z => m (.tail _ z), upd_ne fun z => m (by rw [z]; exact .head _)]
theorem set_perm {α : Type} {w : α} : ∀ {cs : List (List α)} {u : Nat} {ws : List α}, cs[u]? = some ws → ((cs.set u (ws ++ [w])).flatten).Perm (cs.flatten ++ [w])
  | [], _, _, h => by cases h
  | c :: cs, 0, ws, h => by
    have e := Option.some.inj h
    subst e
    rw [List.set_cons_zero, List.flatten_cons, List.flatten_cons, List.append_assoc, List.append_assoc]
    exact (List.perm_append_comm).append_left c
  | c :: cs, u + 1, ws, h => by
    rw [List.set_cons_succ, List.flatten_cons, List.flatten_cons, List.append_assoc]
    exact (set_perm (cs := cs) (u := u) h).append_left c
def lstOf : Option HO → List V
  | some (.lst vs) => vs
  | _ => []
theorem flat_one {α : Type} : ∀ xs : List α, (xs.map fun y => [y]).flatten = xs
  | [] => rfl
  | x :: xs => by
    rw [List.map_cons, List.flatten_cons, flat_one xs]
    rfl
theorem len_flat {α : Type} {ws : List α} : ∀ {cs : List (List α)}, ws ∈ cs → ws.length ≤ cs.flatten.length
  | _ :: _, .head _ => by
    rw [List.flatten_cons, List.length_append]
    omega
  | _ :: _, .tail _ m => by
    have := len_flat m
    rw [List.flatten_cons, List.length_append]
    omega
theorem paired_of {α β : Type} {F : β → α → Prop} : ∀ {xs : List β} {ys : List α}, xs.length = ys.length → (∀ (k : Nat) (x : β) (y : α), xs[k]? = some x → ys[k]? = some y → F x y) → Paired F xs ys
  | [], [], _, _ => .nil
  | [], _ :: _, h, _ => by cases h
  | _ :: _, [], h, _ => by cases h
  | x :: xs, y :: ys, h, f => .cons (f 0 x y rfl rfl) (paired_of (Nat.succ.inj h) fun k x y h1 h2 => f (k + 1) x y h1 h2)
/-! ### what a drawn chart is -/
def Fst (z : Str) (n : Int) : Prop := z.cps[0]? = smallZ.cps.toList[(n % 26).toNat]?
structure BoxDr (ws : List Wire) (b : LB) : Prop where
  day0 : 0 ≤ b.day
  day2 : b.day ≤ 2
  makes : b.makes ≠ []
  takes : ∃ rest, (b.takes ++ rest).Perm ws
  takes3 : b.takes.length ≤ 3
  ents : ((b.ents.length : Nat) : Int) = prodI (sizes b.takes)
  entOk : ∀ e ∈ b.ents, EntOk (sizes b.makes) e
structure Drawn (c : LC) (made inw : List Wire) (start : Int) : Prop where
  s0 : 0 ≤ start
  s1 : start < 26
  made1 : 1 ≤ made.length
  made4 : made.length ≤ 4
  madeP : prodI (sizes made) ≤ 27
  madeOk : ∀ x ∈ made, WireOk x
  madeF : ∀ i x, made[i]? = some x → Fst x.1 (start + (i : Nat))
  in2 : inw.length ≤ 2
  inOk : ∀ x ∈ inw, WireOk x ∧ x.2 ≤ 3
  inF : ∀ i x, inw[i]? = some x → Fst x.1 (start + 4 + (i : Nat))
  wires : c.wires.Perm (made ++ inw)
  boxes1 : 1 ≤ c.boxes.length
  boxes3 : c.boxes.length ≤ 3
  boxes : ∀ b ∈ c.boxes, BoxDr c.wires b
  makes : (c.boxes.flatMap (·.makes)).Perm made
  outs : ∃ ws rest, (ws ++ rest).Perm c.wires ∧ c.outs = names ws ∧ ws.length ≤ 3
section
variable {P : Program} {w : World} {K : PySem.W.Frag} {mg : Str → Option Value} {base : Heap}
theorem prod_small : ∀ {ss : List Int}, (∀ s ∈ ss, 2 ≤ s ∧ s ≤ 4) → prodI ss ≤ 4 ^ ss.length
  | [], _ => by decide
  | s :: ss, h => by
    have ih := prod_small fun x m => h x (List.Mem.tail s m)
    have h1 := h s (.head _)
    have p : 0 < prodI ss := prod_pos fun x m => ⟨by have := (h x (.tail _ m)).1; omega, by have := (h x (.tail _ m)).2; omega⟩
    rw [prod_cons, List.length_cons, Int.pow_succ]
    have e1 : s * prodI ss ≤ 4 * prodI ss := Int.mul_le_mul_of_nonneg_right h1.2 (Int.le_of_lt p)
    omega
def spLc (K : PySem.W.Frag) : Sp := fun vs H Q _ => ∃ (G : Hp) (x : Addr), vs = [.ref x, .int 27, .int 2] ∧ Same G H ∧ Hd K x G H ∧ ∀ G' H' v c made inw start, Drawn c made inw start → Go K x G H G' H' → rLC K G' v c → Q v H'
theorem sc_law_chart : FnScope ["_law_hand_here", "_law_most", "_law_chance", "_law_sizes_here", "_law_start", "_law_many_here", "_law_at", "_law_made", "_law_ins_here", "_law_wires", "_law_count", "_law_groups", "_law_drawn", "_law_boxes", "_law_group", "_law_takes", "_law_ways", "_law_entries", "_law_outs", "_law_wire", "_law_turn"] ["_law_hand_here", "_law_most", "_law_chance"] (defScope s_law_chart) := ⟨rfl, rfl, rfl, by decide +kernel, rfl, by decide +kernel, by decide +kernel⟩
theorem c_law_chart (T : Tx K mg) : C8.Cal P w K mg base 4 "_law_chart" (spLc K) [] := by
  refine mkCal T.f_law_chart sc_law_chart (fun _ _ _ _ _ _ us hl => match us, hl with | [_, _, _], _ => rfl) (fun vs H Q E h => ?_) (fun f cdv A outer s H vs Q E hr h => ?_)
  · obtain ⟨_, _, rfl, _⟩ := h
    rfl
  obtain ⟨G, x, rfl, g, hd, q⟩ := h
  refine ⟨_, (pss_cons (ps_set (i := 3) sc_law_chart.nd rfl (Or.inr rfl) (C8.pe_c (c_law_sizes T) hr (by decide) (by rfl) (pa_cons (pv 0) (pa_cons (pv 1) pa_nil))))
      (pss_cons (ps_set (i := 4) sc_law_chart.nd rfl (Or.inr rfl) (C8.pe_c (c_law_take T) hr (by decide) (by rfl) (pa_cons (pv 0) (pa_cons pe_int pa_nil))))
      (pss_cons (ps_set (i := 5) sc_law_chart.nd rfl (Or.inl rfl) (C8.pe_c (c_law_take T) hr (by decide) (by rfl) (pa_cons (pv 0) (pa_cons pe_int pa_nil))))
      (pss_cons (ps_set (i := 7) sc_law_chart.nd rfl (Or.inr rfl) (pe_lc (own := [("_law_at", 6)]) rfl sc_law_chart.nd (pi_range1 (by rfl) T.range (pa_cons (pe_callB call_len_seq (by rfl) T.len bt_len (pa_cons (pv 3) pa_nil)) pa_nil)) (blkOk_by (own := [("_law_at", 6)]) (N := ["_law_hand_here", "_law_most", "_law_chance", "_law_sizes_here", "_law_start", "_law_many_here", "_law_at", "_law_made", "_law_ins_here", "_law_wires", "_law_count", "_law_groups", "_law_drawn", "_law_boxes", "_law_group", "_law_takes", "_law_ways", "_law_entries", "_law_outs", "_law_wire", "_law_turn"]) (sc := defScope s_law_chart) (by decide +kernel)) (fun _ _ _ _ _ => (pg_name (i := 6) sc_law_chart.nd rfl (Or.inl rfl))) (fun _ _ _ _ _ => pts_nil) (fun _ _ _ _ _ => (pe_tup (pa_cons (C8.pe_c (c_law_name T) hr (by decide) (by rfl) (pa_cons (pv 0) (pa_cons (pe_op op_mod (pe_callTy call_int1 (by rfl) T.int bt_int (pa_cons (pe_op op_add (pv 4) (pv 6)) pa_nil)) pe_int) pa_nil))) (pa_cons (pe_ix (show IxR _ (rIxL K) from ix_list) (pv 3) (pv 6) (fun _ _ => rfl)) pa_nil))))))
      (pss_cons (ps_setLc (i := 8) (own := [("_law_at", 6)]) rfl sc_law_chart.nd rfl rfl (sw_true rfl rfl rfl (by decide +kernel)) (pi_range1 (by rfl) T.range (pa_cons (pv 5) pa_nil)) (blkOk_by (own := [("_law_at", 6)]) (N := ["_law_hand_here", "_law_most", "_law_chance", "_law_sizes_here", "_law_start", "_law_many_here", "_law_at", "_law_made", "_law_ins_here", "_law_wires", "_law_count", "_law_groups", "_law_drawn", "_law_boxes", "_law_group", "_law_takes", "_law_ways", "_law_entries", "_law_outs", "_law_wire", "_law_turn"]) (sc := defScope s_law_chart) (by decide +kernel)) (fun _ _ _ _ _ => (pg_name (i := 6) sc_law_chart.nd rfl (Or.inl rfl))) (fun _ _ _ _ _ => pts_nil) (fun _ _ _ _ _ => (pe_tup (pa_cons (C8.pe_c (c_law_name T) hr (by decide) (by rfl) (pa_cons (pv 0) (pa_cons (pe_op op_mod (pe_callTy call_int1 (by rfl) T.int bt_int (pa_cons (pe_op op_add (pe_op op_add (pv 4) pe_int) (pv 6)) pa_nil)) pe_int) pa_nil))) (pa_cons (pe_ix (show IxR _ (rIxT K) from ix_tup) (pe_tup (pa_cons pe_int (pa_cons pe_int (pa_cons pe_int (pa_cons pe_int pa_nil))))) (C8.pe_c (c_law_take T) hr (by decide) (by rfl) (pa_cons (pv 0) (pa_cons pe_int pa_nil))) (fun _ _ => rfl)) pa_nil)))))
      (pss_cons (ps_set (i := 9) sc_law_chart.nd rfl (Or.inl rfl) (C8.pe_c (c_law_some (R := rW K) T) hr (by decide) (by rfl) (pa_cons (pv 0) (pa_cons (pe_op op_cat (pv 7) (pv 8)) (pa_cons pe_int pa_nil)))))
      (pss_cons (ps_set (i := 10) sc_law_chart.nd rfl (Or.inl rfl) (pe_callB (call_min2 rfl) (by rfl) T.min bt_min (pa_cons (pe_op op_add pe_int (C8.pe_c (c_law_take T) hr (by decide) (by rfl) (pa_cons (pv 0) (pa_cons pe_int pa_nil)))) (pa_cons (pe_callB call_len_seq (by rfl) T.len bt_len (pa_cons (pv 7) pa_nil)) pa_nil))))
      (pss_cons (ps_setLc (i := 11) (own := [("_law_at", 6)]) rfl sc_law_chart.nd rfl rfl (sw_true rfl rfl rfl (by decide +kernel)) (pi_range1 (by rfl) T.range (pa_cons (pv 10) pa_nil)) (blkOk_by (own := [("_law_at", 6)]) (N := ["_law_hand_here", "_law_most", "_law_chance", "_law_sizes_here", "_law_start", "_law_many_here", "_law_at", "_law_made", "_law_ins_here", "_law_wires", "_law_count", "_law_groups", "_law_drawn", "_law_boxes", "_law_group", "_law_takes", "_law_ways", "_law_entries", "_law_outs", "_law_wire", "_law_turn"]) (sc := defScope s_law_chart) (by decide +kernel)) (fun _ _ _ _ _ => (pg_name (i := 6) sc_law_chart.nd rfl (Or.inl rfl))) (fun _ _ _ _ _ => pts_nil) (fun _ _ _ _ _ => (pe_lst (pa_cons (pe_ix (show IxR _ (rIxL K) from ix_list) (pv 7) (pv 6) (fun _ _ => rfl)) pa_nil))))
      (pss_cons (ps_for PassesOwn.never rfl (pi_range2 (by rfl) T.range (pa_cons (pv 10) (pa_cons (pe_callB call_len_seq (by rfl) T.len bt_len (pa_cons (pv 7) pa_nil)) pa_nil))) (pg_name (i := 6) sc_law_chart.nd rfl (Or.inl rfl)) (pss_one (ps_expr (pe_bm PySem.F.plainAttrs_list PySem.F.slot_list_append PySem.F.type_list_append mt_append (pe_ix ix_list (pv 11) (C8.pe_c (c_law_take T) hr (by decide) (by rfl) (pa_cons (pv 0) (pa_cons (pv 10) pa_nil))) (fun _ _ => rfl)) (pa_cons (pe_ix ix_list (pv 7) (pv 6) (fun _ _ => rfl)) pa_nil)))))
      (pss_cons (ps_set (i := 12) sc_law_chart.nd rfl (Or.inr rfl) (pe_or (pe_cmpR op_eq (pv 2) pe_int (nomark _)) (pe_one (pe_and (pe_cmpR op_eq (pv 2) pe_int (nomark _)) (pe_one (pe_cmpR op_eq (C8.pe_c (c_law_take T) hr (by decide) (by rfl) (pa_cons (pv 0) (pa_cons pe_int pa_nil))) pe_int (nomark _)))))))
      (pss_cons (ps_set (i := 13) sc_law_chart.nd rfl (Or.inl rfl) (pe_lst pa_nil))
      (pss_cons (ps_for PassesOwn.never rfl (pi_seq (pv 11)) (pg_name (i := 14) sc_law_chart.nd rfl (Or.inl rfl)) (pss_cons (ps_set (i := 15) sc_law_chart.nd rfl (Or.inl rfl) (C8.pe_c (c_law_some (R := rW K) T) hr (by decide) (by rfl) (pa_cons (pv 0) (pa_cons (pv 9) (pa_cons (pe_ix ix_tup (pe_tup (pa_cons pe_int (pa_cons pe_int (pa_cons pe_int (pa_cons pe_int (pa_cons pe_int (pa_cons pe_int (pa_cons pe_int (pa_cons pe_int pa_nil))))))))) (C8.pe_c (c_law_take T) hr (by decide) (by rfl) (pa_cons (pv 0) (pa_cons pe_int pa_nil))) (fun _ _ => rfl)) pa_nil)))))
      (pss_cons (ps_set (i := 16) sc_law_chart.nd rfl (Or.inr rfl) (pe_lc (own := [("_law_wire", 19)]) rfl sc_law_chart.nd (pi_seq (pv 14)) (blkOk_by (own := [("_law_wire", 19)]) (N := ["_law_hand_here", "_law_most", "_law_chance", "_law_sizes_here", "_law_start", "_law_many_here", "_law_at", "_law_made", "_law_ins_here", "_law_wires", "_law_count", "_law_groups", "_law_drawn", "_law_boxes", "_law_group", "_law_takes", "_law_ways", "_law_entries", "_law_outs", "_law_wire", "_law_turn"]) (sc := defScope s_law_chart) (by decide +kernel)) (fun _ _ _ _ _ => (pg_name (i := 19) sc_law_chart.nd rfl (Or.inl rfl))) (fun _ _ _ _ _ => pts_nil) (fun _ _ _ _ _ => (pe_ix (show IxR _ (rIxT K) from ix_tup) (pv 19) pe_int (fun _ _ => rfl)))))
      (pss_cons (ps_setLc (i := 17) (own := [("_law_turn", 20)]) rfl sc_law_chart.nd rfl rfl (sw_true rfl rfl rfl (by decide +kernel)) (pi_range1 (by rfl) T.range (pa_cons (C8.pe_c (c_law_many T) hr (by decide) (by rfl) (pa_cons (pe_lc (own := [("_law_wire", 19)]) rfl sc_law_chart.nd (pi_seq (pv 15)) (blkOk_by (own := [("_law_wire", 19)]) (N := ["_law_hand_here", "_law_most", "_law_chance", "_law_sizes_here", "_law_start", "_law_many_here", "_law_at", "_law_made", "_law_ins_here", "_law_wires", "_law_count", "_law_groups", "_law_drawn", "_law_boxes", "_law_group", "_law_takes", "_law_ways", "_law_entries", "_law_outs", "_law_wire", "_law_turn"]) (sc := defScope s_law_chart) (by decide +kernel)) (fun _ _ _ _ _ => (pg_name (i := 19) sc_law_chart.nd rfl (Or.inl rfl))) (fun _ _ _ _ _ => pts_nil) (fun _ _ _ _ _ => (pe_ix (show IxR _ (rIxT K) from ix_tup) (pv 19) pe_int (fun _ _ => rfl)))) pa_nil)) pa_nil)) (blkOk_by (own := [("_law_turn", 20)]) (N := ["_law_hand_here", "_law_most", "_law_chance", "_law_sizes_here", "_law_start", "_law_many_here", "_law_at", "_law_made", "_law_ins_here", "_law_wires", "_law_count", "_law_groups", "_law_drawn", "_law_boxes", "_law_group", "_law_takes", "_law_ways", "_law_entries", "_law_outs", "_law_wire", "_law_turn"]) (sc := defScope s_law_chart) (by decide +kernel)) (fun _ _ _ _ _ => (pg_name (i := 20) sc_law_chart.nd rfl (Or.inl rfl))) (fun _ _ _ _ _ => pts_nil) (fun _ _ _ _ _ => (C8.pe_c (c_law_entry T) hr (by decide) (by rfl) (pa_cons (pv 0) (pa_cons (pv 16) (pa_cons (pv 12) pa_nil))))))
      (pss_one (ps_expr (pe_bm PySem.F.plainAttrs_list PySem.F.slot_list_append PySem.F.type_list_append mt_append (pv 13) (pa_cons (pe_lst (pa_cons (C8.pe_c (c_law_take T) hr (by decide) (by rfl) (pa_cons (pv 0) (pa_cons pe_int pa_nil))) (pa_cons (pv 15) (pa_cons (pv 14) (pa_cons (pv 17) pa_nil))))) pa_nil))))))))
      (pss_cons (ps_setLc (i := 18) (own := [("_law_wire", 19)]) rfl sc_law_chart.nd rfl rfl (sw_true rfl rfl rfl (by decide +kernel)) (pi_seq (C8.pe_c (c_law_some (R := rW K) T) hr (by decide) (by rfl) (pa_cons (pv 0) (pa_cons (pv 9) (pa_cons (C8.pe_c (c_law_take T) hr (by decide) (by rfl) (pa_cons (pv 0) (pa_cons pe_int pa_nil))) pa_nil))))) (blkOk_by (own := [("_law_wire", 19)]) (N := ["_law_hand_here", "_law_most", "_law_chance", "_law_sizes_here", "_law_start", "_law_many_here", "_law_at", "_law_made", "_law_ins_here", "_law_wires", "_law_count", "_law_groups", "_law_drawn", "_law_boxes", "_law_group", "_law_takes", "_law_ways", "_law_entries", "_law_outs", "_law_wire", "_law_turn"]) (sc := defScope s_law_chart) (by decide +kernel)) (fun _ _ _ _ _ => (pg_name (i := 19) sc_law_chart.nd rfl (Or.inl rfl))) (fun _ _ _ _ _ => pts_nil) (fun _ _ _ _ _ => (pe_ix (show IxR _ (rIxT K) from ix_tup) (pv 19) pe_int (fun _ _ => rfl))))
      (pss_one (ps_ret (pe_lst (pa_cons (pv 9) (pa_cons (pv 13) (pa_cons (pv 18) pa_nil))))))))))))))))))), ?_⟩
  -- sizes, start, many
  refine ⟨_, rfl, _, rfl, G, x, rfl, g, hd, fun G1 H1 sz ss ss1 ss4 ssb ssp gr1 hd1 hsz => ?_⟩
  have g1 := (Go.refl g hd).hand gr1 hd1
  clear gr1
  refine ⟨_, rfl, G1, x, 26, rfl, g1.gr.gh, g1.hd, by decide, by decide, fun H2 start s0 s1' gr2 hd2 => ?_⟩
  have g2 := g1.hand gr2 hd2
  clear gr2 g1
  refine ⟨_, rfl, G1, x, 3, rfl, g2.gr.gh, g2.hd, by decide, by decide, fun H3 many m0 m1 gr3 hd3 => ?_⟩
  have g3 := g2.hand gr3 hd3
  clear gr3 g2
  -- the made wires
  have hlen : (ss.map V.int).length = ss.length := List.length_map ..
  refine ⟨_, rfl, sz, _, rfl, .inl (g3.gr.gh.seq hsz), _, rfl, by omega, by omega, ?_⟩
  refine lcH (K := K) (S := rW K) (x := x) walk_range (fun i ys => ys.length = i ∧ sizes ys = ss.take i ∧ (∀ y ∈ ys, NameOk y.1) ∧ ∀ j y, ys[j]? = some y → Fst y.1 (start + (j : Nat))) g3.gr.gh g3.hd (fun _ _ => trivial) ⟨rfl, rfl, (fun y m => nomatch m), fun j y h => by cases h⟩ (fun i ys hi r => by rw [r.1]; omega)
    (fun i v Ha Ha' Ga ys Q' hi ga r ⟨e, hv⟩ k => ?_) (fun G4 H4 md mv made g4 hmd hmP r hmt => ?_) gName_mono
  · subst e hv
    obtain ⟨s, hs⟩ : ∃ s, ss[i]? = some s := ⟨ss[i]'(by omega), List.getElem?_eq_getElem (by omega)⟩
    have hat : atI (ss.map V.int) (0 + (i : Nat)) = some (.int s) := by rw [Int.zero_add]; exact atI_nat (by rw [List.getElem?_map, hs]; rfl)
    refine ⟨rfl, _, rfl, _, rfl, _, rfl, _, _, rfl, rfl, .inl ⟨_, rfl, _, _, rfl, rfl, (by show (0 : Int) < 26; decide), Ga, x, _, rfl, ga.gr.gh, ga.hd, Int.emod_nonneg _ (by decide), Int.emod_lt_of_pos _ (by decide), fun Hb z hz hf grb hdb => ?_⟩⟩
    have gb := (Go.refl ga.gr.gh ga.hd).hand grb hdb
    refine ⟨_, rfl, _, rfl, _, _, _, _, rfl, rfl, gb.gr.to.seq (ga.gr.gg.seq hsz), hat, (by show 2 ≤ sizeLine; decide), fun p hp => ?_⟩
    refine k _ (z, s) _ _ (gb.seal hp) (rw_new (x := (z, s))) ⟨by rw [List.length_append, r.1]; rfl, ?_, fun y m => ?_, fun j y h => ?_⟩
    · rw [take_snoc hs, ← r.2.1]
      unfold sizes
      rw [List.map_append]
      rfl
    · rcases List.mem_append.1 m with m | m
      · exact r.2.2.1 y m
      · rw [List.mem_singleton.1 m]
        exact hz
    · rcases Nat.lt_or_ge j ys.length with hj | hj
      · rw [List.getElem?_append_left hj] at h
        exact r.2.2.2 j y h
      · rw [List.getElem?_append_right hj] at h
        have hj0 : j - ys.length = 0 := by
          rcases Nat.eq_zero_or_pos (j - ys.length) with e | e
          · exact e
          · rw [List.getElem?_eq_none (by show 1 ≤ j - ys.length; omega)] at h
            cases h
        rw [hj0] at h
        have h := Option.some.inj h
        subst h
        have : j = i := by have := r.1; omega
        subst this
        rw [Int.zero_add] at hf
        exact hf
  rw [hlen] at r
  obtain ⟨mdl, mds, mdn, mdf⟩ := r
  rw [show ((ss.length : Nat) : Int).toNat = ss.length from rfl] at mds mdl
  rw [List.take_length] at mds
  have g4 : Go K x G H G4 H4 := ⟨g3.gr.trans g4.gr, g4.hd⟩
  clear g3
  have mdok : ∀ y ∈ made, WireOk y := fun y m => ⟨mdn y m, ssb y.2 (by rw [← mds]; exact List.mem_map_of_mem m)⟩
  have mdlen := Paired.length hmP
  -- the ins
  refine ⟨_, rfl, many, rfl, by omega, by omega, ?_⟩
  refine lcH (K := K) (S := rW K) (x := x) walk_range (fun i ys => ys.length = i ∧ (∀ y ∈ ys, WireOk y ∧ y.2 ≤ 3) ∧ ∀ j y, ys[j]? = some y → Fst y.1 (start + 4 + (j : Nat))) g4.gr.gh g4.hd (fun _ _ => trivial) ⟨rfl, (fun y m => nomatch m), fun j y h => by cases h⟩ (fun i ys hi r => by rw [r.1]; omega)
    (fun i v Ha Ha' Ga ys Q' hi ga r ⟨e, hv⟩ k => ?_) (fun G5 H5 it iv inw g5 hit hiP r hitt => ?_) gName_mono
  · subst e hv
    refine ⟨rfl, _, rfl, _, rfl, _, _, rfl, rfl, _, rfl, _, _, rfl, rfl, .inl ⟨_, rfl, _, _, rfl, rfl, (by show (0 : Int) < 26; decide), Ga, x, _, rfl, ga.gr.gh, ga.hd, Int.emod_nonneg _ (by decide), Int.emod_lt_of_pos _ (by decide), fun Hb z hz hf grb hdb => ?_⟩⟩
    have gb := (Go.refl ga.gr.gh ga.hd).hand grb hdb
    refine ⟨(by show 4 ≤ sizeLine; decide), fun pt hpt => ⟨_, rfl, Ga, x, 4, rfl, (gb.new hpt).gr.gh, (gb.new hpt).hd, by decide, by decide, fun Hc u u0 u1 grc hdc => ?_⟩⟩
    have gc := (gb.new (o := .tup [.int 2, .int 2, .int 2, .int 3]) hpt).hand grc hdc
    have hpc := grc.hh pt _ (gb.hd.ne hpt) upd_at
    obtain ⟨s, s2, s3, hat⟩ : ∃ s : Int, 2 ≤ s ∧ s ≤ 3 ∧ atI [V.int 2, .int 2, .int 2, .int 3] u = some (.int s) := by
      rcases (show u = 0 ∨ u = 1 ∨ u = 2 ∨ u = 3 by omega) with rfl | rfl | rfl | rfl
      · exact ⟨2, by decide, by decide, rfl⟩
      · exact ⟨2, by decide, by decide, rfl⟩
      · exact ⟨2, by decide, by decide, rfl⟩
      · exact ⟨3, by decide, by decide, rfl⟩
    refine ⟨_, _, _, _, rfl, rfl, .of hpc, hat, (by show 2 ≤ sizeLine; decide), fun p hp => ?_⟩
    refine k _ (z, s) _ _ (gc.seal hp) (rw_new (x := (z, s))) ⟨by rw [List.length_append, r.1]; rfl, fun y m => ?_, fun j y h => ?_⟩
    · rcases List.mem_append.1 m with m | m
      · exact r.2.1 y m
      · rw [List.mem_singleton.1 m]
        exact ⟨⟨hz, s2, by show s ≤ 4; omega⟩, s3⟩
    · rcases Nat.lt_or_ge j ys.length with hj | hj
      · rw [List.getElem?_append_left hj] at h
        exact r.2.2 j y h
      · rw [List.getElem?_append_right hj] at h
        have hj0 : j - ys.length = 0 := by
          rcases Nat.eq_zero_or_pos (j - ys.length) with e | e
          · exact e
          · rw [List.getElem?_eq_none (by show 1 ≤ j - ys.length; omega)] at h
            cases h
        rw [hj0] at h
        have h := Option.some.inj h
        subst h
        have : j = i := by have := r.1; omega
        subst this
        rw [Int.zero_add] at hf
        exact hf
  obtain ⟨inl, inok, inf⟩ := r
  have g5' : Go K x G H G5 H5 := ⟨g4.gr.trans g5.gr, g5.hd⟩
  have s45 := g5.gr.gg
  clear g4 g5
  have inlen := Paired.length hiP
  have hmd5 := s45 _ _ hmt
  have hmP5 := paired_up s45 hmP
  have many2 : inw.length ≤ 2 := by rw [inl]; omega
  -- the wires, in a drawn order
  refine ⟨_, rfl, _, rfl, _, rfl, md, it, mv, iv, rfl, rfl, g5'.gr.gh _ _ hmd5, g5'.gr.gh _ _ hitt, small_of (by omega), fun pc hpc => ?_⟩
  have g6 := g5'.seal (o := .lst (mv ++ iv)) hpc
  have s6 := same_new (g5'.gr.gh.free hpc) (o := .lst (mv ++ iv))
  refine ⟨_, x, pc, mv ++ iv, made ++ inw, 6, rfl, g6.gr.gh, g6.hd, .of upd_at, paired_app (paired_up s6 hmP5) (paired_up s6 hiP), by rw [List.length_append]; omega, by decide, by decide, fun G7 H7 wt wires rest hperm hwl gr7 hd7 hwt => ?_⟩
  have g7 := g6.hand gr7 hd7
  have s7 := s6.trans gr7.gg
  clear g6 gr7
  have hrest : rest = [] := by
    have h1 := hperm.length_eq
    rw [List.length_append, List.length_append] at h1
    have h2 : wires.length = min 6 (made ++ inw).length := hwl
    rw [List.length_append] at h2
    exact List.length_eq_zero_iff.1 (by omega)
  subst hrest
  rw [List.append_nil] at hperm
  have hmd7 := s7 _ _ hmd5
  have hmP7 := paired_up s7 hmP5
  -- the count
  refine ⟨_, rfl, G7, x, 3, rfl, g7.gr.gh, g7.hd, by decide, by decide, fun H8 u u0 u1 gr8 hd8 => ⟨_, _, rfl, rfl, _, rfl, md, mv, rfl, .inl (.of (gr8.gh _ _ hmd7)), _, _, rfl, ?_⟩⟩
  have g8 := g7.hand gr8 hd8
  clear gr8 g7
  obtain ⟨cnt, hcnt, c1, c3, cm⟩ : ∃ cnt : Nat, (if ((mv.length : Nat) : Int) < 1 + u then ((mv.length : Nat) : Int) else 1 + u) = ((cnt : Nat) : Int) ∧ 1 ≤ cnt ∧ cnt ≤ 3 ∧ cnt ≤ made.length := by
    by_cases z : ((mv.length : Nat) : Int) < 1 + u
    · exact ⟨mv.length, if_pos z, by omega, by omega, by omega⟩
    · refine ⟨(1 + u).toNat, (if_neg z).trans ?_, ?_, ?_, ?_⟩ <;> omega
  rw [hcnt]
  -- the groups
  refine ⟨_, rfl, _, rfl, by omega, by omega, fun L hL => ?_⟩
  have hL0 := g8.gr.dm L hL
  have hLG := g8.gr.gh.free hL
  have hLx := hd.ne hL0
  refine lc_it walk_range (fun i H' => ∃ gs : List Addr, Go K x G H G7 H' ∧ H' L = some (.lst (gs.map V.ref)) ∧ gs.length = i ∧ (L :: gs).Nodup ∧ (∀ gp ∈ gs, G7 gp = none ∧ H gp = none) ∧ ∀ (k : Nat) (gp : Addr), gs[k]? = some gp → ∃ (y : Wire) (v : V), made[k]? = some y ∧ rW K G7 v y ∧ H' gp = some (.lst [v]))
    ⟨[], g8.new hL, upd_at, rfl, List.nodup_cons.2 ⟨(by intro z; cases z), .nil⟩, (by intro z m; cases m), fun k gp h => by cases h⟩ (fun _ _ _ _ => trivial) (fun i v H9 H9' hi ⟨gs, g9, hL9, hgl, hnd, hgf, hgc⟩ ⟨e, hv⟩ => ?_) (fun H9 ⟨gs, g9, hL9, hgl, hnd, hgf, hgc⟩ => ?_)
  · subst e hv
    have hi' : i < made.length := by have : (cnt : Int).toNat = cnt := rfl; omega
    obtain ⟨y, hy⟩ : ∃ y, made[i]? = some y := ⟨made[i]'hi', List.getElem?_eq_getElem hi'⟩
    obtain ⟨v, hv, hvy⟩ := paired_to hmP7 hy
    have hat : atI mv (0 + (i : Nat)) = some v := by rw [Int.zero_add]; exact atI_nat hv
    refine ⟨rfl, tyes ⟨_, rfl, _, rfl, _, _, _, _, rfl, rfl, .of (g9.gr.gh _ _ hmd7), hat, (by show 1 ≤ sizeLine; decide), fun gp hgp => ?_⟩⟩
    have hgp0 := g9.gr.dm gp hgp
    have hgpL : gp ≠ L := fun z => by rw [z, hL9] at hgp; cases hgp
    have hgpn : gp ∉ gs := fun m => by
      obtain ⟨k, hk⟩ := List.getElem?_of_mem m
      obtain ⟨_, _, _, _, h⟩ := hgc k gp hk
      rw [h] at hgp
      cases hgp
    refine ⟨gs.map V.ref, ?_, small_lt (by rw [List.length_map]; omega), gs ++ [gp], (g9.new hgp).write hL0 hLG hLx, ?_, by rw [List.length_append, hgl]; rfl, ?_, fun z m => ?_, fun k z hz => ?_⟩
    · rw [upd_ne (Ne.symm hgpL)]
      exact hL9
    · rw [upd_at, List.map_append]
      rfl
    · have h1 := List.nodup_cons.1 hnd
      refine List.nodup_cons.2 ⟨fun m => ?_, List.nodup_append.2 ⟨h1.2, List.nodup_cons.2 ⟨(by intro z; cases z), .nil⟩, fun a ma b mb e => ?_⟩⟩
      · rcases List.mem_append.1 m with m | m
        · exact h1.1 m
        · exact hgpL (List.mem_singleton.1 m).symm
      · rw [List.mem_singleton.1 mb] at e
        exact hgpn (e ▸ ma)
    · rcases List.mem_append.1 m with m | m
      · exact hgf z m
      · rw [List.mem_singleton.1 m]
        exact ⟨g9.gr.gh.free hgp, hgp0⟩
    · rcases Nat.lt_or_ge k gs.length with hk | hk
      · rw [List.getElem?_append_left hk] at hz
        obtain ⟨y', v', h1, h2, h3⟩ := hgc k z hz
        have hzgp : z ≠ gp := fun e => hgpn (e ▸ List.mem_of_getElem? hz)
        have hzL : z ≠ L := fun e => (List.nodup_cons.1 hnd).1 (e ▸ List.mem_of_getElem? hz)
        exact ⟨y', v', h1, h2, by rw [upd_ne hzL, upd_ne hzgp]; exact h3⟩
      · rw [List.getElem?_append_right hk] at hz
        have hk0 : k - gs.length = 0 := by
          rcases Nat.eq_zero_or_pos (k - gs.length) with e | e
          · exact e
          · rw [List.getElem?_eq_none (by show 1 ≤ k - gs.length; omega)] at hz
            cases hz
        rw [hk0] at hz
        have hz := Option.some.inj hz
        subst hz
        have : k = i := by omega
        subst this
        exact ⟨y, v, hy, hvy, by rw [upd_ne hgpL, upd_at]⟩
  rw [show ((cnt : Nat) : Int).toNat = cnt from rfl] at hgl
  have hndg := (List.nodup_cons.1 hnd).2
  have hLgs := (List.nodup_cons.1 hnd).1
  have hsl : ∀ a b : Option V, True := fun _ _ => trivial
  refine ⟨_, rfl, _, rfl, md, mv, rfl, .inl (.of (g9.gr.gh _ _ hmd7)), _, _, rfl, ⟨by omega, by omega, by omega, by omega⟩, fr_range (lo := (cnt : Int)) (n := (((mv.length : Nat) : Int) - (cnt : Nat)).toNat) (fun i σ H' => Go K x G H G7 H' ∧ H' L = some (.lst (gs.map V.ref)) ∧ ∃ (cs : List (List Wire)), cs.length = gs.length ∧ (∀ (k : Nat) (gp : Addr), gs[k]? = some gp → ∃ (vs : List V) (ws : List Wire), H' gp = some (.lst vs) ∧ cs[k]? = some ws ∧ Paired (rW K G7) vs ws ∧ ws ≠ []) ∧ cs.flatten.Perm (made.take (cnt + i)) ∧ ∃ r6, σ = [some (.ref x), some (.int 27), some (.int 2), some (.ref sz), some (.int start), some (.int many), r6, some (.ref md), some (.ref it), some (.ref wt), some (.int (cnt : Nat)), some (.ref L), none, none, none, none, none, none, none, none, none])
    ⟨g9, hL9, (made.take cnt).map (fun y => [y]), by rw [List.length_map, List.length_take]; omega, fun k gp h => ?_, by rw [flat_one, Nat.add_zero], _, rfl⟩ (fun i σ Ha hi ⟨ga, hLa, cs, hcl, hcs, hcp, r6, es⟩ => ?_) (fun σ Ha ⟨ga, hLa, cs, hcl, hcs, hcp, r6, es⟩ => ?_)⟩
  · obtain ⟨y, v, h1, h2, h3⟩ := hgc k gp h
    have hk := (List.getElem?_eq_some_iff.1 h).1
    refine ⟨[v], [y], h3, ?_, .cons h2 .nil, by intro z; cases z⟩
    rw [List.getElem?_map, List.getElem?_take_of_lt (by omega), h1]
    rfl
  · subst es
    have hi' : cnt + i < made.length := by omega
    obtain ⟨y, hy⟩ : ∃ y, made[cnt + i]? = some y := ⟨made[cnt + i]'hi', List.getElem?_eq_getElem hi'⟩
    obtain ⟨v, hv, hvy⟩ := paired_to hmP7 hy
    have hat : atI mv ((cnt : Int) + (i : Nat)) = some v := by
      have := atI_nat hv
      rwa [Int.natCast_add] at this
    refine ⟨_, rfl, _, rfl, _, rfl, G7, x, _, rfl, ga.gr.gh, ga.hd, by omega, by omega, fun Hb u u0 u1 grb hdb => ?_⟩
    have gb := ga.hand grb hdb
    obtain ⟨gp, hgp⟩ : ∃ gp, gs[u.toNat]? = some gp := ⟨gs[u.toNat]'(by omega), List.getElem?_eq_getElem (by omega)⟩
    have hgm := List.mem_of_getElem? hgp
    obtain ⟨hgG, hgH⟩ := hgf gp hgm
    have hgx := hd.ne hgH
    have hgL : gp ≠ L := fun e => hLgs (e ▸ hgm)
    obtain ⟨vs, ws, hvs, hws, hP, hne⟩ := hcs u.toNat gp hgp
    have hvs := grb.hh gp _ hgx hvs
    have hLb := grb.hh L _ hLx hLa
    have hatg : atI (gs.map V.ref) u = some (.ref gp) := by
      have := atI_nat (xs := gs.map V.ref) (j := u.toNat) (v := .ref gp) (by rw [List.getElem?_map, hgp]; rfl)
      rwa [Int.toNat_of_nonneg u0] at this
    have hwl : ws.length ≤ 10 := by
      have h1 := len_flat (List.mem_of_getElem? hws)
      have h2 := hcp.length_eq
      rw [List.length_take] at h2
      omega
    refine ⟨_, _, _, _, rfl, rfl, .of hLb, hatg, .inl ⟨rfl, _, .of hvs⟩, _, rfl, _, rfl, _, _, _, _, rfl, rfl, .of (gb.gr.gh _ _ hmd7), hat, gp, vs, _, rfl, rfl, hvs, small_lt (by have := Paired.length hP; omega), gb.write hgH hgG hgx, by rw [upd_ne (Ne.symm hgL)]; exact hLb, cs.set u.toNat (ws ++ [y]), by rw [List.length_set]; exact hcl, fun k gq hk => ?_, ?_, _, rfl⟩
    · by_cases hku : k = u.toNat
      · subst hku
        rw [hgp] at hk
        have hk := Option.some.inj hk
        subst hk
        exact ⟨_, _, upd_at, List.getElem?_set_self (by have := (List.getElem?_eq_some_iff.1 hws).1; omega), paired_snoc hP hvy, by simp⟩
      · have hq : gq ≠ gp := fun e => by
          subst e
          obtain ⟨h1, h2⟩ := List.getElem?_eq_some_iff.1 hk
          obtain ⟨h3, h4⟩ := List.getElem?_eq_some_iff.1 hgp
          exact hku ((List.getElem_inj hndg).1 (h2.trans h4.symm))
        obtain ⟨vs', ws', k1, k2, k3, k4⟩ := hcs k gq hk
        have k1 := grb.hh gq _ (hd.ne (hgf gq (List.mem_of_getElem? hk)).2) k1
        exact ⟨vs', ws', by rw [upd_ne hq]; exact k1, by rw [List.getElem?_set_ne (Ne.symm hku)]; exact k2, k3, k4⟩
    · rw [← Nat.add_assoc, take_snoc hy]
      exact (set_perm hws).trans (hcp.append_right [y])
  subst es
  have hend : made.take (cnt + (((mv.length : Nat) : Int) - (cnt : Nat)).toNat) = made := List.take_of_length_le (by omega)
  rw [hend] at hcp
  clear g8 g9
  -- all the groups stand from now on
  obtain ⟨G8, g8, s8, hsg, hsn⟩ := seal_all (f := fun gp => lstOf (Ha gp)) gs ga hndg fun gp m => by
    obtain ⟨k, hk⟩ := List.getElem?_of_mem m
    obtain ⟨vs, ws, k1, _⟩ := hcs k gp hk
    exact ⟨by rw [k1]; rfl, (hgf gp m).1, (hgf gp m).2, hd.ne (hgf gp m).2⟩
  have hL8 : G8 L = none := by
    rw [hsn L hLgs]
    cases hq : G7 L with
    | none => rfl
    | some o =>
      have := ga.gr.gh _ _ hq
      exact absurd hLG (by rw [hq]; intro z; cases z)
  have g8 : Go K x G H (upd G8 L (.lst (gs.map V.ref))) Ha := ⟨g8.gr.shut hL0 hL8 hLa, g8.hd.upd2 hLx hL8⟩
  have s8' := s8.trans (same_new hL8 (o := .lst (gs.map V.ref)))
  have hcP : Paired (rL K (rW K) (upd G8 L (.lst (gs.map V.ref)))) (gs.map V.ref) cs := by
    refine paired_of (by rw [List.length_map, hcl]) fun k v ws h1 h2 => ?_
    obtain ⟨gp, hgp, rfl⟩ := at_map h1
    obtain ⟨vs, ws', k1, k2, k3, k4⟩ := hcs k gp hgp
    rw [h2] at k2
    have k2 := Option.some.inj k2
    subst k2
    have hgm := List.mem_of_getElem? hgp
    have e1 := hsg gp hgm
    rw [k1] at e1
    exact ⟨gp, vs, rfl, .of ((same_new hL8 (o := .lst (gs.map V.ref))) _ _ e1), paired_up s8' k3⟩
  have hcne : ∀ ws ∈ cs, ws ≠ [] := fun ws m => by
    obtain ⟨k, hk⟩ := List.getElem?_of_mem m
    have hkl := (List.getElem?_eq_some_iff.1 hk).1
    obtain ⟨_, ws', _, k2, _, k4⟩ := hcs k (gs[k]'(by omega)) (List.getElem?_eq_getElem (by omega))
    rw [hk] at k2
    rw [Option.some.inj k2]
    exact k4
  have hLs : upd G8 L (.lst (gs.map V.ref)) L = some (.lst (gs.map V.ref)) := upd_at
  have hwt8 := Up.up (R := rL K (rW K)) s8' hwt
  generalize upd G8 L (.lst (gs.map V.ref)) = Gc at g8 s8' hcP hLs hwt8
  clear ga
  have made10 : made.length ≤ 4 := by omega
  have hws4 : ∀ ws ∈ cs, ws.length ≤ 4 := fun ws m => by
    have h1 := len_flat m
    have h2 := hcp.length_eq
    omega
  have hwsok : ∀ ws ∈ cs, ∀ y ∈ ws, WireOk y := fun ws m y my => mdok y (hcp.mem_iff.1 (List.mem_flatten.2 ⟨ws, m, my⟩))
  have wok : ∀ y ∈ wires, WireOk y := fun y m => by
    rcases List.mem_append.1 (hperm.mem_iff.1 m) with m | m
    · exact mdok y m
    · exact (inok y m).1
  have wlen : wires.length ≤ 6 := by
    have := hperm.length_eq
    rw [List.length_append] at this
    omega
  -- drawn, boxes
  refine ⟨_, rfl, rfl, _, rfl, iteT ⟨(show 0 ≤ sizeLine by decide), fun bl hbl => ?_⟩⟩
  have hbl0 := g8.gr.dm bl hbl
  have hblx := hd.ne hbl0
  have hblG := g8.gr.gh.free hbl
  obtain ⟨wa, wv, hwe, hwa, hwP⟩ := hwt8
  have hwe := V.ref.inj hwe
  subst hwe
  refine ⟨_, rfl, L, _, rfl, fr_seq (.inl (.of hLs)) (fun i σ H' => ∃ (G' : Hp) (vs : List V) (bs : List LB), Go K x G H G' H' ∧ Same Gc G' ∧ H' bl = some (.lst vs) ∧ G' bl = none ∧ Paired (rLB K G') vs bs ∧ bs.length = i ∧ bs.map (·.makes) = cs.take i ∧ (∀ b ∈ bs, BoxDr wires b) ∧ ∃ r6 r14 r15 r16 r17 r18 r19 r20, σ = [some (.ref x), some (.int 27), some (.int 2), some (.ref sz), some (.int start), some (.int many), r6, some (.ref md), some (.ref it), some (.ref wt), some (.int (cnt : Nat)), some (.ref L), some (.bl true), some (.ref bl), r14, r15, r16, r17, r18, r19, r20])
    ⟨Gc, [], [], g8.new hbl, .refl _, upd_at, hblG, .nil, rfl, rfl, (fun b m => nomatch m), _, _, _, _, _, _, _, _, rfl⟩ (fun i σ H' ⟨_, _, _, h, h2, _⟩ => h2.trans h.gr.gh) (fun i v σ H1 hv ⟨G1, vs, bs, g1, s1, hb1, ho1, hbs, hbl', hbm, hbd, r6, r14, r15, r16, r17, r18, r19, r20, es⟩ => ?_) (fun σ H1 ⟨G1, vs, bs, g1, s1, hb1, ho1, hbs, hbl', hbm, hbd, r6, r14, r15, r16, r17, r18, r19, r20, es⟩ => ?_)⟩
  · subst es
    obtain ⟨ws, hws, hwsv⟩ := paired_at hcP hv
    have hwm := List.mem_of_getElem? hws
    have hw4 := hws4 ws hwm
    have hwok := hwsok ws hwm
    have hwne := hcne ws hwm
    obtain ⟨gp, gv, rfl, hgp, hgP⟩ := hwsv
    have gl := Paired.length hgP
    -- takes
    refine ⟨_, rfl, _, rfl, (by show 8 ≤ sizeLine; decide), fun pt hpt => ⟨_, rfl, G1, x, 8, rfl, (g1.new hpt).gr.gh, (g1.new hpt).hd, by decide, by decide, fun H2 u u0 u1 gr2 hd2 => ?_⟩⟩
    have g2 := (g1.new (o := .tup [.int 1, .int 2, .int 2, .int 3, .int 1, .int 0, .int 2, .int 3]) hpt).hand gr2 hd2
    have hp2 := gr2.hh pt _ (g1.hd.ne hpt) upd_at
    have hb2 := gr2.hh bl _ hblx (same_new hpt _ _ hb1)
    obtain ⟨m, mm0, mm3, hat⟩ : ∃ m : Int, 0 ≤ m ∧ m ≤ 3 ∧ atI [V.int 1, .int 2, .int 2, .int 3, .int 1, .int 0, .int 2, .int 3] u = some (.int m) := by
      rcases (show u = 0 ∨ u = 1 ∨ u = 2 ∨ u = 3 ∨ u = 4 ∨ u = 5 ∨ u = 6 ∨ u = 7 by omega) with rfl | rfl | rfl | rfl | rfl | rfl | rfl | rfl
      · exact ⟨1, by decide, by decide, rfl⟩
      · exact ⟨2, by decide, by decide, rfl⟩
      · exact ⟨2, by decide, by decide, rfl⟩
      · exact ⟨3, by decide, by decide, rfl⟩
      · exact ⟨1, by decide, by decide, rfl⟩
      · exact ⟨0, by decide, by decide, rfl⟩
      · exact ⟨2, by decide, by decide, rfl⟩
      · exact ⟨3, by decide, by decide, rfl⟩
    clear gr2
    refine ⟨_, _, _, _, rfl, rfl, .of hp2, hat, G1, x, wt, wv, wires, m, rfl, g2.gr.gh, g2.hd, s1.seq hwa, paired_up s1 hwP, by omega, mm0, by omega, fun G3 H3 tk takes rest htp htl gr3 hd3 htk => ?_⟩
    have g3 := g2.hand gr3 hd3
    have hb3 := gr3.hh bl _ hblx hb2
    have ho3 := gr3.open_ hb2 ho1
    have s3 := s1.trans gr3.gg
    have hbs := paired_up gr3.gg hbs
    clear gr3
    obtain ⟨tka, tkv, hte, hta, htP⟩ := htk
    have hte := V.ref.inj hte
    subst hte
    have tkl := Paired.length htP
    have tk3 : takes.length ≤ 3 := by omega
    have tkok : ∀ y ∈ takes, WireOk y := fun y m => wok y (htp.mem_iff.1 (List.mem_append_left _ m))
    have tksz : ∀ s ∈ sizes takes, 2 ≤ s ∧ s ≤ 4 := fun s m => by
      obtain ⟨y, hy, rfl⟩ := List.mem_map.1 m
      exact (tkok y hy).2
    have wssz : ∀ s ∈ sizes ws, 2 ≤ s ∧ s ≤ 4 := fun s m => by
      obtain ⟨y, hy, rfl⟩ := List.mem_map.1 m
      exact (hwok y hy).2
    have p4 : ∀ (ss : List Int), (∀ s ∈ ss, 2 ≤ s ∧ s ≤ 4) → ss.length ≤ 4 → prodI ss ≤ 256 := fun ss h1 h2 => by
      have h := prod_small h1
      have : (4 : Int) ^ ss.length ≤ 4 ^ 4 := by
        rcases (show ss.length = 0 ∨ ss.length = 1 ∨ ss.length = 2 ∨ ss.length = 3 ∨ ss.length = 4 by omega) with e | e | e | e | e <;> rw [e] <;> decide
      have e : (4 : Int) ^ 4 = 256 := by decide
      omega
    have okz : ∀ {ss : List Int}, (∀ s ∈ ss, 2 ≤ s ∧ s ≤ 4) → ∀ s ∈ ss, SizeOk s := fun h s m => ⟨by have := (h s m).1; omega, by have := (h s m).2; omega⟩
    -- ways
    refine ⟨_, rfl, gp, gv, rfl, .inl ⟨(s3.trans g3.gr.gh).seq hgp, ?_⟩⟩
    refine lcM (K := K) (S := rInt) walk_list (sizes ws) (by rw [gl, sizes_len]) (by rw [sizes_len]; omega) g3.gr.gh (fun H' e => (s3.trans e).seq hgp) (fun j x' Hb Hb' Gb z Q' hz grb ⟨e, hx'⟩ k => ?_) (fun G4 H4 wy wyv gr4 hwy hwyP hn4 => ?_) gName_mono
    · subst e
      obtain ⟨a, y, hy, rfl, hb⟩ := wire_at hgP hx' (s3.trans grb.to)
      refine ⟨rfl, _, rfl, _, _, _, _, rfl, rfl, hb, rfl, k _ _ _ (.refl grb.gh) ?_⟩
      rw [← sizes_at hy hz]
      rfl
    have hwyP := paired_ints hwyP
    subst hwyP
    have g4 := g3.step gr4
    have hb4 := gr4.hh bl _ (fun z => z) hb3
    have ho4 := gr4.open_ hb3 ho3
    have s4 := s3.trans gr4.gg
    have s34 := gr4.gg
    have hbs := paired_up gr4.gg hbs
    clear gr4 g3
    -- the sizes of what is taken
    refine ⟨_, rfl, tk, tkv, rfl, .inl ⟨(s34.trans g4.gr.gh).seq hta, ?_⟩⟩
    refine lcM (K := K) (S := rInt) walk_list (sizes takes) (by rw [tkl, sizes_len]) (by rw [sizes_len]; omega) g4.gr.gh (fun H' e => (s34.trans e).seq hta) (fun j x' Hb Hb' Gb z Q' hz grb ⟨e, hx'⟩ k => ?_) (fun G5 H5 ty tyv gr5 hty htyP hn5 => ?_) gName_mono
    · subst e
      obtain ⟨a, y, hy, rfl, hb⟩ := wire_at htP hx' (s34.trans grb.to)
      refine ⟨rfl, _, rfl, _, _, _, _, rfl, rfl, hb, rfl, k _ _ _ (.refl grb.gh) ?_⟩
      rw [← sizes_at hy hz]
      rfl
    have htyP := paired_ints htyP
    subst htyP
    have g5 := g4.step gr5
    have hb5 := gr5.hh bl _ (fun z => z) hb4
    have ho5 := gr5.open_ hb4 ho4
    have s5 := s4.trans gr5.gg
    have s45 := gr5.gg
    have s35 := s34.trans gr5.gg
    have hbs := paired_up gr5.gg hbs
    have hwy5 := gr5.gg.seq hwy
    clear gr5 g4
    have tp := p4 _ tksz (by rw [sizes_len]; omega)
    have tp0 := prod_pos (okz tksz)
    refine ⟨ty, sizes takes, rfl, .inl (g5.gr.gh.seq hty), okz tksz, _, rfl, by omega, by omega, ?_⟩
    refine lcH (K := K) (S := rLE K) (x := x) walk_range (fun i ys => ys.length = i ∧ ∀ e ∈ ys, EntOk (sizes ws) e) g5.gr.gh g5.hd (fun _ _ => trivial) ⟨rfl, fun e m => nomatch m⟩ (fun i ys hi r => by rw [r.1]; omega)
      (fun j v Hb Hb' Gb ys Q' hj gb r ⟨e, hv⟩ k => ?_) (fun G6 H6 en env ents g6 hen henP r hent => ?_) gName_mono
    · subst e hv
      refine ⟨rfl, _, rfl, _, rfl, _, rfl, Gb, x, wy, sizes ws, rfl, gb.gr.gh, gb.hd, gb.gr.gg.seq hwy5, by rw [sizes_len]; omega, (fun z => hwne (by have := congrArg List.length z; rw [sizes_len] at this; exact List.length_eq_zero_iff.1 this)), wssz, by have := p4 _ wssz (by rw [sizes_len]; omega); omega, fun Gd Hd' v e he grd hdd hvd => ?_⟩
      refine k v e _ _ ⟨grd, hdd⟩ hvd ⟨by rw [List.length_append, r.1]; rfl, fun e' m => ?_⟩
      rcases List.mem_append.1 m with m | m
      · exact r.2 e' m
      · rw [List.mem_singleton.1 m]
        exact he
    obtain ⟨enl, enok⟩ := r
    have hb6 := g6.gr.hh bl _ hblx hb5
    have ho6 := g6.gr.open_ hb5 ho5
    have s6 := s5.trans g6.gr.gg
    have s36 := s35.trans g6.gr.gg
    have hbs := paired_up g6.gr.gg hbs
    have g6 : Go K x G H G6 H6 := ⟨g5.gr.trans g6.gr, g6.hd⟩
    clear g5
    -- the box
    refine ⟨_, rfl, .inl ⟨rfl, _, .of hb6⟩, _, rfl, G6, x, 3, rfl, g6.gr.gh, g6.hd, by decide, by decide, fun H7 day day0 day1 gr7 hd7 => ⟨_, rfl, _, rfl, _, rfl, (by show 4 ≤ sizeLine; decide), fun bx hbx => ?_⟩⟩
    have hb7 := gr7.hh bl _ hblx hb6
    have g7 := g6.hand gr7 hd7
    clear gr7
    have g8' := g7.seal (o := .lst [.int day, .ref tk, .ref gp, .ref en]) hbx
    have s7 := same_new (g7.gr.gh.free hbx) (o := .lst [.int day, .ref tk, .ref gp, .ref en])
    have hb8 := same_new hbx (o := .lst [.int day, .ref tk, .ref gp, .ref en]) _ _ hb7
    have hbxb : bx ≠ bl := fun z => by rw [z, hb7] at hbx; cases hbx
    have ho8 : upd G6 bx (.lst [.int day, .ref tk, .ref gp, .ref en]) bl = none := by rw [upd_ne (Ne.symm hbxb)]; exact ho6
    have hi3 := (List.getElem?_eq_some_iff.1 hv).1
    have hvl := Paired.length hbs
    rw [List.length_map] at hi3
    refine ⟨bl, vs, _, rfl, rfl, hb8, small_lt (by omega), _, _, bs ++ [⟨day, takes, ws, ents⟩], g8'.write hbl0 ho8 hblx, s6.trans s7, upd_at, ho8, paired_snoc (paired_up s7 hbs) ⟨bx, _, _, _, rfl, .of upd_at, ⟨tk, tkv, rfl, (s36.trans s7).seq hta, paired_up (s36.trans s7) htP⟩, ⟨gp, gv, rfl, (s6.trans s7).seq hgp, paired_up (s6.trans s7) hgP⟩, ⟨en, env, rfl, s7.seq hen, paired_up s7 henP⟩⟩, by rw [List.length_append, hbl']; rfl, ?_, fun b m => ?_, _, _, _, _, _, _, _, _, rfl⟩
    · rw [List.map_append, hbm, take_snoc hws]
      rfl
    · rcases List.mem_append.1 m with m | m
      · exact hbd b m
      · rw [List.mem_singleton.1 m]
        exact ⟨day0, by show day ≤ 2; omega, hwne, ⟨rest, htp⟩, tk3, by show ((ents.length : Nat) : Int) = prodI (sizes takes); rw [enl]; exact Int.toNat_of_nonneg (Int.le_of_lt tp0), enok⟩
  subst es
  rw [List.length_map, ← hcl, List.take_length] at hbm
  -- the outs
  refine ⟨_, rfl, _, rfl, _, rfl, G1, x, 4, rfl, g1.gr.gh, g1.hd, by decide, by decide, fun H2 u u0 u1 gr2 hd2 => ?_⟩
  have g2 := g1.hand gr2 hd2
  have hb2 := gr2.hh bl _ hblx hb1
  clear gr2 g1
  refine ⟨G1, x, wt, wv, wires, u, rfl, g2.gr.gh, g2.hd, s1.seq hwa, paired_up s1 hwP, by omega, u0, by omega, fun G3 H3 ot os rest hop hol gr3 hd3 hot => ?_⟩
  have g3 := g2.hand gr3 hd3
  have hb3 := gr3.hh bl _ hblx hb2
  have ho3 := gr3.open_ hb2 ho1
  have s3 := s1.trans gr3.gg
  have hbs := paired_up gr3.gg hbs
  clear gr3 g2
  obtain ⟨ota, otv, hoe, hota, hoP⟩ := hot
  have hoe := V.ref.inj hoe
  subst hoe
  have otl := Paired.length hoP
  refine ⟨ot, otv, rfl, .inl ⟨g3.gr.gh.seq hota, ?_⟩⟩
  refine lcM (K := K) (S := rStr) walk_list (names os) (by rw [otl, names_len]) (by rw [names_len]; omega) g3.gr.gh (fun H' e => e.seq hota) (fun j x' Hb Hb' Gb z Q' hz grb ⟨e, hx'⟩ k => ?_) (fun G4 H4 on onv gr4 hon honP hn4 => ?_) gName_mono
  · subst e
    obtain ⟨a, y, hy, rfl, hb⟩ := wire_at hoP hx' grb.to
    refine ⟨rfl, _, rfl, _, _, _, _, rfl, rfl, hb, rfl, k _ _ _ (.refl grb.gh) ?_⟩
    rw [← names_at hy hz]
    rfl
  have hb4 := gr4.hh bl _ (fun z => z) hb3
  have ho4 := gr4.open_ hb3 ho3
  have s4 := s3.trans gr4.gg
  have hbs := paired_up gr4.gg hbs
  have g4 := g3.step gr4
  clear gr4 g3
  have g5 : Go K x G H (upd G4 bl (.lst vs)) H4 := ⟨g4.gr.shut hbl0 ho4 hb4, g4.hd.upd2 hblx ho4⟩
  have s5 := same_new ho4 (o := .lst vs)
  refine ⟨_, rfl, _, rfl, _, rfl, (by show 3 ≤ sizeLine; decide), fun ch hch => ?_⟩
  have g6 := g5.seal (o := .lst [.ref wt, .ref bl, .ref on]) hch
  have s6 := same_new (g5.gr.gh.free hch) (o := .lst [.ref wt, .ref bl, .ref on])
  have sw := s4.trans (s5.trans s6)
  refine q _ _ _ ⟨wires, bs, names os⟩ made inw start ⟨s0, s1', by omega, by omega, by rw [mds]; exact ssp, mdok, mdf, many2, inok, inf, hperm, ?_, ?_, hbd, ?_, ⟨os, rest, hop, rfl, by omega⟩⟩ g6 ⟨ch, _, _, _, rfl, .of upd_at, ⟨wt, wv, rfl, sw.seq hwa, paired_up sw hwP⟩, ⟨bl, vs, rfl, .of (s6 _ _ upd_at), paired_up (s5.trans s6) hbs⟩, ⟨on, onv, rfl, (s5.trans s6).seq hon, paired_up (s5.trans s6) honP⟩⟩
  · show 1 ≤ bs.length
    rw [hbl', List.length_map, hgl]
    exact c1
  · show bs.length ≤ 3
    rw [hbl', List.length_map, hgl]
    exact c3
  · show (bs.flatMap (·.makes)).Perm made
    rw [List.flatMap_def, hbm]
    exact hcp
end
end K6

set_option Elab.async false
set_option linter.all false
set_option maxRecDepth 100000
set_option maxHeartbeats 4000000
namespace K6
open PySem PySem.Spec PyProof.Rows L2
/-! ### products -/
theorem prod_perm {xs ys : List Int} (h : xs.Perm ys) : prodI xs = prodI ys := by
  induction h with
  | nil => rfl
  | cons x _ ih => rw [prod_cons, prod_cons, ih]
  | swap x y l => rw [prod_cons, prod_cons, prod_cons, prod_cons, ← Int.mul_assoc, ← Int.mul_assoc, Int.mul_comm x y]
  | trans _ _ ih1 ih2 => rw [ih1, ih2]
theorem prod_app : ∀ (xs ys : List Int), prodI (xs ++ ys) = prodI xs * prodI ys
  | [], ys => by
    show prodI ys = 1 * prodI ys
    omega
  | x :: xs, ys => by rw [List.cons_append, prod_cons, prod_cons, prod_app xs ys, Int.mul_assoc]
theorem prod_filter {ws : List Wire} (p : Wire → Bool) (h : ∀ x ∈ ws, 1 ≤ x.2) : 0 < prodI (sizes (ws.filter p)) ∧ prodI (sizes (ws.filter p)) ≤ prodI (sizes ws) := by
  induction ws with
  | nil => exact ⟨(by show (0 : Int) < 1; decide), Int.le_refl _⟩
  | cons x ws ih =>
    have ih := ih fun y m => h y (.tail _ m)
    have h1 := h x (.head _)
    have e : prodI (sizes (x :: ws)) = x.2 * prodI (sizes ws) := prod_cons x.2 (sizes ws)
    have g : 1 * prodI (sizes ws) ≤ x.2 * prodI (sizes ws) := Int.mul_le_mul_of_nonneg_right h1 (by omega)
    by_cases hp : p x = true
    · rw [List.filter_cons_of_pos hp]
      have e2 : prodI (sizes (x :: ws.filter p)) = x.2 * prodI (sizes (ws.filter p)) := prod_cons x.2 (sizes (ws.filter p))
      rw [e, e2]
      exact ⟨Int.mul_pos (by omega) ih.1, Int.mul_le_mul_of_nonneg_left ih.2 (by omega)⟩
    · rw [List.filter_cons_of_neg hp, e]
      exact ⟨ih.1, by omega⟩
/-! ### names -/
theorem small_nodup : smallZ.cps.toList.Nodup := by decide +kernel
theorem fst_inj {z : Str} {m n : Int} (h1 : Fst z m) (h2 : Fst z n) : m % 26 = n % 26 := by
  unfold Fst at h1 h2
  have hl := small_len
  have m0 := Int.emod_nonneg m (show (26 : Int) ≠ 0 by decide)
  have m1 := Int.emod_lt_of_pos m (show (0 : Int) < 26 by decide)
  have n0 := Int.emod_nonneg n (show (26 : Int) ≠ 0 by decide)
  have n1 := Int.emod_lt_of_pos n (show (0 : Int) < 26 by decide)
  rw [h1] at h2
  rw [List.getElem?_eq_getElem (by omega), List.getElem?_eq_getElem (by omega)] at h2
  have := (List.getElem_inj small_nodup).1 (Option.some.inj h2)
  omega
section
variable {c : LC} {made inw : List Wire} {start : Int}
theorem Drawn.nd (h : Drawn c made inw start) : (names (made ++ inw)).Nodup := by
  have off : ∀ i x, (made ++ inw)[i]? = some x → Fst x.1 (start + ((if i < made.length then i else 4 + (i - made.length) : Nat) : Int)) := fun i x hx => by
    by_cases hi : i < made.length
    · rw [if_pos hi]
      rw [List.getElem?_append_left hi] at hx
      exact h.madeF i x hx
    · rw [if_neg hi]
      rw [List.getElem?_append_right (by omega)] at hx
      have := h.inF _ x hx
      rw [Int.natCast_add, ← Int.add_assoc]
      exact this
  unfold List.Nodup
  rw [List.pairwise_iff_getElem]
  intro i j hi hj hij e
  unfold names at hi hj e
  rw [List.length_map] at hi hj
  rw [List.getElem_map, List.getElem_map] at e
  have f1 := off i _ (List.getElem?_eq_getElem hi)
  have f2 := off j _ (List.getElem?_eq_getElem hj)
  rw [e] at f1
  have := fst_inj f1 f2
  have hm := h.made4
  have hi2 := h.in2
  rw [List.length_append] at hi hj
  by_cases a : i < made.length
  · by_cases b : j < made.length
    · rw [if_pos a, if_pos b] at this
      omega
    · rw [if_pos a, if_neg b] at this
      omega
  · by_cases b : j < made.length
    · omega
    · rw [if_neg a, if_neg b] at this
      omega
theorem names_perm {xs ys : List Wire} (h : xs.Perm ys) : (names xs).Perm (names ys) := h.map _
theorem Drawn.nodup (h : Drawn c made inw start) : (names c.wires).Nodup := (names_perm h.wires).nodup_iff.2 h.nd
theorem Drawn.ok (h : Drawn c made inw start) : ∀ x ∈ c.wires, WireOk x := fun x m => by
  rcases List.mem_append.1 (h.wires.mem_iff.1 m) with m | m
  · exact h.madeOk x m
  · exact (h.inOk x m).1
/-- two wires of one name are one -/
theorem name_one : ∀ {ws : List Wire}, (names ws).Nodup → ∀ {x y : Wire}, x ∈ ws → y ∈ ws → x.1 = y.1 → x = y
  | w :: ws, nd, x, y, hx, hy, e => by
    have nd' := List.nodup_cons.1 (show (w.1 :: names ws).Nodup from nd)
    have key : ∀ z ∈ ws, z.1 ≠ w.1 := fun z m e => nd'.1 (by rw [← e]; exact List.mem_map_of_mem m)
    cases hx with
    | head =>
      cases hy with
      | head => rfl
      | tail _ hy => exact absurd e.symm (key _ hy)
    | tail _ hx =>
      cases hy with
      | head => exact absurd e (key _ hx)
      | tail _ hy => exact name_one nd'.2 hx hy e
theorem nodup_of_names {ws : List Wire} (h : (names ws).Nodup) : ws.Nodup := by
  unfold names List.Nodup at h
  rw [List.pairwise_map] at h
  exact h.imp fun h e => h (by rw [e])
theorem Drawn.madeIn (h : Drawn c made inw start) {x : Wire} (m : x ∈ made) : x ∈ c.wires := h.wires.mem_iff.2 (List.mem_append_left _ m)
theorem Drawn.makesIn (h : Drawn c made inw start) {b : LB} (hb : b ∈ c.boxes) {x : Wire} (hx : x ∈ b.makes) : x ∈ made := h.makes.mem_iff.1 (List.mem_flatMap.2 ⟨b, hb, hx⟩)
theorem Drawn.takesIn (h : Drawn c made inw start) {b : LB} (hb : b ∈ c.boxes) {x : Wire} (hx : x ∈ b.takes) : x ∈ c.wires := by
  obtain ⟨rest, hp⟩ := (h.boxes b hb).takes
  exact hp.mem_iff.1 (List.mem_append_left _ hx)
theorem names_app (xs ys : List Wire) : names (xs ++ ys) = names xs ++ names ys := List.map_append
theorem Drawn.takesNd (h : Drawn c made inw start) {b : LB} (hb : b ∈ c.boxes) : (names b.takes).Nodup := by
  obtain ⟨rest, hp⟩ := (h.boxes b hb).takes
  have := (names_perm hp).nodup_iff.2 h.nodup
  rw [names_app] at this
  exact (List.nodup_append.1 this).1
theorem Drawn.madeNd (h : Drawn c made inw start) : (names made).Nodup := by
  have := h.nd
  rw [names_app] at this
  exact (List.nodup_append.1 this).1
theorem Drawn.flatNd (h : Drawn c made inw start) : (names (c.boxes.flatMap (·.makes))).Nodup := (names_perm h.makes).nodup_iff.2 h.madeNd
theorem flat_names : ∀ bs : List LB, names (bs.flatMap (·.makes)) = bs.flatMap fun b => names b.makes
  | [] => rfl
  | b :: bs => by rw [List.flatMap_cons, List.flatMap_cons, names_app, flat_names bs]
theorem part_nd : ∀ {bs : List LB} {b : LB}, (bs.flatMap fun b => names b.makes).Nodup → b ∈ bs → (names b.makes).Nodup
  | _ :: bs, _, h, .head _ => by
    rw [List.flatMap_cons] at h
    exact (List.nodup_append.1 h).1
  | _ :: bs, _, h, .tail _ m => by
    rw [List.flatMap_cons] at h
    exact part_nd (List.nodup_append.1 h).2.1 m
theorem Drawn.isMade (h : Drawn c made inw start) (z : Str) : (getS (mdict c.boxes) z).isSome = decide (z ∈ names made) := by
  have := getS_mdict z c.boxes []
  rw [show (getS [] z).isSome = false from rfl, Bool.false_or] at this
  rw [show mdict c.boxes = c.boxes.foldl (fun d b => mday d b b.makes) [] from rfl, this, ← flat_names]
  exact decide_eq_decide.2 (names_perm h.makes).mem_iff
theorem lets_made {bs : List LB} {z : Str} (h : z ∈ lets bs) : (getS (mdict bs) z).isSome := by
  obtain ⟨p, hp, rfl⟩ := List.mem_map.1 h
  have := (List.mem_filter.1 hp).2
  unfold late at this
  cases e : getS (mdict bs) p.2 with
  | none => rw [e] at this; cases this
  | some _ => rfl
theorem Drawn.notMade (h : Drawn c made inw start) {x : Wire} (m : x ∈ inw) : x.1 ∉ names made := fun z => by
  have := h.nd
  rw [names_app] at this
  exact (List.nodup_append.1 this).2.2 x.1 z x.1 (List.mem_map_of_mem m) rfl
/-! ### a drawn chart is a chart -/
theorem prod4 {ws : List Wire} (h : ∀ x ∈ ws, WireOk x) (hl : ws.length ≤ 3) : prodI (sizes ws) ≤ 64 := by
  have h1 := prod_small (ss := sizes ws) fun s m => by
    obtain ⟨x, hx, rfl⟩ := List.mem_map.1 m
    exact (h x hx).2
  rw [sizes_len] at h1
  have : (4 : Int) ^ ws.length ≤ 4 ^ 3 := by
    rcases (show ws.length = 0 ∨ ws.length = 1 ∨ ws.length = 2 ∨ ws.length = 3 by omega) with e | e | e | e <;> rw [e] <;> decide
  have e : (4 : Int) ^ 3 = 64 := by decide
  omega
theorem sizes_perm {xs ys : List Wire} (h : xs.Perm ys) : (sizes xs).Perm (sizes ys) := h.map _
theorem sizes_app (xs ys : List Wire) : sizes (xs ++ ys) = sizes xs ++ sizes ys := List.map_append
theorem flat_len {b : LB} : ∀ {bs : List LB}, b ∈ bs → b.makes.length ≤ (bs.flatMap (·.makes)).length
  | _ :: _, .head _ => by
    rw [List.flatMap_cons, List.length_append]
    omega
  | _ :: _, .tail _ m => by
    have := flat_len m
    rw [List.flatMap_cons, List.length_append]
    omega
theorem drawn_ok {c : LC} {made inw : List Wire} {start : Int} (h : Drawn c made inw start) : ChartOk c := by
  have wok := h.ok
  have wnd := h.nodup
  have wl := h.wires.length_eq
  rw [List.length_append] at wl
  have m1 := h.made1
  have m4 := h.made4
  have i2 := h.in2
  have pos : ∀ x ∈ c.wires, 1 ≤ x.2 := fun x m => by have := (wok x m).2.1; omega
  have boxok : ∀ b ∈ c.boxes, BoxOk b := fun b hb => by
    have d := h.boxes b hb
    have fnd := h.flatNd
    rw [flat_names] at fnd
    have fl := flat_len hb
    rw [h.makes.length_eq] at fl
    exact {
      day0 := d.day0
      day9 := by have := d.day2; omega
      takes := ⟨fun x m => wok x (h.takesIn hb m), h.takesNd hb⟩
      takes6 := by have := d.takes3; omega
      many := by have := prod4 (ws := b.takes) (fun x m => wok x (h.takesIn hb m)) d.takes3; omega
      makes := ⟨fun x m => h.madeOk x (h.makesIn hb m), part_nd fnd hb⟩
      makes1 := List.length_pos_iff.2 d.makes
      makes6 := by omega
      fit := fun x hx y hy e => by rw [name_one wnd (h.madeIn (h.makesIn hb hx)) (h.takesIn hb hy) e]
      ents := d.ents
      entOk := d.entOk }
  have split : ∀ p : Wire → Bool, prodI (sizes (c.wires.filter p)) = prodI (sizes (made.filter p)) * prodI (sizes (inw.filter p)) := fun p => by
    rw [prod_perm (sizes_perm (h.wires.filter p)), List.filter_append, sizes_app, prod_app]
  have posm : ∀ x ∈ made, 1 ≤ x.2 := fun x m => by have := (h.madeOk x m).2.1; omega
  obtain ⟨os, rest, hop, hos, hol⟩ := h.outs
  have ond := (names_perm hop).nodup_iff.2 wnd
  rw [names_app] at ond
  have oin : ∀ x ∈ os, x ∈ c.wires := fun x m => hop.mem_iff.1 (List.mem_append_left _ m)
  exact {
    wires := ⟨wok, wnd⟩
    wires1 := by omega
    wires6 := by omega
    boxes1 := h.boxes1
    boxes3 := h.boxes3
    boxes := boxok
    sub := fun b hb x hx => by
      rcases List.mem_append.1 hx with m | m
      · exact h.takesIn hb m
      · exact h.madeIn (h.makesIn hb m)
    once := nodup_of_names h.flatNd
    outs6 := by rw [hos, names_len]; omega
    outsOk := fun z m => by
      rw [hos] at m
      obtain ⟨x, hx, rfl⟩ := List.mem_map.1 m
      exact (wok x (oin x hx)).1
    outsIn := fun z m => by
      rw [hos] at m
      obtain ⟨x, hx, rfl⟩ := List.mem_map.1 m
      exact List.mem_map_of_mem (oin x hx)
    outsNd := by rw [hos]; exact (List.nodup_append.1 ond).1
    post := by
      have e : inw.filter (fun x => decide (x.1 ∈ lets c.boxes)) = [] := List.filter_eq_nil_iff.2 fun x m z => by
        have := lets_made (of_decide_eq_true z)
        rw [h.isMade] at this
        exact h.notMade m (of_decide_eq_true this)
      show prodI (sizes (c.wires.filter fun x => decide (x.1 ∈ lets c.boxes))) ≤ 64
      rw [split, e, show prodI (sizes []) = 1 from rfl, Int.mul_one]
      have := (prod_filter (fun x => decide (x.1 ∈ lets c.boxes)) posm).2
      have := h.madeP
      omega
    ins := by
      have e : made.filter (fun x => !(getS (mdict c.boxes) x.1).isSome) = [] := List.filter_eq_nil_iff.2 fun x m z => by
        rw [h.isMade, decide_eq_true (show x.1 ∈ names made from List.mem_map_of_mem m)] at z
        cases z
      show prodI (sizes (c.wires.filter fun x => !(getS (mdict c.boxes) x.1).isSome)) ≤ 64
      rw [split, e, show prodI (sizes []) = 1 from rfl, Int.one_mul]
      have h1 := (prod_filter (fun x => !(getS (mdict c.boxes) x.1).isSome) (ws := inw) fun x m => by have := (h.inOk x m).1.2.1; omega).2
      have := prod4 (ws := inw) (fun x m => (h.inOk x m).1) (by omega)
      omega
    shown := by
      have e1 : os.filter (fun x => decide (x.1 ∈ c.outs)) = os := List.filter_eq_self.2 fun x m => decide_eq_true (by rw [hos]; exact List.mem_map_of_mem m)
      have e2 : rest.filter (fun x => decide (x.1 ∈ c.outs)) = [] := List.filter_eq_nil_iff.2 fun x m z => by
        have z := of_decide_eq_true z
        rw [hos] at z
        exact (List.nodup_append.1 ond).2.2 x.1 z x.1 (List.mem_map_of_mem m) rfl
      have hf := hop.filter (fun x => decide (x.1 ∈ c.outs))
      rw [List.filter_append, e1, e2, List.append_nil] at hf
      rw [← prod_perm (sizes_perm hf)]
      exact prod4 (fun x m => wok x (oin x m)) hol }
theorem worked_rows {c : LC} {ns ms : List Int} {r : Row3} (h : r ∈ workedM c ns ms) : r.1.length = c.wires.length ∧ r.2.1.length = (letters c).length := by
  have h := (List.mergeSort_perm _ _).mem_iff.1 h
  obtain ⟨st, _, rfl⟩ := List.mem_map.1 h
  exact ⟨List.length_map .., List.length_map ..⟩
end
end K6

set_option Elab.async false
set_option linter.all false
set_option maxRecDepth 100000
set_option maxHeartbeats 4000000
namespace K6
open PySem PySem.Spec PyProof.Rows L2
/-! ### the boxes by their days -/
theorem byDay_mem {bs : List LB} (h : ∀ b ∈ bs, 0 ≤ b.day ∧ b.day ≤ 9) {b : LB} : b ∈ byDay bs ↔ b ∈ bs := by
  unfold byDay
  rw [List.mem_flatMap]
  constructor
  · intro ⟨_, _, m⟩
    exact (List.mem_filter.1 m).1
  · intro m
    have := h b m
    exact ⟨b.day.toNat, List.mem_range.2 (by omega), List.mem_filter.2 ⟨m, decide_eq_true (by omega)⟩⟩
theorem byDay_sorted (bs : List LB) : (byDay bs).Pairwise fun a b => a.day ≤ b.day := by
  unfold byDay
  rw [List.pairwise_flatMap]
  refine ⟨fun d _ => ?_, ?_⟩
  · refine List.pairwise_iff_getElem.2 fun i j hi hj _ => ?_
    have h1 := of_decide_eq_true (List.mem_filter.1 (List.getElem_mem hi)).2
    have h2 := of_decide_eq_true (List.mem_filter.1 (List.getElem_mem hj)).2
    omega
  · refine (List.pairwise_lt_range (n := 10)).imp fun {a b} hab x hx y hy => ?_
    have h1 := of_decide_eq_true (List.mem_filter.1 hx).2
    have h2 := of_decide_eq_true (List.mem_filter.1 hy).2
    omega
theorem byDay_before {bs : List LB} {i : Nat} {b b' : LB} (hb : (byDay bs)[i]? = some b) (m : b' ∈ byDay bs) (h : b'.day < b.day) : b' ∈ (byDay bs).take i := by
  obtain ⟨j, hj⟩ := List.getElem?_of_mem m
  obtain ⟨hjl, ej⟩ := List.getElem?_eq_some_iff.1 hj
  obtain ⟨hil, ei⟩ := List.getElem?_eq_some_iff.1 hb
  rcases Nat.lt_or_ge j i with k | k
  · exact List.mem_of_getElem? (i := j) (by rw [List.getElem?_take_of_lt k]; exact hj)
  · exfalso
    rcases Nat.lt_or_eq_of_le k with k | k
    · have := List.pairwise_iff_getElem.1 (byDay_sorted bs) i j hil hjl k
      rw [ei, ej] at this
      omega
    · subst k
      rw [hb] at hj
      have := Option.some.inj hj
      subst this
      omega
theorem byDay_len : ∀ bs : List LB, (byDay bs).length ≤ bs.length
  | [] => by decide
  | b :: bs => by
    have ih := byDay_len bs
    have key : ∀ n, ((List.range n).flatMap fun (d : Nat) => (b :: bs).filter fun b => decide (b.day = (d : Int))).length ≤ ((List.range n).flatMap fun (d : Nat) => bs.filter fun b => decide (b.day = (d : Int))).length + (if 0 ≤ b.day ∧ b.day < (n : Int) then 1 else 0) := by
      intro n
      induction n with
      | zero => simp
      | succ n ih =>
        rw [List.range_succ, List.flatMap_append, List.flatMap_append, List.length_append, List.length_append]
        simp only [List.flatMap_cons, List.flatMap_nil, List.append_nil]
        by_cases h : b.day = (n : Int)
        · rw [List.filter_cons_of_pos (p := fun b : LB => decide (b.day = (n : Int))) (decide_eq_true h), List.length_cons]
          rw [if_neg (by omega)] at ih
          rw [if_pos (by omega)]
          omega
        · rw [List.filter_cons_of_neg (p := fun b : LB => decide (b.day = (n : Int))) (by rw [decide_eq_false h]; decide)]
          by_cases h2 : 0 ≤ b.day ∧ b.day < (n : Int)
          · rw [if_pos h2] at ih
            rw [if_pos (by omega)]
            omega
          · rw [if_neg h2] at ih
            rw [if_neg (by omega)]
            omega
    have := key 10
    unfold byDay at ih ⊢
    rw [List.length_cons]
    split at this <;> omega
/-! ### what a row puts -/
theorem putsR_get {ls : List Str} {z : Str} : ∀ (xs : List (Wire × Int)) (p : Dct × Dct),
    (getS (putsR ls p xs).1 z = getS p.1 z ∨ ∃ x m, (x, m) ∈ xs ∧ x.1 = z ∧ getS (putsR ls p xs).1 z = some m) ∧
    (z ∉ ls → (∃ x m, (x, m) ∈ xs ∧ x.1 = z) → ∃ x m, (x, m) ∈ xs ∧ x.1 = z ∧ getS (putsR ls p xs).1 z = some m) ∧
    ((getS p.2 z).isSome → (getS (putsR ls p xs).2 z).isSome) ∧
    (z ∈ ls → (∃ x m, (x, m) ∈ xs ∧ x.1 = z) → (getS (putsR ls p xs).2 z).isSome)
  | [], p => by
    refine ⟨.inl rfl, ?_, fun h => h, ?_⟩
    · intro _ ⟨_, _, m, _⟩
      cases m
    · intro _ ⟨_, _, m, _⟩
      cases m
  | (w, n) :: xs, p => by
    have e : putsR ls p ((w, n) :: xs) = putsR ls (putR ls p (w, n)) xs := rfl
    rw [e]
    obtain ⟨h1, h2, h3, h4⟩ := putsR_get (ls := ls) (z := z) xs (putR ls p (w, n))
    have g1 : getS (putR ls p (w, n)).1 z = if w.1 ∈ ls then getS p.1 z else if z = w.1 then some n else getS p.1 z := by
      unfold putR
      by_cases hw : w.1 ∈ ls
      · rw [if_pos hw, if_pos hw]
      · rw [if_neg hw, if_neg hw, getS_put]
    have g2 : getS (putR ls p (w, n)).2 z = if w.1 ∈ ls then (if z = w.1 then some n else getS p.2 z) else getS p.2 z := by
      unfold putR
      by_cases hw : w.1 ∈ ls
      · rw [if_pos hw, if_pos hw, getS_put]
      · rw [if_neg hw, if_neg hw]
    have up : (∃ x m, (x, m) ∈ xs ∧ x.1 = z ∧ getS (putsR ls (putR ls p (w, n)) xs).1 z = some m) → ∃ x m, (x, m) ∈ (w, n) :: xs ∧ x.1 = z ∧ getS (putsR ls (putR ls p (w, n)) xs).1 z = some m := fun ⟨x, m, a, b⟩ => ⟨x, m, .tail _ a, b⟩
    refine ⟨?_, fun hz ⟨x, m, a, b⟩ => ?_, fun h => h3 ?_, fun hz ⟨x, m, a, b⟩ => ?_⟩
    · rcases h1 with h1 | h1
      · rw [h1, g1]
        by_cases hw : w.1 ∈ ls
        · rw [if_pos hw]
          exact .inl rfl
        · rw [if_neg hw]
          by_cases ez : z = w.1
          · rw [if_pos ez]
            exact .inr ⟨w, n, .head _, ez.symm, rfl⟩
          · rw [if_neg ez]
            exact .inl rfl
      · exact .inr (up h1)
    · cases a with
      | tail _ a => exact up (h2 hz ⟨x, m, a, b⟩)
      | head =>
        rcases h1 with h1 | h1
        · refine ⟨w, n, .head _, b, ?_⟩
          rw [h1, g1, if_neg (by rw [b]; exact hz), if_pos b.symm]
        · exact up h1
    · rw [g2]
      by_cases hw : w.1 ∈ ls
      · rw [if_pos hw]
        by_cases ez : z = w.1
        · rw [if_pos ez]
          rfl
        · rw [if_neg ez]
          exact h
      · rw [if_neg hw]
        exact h
    · cases a with
      | tail _ a => exact h4 hz ⟨x, m, a, b⟩
      | head =>
        refine h3 ?_
        rw [g2, if_pos (by rw [b]; exact hz), if_pos b.symm]
        rfl
/-! ### the states behind the first boxes -/
structure StInv (c : LC) (l : List LB) (st : Sta) : Prop where
  known : ∀ x ∈ c.wires, (x ∈ insOf c ∨ x ∈ letters c ∨ ∃ b ∈ l, x ∈ b.makes) → ∃ v, getS st.1 x.1 = some v ∧ 0 ≤ v ∧ v < x.2
  sent : ∀ x ∈ letters c, (∃ b ∈ l, x ∈ b.makes) → (getS st.2.1 x.1).isSome
  len1 : st.1.length ≤ 12 + 6 * l.length
  len2 : st.2.1.length ≤ 6 * l.length
theorem letters_sub {c : LC} {x : Wire} (h : x ∈ letters c) : x ∈ c.wires ∧ x.1 ∈ lets c.boxes := ⟨(List.mem_filter.1 h).1, of_decide_eq_true (List.mem_filter.1 h).2⟩
theorem ins_sub {c : LC} {x : Wire} (h : x ∈ insOf c) : x ∈ c.wires ∧ (getS (mdict c.boxes) x.1).isSome = false := by
  refine ⟨(List.mem_filter.1 h).1, ?_⟩
  have := (List.mem_filter.1 h).2
  cases e : (getS (mdict c.boxes) x.1).isSome with
  | false => rfl
  | true => rw [e] at this; cases this
theorem fil_zip : ∀ {ws : List Wire} {ns : List Int} {x : Wire} {m : Int}, Fil (sizes ws) ns → (x, m) ∈ ws.zip ns → x ∈ ws ∧ 0 ≤ m ∧ m < x.2
  | [], _, _, _, _, h => by cases h
  | w :: ws, [], _, _, _, h => by cases h
  | w :: ws, n :: ns, x, m, hf, h => by
    cases hf with
    | cons h1 t =>
      rw [List.zip_cons_cons] at h
      cases h with
      | head => exact ⟨.head _, h1⟩
      | tail _ h =>
        obtain ⟨a, b⟩ := fil_zip t h
        exact ⟨.tail _ a, b⟩
theorem zip_has : ∀ {ws : List Wire} {ns : List Int} {x : Wire}, ns.length = ws.length → x ∈ ws → ∃ m, (x, m) ∈ ws.zip ns
  | w :: ws, n :: ns, x, hl, h => by
    cases h with
    | head => exact ⟨n, .head _⟩
    | tail _ h =>
      obtain ⟨m, hm⟩ := zip_has (ns := ns) (Nat.succ.inj hl) h
      exact ⟨m, .tail _ hm⟩
  | w :: ws, [], x, hl, h => by cases hl
section
variable {c : LC} {made inw : List Wire} {start : Int}
theorem st_step (h : Drawn c made inw start) {l : List LB} {b : LB} (hb : b ∈ c.boxes) {st : Sta} (inv : StInv c l st) {r : List Int × Int} (hr : Fil (sizes b.makes) r.1) : StInv c (l ++ [b]) (stepR (names (letters c)) b st r) := by
  have hw : ∀ x ∈ b.makes, x ∈ c.wires := fun x m => h.madeIn (h.makesIn hb m)
  have m6 := ((drawn_ok h).boxes b hb).makes6
  have hl : r.1.length = b.makes.length := (Paired.length hr).trans sizes_len
  have pl := putsR_len (names (letters c)) (b.makes.zip r.1) (st.1, st.2.1)
  have zl : (b.makes.zip r.1).length ≤ 6 := by rw [List.length_zip]; omega
  refine ⟨fun x hx hk => ?_, fun x hx hk => ?_, ?_, ?_⟩
  · obtain ⟨h1, h2, _, _⟩ := putsR_get (ls := names (letters c)) (z := x.1) (b.makes.zip r.1) (st.1, st.2.1)
    have fin : (∃ y m, (y, m) ∈ b.makes.zip r.1 ∧ y.1 = x.1 ∧ getS (putsR (names (letters c)) (st.1, st.2.1) (b.makes.zip r.1)).1 x.1 = some m) → ∃ v, getS (stepR (names (letters c)) b st r).1 x.1 = some v ∧ 0 ≤ v ∧ v < x.2 := fun ⟨y, m, a, e, g⟩ => by
      obtain ⟨hy, m0, m1⟩ := fil_zip hr a
      have : y = x := name_one h.nodup (hw y hy) hx e
      subst this
      exact ⟨m, g, m0, m1⟩
    have old : (x ∈ insOf c ∨ x ∈ letters c ∨ ∃ b ∈ l, x ∈ b.makes) → ∃ v, getS (stepR (names (letters c)) b st r).1 x.1 = some v ∧ 0 ≤ v ∧ v < x.2 := fun hk => by
      rcases h1 with h1 | h1
      · obtain ⟨v, e, b0⟩ := inv.known x hx hk
        exact ⟨v, h1.trans e, b0⟩
      · exact fin h1
    rcases hk with hk | hk | ⟨b', hb', hk⟩
    · exact old (.inl hk)
    · exact old (.inr (.inl hk))
    · rcases List.mem_append.1 hb' with m | m
      · exact old (.inr (.inr ⟨b', m, hk⟩))
      · have e := List.mem_singleton.1 m
        subst e
        by_cases hle : x ∈ letters c
        · exact old (.inr (.inl hle))
        · obtain ⟨m, hm⟩ := zip_has hl hk
          refine fin (h2 (fun z => ?_) ⟨x, m, hm, rfl⟩)
          obtain ⟨y, hy, e⟩ := List.mem_map.1 z
          have := name_one h.nodup (letters_sub hy).1 hx e
          subst this
          exact hle hy
  · obtain ⟨_, _, h3, h4⟩ := putsR_get (ls := names (letters c)) (z := x.1) (b.makes.zip r.1) (st.1, st.2.1)
    obtain ⟨b', hb', hk⟩ := hk
    rcases List.mem_append.1 hb' with m | m
    · exact h3 (inv.sent x hx ⟨b', m, hk⟩)
    · have e := List.mem_singleton.1 m
      subst e
      obtain ⟨m, hm⟩ := zip_has hl hk
      exact h4 (List.mem_map_of_mem hx) ⟨x, m, hm, rfl⟩
  · have := inv.len1
    rw [List.length_append]
    show (putsR (names (letters c)) (st.1, st.2.1) (b.makes.zip r.1)).1.length ≤ 12 + 6 * (l.length + 1)
    have := pl.1
    simp only at this
    omega
  · have := inv.len2
    rw [List.length_append]
    show (putsR (names (letters c)) (st.1, st.2.1) (b.makes.zip r.1)).2.length ≤ 6 * (l.length + 1)
    have := pl.2
    simp only at this
    omega
theorem putsD_get {z : Str} : ∀ (xs : List (Str × Int)) (d : Dct),
    (getS (xs.foldl (fun d x => putS d x.1 x.2) d) z = getS d z ∨ ∃ m, (z, m) ∈ xs ∧ getS (xs.foldl (fun d x => putS d x.1 x.2) d) z = some m) ∧
    ((∃ m, (z, m) ∈ xs) → ∃ m, (z, m) ∈ xs ∧ getS (xs.foldl (fun d x => putS d x.1 x.2) d) z = some m)
  | [], d => by
    refine ⟨.inl rfl, ?_⟩
    intro ⟨_, m⟩
    cases m
  | (w, n) :: xs, d => by
    obtain ⟨h1, h2⟩ := putsD_get (z := z) xs (putS d w n)
    rw [List.foldl_cons]
    refine ⟨?_, fun ⟨m, a⟩ => ?_⟩
    · rcases h1 with h1 | ⟨m, a, b⟩
      · rw [h1, getS_put]
        by_cases e : z = w
        · rw [if_pos e, e]
          exact .inr ⟨n, .head _, rfl⟩
        · rw [if_neg e]
          exact .inl rfl
      · exact .inr ⟨m, .tail _ a, b⟩
    · cases a with
      | tail _ a =>
        obtain ⟨m, a, b⟩ := h2 ⟨m, a⟩
        exact ⟨m, .tail _ a, b⟩
      | head =>
        rcases h1 with h1 | ⟨m, a, b⟩
        · exact ⟨n, .head _, by rw [h1, getS_put, if_pos rfl]⟩
        · exact ⟨m, .tail _ a, b⟩
theorem fil_zipN : ∀ {ws : List Wire} {ns : List Int} {z : Str} {m : Int}, Fil (sizes ws) ns → (z, m) ∈ (names ws).zip ns → ∃ x ∈ ws, x.1 = z ∧ 0 ≤ m ∧ m < x.2
  | [], _, _, _, _, h => by cases h
  | w :: ws, [], _, _, _, h => by cases h
  | w :: ws, n :: ns, z, m, hf, h => by
    cases hf with
    | cons h1 t =>
      rw [show names (w :: ws) = w.1 :: names ws from rfl, List.zip_cons_cons] at h
      cases h with
      | head => exact ⟨w, .head _, rfl, h1⟩
      | tail _ h =>
        obtain ⟨x, a, b⟩ := fil_zipN t h
        exact ⟨x, .tail _ a, b⟩
theorem zip_hasN : ∀ {ws : List Wire} {ns : List Int} {x : Wire}, ns.length = ws.length → x ∈ ws → ∃ m, (x.1, m) ∈ (names ws).zip ns
  | w :: ws, n :: ns, x, hl, h => by
    cases h with
    | head => exact ⟨n, .head _⟩
    | tail _ h =>
      obtain ⟨m, hm⟩ := zip_hasN (ns := ns) (Nat.succ.inj hl) h
      exact ⟨m, .tail _ hm⟩
  | w :: ws, [], x, hl, h => by cases hl
theorem st_init (h : Drawn c made inw start) {ns ms : List Int} (hn : Fil (sizes (insOf c)) ns) (hm : Fil (sizes (letters c)) ms) : StInv c [] (initS c ns ms) := by
  have nl : ns.length = (insOf c).length := (Paired.length hn).trans sizes_len
  have ml : ms.length = (letters c).length := (Paired.length hm).trans sizes_len
  have w6 := (drawn_ok h).wires6
  have li : (insOf c).length ≤ 6 := Nat.le_trans (List.length_filter_le _ _) w6
  have ll : (letters c).length ≤ 6 := Nat.le_trans (List.length_filter_le _ _) w6
  refine ⟨fun x hx hk => ?_, fun x hx ⟨b, m, _⟩ => (by cases m), ?_, Nat.zero_le _⟩
  · have a := putsD_get (z := x.1) ((names (letters c)).zip ms) (putsD [] (names (insOf c)) ns)
    have b := putsD_get (z := x.1) ((names (insOf c)).zip ns) []
    have let_ : (∃ m, (x.1, m) ∈ (names (letters c)).zip ms ∧ getS (initS c ns ms).1 x.1 = some m) → ∃ v, getS (initS c ns ms).1 x.1 = some v ∧ 0 ≤ v ∧ v < x.2 := fun ⟨m, k, g⟩ => by
      obtain ⟨y, hy, e, m0, m1⟩ := fil_zipN hm k
      have := name_one h.nodup (letters_sub hy).1 hx e
      subst this
      exact ⟨m, g, m0, m1⟩
    rcases hk with hk | hk | ⟨b, m, _⟩
    · rcases a.1 with e | e
      · obtain ⟨m, k, g⟩ := b.2 (zip_hasN nl hk)
        obtain ⟨y, hy, e2, m0, m1⟩ := fil_zipN hn k
        have := name_one h.nodup (ins_sub hy).1 hx e2
        subst this
        exact ⟨m, e.trans g, m0, m1⟩
      · exact let_ e
    · exact let_ (a.2 (zip_hasN ml hk))
    · cases m
  · have h1 := putsD_len ((names (letters c)).zip ms) (putsD [] (names (insOf c)) ns)
    have h2 := putsD_len ((names (insOf c)).zip ns) []
    rw [List.length_zip, names_len] at h1 h2
    simp only [List.length_nil] at h2
    show (((names (letters c)).zip ms).foldl (fun d x => putS d x.1 x.2) (putsD [] (names (insOf c)) ns)).length ≤ 12 + 6 * 0
    unfold putsD at h1 ⊢
    omega
theorem mday_get {b : LB} {z : Str} {m : Int} : ∀ (ws : List Wire) (d : Dct), getS (mday d b ws) z = some m → (z ∈ names ws ∧ m = b.day) ∨ getS d z = some m
  | [], d, h => .inr h
  | x :: ws, d, h => by
    rcases mday_get ws (putS d x.1 b.day) h with ⟨a, e⟩ | e
    · exact .inl ⟨.tail _ a, e⟩
    · rw [getS_put] at e
      by_cases ez : z = x.1
      · rw [if_pos ez] at e
        exact .inl ⟨by rw [ez]; exact .head _, (Option.some.inj e).symm⟩
      · rw [if_neg ez] at e
        exact .inr e
theorem mdict_get {z : Str} {m : Int} : ∀ (bs : List LB) (d : Dct), getS (bs.foldl (fun d b => mday d b b.makes) d) z = some m → (∃ b ∈ bs, z ∈ names b.makes ∧ m = b.day) ∨ getS d z = some m
  | [], d, h => .inr h
  | b :: bs, d, h => by
    rcases mdict_get bs (mday d b b.makes) h with ⟨b', a, e⟩ | e
    · exact .inl ⟨b', .tail _ a, e⟩
    · rcases mday_get b.makes d e with a | a
      · exact .inl ⟨b, .head _, a⟩
      · exact .inr a
theorem maker (h : Drawn c made inw start) {x : Wire} (hx : x ∈ c.wires) {m : Int} (e : getS (mdict c.boxes) x.1 = some m) : ∃ b ∈ c.boxes, x ∈ b.makes ∧ m = b.day := by
  rcases mdict_get c.boxes [] e with ⟨b, hb, hz, ed⟩ | e
  · obtain ⟨y, hy, ey⟩ := List.mem_map.1 hz
    have := name_one h.nodup (h.madeIn (h.makesIn hb hy)) hx ey
    subst this
    exact ⟨b, hb, hy, ed⟩
  · cases e
theorem days_ok (h : Drawn c made inw start) : ∀ b ∈ c.boxes, 0 ≤ b.day ∧ b.day ≤ 9 := fun b hb => by
  have := (h.boxes b hb).day2
  exact ⟨(h.boxes b hb).day0, by omega⟩
theorem st_ok (h : Drawn c made inw start) {i : Nat} {b : LB} (hb : (byDay c.boxes)[i]? = some b) {st : Sta} (inv : StInv c ((byDay c.boxes).take i) st) (sm : SmS st.2.2) : StOk b st := by
  have hbm : b ∈ c.boxes := (byDay_mem (days_ok h)).1 (List.mem_of_getElem? hb)
  have bl := byDay_len c.boxes
  have b3 := h.boxes3
  have tl : ((byDay c.boxes).take i).length ≤ 3 := by rw [List.length_take]; omega
  refine ⟨fun x hx => ?_, by have := inv.len1; omega, by have := inv.len2; omega, sm⟩
  have hw := h.takesIn hbm hx
  cases e : getS (mdict c.boxes) x.1 with
  | none => exact inv.known x hw (.inl (List.mem_filter.2 ⟨hw, by rw [e]; rfl⟩))
  | some m =>
    by_cases hd : b.day ≤ m
    · refine inv.known x hw (.inr (.inl (List.mem_filter.2 ⟨hw, decide_eq_true ?_⟩)))
      refine List.mem_map.2 ⟨(b.day, x.1), List.mem_filter.2 ⟨List.mem_flatMap.2 ⟨b, hbm, List.mem_map_of_mem (f := fun y : Wire => (b.day, y.1)) hx⟩, ?_⟩, rfl⟩
      unfold late
      rw [e]
      exact decide_eq_true hd
    · obtain ⟨b', hb', hx', em⟩ := maker h hw e
      exact inv.known x hw (.inr (.inr ⟨b', byDay_before hb ((byDay_mem (days_ok h)).2 hb') (by omega), hx'⟩))
end
end K6

set_option Elab.async false
set_option linter.all false
set_option maxRecDepth 100000
set_option maxHeartbeats 4000000
namespace K6
open PySem PySem.Spec PyProof.Rows L2
theorem ent_sum {b : LB} {st : Sta} (hb : BoxOk b) (h : StOk b st) : ((entAt b st.1).map (·.2)).sum = 6 := by
  have := hb.entOk _ (List.mem_of_getElem? (ent_at hb h).2)
  rcases this with ⟨r, e, _⟩ | ⟨r1, r2, k1, k2, e, _, _, _, _, _, _, s⟩
  · rw [e]
    rfl
  · rw [e]
    show k1 + (k2 + 0) = 6
    omega
theorem sum_mul (k : Int) : ∀ xs : List Int, (xs.map fun x => k * x).sum = k * xs.sum
  | [] => by simp
  | x :: xs => by
    rw [List.map_cons, List.sum_cons, List.sum_cons, sum_mul k xs, Int.mul_add]
theorem shares_step {ls : List Str} {b : LB} {N : Int} (hN : 0 < N) (hb : BoxOk b) : ∀ {sts : List Sta} {ks : List Int}, sts.map (·.2.2) = ks.map (fun k => nm k N) → (∀ st ∈ sts, StOk b st) → (∀ k ∈ ks, 0 ≤ k) →
    ∃ ks' : List Int, (stepM ls b sts).map (·.2.2) = ks'.map (fun k => nm k (N * 6)) ∧ (∀ k ∈ ks', 0 ≤ k) ∧ ks'.sum = 6 * ks.sum
  | [], [], _, _, _ => ⟨[], rfl, fun _ m => (by cases m), rfl⟩
  | [], _ :: _, h, _, _ => by cases h
  | _ :: _, [], h, _, _ => by cases h
  | st :: sts, k :: ks, h, hok, h0 => by
    rw [List.map_cons, List.map_cons] at h
    have h := List.cons.inj h
    obtain ⟨ks', e1, e2, e3⟩ := shares_step (ls := ls) hN hb h.2 (fun x m => hok x (.tail _ m)) (fun x m => h0 x (.tail _ m))
    have k0 := h0 k (.head _)
    have es := ent_sum hb (hok st (.head _))
    have ee := ent_ok (d := st.1) hb
    refine ⟨((entAt b st.1).map fun r => k * r.2) ++ ks', ?_, fun x m => ?_, ?_⟩
    · have : stepM ls b (st :: sts) = step1 ls b st ++ stepM ls b sts := rfl
      rw [this, List.map_append, List.map_append, e1]
      congr 1
      unfold step1
      rw [List.map_map, List.map_map]
      refine List.map_congr_left fun r _ => ?_
      show tm st.2.2 (nm r.2 6) = nm (k * r.2) (N * 6)
      rw [h.1, tm_nm hN (by decide)]
    · rcases List.mem_append.1 m with m | m
      · obtain ⟨r, hr, rfl⟩ := List.mem_map.1 m
        exact Int.mul_nonneg k0 (Int.le_of_lt (ee.2 r hr).2.1)
      · exact e2 x m
    · rw [List.sum_append, List.sum_cons, e3]
      have := sum_mul k ((entAt b st.1).map (·.2))
      rw [List.map_map] at this
      rw [show ((entAt b st.1).map fun r => k * r.2) = (entAt b st.1).map ((fun x => k * x) ∘ fun x => x.2) from rfl, this, es]
      omega
section
variable {c : LC} {made inw : List Wire} {start : Int}
structure AllInv (c : LC) (l : List LB) (sts : List Sta) : Prop where
  inv : ∀ st ∈ sts, StInv c l st
  len : sts.length ≤ 2 ^ l.length
  sh : ∃ ks : List Int, sts.map (·.2.2) = ks.map (fun k => nm k (6 ^ l.length)) ∧ (∀ k ∈ ks, 0 ≤ k) ∧ ks.sum = 6 ^ l.length
theorem le_sum : ∀ {ks : List Int} {k : Int}, (∀ k ∈ ks, 0 ≤ k) → k ∈ ks → k ≤ ks.sum
  | x :: ks, k, h, m => by
    have h1 := (sum_part ks 0 fun z m => h z (.tail _ m)).2
    rw [show (ks.take 0).sum = 0 from rfl] at h1
    rw [List.sum_cons]
    cases m with
    | head => omega
    | tail _ m =>
      have := le_sum (fun z m => h z (.tail _ m)) m
      have := h x (.head _)
      omega
theorem pow6 {n : Nat} (h : n ≤ 3) : (0 : Int) < 6 ^ n ∧ (6 : Int) ^ n ≤ 216 := by
  rcases (show n = 0 ∨ n = 1 ∨ n = 2 ∨ n = 3 by omega) with e | e | e | e <;> rw [e] <;> decide
theorem all_sm {l : List LB} {sts : List Sta} (a : AllInv c l sts) (hl : l.length ≤ 3) : ∀ st ∈ sts, SmS st.2.2 := fun st m => by
  obtain ⟨ks, e, h0, hs⟩ := a.sh
  have p := pow6 hl
  have : st.2.2 ∈ ks.map (fun k => nm k (6 ^ l.length)) := by
    rw [← e]
    exact List.mem_map_of_mem m
  obtain ⟨k, hk, ek⟩ := List.mem_map.1 this
  rw [← ek]
  have k1 := le_sum h0 hk
  have k0 := h0 k hk
  rw [hs] at k1
  have h1 := nm_nn (a := k) p.1 k0
  have h2 := nm_le1 (a := k) p.1 k0
  have h3 := nm_pos (a := k) p.1
  have h4 := nm_le (a := k) p.1
  exact ⟨h1, by omega, h3, by omega⟩
theorem all_at (h : Drawn c made inw start) {ns ms : List Int} (hn : Fil (sizes (insOf c)) ns) (hm : Fil (sizes (letters c)) ms) : ∀ i, AllInv c ((byDay c.boxes).take i) (statesAt c ns ms i)
  | 0 => by
    refine ⟨fun st m => ?_, Nat.le_refl 1, [1], ?_, ?_, rfl⟩
    · rw [List.mem_singleton.1 m]
      exact st_init h hn hm
    · show [((1 : Int), (1 : Int))] = [nm 1 (6 ^ 0)]
      rw [show nm 1 (6 ^ 0) = (1, 1) from nm_one (by decide)]
    · intro k m
      rw [List.mem_singleton.1 m]
      decide
  | i + 1 => by
    have a := all_at h hn hm i
    cases hb : (byDay c.boxes)[i]? with
    | none =>
      have hl := List.getElem?_eq_none_iff.1 hb
      have e1 : (byDay c.boxes).take (i + 1) = (byDay c.boxes).take i := by rw [List.take_of_length_le (by omega), List.take_of_length_le hl]
      have e2 : statesAt c ns ms (i + 1) = statesAt c ns ms i := by unfold statesAt; rw [e1]
      rw [e1, e2]
      exact a
    | some b =>
      have hbm : b ∈ c.boxes := (byDay_mem (days_ok h)).1 (List.mem_of_getElem? hb)
      have ho := (drawn_ok h).boxes b hbm
      have tl : ((byDay c.boxes).take i).length ≤ 3 := by
        have := byDay_len c.boxes
        have := h.boxes3
        rw [List.length_take]
        omega
      have e1 := take_snoc hb
      have e2 : statesAt c ns ms (i + 1) = stepM (names (letters c)) b (statesAt c ns ms i) := by
        unfold statesAt
        rw [foldl_snoc hb]
      have sm := all_sm a tl
      have ok : ∀ st ∈ statesAt c ns ms i, StOk b st := fun st m => st_ok h hb (a.inv st m) (sm st m)
      rw [e1, e2]
      obtain ⟨ks, s1, s2, s3⟩ := a.sh
      obtain ⟨ks', t1, t2, t3⟩ := shares_step (ls := names (letters c)) (pow6 tl).1 ho s1 ok s2
      have el : ((byDay c.boxes).take i ++ [b]).length = ((byDay c.boxes).take i).length + 1 := List.length_append
      refine ⟨fun st m => ?_, ?_, ks', ?_, t2, ?_⟩
      · obtain ⟨st0, m0, m1⟩ := List.mem_flatMap.1 m
        obtain ⟨r, hr, rfl⟩ := List.mem_map.1 m1
        exact st_step h hbm (a.inv st0 m0) ((ent_ok (d := st0.1) ho).2 r hr).2.2.2
      · have h1 := stepM_len (ls := names (letters c)) ho (statesAt c ns ms i)
        have h2 := a.len
        rw [el, Nat.pow_succ]
        omega
      · rw [el, Int.pow_succ]
        exact t1
      · rw [el, Int.pow_succ, t3, s3, Int.mul_comm]
theorem drawn_runs (h : Drawn c made inw start) {ns ms : List Int} (hn : Fil (sizes (insOf c)) ns) (hm : Fil (sizes (letters c)) ms) : Runs c ns ms := by
  have bl := byDay_len c.boxes
  have b3 := h.boxes3
  have tl : ∀ i, ((byDay c.boxes).take i).length ≤ 3 := fun i => by rw [List.length_take]; omega
  have p2 : ∀ n : Nat, n ≤ 3 → 2 ^ n ≤ 1000 := fun n hn => by
    rcases (show n = 0 ∨ n = 1 ∨ n = 2 ∨ n = 3 by omega) with e | e | e | e <;> rw [e] <;> decide
  have fin : ∀ st ∈ finS c ns ms, StInv c (byDay c.boxes) st := fun st m => by
    rw [← fin_at] at m
    have := (all_at h hn hm (byDay c.boxes).length).inv st m
    rwa [List.take_length] at this
  refine ⟨fun i b hb st m => st_ok h hb ((all_at h hn hm i).inv st m) (all_sm (all_at h hn hm i) (tl i) st m), fun i => Nat.le_trans (all_at h hn hm i).len (p2 _ (tl i)), fun st m x hx => ?_, fun st m x hx => ?_⟩
  · have : ∃ v, getS st.1 x.1 = some v ∧ 0 ≤ v ∧ v < x.2 := by
      cases e : getS (mdict c.boxes) x.1 with
      | none => exact (fin st m).known x hx (.inl (List.mem_filter.2 ⟨hx, by rw [e]; rfl⟩))
      | some d =>
        obtain ⟨b', hb', hx', _⟩ := maker h hx e
        exact (fin st m).known x hx (.inr (.inr ⟨b', (byDay_mem (days_ok h)).2 hb', hx'⟩))
    obtain ⟨v, e, _⟩ := this
    rw [e]
    rfl
  · obtain ⟨d, e⟩ := Option.isSome_iff_exists.1 (lets_made (letters_sub hx).2)
    obtain ⟨b', hb', hx', _⟩ := maker h (letters_sub hx).1 e
    exact (fin st m).sent x hx ⟨b', (byDay_mem (days_ok h)).2 hb', hx'⟩
theorem perm_map {α β : Type} {g : α → β} {l1 l2 : List β} (h : l1.Perm l2) : ∀ {ks : List α}, l2 = ks.map g → ∃ ks' : List α, l1 = ks'.map g ∧ ks'.Perm ks := by
  induction h with
  | nil => intro ks e; exact ⟨[], rfl, by rw [List.map_eq_nil_iff.1 e.symm]⟩
  | cons x _ ih =>
    intro ks e
    cases ks with
    | nil => cases e
    | cons k ks =>
      have e := List.cons.inj e
      obtain ⟨ks', e1, e2⟩ := ih e.2
      exact ⟨k :: ks', by rw [List.map_cons, e.1, e1], e2.cons k⟩
  | swap x y l =>
    intro ks e
    match ks, e with
    | [], e => cases e
    | [_], e => cases (List.cons.inj e).2
    | k1 :: k2 :: ks, e =>
      have e1 := List.cons.inj e
      have e2 := List.cons.inj e1.2
      exact ⟨k2 :: k1 :: ks, by rw [List.map_cons, List.map_cons, e1.1, e2.1, e2.2], List.Perm.swap k1 k2 ks⟩
  | trans _ _ ih1 ih2 =>
    intro ks e
    obtain ⟨ks2, e2, p2⟩ := ih2 e
    obtain ⟨ks1, e1, p1⟩ := ih1 e2
    exact ⟨ks1, e1, p1.trans p2⟩
theorem sum_perm {xs ys : List Int} (h : xs.Perm ys) : xs.sum = ys.sum := by
  induction h with
  | nil => rfl
  | cons x _ ih => rw [List.sum_cons, List.sum_cons, ih]
  | swap x y l => rw [List.sum_cons, List.sum_cons, List.sum_cons, List.sum_cons]; omega
  | trans _ _ ih1 ih2 => rw [ih1, ih2]
theorem drawn_shares (h : Drawn c made inw start) {ns ms : List Int} (hn : Fil (sizes (insOf c)) ns) (hm : Fil (sizes (letters c)) ms) :
    ∃ (N : Int) (ks : List Int), 0 < N ∧ N ≤ 216 ∧ (∀ k ∈ ks, 0 ≤ k) ∧ ks.sum = N ∧ (workedM c ns ms).map (·.2.2) = ks.map (fun k => nm k N) := by
  have a := all_at h hn hm (byDay c.boxes).length
  rw [fin_at, List.take_length] at a
  have bl := byDay_len c.boxes
  have b3 := h.boxes3
  have p := pow6 (n := (byDay c.boxes).length) (by omega)
  obtain ⟨ks, e, k0, ks1⟩ := a.sh
  have hp : ((workedM c ns ms).map (·.2.2)).Perm (((finS c ns ms).map (outS c)).map (·.2.2)) := (List.mergeSort_perm _ _).map _
  obtain ⟨ks', e1, e2⟩ := perm_map (g := fun k => nm k (6 ^ (byDay c.boxes).length)) hp (ks := ks) (by rw [← e, List.map_map]; rfl)
  exact ⟨_, ks', p.1, p.2, fun k m => k0 k (e2.mem_iff.1 m), by rw [sum_perm e2, ks1], e1⟩
theorem worked_len (h : Drawn c made inw start) {ns ms : List Int} (hn : Fil (sizes (insOf c)) ns) (hm : Fil (sizes (letters c)) ms) : (workedM c ns ms).length ≤ 1000 := by
  unfold workedM
  rw [(List.mergeSort_perm _ _).length_eq, List.length_map, ← fin_at]
  exact (drawn_runs h hn hm).len _
end
end K6

set_option Elab.async false
set_option linter.all false
set_option maxRecDepth 100000
set_option maxHeartbeats 4000000
namespace K6
open PySem PySem.Spec PyProof.Rows L2
theorem ints_inj : ∀ {ns ms : List Int}, ns.map V.int = ms.map V.int → ns = ms
  | [], [], _ => rfl
  | [], _ :: _, h => by cases h
  | _ :: _, [], h => by cases h
  | n :: ns, m :: ms, h => by
    have h := List.cons.inj h
    rw [V.int.inj h.1, ints_inj h.2]
/-! ### data that are shaped -/
theorem lay_ints : ∀ r : List Int, PyData.canLayAll0 (r.map .int) = true
  | [] => rfl
  | n :: r => by
    show (true && PyData.canLayAll0 (r.map .int)) = true
    rw [lay_ints r]
    rfl
theorem lay_row3 (r : Row3) : (encRow3 r).canLay0 = true := by
  show (PyData.canLayAll0 (r.1.map .int) && (PyData.canLayAll0 (r.2.1.map .int) && ((true && (true && true)) && true))) = true
  rw [lay_ints, lay_ints]
  rfl
theorem lay_rows : ∀ rs : List Row3, PyData.canLayAll0 (rs.map encRow3) = true
  | [] => rfl
  | r :: rs => by
    show ((encRow3 r).canLay0 && PyData.canLayAll0 (rs.map encRow3)) = true
    rw [lay_row3, lay_rows rs]
    rfl
theorem depth_rows : ∀ rs : List Row3, PyData.depthAll (rs.map encRow3) ≤ 2
  | [] => by decide
  | r :: rs => by
    show max (encRow3 r).depth (PyData.depthAll (rs.map encRow3)) ≤ 2
    rw [depth_row3]
    have := depth_rows rs
    omega
theorem shaped_rows (rs : List Row3) : SeqAt.shaped (.tuple (rs.map encRow3)) = true := by
  show (PyData.canLayAll0 (rs.map encRow3) && decide (PyData.depthAll (rs.map encRow3) + 1 ≤ 64)) = true
  have := depth_rows rs
  rw [lay_rows, decide_eq_true (by omega)]
  rfl
theorem shaped_row (r : List Int) : SeqAt.shaped (encRow r) = true := by
  show (PyData.canLayAll0 (r.map .int) && decide (PyData.depthAll (r.map .int) + 1 ≤ 64)) = true
  rw [lay_ints, depth_ints]
  rfl
theorem ne_self {d : PyData} (h : SeqAt.shaped d = true) : (!PyData.eqv d d) = false := by
  rw [SeqAt.eqv_refl d (SeqAt.canLay_of_shaped h)]
  rfl
section
variable {P : Program} {w : World} {K : PySem.W.Frag} {mg : Str → Option Value} {base : Heap}
theorem dp_rows {H : Hp} : ∀ {us : List V} {rs : List Row3}, Paired (rRow3 K H) us rs → DpAll K H us (rs.map encRow3)
  | _, _, .nil => .nil
  | _, _, .cons h t => .cons (dp_row3 h) (dp_rows t)
theorem tup_row3 {H : Hp} {v : V} {r : Row3} (h : rRow3 K H v r) (l1 : r.1.length ≤ 1000) (l2 : r.2.1.length ≤ 1000) : TupV K H 2 v := by
  obtain ⟨a, _, _, _, rfl, h0, ⟨b1, u1, rfl, h1, p1⟩, ⟨b2, u2, rfl, h2, p2⟩, ⟨b, _, _, rfl, h3, rfl, rfl⟩⟩ := h
  have e1 := paired_ints p1
  have e2 := paired_ints p2
  subst e1 e2
  refine .tup h0 (by show 3 ≤ 1000; decide) fun v m => ?_
  have hz0 : ∀ (ns : List Int), ∀ v ∈ ns.map V.int, TupV K H 0 v := fun ns v m => by
    obtain ⟨n, _, rfl⟩ := List.mem_map.1 m
    exact .int 0 n
  rcases List.mem_cons.1 m with e | m
  · rw [e]
    exact .tup h1 (by rw [List.length_map]; exact l1) (hz0 _)
  rcases List.mem_cons.1 m with e | m
  · rw [e]
    exact .tup h2 (by rw [List.length_map]; exact l2) (hz0 _)
  · rw [List.mem_singleton.1 m]
    exact .tup h3 (by show 2 ≤ 1000; decide) fun v m => by
      rcases List.mem_cons.1 m with e | m
      · rw [e]; exact .int 0 _
      · rw [List.mem_singleton.1 m]; exact .int 0 _
theorem sms_nmN {k N : Int} (h0 : 0 < N) (hN : N ≤ 216) (k0 : 0 ≤ k) (kN : k ≤ N) : SmS (nm k N) := by
  have h1 := nm_nn (a := k) h0 k0
  have h2 := nm_le1 (a := k) h0 k0
  have h3 := nm_pos (a := k) h0
  have h4 := nm_le (a := k) h0
  exact ⟨h1, by omega, h3, by omega⟩
theorem zip_get : ∀ {ws : List Wire} {ns : List Int} {d : Dct} {j : Nat} {z : Str} {n : Int}, (names ws).Nodup → (names ws)[j]? = some z → ns[j]? = some n → getS ((ws.zip ns).foldl (fun d x => putS d x.1.1 x.2) d) z = some n := by
  have keep : ∀ (ws : List Wire) (ns : List Int) (d : Dct) (z : Str), z ∉ names ws → getS ((ws.zip ns).foldl (fun d x => putS d x.1.1 x.2) d) z = getS d z := by
    intro ws
    induction ws with
    | nil => intro ns d z _; rfl
    | cons w ws ih =>
      intro ns d z hz
      cases ns with
      | nil => rfl
      | cons n ns =>
        have h1 : z ≠ w.1 := fun e => hz (by rw [e]; exact .head _)
        have h2 : z ∉ names ws := fun m => hz (.tail _ m)
        show getS ((ws.zip ns).foldl (fun d x => putS d x.1.1 x.2) (putS d w.1 n)) z = _
        rw [ih ns _ z h2, getS_put, if_neg h1]
  intro ws
  induction ws with
  | nil => intro ns d j z n _ h; cases h
  | cons w ws ih =>
    intro ns d j z n nd hz hn
    cases ns with
    | nil => cases hn
    | cons m ns =>
      have nd' := List.nodup_cons.1 (show (w.1 :: names ws).Nodup from nd)
      cases j with
      | zero =>
        have e1 : w.1 = z := Option.some.inj hz
        have e2 : m = n := Option.some.inj hn
        subst e1 e2
        show getS ((ws.zip ns).foldl (fun d x => putS d x.1.1 x.2) (putS d w.1 m)) w.1 = _
        rw [keep ws ns _ _ nd'.1, getS_put, if_pos rfl]
      | succ j => exact ih (ns := ns) (d := putS d w.1 m) (j := j) nd'.2 hz hn
theorem fwV_int : ∀ (ss : List Int) (xs : List V) (i : Nat), fwV ss xs i = .non ∨ ∃ n, fwV ss xs i = .int n
  | [], [], _ => .inl rfl
  | [], _ :: _, i => .inr ⟨_, rfl⟩
  | _ :: _, [], i => .inr ⟨_, rfl⟩
  | s :: ss, x :: xs, i => by
    show (if wholeB x (.int 0) (.int (s - 1)) = true then fwV ss xs (i + 1) else V.int i) = .non ∨ ∃ n, (if wholeB x (.int 0) (.int (s - 1)) = true then fwV ss xs (i + 1) else V.int i) = .int n
    by_cases h : wholeB x (.int 0) (.int (s - 1)) = true
    · rw [if_pos h]
      exact fwV_int ss xs (i + 1)
    · rw [if_neg h]
      exact .inr ⟨_, rfl⟩
theorem fw_int {K : PySem.W.Frag} {H : Hp} {ss : List Int} {x r : V} {o : Option (List V)} (h : FW K H ss x r o) : r = .non ∨ ∃ n, r = .int n := by
  rcases h with ⟨_, _, _, e, _⟩ | ⟨_, xs, _, _, _, e, _⟩
  · exact .inr ⟨_, e⟩
  · rw [e]
    exact fwV_int ss xs 0
theorem fw_row {K : PySem.W.Frag} {H : Hp} {ss : List Int} {x : V} {o : Option (List V)} (h : FW K H ss x .non o) : ∃ b ns, x = .ref b ∧ Sq K H b (ns.map V.int) ∧ Fil ss ns ∧ o = some (ns.map V.int) := by
  rcases h with ⟨_, _, _, e, _⟩ | ⟨b, xs, h1, h2, _, e, h3⟩
  · cases e
  · obtain ⟨ns, rfl, hf⟩ := fw_fil 0 e.symm
    exact ⟨b, ns, h1, h2, hf, h3⟩
theorem shaped_pair {z : Str} (i : Int) (h : PyData.strOk z = true) : SeqAt.shaped (.list [.str z, .int i]) = true := by
  show ((PyData.strOk z && (true && true)) && decide (max 0 (max 0 0) + 1 ≤ 64)) = true
  rw [h]
  rfl
/-- the law's heap: what is sealed, all, the hand -/
structure Lw (K : PySem.W.Frag) (x : Addr) (G0 G H : Hp) : Prop where
  s : Same G0 G
  g : Same G H
  hd : Hd K x G H
theorem Lw.step {x : Addr} {G0 G H G' H' : Hp} (l : Lw K x G0 G H) (e : Gr M0 G H G' H') : Lw K x G0 G' H' := ⟨l.s.trans e.gg, e.gh, l.hd.step e⟩
theorem Lw.same {x : Addr} {G0 G H H' : Hp} (l : Lw K x G0 G H) (e : Same H H') : Lw K x G0 G H' := ⟨l.s, l.g.trans e, l.hd.same l.g e⟩
theorem Lw.seal {x p : Addr} {G0 G H : Hp} {o : HO} (l : Lw K x G0 G H) (e : H p = none) : Lw K x G0 (upd G p o) (upd H p o) := l.step ((Gr.refl l.g).seal e)
theorem Lw.go {x : Addr} {G0 G H G' H' : Hp} (l : Lw K x G0 G H) (e : Go K x G H G' H') : Lw K x G0 G' H' := ⟨l.s.trans e.gr.gg, e.gr.gh, e.hd⟩
theorem Lw.hand {x : Addr} {G0 G H G' H' : Hp} (l : Lw K x G0 G H) (e : Gr (Mx x) G H G' H') (h : Hd K x G' H') : Lw K x G0 G' H' := ⟨l.s.trans e.gg, e.gh, h⟩
def spLaw (K : PySem.W.Frag) : Sp := fun vs H Q _ => ∃ (a : Addr) (ns : List Int), vs = [.ref a] ∧ SqL K H a (ns.map V.int) ∧ ns.length ≤ 100 ∧ ∀ H', Q (.bl true) H'
theorem sc_law : FnScope ["_law_script", "_law_hand_here", "_law_chart_here", "_law_built_here", "_law_names", "_law_posts_here", "_law_start", "_law_x", "_law_step_here", "_law_y", "_law_due", "_law_told", "_law_total", "_law_filling_here", "_law_sent", "_law_share", "_law_some_here", "_law_turn", "_law_row", "_law_post", "_law_at", "_law_place", "_law_wire", "_law_name_here"] ["_law_script"] (defScope s_law) := ⟨rfl, rfl, rfl, by decide +kernel, rfl, by decide +kernel, by decide +kernel⟩
theorem mkFn {x : Str} {st : Stmt} {N ps : List Str} {k : Nat} {sp : Sp} {f : Addr} {fd : FuncData} (F : FunD K x x (defArgs st) (defBody st) (defScope st) [] [] f fd) (S : FnScope N ps (defScope st))
    (len : ∀ vs H Q E, sp vs H Q E → vs.length = ps.length)
    (body : ∀ (cdv : Value) (A : Around) (outer : List Env) (s : Shared) (H : Hp) (vs : List V) (Q : VK) (E : XK), Room k (A.deeper (envOfC x (defScope st) s.heap.objs.size f cdv)) → sp vs H Q E →
      ∃ t, PSs (cxOf CX0 P w K mg base N x (defScope st) f cdv A outer s H E).nox (defBody st) t ∧ t { nx := fun _ H' => Q .non H', rt := Q } (start N vs) H) : FnOk P w K mg base CX0 (k + 1) f fd ps sp := by
  refine F.ok S len fun cdv A outer s H vs Q E hr h => ?_
  obtain ⟨t, h1, h2⟩ := body cdv A outer s H vs Q E hr h
  exact ⟨t, h1.nox, h2⟩
theorem ok_law (T : Tx K mg) {f : Addr} {fd : FuncData} (F : FunD K "law" "law" (defArgs s_law) (defBody s_law) (defScope s_law) [] [] f fd) : FnOk P w K mg base CX0 11 f fd ["_law_script"] (spLaw K) := by
  refine mkFn F sc_law (fun vs H Q E h => ?_) (fun cdv A outer s H vs Q E hr h => ?_)
  · obtain ⟨_, _, rfl, _⟩ := h
    rfl
  obtain ⟨a, script, rfl, ha, hl, q⟩ := h
  refine ⟨_, (pss_cons (ps_set (i := 1) sc_law.nd rfl (Or.inl rfl) (C8.pe_c (c_law_hand T) hr (by decide) (by rfl) (pa_cons (pv 0) pa_nil)))
      (pss_cons (ps_set (i := 2) sc_law.nd rfl (Or.inl rfl) (C8.pe_c (c_law_chart T) hr (by decide) (by rfl) (pa_cons (pv 1) (pa_cons pe_int (pa_cons pe_int pa_nil)))))
      (pss_cons (ps_set (i := 3) sc_law.nd rfl (Or.inl rfl) (C8.pe_c (c_law_built T) hr (by decide) (by rfl) (pa_cons (pv 2) pa_nil)))
      (pss_cons (ps_set (i := 4) sc_law.nd rfl (Or.inr rfl) (pe_lc (own := [("_law_wire", 22)]) rfl sc_law.nd (pi_seq (pe_ix ix_list (pv 2) pe_int (fun _ _ => rfl))) (blkOk_by (own := [("_law_wire", 22)]) (N := ["_law_script", "_law_hand_here", "_law_chart_here", "_law_built_here", "_law_names", "_law_posts_here", "_law_start", "_law_x", "_law_step_here", "_law_y", "_law_due", "_law_told", "_law_total", "_law_filling_here", "_law_sent", "_law_share", "_law_some_here", "_law_turn", "_law_row", "_law_post", "_law_at", "_law_place", "_law_wire", "_law_name_here"]) (sc := defScope s_law) (by decide +kernel)) (fun _ _ _ _ _ => (pg_name (i := 22) sc_law.nd rfl (Or.inl rfl))) (fun _ _ _ _ _ => pts_nil) (fun _ _ _ _ _ => (pe_ix (show IxR _ (rIxT K) from ix_tup) (pv 22) pe_int (fun _ _ => rfl)))))
      (pss_cons (ps_set (i := 5) sc_law.nd rfl (Or.inl rfl) (C8.pe_c (c_law_posts T) hr (by decide) (by rfl) (pa_cons (pv 2) pa_nil)))
      (pss_cons (ps_set (i := 6) sc_law.nd rfl (Or.inl rfl) (C8.pe_c (c_law_take T) hr (by decide) (by rfl) (pa_cons (pv 1) (pa_cons (pe_callB call_len_seq (by rfl) T.len bt_len (pa_cons (pv 5) pa_nil)) pa_nil))))
      (pss_cons (ps_for PassesOwn.never rfl (pi_seq (C8.pe_c (c_law_all_ins T) hr (by decide) (by rfl) (pa_cons (pv 2) pa_nil))) (pg_name (i := 7) sc_law.nd rfl (Or.inl rfl)) (pss_one (ps_for PassesOwn.never rfl (pi_range1 (by rfl) T.range (pa_cons (pe_callB (call_min2 rfl) (by rfl) T.min bt_min (pa_cons pe_int (pa_cons (pe_callB call_len_seq (by rfl) T.len bt_len (pa_cons (pv 5) pa_nil)) pa_nil))) pa_nil)) (pg_name (i := 8) sc_law.nd rfl (Or.inl rfl)) (pss_cons (ps_set (i := 9) sc_law.nd rfl (Or.inl rfl) (pe_ix ix_list (pv 5) (pe_op op_mod (pe_callTy call_int1 (by rfl) T.int bt_int (pa_cons (pe_op op_add (pv 6) (pv 8)) pa_nil)) (pe_callB call_len_seq (by rfl) T.len bt_len (pa_cons (pv 5) pa_nil))) (fun _ _ => rfl)))
      (pss_cons (ps_set (i := 10) sc_law.nd rfl (Or.inl rfl) (pe_callTy call_tuple_of (by rfl) T.tuple bt_tuple (pa_cons (C8.pe_c (c_law_days T) hr (by decide) (by rfl) (pa_cons (pv 2) (pa_cons (pv 7) (pa_cons (pv 9) pa_nil)))) pa_nil)))
      (pss_cons (ps_set (i := 11) sc_law.nd rfl (Or.inl rfl) (C8.pe_c (c_law_worked T) hr (by decide) (by rfl) (pa_cons (pv 3) (pa_cons (C8.pe_c (c_law_lists T) hr (by decide) (by rfl) (pa_cons (pv 1) (pa_cons (pv 7) pa_nil))) (pa_cons (C8.pe_c (c_law_lists T) hr (by decide) (by rfl) (pa_cons (pv 1) (pa_cons (pv 9) pa_nil))) pa_nil)))))
      (pss_cons (ps_if (PW.pt (pw_or (pt_cmpR (op_neD hr.units) (pv 11) (pv 10) (nomark _)) (pw_or1 (pt_not (pt_val (C8.pe_c (c_law_tuples T) hr (by decide) (by rfl) (pa_cons (pv 11) pa_nil))))))) (pss_one (ps_ret pe_bl)) pss_nil)
      (pss_cons (ps_set (i := 12) sc_law.nd rfl (Or.inl rfl) (pe_tup (pa_cons pe_int (pa_cons pe_int pa_nil))))
      (pss_cons (ps_for PassesOwn.never rfl (pi_seq (pv 10)) (pg_tup rfl (pgs_cons (pg_name (i := 13) sc_law.nd rfl (Or.inr rfl)) (pgs_cons (pg_name (i := 14) sc_law.nd rfl (Or.inl rfl)) (pgs_cons (pg_name (i := 15) sc_law.nd rfl (Or.inl rfl)) pgs_nil)))) (pss_cons (ps_set (i := 12) sc_law.nd rfl (Or.inl rfl) (C8.pe_c (c_law_plus T) hr (by decide) (by rfl) (pa_cons (pv 12) (pa_cons (pv 15) pa_nil))))
      (pss_cons (ps_set (i := 16) sc_law.nd rfl (Or.inl rfl) (pe_ifExp (pt_cmpR op_eq (pv 8) pe_int (nomark _)) (C8.pe_c (c_law_some (R := rStr) T) hr (by decide) (by rfl) (pa_cons (pv 1) (pa_cons (pv 4) (pa_cons pe_int pa_nil)))) (pe_callTy call_list_of (by rfl) T.list bt_list (pa_cons (pe_ix ix_list (pv 2) pe_int (fun _ _ => rfl)) pa_nil))))
      (pss_one (ps_if (pt_cmpR (op_neD hr.units) (C8.pe_c (c_worths_at T) hr (by decide) (by rfl) (pa_cons (pv 3) (pa_cons (pv 13) (pa_cons (pv 16) pa_nil)))) (pe_callTy call_tuple_of (by rfl) T.tuple bt_tuple (pa_cons (pe_lc (own := [("_law_name_here", 23)]) rfl sc_law.nd (pi_seq (pv 16)) (blkOk_by (own := [("_law_name_here", 23)]) (N := ["_law_script", "_law_hand_here", "_law_chart_here", "_law_built_here", "_law_names", "_law_posts_here", "_law_start", "_law_x", "_law_step_here", "_law_y", "_law_due", "_law_told", "_law_total", "_law_filling_here", "_law_sent", "_law_share", "_law_some_here", "_law_turn", "_law_row", "_law_post", "_law_at", "_law_place", "_law_wire", "_law_name_here"]) (sc := defScope s_law) (by decide +kernel)) (fun _ _ _ _ _ => (pg_name (i := 23) sc_law.nd rfl (Or.inl rfl))) (fun _ _ _ _ _ => pts_nil) (fun _ _ _ _ _ => (pe_ix (show IxR _ (rIxT K) from ix_tup) (pv 13) (show PE _ _ (tBM K _ _ _ _) from (pe_bm PySem.F.plainAttrs_list PySem.F.slot_list_index PySem.F.type_list_index (show MtR _ _ (rIndex K) from mt_index) (pv 4) (pa_cons (pv 23) pa_nil))) (fun _ _ => rfl)))) pa_nil)) (nomark _)) (pss_one (ps_ret pe_bl)) pss_nil)))))
      (pss_one (ps_if (pt_cmpR (op_neD hr.units) (pv 12) (pe_tup (pa_cons pe_int (pa_cons pe_int pa_nil))) (nomark _)) (pss_one (ps_ret pe_bl)) pss_nil)))))))))))
      (pss_cons (ps_set (i := 7) sc_law.nd rfl (Or.inl rfl) (C8.pe_c (c_law_filling T) hr (by decide) (by rfl) (pa_cons (C8.pe_c (c_law_size T) hr (by decide) (by rfl) (pa_cons (C8.pe_c (c_law_ins T) hr (by decide) (by rfl) (pa_cons (pv 2) pa_nil)) pa_nil)) (pa_cons pe_int pa_nil))))
      (pss_cons (ps_for PassesOwn.never rfl (pi_range1 (by rfl) T.range (pa_cons pe_int pa_nil)) (pg_name (i := 17) sc_law.nd rfl (Or.inl rfl)) (pss_cons (ps_set (i := 18) sc_law.nd rfl (Or.inl rfl) (C8.pe_c (c_law_spoilt_row T) hr (by decide) (by rfl) (pa_cons (pv 1) (pa_cons (C8.pe_c (c_law_size T) hr (by decide) (by rfl) (pa_cons (C8.pe_c (c_law_ins T) hr (by decide) (by rfl) (pa_cons (pv 2) pa_nil)) pa_nil)) (pa_cons (pv 7) pa_nil)))))
      (pss_cons (ps_set (i := 19) sc_law.nd rfl (Or.inl rfl) (C8.pe_c (c_law_spoilt_row T) hr (by decide) (by rfl) (pa_cons (pv 1) (pa_cons (C8.pe_c (c_law_size T) hr (by decide) (by rfl) (pa_cons (C8.pe_c (c_law_letters T) hr (by decide) (by rfl) (pa_cons (pv 2) pa_nil)) pa_nil)) (pa_cons (pe_ix ix_list (pv 5) (pv 6) (fun _ _ => rfl)) pa_nil)))))
      (pss_cons (ps_set (i := 20) sc_law.nd rfl (Or.inl rfl) (C8.pe_c (c_law_wrong_place T) hr (by decide) (by rfl) (pa_cons (C8.pe_c (c_law_size T) hr (by decide) (by rfl) (pa_cons (C8.pe_c (c_law_ins T) hr (by decide) (by rfl) (pa_cons (pv 2) pa_nil)) pa_nil)) (pa_cons (pv 18) (pa_cons pe_bl pa_nil)))))
      (pss_cons (ps_set (i := 21) sc_law.nd rfl (Or.inl rfl) (C8.pe_c (c_law_wrong_place T) hr (by decide) (by rfl) (pa_cons (C8.pe_c (c_law_size T) hr (by decide) (by rfl) (pa_cons (C8.pe_c (c_law_letters T) hr (by decide) (by rfl) (pa_cons (pv 2) pa_nil)) pa_nil)) (pa_cons (pv 19) (pa_cons pe_bl pa_nil)))))
      (pss_cons (ps_set (i := 10) sc_law.nd rfl (Or.inl rfl) (pe_ifExp (pt_cmpR op_notN (pv 20) pe_non (nomark _)) (pe_lst (pa_cons pe_str (pa_cons (pv 20) pa_nil))) (pe_ifExp (pt_cmpR op_notN (pv 21) pe_non (nomark _)) (pe_lst (pa_cons pe_str (pa_cons (pv 21) pa_nil))) (pe_callTy call_tuple_of (by rfl) T.tuple bt_tuple (pa_cons (C8.pe_c (c_law_days T) hr (by decide) (by rfl) (pa_cons (pv 2) (pa_cons (pe_callTy call_tuple_of (by rfl) T.tuple bt_tuple (pa_cons (pv 18) pa_nil)) (pa_cons (pe_callTy call_tuple_of (by rfl) T.tuple bt_tuple (pa_cons (pv 19) pa_nil)) pa_nil)))) pa_nil)))))
      (pss_one (ps_if (pt_cmpR (op_neD hr.units) (C8.pe_c (c_law_worked T) hr (by decide) (by rfl) (pa_cons (pv 3) (pa_cons (pv 18) (pa_cons (pv 19) pa_nil)))) (pv 10) (nomark _)) (pss_one (ps_ret pe_bl)) pss_nil))))))))
      (pss_one (ps_ret pe_bl))))))))))), ?_⟩
  refine ⟨_, rfl, H, a, script, rfl, .refl _, ha, hl, fun G1 H1 x gr1 hd1 => ?_⟩
  refine ⟨_, rfl, G1, x, rfl, gr1.gh, hd1, fun G2 H2 v c made inw st0 hdr go2 hc => ?_⟩
  have ho := drawn_ok hdr
  have w6 := ho.wires6
  have l2 : Lw K x G2 G2 H2 := ⟨.refl _, go2.gr.gh, go2.hd⟩
  clear go2
  refine ⟨_, rfl, G2, v, c, rfl, l2.g, hc, ho, fun G3 H3 vb gr3 hb => ?_⟩
  have l3 := l2.step gr3
  have hc3 := hc
  obtain ⟨ca, _, _, _, rfl, hca, ⟨tw, wv, rfl, htw, hW⟩, hbx, ⟨to, ov, rfl, hto, hO⟩⟩ := hc3
  have hO := paired_strs hO
  subst hO
  have lw := Paired.length hW
  refine ⟨_, rfl, _, _, _, _, rfl, rfl, (l3.s.trans l3.g).seq hca, rfl, tw, wv, rfl, .inl ⟨(l3.s.trans l3.g).seq htw, ?_⟩⟩
  refine lcM (K := K) (S := rStr) walk_list (names c.wires) (by rw [lw, names_len]) (by rw [names_len]; omega) l3.g (fun H' e => (l3.s.trans e).seq htw) (fun j x' Hb Hb' Gb z Q' hz grb ⟨e, hx'⟩ k => ?_) (fun G4 H4 nl nlv gr4 hnl hnlP hn4 => ?_) gName_mono
  · subst e
    obtain ⟨a, y, hy, rfl, hb⟩ := wire_at hW hx' (l3.s.trans grb.to)
    refine ⟨rfl, _, rfl, _, _, _, _, rfl, rfl, hb, rfl, k _ _ _ (.refl grb.gh) ?_⟩
    rw [← names_at hy hz]
    rfl
  have hnlP := paired_strs hnlP
  subst hnlP
  have l4 := l3.step gr4
  have hb4 := Up.up (R := rChart K) gr4.gg hb
  clear gr3 gr4 l3 l2
  -- the posts
  refine ⟨_, rfl, G4, _, c, rfl, l4.g, Up.up l4.s hc, ho, fun G5 H5 vp gr5 hp => ?_⟩
  obtain ⟨pl', pv, rfl, hpl, hpP⟩ := hp
  have l5 := l4.step gr5
  have hnl5 := gr5.gg.seq hnl
  have hb5 := Up.up (R := rChart K) gr5.gg hb4
  have plen := Paired.length hpP
  have pfl : (fillsI (sizes (letters c))).length = (prodI (sizes (letters c))).toNat := by rw [fillsI, List.length_map, List.length_range]
  have pp := prod_pos (size_sub ho (fun x => decide (x.1 ∈ lets c.boxes)))
  have ppo := ho.post
  have hpos : 0 < pv.length := by
    have : 0 < prodI (sizes (letters c)) := pp
    omega
  refine ⟨_, rfl, _, rfl, pl', pv, rfl, .inl (l5.g.seq hpl), G5, x, _, rfl, l5.g, l5.hd, by omega, by omega, fun H6 start s0 s1 gr6 hd6 => ?_⟩
  have l6 := l5.hand gr6 hd6
  clear gr5 gr6 l4 l5
  -- all ins
  refine ⟨_, rfl, G5, _, c, rfl, l6.g, Up.up l6.s hc, ho, fun G7 H7 vi gr7 hi => ?_⟩
  obtain ⟨il, iv, rfl, hil, hiP⟩ := hi
  have l7 := l6.step gr7
  have hnl7 := gr7.gg.seq hnl5
  have hb7 := Up.up (R := rChart K) gr7.gg hb5
  have hpl7 := gr7.gg.seq hpl
  have hpP7 := paired_up gr7.gg hpP
  have hc7 := Up.up (R := rLC K) l7.s hc
  have hcaS := l7.s.seq hca
  have htoS := l7.s.seq hto
  have l7 : Lw K x G7 G7 H7 := ⟨.refl _, l7.g, l7.hd⟩
  clear gr7 l6
  have hinS : ∀ n ∈ sizes (insOf c), SizeOk n := size_sub ho (fun x : Wire => !(getS (mdict c.boxes) x.1).isSome)
  have hleS : ∀ n ∈ sizes (letters c), SizeOk n := size_sub ho (fun x : Wire => decide (x.1 ∈ lets c.boxes))
  have pfil : ∀ (k : Nat) (v : V), pv[k]? = some v → ∃ (p : Addr) (ms : List Int), v = .ref p ∧ SqT K G7 p (ms.map V.int) ∧ Fil (sizes (letters c)) ms := fun k v hv => by
    obtain ⟨ms, hms, ⟨p, us, rfl, hp, hP⟩⟩ := paired_at hpP7 hv
    have hP := paired_ints hP
    subst hP
    refine ⟨p, ms, rfl, hp, ?_⟩
    rw [fillsI, List.getElem?_map] at hms
    obtain ⟨m, _, rfl⟩ := Option.map_eq_some_iff.1 hms
    exact fil_sizes _ hleS
  have ifil : ∀ (k : Nat) (v : V), iv[k]? = some v → ∃ (p : Addr) (ms : List Int), v = .ref p ∧ SqT K G7 p (ms.map V.int) ∧ Fil (sizes (insOf c)) ms := fun k v hv => by
    obtain ⟨ms, hms, ⟨p, us, rfl, hp, hP⟩⟩ := paired_at hiP hv
    have hP := paired_ints hP
    subst hP
    refine ⟨p, ms, rfl, hp, ?_⟩
    rw [fillsI, List.getElem?_map] at hms
    obtain ⟨m, _, rfl⟩ := Option.map_eq_some_iff.1 hms
    exact fil_sizes _ hinS
  -- over all ins
  refine ⟨il, iv, rfl, fr_seq (.inl hil) (fun i σ H' => ∃ G', Lw K x G7 G' H' ∧ ∃ r7 r8 r9 r10 r11 r12 r13 r14 r15 r16 r17 r18 r19 r20 r21 r22 r23, σ = [some (.ref a), some (.ref x), some (.ref ca), some vb, some (.ref nl), some (.ref pl'), some (.int start), r7, r8, r9, r10, r11, r12, r13, r14, r15, r16, r17, r18, r19, r20, r21, r22, r23])
    ⟨G7, l7, _, _, _, _, _, _, _, _, _, _, _, _, _, _, _, _, _, rfl⟩ (fun i σ H' ⟨_, h, _⟩ => h.s.trans h.g) (fun i v σ H8 hv ⟨G8, l8, r7, r8, r9, r10, r11, r12, r13, r14, r15, r16, r17, r18, r19, r20, r21, r22, r23, es⟩ => ?_) (fun σ H8 ⟨G8, l8, r7, r8, r9, r10, r11, r12, r13, r14, r15, r16, r17, r18, r19, r20, r21, r22, r23, es⟩ => ?_)⟩
  · subst es
    obtain ⟨xa, ns, rfl, hxa, hns⟩ := ifil i v hv
    refine ⟨_, rfl, pl', pv, rfl, .inl ((l8.s.trans l8.g).seq hpl7), _, _, rfl, _, rfl, ?_, ?_, fr_range (n := ((if ((pv.length : Nat) : Int) < 8 then ((pv.length : Nat) : Int) else 8)).toNat) (fun j σ H' => ∃ G', Lw K x G7 G' H' ∧ ∃ r8 r9 r10 r11 r12 r13 r14 r15 r16 r17 r18 r19 r20 r21 r22 r23, σ = [some (.ref a), some (.ref x), some (.ref ca), some vb, some (.ref nl), some (.ref pl'), some (.int start), some (.ref xa), r8, r9, r10, r11, r12, r13, r14, r15, r16, r17, r18, r19, r20, r21, r22, r23])
      ⟨G8, l8, _, _, _, _, _, _, _, _, _, _, _, _, _, _, _, _, rfl⟩ (fun j σ H9 hj ⟨G9, l9, r8, r9, r10, r11, r12, r13, r14, r15, r16, r17, r18, r19, r20, r21, r22, r23, es⟩ => ?_) (fun σ H9 ⟨G9, l9, r8, r9, r10, r11, r12, r13, r14, r15, r16, r17, r18, r19, r20, r21, r22, r23, es⟩ => ⟨G9, l9, _, _, _, _, _, _, _, _, _, _, _, _, _, _, _, _, _, es⟩)⟩
    · by_cases z : ((pv.length : Nat) : Int) < 8
      · rw [if_pos z]
        omega
      · rw [if_neg z]
        decide
    · by_cases z : ((pv.length : Nat) : Int) < 8
      · rw [if_pos z]
        omega
      · rw [if_neg z]
        decide
    subst es
    -- the post
    have hlp : (0 : Int) < ((pv.length : Nat) : Int) := by omega
    have e0 := Int.emod_nonneg (start + (0 + (j : Nat))) (Int.ne_of_gt hlp)
    have e1 := Int.emod_lt_of_pos (start + (0 + (j : Nat))) hlp
    obtain ⟨yv, hyv⟩ : ∃ yv, pv[((start + (0 + (j : Nat))) % ((pv.length : Nat) : Int)).toNat]? = some yv := ⟨pv[((start + (0 + (j : Nat))) % ((pv.length : Nat) : Int)).toNat]'(by omega), List.getElem?_eq_getElem (by omega)⟩
    have hat : atI pv ((start + (0 + (j : Nat))) % ((pv.length : Nat) : Int)) = some yv := by
      have := atI_nat hyv
      rwa [Int.toNat_of_nonneg e0] at this
    obtain ⟨ya, ms, rfl, hya, hms⟩ := pfil _ yv hyv
    have runs := drawn_runs hdr hns hms
    have t9 := l9.s.trans l9.g
    refine ⟨_, rfl, _, rfl, _, rfl, _, _, rfl, rfl, .inl ⟨_, rfl, _, rfl, pl', pv, rfl, .inl (t9.seq hpl7), _, _, rfl, rfl, hlp, _, _, _, _, rfl, rfl, t9.seq hpl7, hat, ?_⟩⟩
    -- what is due
    refine ⟨_, rfl, _, rfl, _, rfl, G9, _, xa, ya, c, ns, ms, rfl, l9.g, Up.up (R := rLC K) l9.s hc7, ho, sqt_up l9.s hxa, sqt_up l9.s hya, hns, hms, runs, fun G10 H10 vd gr10 hdue => ?_⟩
    obtain ⟨dl, dv, rfl, hdl, hdP⟩ := hdue
    have l10 := l9.step gr10
    refine ⟨dl, dv, rfl, .inl ⟨gr10.gh.seq hdl, fun dt hdt => ?_⟩⟩
    have l11 := l10.seal (o := .tup dv) hdt
    have hdT : SqT K (upd G10 dt (.tup dv)) dt dv := .of upd_at
    have hdP := paired_up (same_new (l10.g.free hdt) (o := .tup dv)) hdP
    generalize upd G10 dt (.tup dv) = G11 at l11 hdT hdP
    generalize upd H10 dt (.tup dv) = H11 at l11 ⊢
    clear gr10
    -- what is told
    refine ⟨_, rfl, _, rfl, _, rfl, G11, x, xa, _, rfl, l11.g, l11.hd, .inl (sqt_up l11.s hxa), fun G12 H12 p1 hp1 go12 => ?_⟩
    have l12 := l11.go go12
    refine ⟨_, rfl, _, rfl, G12, x, ya, _, rfl, l12.g, l12.hd, .inl (sqt_up l12.s hya), fun G13 H13 p2 hp2 go13 => ?_⟩
    have l13 := l12.go go13
    have s13 := go12.gr.gg.trans go13.gr.gg
    have hdT := sqt_up s13 hdT
    have hdP := paired_up s13 hdP
    have hp1 := hp1.up go13.gr.gg
    clear go12 go13
    refine ⟨G13, vb, .ref p1, .ref p2, .non, .non, some (ns.map V.int), some (ms.map V.int), c, rfl, l13.g, Up.up (R := rChart K) l13.s hb7, ho, .inr ⟨p1, _, rfl, hp1.up l13.g, th_ints, (fil_fw 0 hns).symm, rfl⟩, .inr ⟨p2, _, rfl, hp2.up l13.g, th_ints, (fil_fw 0 hms).symm, rfl⟩, fun h => absurd rfl h, fun _ h => absurd rfl h, fun _ _ ns' ms' h1 h2 f1 f2 => ?_⟩
    have h1 := ints_inj (Option.some.inj h1)
    have h2 := ints_inj (Option.some.inj h2)
    subst h1 h2
    refine ⟨runs, fun G14 H14 vt gr14 htold => ?_⟩
    have l14 := l13.step gr14
    have hdT := sqt_up gr14.gg hdT
    have hdP := paired_up gr14.gg hdP
    obtain ⟨ta, tv, rfl, htT, htP⟩ := htold
    clear gr14 l13 l12 l11 l10 l9
    have wlen := worked_len hdr hns hms
    have hsh := shaped_rows (workedM c ns ms)
    refine ⟨_, rfl, _, rfl, _, _, .tup (sqt_up l14.g htT) (dp_rows (paired_up l14.g htP)), .tup (sqt_up l14.g hdT) (dp_rows (paired_up l14.g hdP)), hsh, hsh, _, rfl, ?_⟩
    rw [ne_self hsh]
    have hrow : ∀ r ∈ workedM c ns ms, r.1.length ≤ 1000 ∧ r.2.1.length ≤ 1000 := fun r m => by
      have := worked_rows m
      have ll : (letters c).length ≤ c.wires.length := List.length_filter_le _ _
      omega
    refine iteF ⟨_, rfl, _, rfl, .tup (sqt_up l14.g htT) (by rw [Paired.length htP]; exact wlen) (fun v m => ?_), fun H15 e15 => ⟨_, rfl, iteF ?_⟩⟩
    · obtain ⟨k, hk⟩ := List.getElem?_of_mem m
      obtain ⟨r, hr, hrv⟩ := paired_at htP hk
      have := hrow r (List.mem_of_getElem? hr)
      exact tup_row3 (Up.up (R := rRow3 K) l14.g hrv) this.1 this.2
    have l15 := l14.same e15
    -- the total
    refine ⟨(by show 2 ≤ sizeLine; decide), fun tt htt => ?_⟩
    have l16 := l15.seal (o := .tup [.int 0, .int 1]) htt
    have ht0 : rRt K (upd G14 tt (.tup [.int 0, .int 1])) (.ref tt) (0, 1) := ⟨tt, _, _, rfl, .of upd_at, rfl, rfl⟩
    have s16 := same_new (l15.g.free htt) (o := .tup [.int 0, .int 1])
    obtain ⟨N, ks, N0, N216, k0, ksum, kshare⟩ := drawn_shares hdr hns hms
    have klen : ks.length = (workedM c ns ms).length := by
      have := congrArg List.length kshare
      rw [List.length_map, List.length_map] at this
      exact this.symm
    have ht0 : rRt K (upd G14 tt (.tup [.int 0, .int 1])) (.ref tt) (nm (ks.take 0).sum N) := by
      rw [show (ks.take 0).sum = 0 from rfl, nm_zero N0]
      exact ht0
    have l16' : Lw K x G14 (upd G14 tt (.tup [.int 0, .int 1])) (upd H15 tt (.tup [.int 0, .int 1])) := ⟨s16, l16.g, l16.hd⟩
    refine ⟨_, rfl, dt, dv, rfl, fr_seq (.inr hdT) (fun i σ H' => ∃ G' tv, Lw K x G14 G' H' ∧ rRt K G' tv (nm (ks.take i).sum N) ∧ ∃ r11 r13 r14 r15 r16 r17 r18 r19 r20 r21 r22 r23, σ = [some (.ref a), some (.ref x), some (.ref ca), some vb, some (.ref nl), some (.ref pl'), some (.int start), some (.ref xa), some (.int (0 + (j : Nat))), some (.ref ya), some (.ref dt), r11, some tv, r13, r14, r15, r16, r17, r18, r19, r20, r21, r22, r23])
      ⟨_, _, l16', ht0, _, _, _, _, _, _, _, _, _, _, _, _, rfl⟩ (fun i σ H' ⟨_, _, h, _⟩ => h.s.trans h.g) (fun i v σ H17 hv ⟨G17, totv, l17, htot, r11, r13, r14, r15, r16, r17, r18, r19, r20, r21, r22, r23, es⟩ => ?_) (fun σ H17 ⟨G17, totv, l17, htot, r11, r13, r14, r15, r16, r17, r18, r19, r20, r21, r22, r23, es⟩ => ?_)⟩
    · subst es
      have hi := (List.getElem?_eq_some_iff.1 hv).1
      obtain ⟨r, hr, hrv⟩ := paired_at hdP hv
      have hrm := List.mem_of_getElem? hr
      obtain ⟨ra, _, sv, shv, rfl, hra, ⟨fa, fu, rfl, hfa, hfP⟩, hsv, hshv⟩ := hrv
      have hfP := paired_ints hfP
      subst hfP
      obtain ⟨k, hk, hkr⟩ : ∃ k, ks[i]? = some k ∧ r.2.2 = nm k N := by
        have h := congrArg (fun l => l[i]?) kshare
        simp only [List.getElem?_map, hr] at h
        obtain ⟨k, h1, h2⟩ := Option.map_eq_some_iff.1 h.symm
        exact ⟨k, h1, h2.symm⟩
      have p1 := sum_part ks i k0
      have p2 := sum_part ks (i + 1) k0
      have kk0 := k0 k (List.mem_of_getElem? hk)
      rw [take_snoc hk, List.sum_append, List.sum_singleton] at p2
      refine g3_at (sqt_up (l17.s.trans l17.g) hra) ?_
      rw [hkr] at hshv
      refine ⟨_, rfl, _, rfl, _, _, _, _, rfl, Up.up l17.g htot, Up.up (l17.s.trans l17.g) hshv, sms_nmN N0 N216 p1.1 (by omega), sms_nmN N0 N216 kk0 (by omega), fun pt hpt => ?_⟩
      have l18 := l17.seal (o := .tup [.int (pl (nm (ks.take i).sum N) (nm k N)).1, .int (pl (nm (ks.take i).sum N) (nm k N)).2]) hpt
      have htot : rRt K (upd G17 pt (.tup [.int (pl (nm (ks.take i).sum N) (nm k N)).1, .int (pl (nm (ks.take i).sum N) (nm k N)).2])) (.ref pt) (nm (ks.take (i + 1)).sum N) := by
        rw [take_snoc hk, List.sum_append, List.sum_singleton, ← pl_nm N0]
        exact rrt_new
      generalize upd G17 pt (.tup [.int (pl (nm (ks.take i).sum N) (nm k N)).1, .int (pl (nm (ks.take i).sum N) (nm k N)).2]) = G18 at l18 htot
      generalize upd H17 pt (.tup [.int (pl (nm (ks.take i).sum N) (nm k N)).1, .int (pl (nm (ks.take i).sum N) (nm k N)).2]) = H18 at l18 ⊢
      refine ⟨_, rfl, rfl, _, rfl, ?_⟩
      refine ite2 (fun zj => ?_) (fun zj => ?_)
      · refine ⟨_, rfl, _, rfl, G18, x, nl, _, names c.wires, 3, rfl, l18.g, l18.hd, (l14.s.trans l18.s).seq hnl7, strs_paired _, by rw [names_len]; omega, by decide, by decide, fun Gn Hn zl zs rest hperm hzlen0 grn hdn hzl0 => ?_⟩
        have ln := l18.hand grn hdn
        have gn := grn.gg
        obtain ⟨zla, zlv, hze, hzl, hzlP⟩ := hzl0
        have hze := V.ref.inj hze
        subst hze
        have hzlP := paired_strs hzlP
        subst hzlP
        have hzin : ∀ z ∈ zs, z ∈ names c.wires := fun z m => hperm.mem_iff.1 (List.mem_append_left _ m)
        have hzlen : zs.length ≤ 100 := by
          have := hperm.length_eq
          rw [List.length_append, names_len] at this
          omega
        clear grn
        refine ⟨_, rfl, _, rfl, _, rfl, Gn, vb, fa, zl, c, r.1, zs, rfl, ln.g, Up.up (R := rChart K) (l14.s.trans ln.s) hb7, ho, sqt_up ln.s hfa, (worked_rows hrm).1, hzl, hzlen, fun z m => ?_, fun Gp Hp' pa gpa hpa => ?_⟩
        · obtain ⟨k, hk⟩ := List.getElem?_of_mem (hzin z m)
          have hkl := (List.getElem?_eq_some_iff.1 hk).1
          rw [names_len] at hkl
          have hn : ∃ n, r.1[k]? = some n := ⟨r.1[k]'(by rw [(worked_rows hrm).1]; exact hkl), List.getElem?_eq_getElem _⟩
          obtain ⟨n, hn⟩ := hn
          have := zip_get (d := []) ho.wires.2 hk hn
          show (getS (zipD c.wires r.1) z).isSome = true
          unfold zipD
          rw [this]
          rfl
        have lp := ln.step gpa
        refine ⟨_, rfl, zl, _, rfl, .inl ⟨(gpa.gg.trans lp.g).seq hzl, ?_⟩⟩
        refine lcM (K := K) (S := rInt) walk_list (zs.map fun z => (getS (zipD c.wires r.1) z).getD 0) (by rw [List.length_map, List.length_map]) (by rw [List.length_map]; omega) lp.g (fun H' e => (gpa.gg.trans e).seq hzl) (fun jj x' Hb Hb' Gb y Q' hy grb ⟨e, hx'⟩ k => ?_) (fun Gq Hq tl tlv grq htl htlP hnq => ?_) gName_mono
        · subst e
          obtain ⟨z, hz, rfl⟩ := at_map hx'
          obtain ⟨k', hk⟩ := List.getElem?_of_mem (hzin z (List.mem_of_getElem? hz))
          have hkl := (List.getElem?_eq_some_iff.1 hk).1
          rw [names_len] at hkl
          obtain ⟨n, hn⟩ : ∃ n, r.1[k']? = some n := ⟨r.1[k']'(by rw [(worked_rows hrm).1]; exact hkl), List.getElem?_eq_getElem _⟩
          have hzg := zip_get (d := []) ho.wires.2 hk hn
          have hat : atI (r.1.map V.int) (k' : Int) = some (.int n) := atI_nat (by rw [List.getElem?_map, hn]; rfl)
          have sB := (l14.s.trans ln.s).trans (gpa.gg.trans grb.to)
          refine ⟨rfl, _, rfl, _, rfl, .inl ⟨rfl, _, sB.seq hnl7⟩, _, rfl, nl, _, .str z, k', .str z, rfl, rfl, sB.seq hnl7, rfl, flat_strs _, by rw [List.getElem?_map, hk]; rfl, by show (z == z) = true; simp, fun m z' hm hz' => ?_, _, _, _, _, rfl, rfl, sqt_up ((ln.s.trans gpa.gg).trans grb.to) hfa, hat, k _ _ _ (.refl grb.gh) ?_⟩
          · obtain ⟨z2, hz2, rfl⟩ := at_map hz'
            show (z2 == z) = false
            have : z2 ≠ z := fun e => by
              subst e
              obtain ⟨a1, a2⟩ := List.getElem?_eq_some_iff.1 hz2
              obtain ⟨a3, a4⟩ := List.getElem?_eq_some_iff.1 hk
              have := (List.getElem_inj ho.wires.2).1 (a2.trans a4.symm)
              omega
            simp [this]
          · rw [List.getElem?_map, hz] at hy
            have hy : (getS (zipD c.wires r.1) z).getD 0 = y := Option.some.inj hy
            unfold zipD at hy
            rw [hzg] at hy
            rw [← hy]
            rfl
        have htlP := paired_ints htlP
        subst htlP
        have lq := lp.step grq
        refine ⟨_, _, rfl, .inl ⟨lq.g.seq htl, fun pb hpb => ?_⟩⟩
        have lr := lq.seal (o := .tup ((zs.map fun z => (getS (zipD c.wires r.1) z).getD 0).map V.int)) hpb
        refine ⟨encRow (zs.map fun z => (getS (zipD c.wires r.1) z).getD 0), encRow (zs.map fun z => (getS (zipD c.wires r.1) z).getD 0), .tup (sqt_up ((grq.gg.trans (same_new (lq.g.free hpb))).trans lr.g) hpa) (dp_ints _), .tup (.of upd_at) (dp_ints _), shaped_row _, shaped_row _, _, rfl, ?_⟩
        rw [ne_self (shaped_row _)]
        refine iteF ⟨_, _, lr, Up.up (R := rRt K) (((gn.trans gpa.gg).trans grq.gg).trans (same_new (lq.g.free hpb))) htot, _, _, _, _, _, _, _, _, _, _, _, _, rfl⟩
      · refine ⟨_, rfl, _, _, _, _, rfl, rfl, ((l14.s.trans l18.s).trans l18.g).seq hcaS, rfl, _, _, rfl, .inl (((l14.s.trans l18.s).trans l18.g).seq htoS), fun zl hzl0 => ?_⟩
        have ln := l18.seal (o := .lst (c.outs.map V.str)) hzl0
        have gn := same_new (l18.g.free hzl0) (o := .lst (c.outs.map V.str))
        have hzl : SqL K (upd G18 zl (.lst (c.outs.map V.str))) zl (c.outs.map V.str) := .of upd_at
        generalize upd G18 zl (.lst (c.outs.map V.str)) = Gn at ln gn hzl
        generalize upd H18 zl (.lst (c.outs.map V.str)) = Hn at ln ⊢
        obtain ⟨zs, hzs⟩ : ∃ zs, zs = c.outs := ⟨_, rfl⟩
        rw [← hzs] at hzl
        have hzin : ∀ z ∈ zs, z ∈ names c.wires := by rw [hzs]; exact ho.outsIn
        have hzlen : zs.length ≤ 100 := by rw [hzs]; have := ho.outs6; omega
        refine ⟨_, rfl, _, rfl, _, rfl, Gn, vb, fa, zl, c, r.1, zs, rfl, ln.g, Up.up (R := rChart K) (l14.s.trans ln.s) hb7, ho, sqt_up ln.s hfa, (worked_rows hrm).1, hzl, hzlen, fun z m => ?_, fun Gp Hp' pa gpa hpa => ?_⟩
        · obtain ⟨k, hk⟩ := List.getElem?_of_mem (hzin z m)
          have hkl := (List.getElem?_eq_some_iff.1 hk).1
          rw [names_len] at hkl
          have hn : ∃ n, r.1[k]? = some n := ⟨r.1[k]'(by rw [(worked_rows hrm).1]; exact hkl), List.getElem?_eq_getElem _⟩
          obtain ⟨n, hn⟩ := hn
          have := zip_get (d := []) ho.wires.2 hk hn
          show (getS (zipD c.wires r.1) z).isSome = true
          unfold zipD
          rw [this]
          rfl
        have lp := ln.step gpa
        refine ⟨_, rfl, zl, _, rfl, .inl ⟨(gpa.gg.trans lp.g).seq hzl, ?_⟩⟩
        refine lcM (K := K) (S := rInt) walk_list (zs.map fun z => (getS (zipD c.wires r.1) z).getD 0) (by rw [List.length_map, List.length_map]) (by rw [List.length_map]; omega) lp.g (fun H' e => (gpa.gg.trans e).seq hzl) (fun jj x' Hb Hb' Gb y Q' hy grb ⟨e, hx'⟩ k => ?_) (fun Gq Hq tl tlv grq htl htlP hnq => ?_) gName_mono
        · subst e
          obtain ⟨z, hz, rfl⟩ := at_map hx'
          obtain ⟨k', hk⟩ := List.getElem?_of_mem (hzin z (List.mem_of_getElem? hz))
          have hkl := (List.getElem?_eq_some_iff.1 hk).1
          rw [names_len] at hkl
          obtain ⟨n, hn⟩ : ∃ n, r.1[k']? = some n := ⟨r.1[k']'(by rw [(worked_rows hrm).1]; exact hkl), List.getElem?_eq_getElem _⟩
          have hzg := zip_get (d := []) ho.wires.2 hk hn
          have hat : atI (r.1.map V.int) (k' : Int) = some (.int n) := atI_nat (by rw [List.getElem?_map, hn]; rfl)
          have sB := (l14.s.trans ln.s).trans (gpa.gg.trans grb.to)
          refine ⟨rfl, _, rfl, _, rfl, .inl ⟨rfl, _, sB.seq hnl7⟩, _, rfl, nl, _, .str z, k', .str z, rfl, rfl, sB.seq hnl7, rfl, flat_strs _, by rw [List.getElem?_map, hk]; rfl, by show (z == z) = true; simp, fun m z' hm hz' => ?_, _, _, _, _, rfl, rfl, sqt_up ((ln.s.trans gpa.gg).trans grb.to) hfa, hat, k _ _ _ (.refl grb.gh) ?_⟩
          · obtain ⟨z2, hz2, rfl⟩ := at_map hz'
            show (z2 == z) = false
            have : z2 ≠ z := fun e => by
              subst e
              obtain ⟨a1, a2⟩ := List.getElem?_eq_some_iff.1 hz2
              obtain ⟨a3, a4⟩ := List.getElem?_eq_some_iff.1 hk
              have := (List.getElem_inj ho.wires.2).1 (a2.trans a4.symm)
              omega
            simp [this]
          · rw [List.getElem?_map, hz] at hy
            have hy : (getS (zipD c.wires r.1) z).getD 0 = y := Option.some.inj hy
            unfold zipD at hy
            rw [hzg] at hy
            rw [← hy]
            rfl
        have htlP := paired_ints htlP
        subst htlP
        have lq := lp.step grq
        refine ⟨_, _, rfl, .inl ⟨lq.g.seq htl, fun pb hpb => ?_⟩⟩
        have lr := lq.seal (o := .tup ((zs.map fun z => (getS (zipD c.wires r.1) z).getD 0).map V.int)) hpb
        refine ⟨encRow (zs.map fun z => (getS (zipD c.wires r.1) z).getD 0), encRow (zs.map fun z => (getS (zipD c.wires r.1) z).getD 0), .tup (sqt_up ((grq.gg.trans (same_new (lq.g.free hpb))).trans lr.g) hpa) (dp_ints _), .tup (.of upd_at) (dp_ints _), shaped_row _, shaped_row _, _, rfl, ?_⟩
        rw [ne_self (shaped_row _)]
        refine iteF ⟨_, _, lr, Up.up (R := rRt K) (((gn.trans gpa.gg).trans grq.gg).trans (same_new (lq.g.free hpb))) htot, _, _, _, _, _, _, _, _, _, _, _, _, rfl⟩
    · subst es
      rw [Paired.length hdP, ← klen, List.take_length, ksum, nm_one N0] at htot
      obtain ⟨ta2, _, _, rfl, htt2, rfl, rfl⟩ := htot
      refine ⟨_, rfl, (by show 2 ≤ sizeLine; decide), fun pz hpz => ?_⟩
      have l19 := l17.same (same_new hpz (o := .tup [.int 1, .int 1]))
      refine ⟨_, _, .tup (sqt_up l19.g htt2) (.cons (.int _) (.cons (.int _) .nil)), .tup (.of upd_at) (.cons (.int _) (.cons (.int _) .nil)), rfl, rfl, _, rfl, iteF ?_⟩
      exact ⟨G17, ⟨l14.s.trans l17.s, l19.g, l19.hd⟩, _, _, _, _, _, _, _, _, _, _, _, _, _, _, _, _, rfl⟩
  · subst es
    -- the first ins
    refine ⟨_, rfl, G8, _, c, rfl, l8.g, Up.up (R := rLC K) l8.s hc7, ho, fun G9 H9 v9 gr9 h9 => ?_⟩
    obtain ⟨wi, wiv, rfl, hwi, hwiP⟩ := h9
    have l9 := l8.step gr9
    have li6 : (insOf c).length ≤ 6 := Nat.le_trans (List.length_filter_le _ _) w6
    have ll6 : (letters c).length ≤ 6 := Nat.le_trans (List.length_filter_le _ _) w6
    refine ⟨G9, wi, wiv, insOf c, rfl, l9.g, hwi, hwiP, by omega, fun G10 H10 p10 gr10 hp10 => ?_⟩
    have l10 := l9.step gr10
    refine ⟨p10, _, 0, rfl, l10.g.seq hp10, by rw [sizes_len]; exact li6, hinS, Int.le_refl _, fun H11' xt e11 hxt => ?_⟩
    have l11 := (l10.same e11).seal (o := .tup ((fillI (sizes (insOf c)) 0).map V.int)) hxt
    have hxT : SqT K (upd G10 xt (.tup ((fillI (sizes (insOf c)) 0).map V.int))) xt ((fillI (sizes (insOf c)) 0).map V.int) := .of upd_at
    generalize upd G10 xt (.tup ((fillI (sizes (insOf c)) 0).map V.int)) = G11 at l11 hxT
    generalize upd H11' xt (.tup ((fillI (sizes (insOf c)) 0).map V.int)) = H11 at l11 ⊢
    clear gr9 gr10 l9 l10
    have s11 := l11.s
    have l11 : Lw K x G11 G11 H11 := ⟨.refl _, l11.g, l11.hd⟩
    have hxl : (sizes (insOf c)).length = (fillI (sizes (insOf c)) 0).length := (fillI_len _ _).symm
    have hstat : ∃ yv, pv[start.toNat]? = some yv := ⟨pv[start.toNat]'(by omega), List.getElem?_eq_getElem (by omega)⟩
    obtain ⟨yv, hyv⟩ := hstat
    have hsat : atI pv start = some yv := by
      have := atI_nat hyv
      rwa [Int.toNat_of_nonneg s0] at this
    obtain ⟨ya, ys, rfl, hya, hys⟩ := pfil _ yv hyv
    have hyl : (sizes (letters c)).length = ys.length := (Paired.length hys).symm
    refine ⟨3, rfl, by decide, by decide, fr_range (n := 3) (fun j σ H' => ∃ G', Lw K x G11 G' H' ∧ ∃ r8 r9 r10 r11 r12 r13 r14 r15 r16 r17 r18 r19 r20 r21 r22 r23, σ = [some (.ref a), some (.ref x), some (.ref ca), some vb, some (.ref nl), some (.ref pl'), some (.int start), some (.ref xt), r8, r9, r10, r11, r12, r13, r14, r15, r16, r17, r18, r19, r20, r21, r22, r23])
      ⟨G11, l11, _, _, _, _, _, _, _, _, _, _, _, _, _, _, _, _, rfl⟩ (fun j σ H12 hj ⟨G12, l12, r8, r9, r10, r11, r12, r13, r14, r15, r16, r17, r18, r19, r20, r21, r22, r23, es⟩ => ?_) (fun σ H12 ⟨G12, l12, r8, r9, r10, r11, r12, r13, r14, r15, r16, r17, r18, r19, r20, r21, r22, r23, es⟩ => ?_)⟩
    · subst es
      -- the spoilt row
      refine ⟨_, rfl, _, rfl, G12, _, c, rfl, l12.g, Up.up (R := rLC K) (s11.trans l12.s) hc7, ho, fun G13 H13 v13 gr13 h13 => ?_⟩
      obtain ⟨w1, w1v, rfl, hw1, hw1P⟩ := h13
      have l13 := l12.step gr13
      refine ⟨G13, w1, w1v, insOf c, rfl, l13.g, hw1, hw1P, by omega, fun G14 H14 z1 gr14 hz1 => ?_⟩
      have l14 := l13.step gr14
      refine ⟨_, rfl, G14, x, z1, xt, _, _, rfl, l14.g, l14.hd, hz1, sqt_up l14.s hxT, hxl, by rw [← hxl, sizes_len]; omega, fun G15 H15 rowv rx ox hfr go15 => ?_⟩
      have l15 := l14.go go15
      clear gr13 gr14 go15 l12 l13 l14
      -- the spoilt post
      refine ⟨_, rfl, _, rfl, G15, _, c, rfl, l15.g, Up.up (R := rLC K) (s11.trans l15.s) hc7, ho, fun G16 H16 v16 gr16 h16 => ?_⟩
      obtain ⟨w2, w2v, rfl, hw2, hw2P⟩ := h16
      have l16 := l15.step gr16
      have hfr := hfr.up gr16.gg
      refine ⟨G16, w2, w2v, letters c, rfl, l16.g, hw2, hw2P, by omega, fun G17 H17 z2 gr17 hz2 => ?_⟩
      have l17 := l16.step gr17
      have hfr := hfr.up gr17.gg
      refine ⟨_, rfl, _, rfl, _, _, _, _, rfl, rfl, ((s11.trans l17.s).trans l17.g).seq hpl7, hsat, G17, x, z2, ya, _, _, rfl, l17.g, l17.hd, hz2, sqt_up (s11.trans l17.s) hya, hyl, by rw [← hyl, sizes_len]; omega, fun G18 H18 postv ry oy hfp go18 => ?_⟩
      have l18 := l17.go go18
      have hfr := hfr.up go18.gr.gg
      clear gr16 gr17 go18 l15 l16 l17
      -- the first wrong places
      refine ⟨_, rfl, G18, _, c, rfl, l18.g, Up.up (R := rLC K) (s11.trans l18.s) hc7, ho, fun G19 H19 v19 gr19 h19 => ?_⟩
      obtain ⟨w3, w3v, rfl, hw3, hw3P⟩ := h19
      have l19 := l18.step gr19
      refine ⟨G19, w3, w3v, insOf c, rfl, l19.g, hw3, hw3P, by omega, fun G20 H20 z3 gr20 hz3 => ?_⟩
      have l20 := l19.step gr20
      have hfr := (hfr.up gr19.gg).up gr20.gg
      have hfp := (hfp.up gr19.gg).up gr20.gg
      refine ⟨_, rfl, z3, _, rowv, rx, ox, rfl, l20.g.seq hz3, by rw [sizes_len]; omega, hfr.up l20.g, fun H21 e21 => ?_⟩
      have l21 := l20.same e21
      refine ⟨_, rfl, G20, _, c, rfl, l21.g, Up.up (R := rLC K) (s11.trans l21.s) hc7, ho, fun G22 H22 v22 gr22 h22 => ?_⟩
      obtain ⟨w4, w4v, rfl, hw4, hw4P⟩ := h22
      have l22 := l21.step gr22
      refine ⟨G22, w4, w4v, letters c, rfl, l22.g, hw4, hw4P, by omega, fun G23 H23 z4 gr23 hz4 => ?_⟩
      have l23 := l22.step gr23
      have hfr := (hfr.up gr22.gg).up gr23.gg
      have hfp := (hfp.up gr22.gg).up gr23.gg
      refine ⟨_, rfl, z4, _, postv, ry, oy, rfl, l23.g.seq hz4, by rw [sizes_len]; omega, hfp.up l23.g, fun H24 e24 => ?_⟩
      have l24 := l23.same e24
      have s24 := l24.s
      have l24 : Lw K x G23 G23 H24 := ⟨.refl _, l24.g, l24.hd⟩
      have s11 := s11.trans s24
      clear gr19 gr20 gr22 gr23 l18 l19 l20 l21 l22 l23
      have up1 : ∀ {G' H' : Hp}, Lw K x G23 G' H' → Same G23 H' := fun l => l.s.trans l.g
      have back : ∀ {G' H' : Hp}, Lw K x G23 G' H' → Lw K x G11 G' H' := fun l => ⟨s24.trans l.s, l.g, l.hd⟩
      refine ⟨_, rfl, rfl, _, rfl, ?_⟩
      rcases fw_int hfr with rfl | ⟨i1, rfl⟩
      rotate_left
      · refine iteT ⟨_, rfl, (by show 2 ≤ sizeLine; decide), fun dl hdl => ?_⟩
        have l25 := l24.seal (o := .lst [.str "ins", .int i1]) hdl
        have hdv : upd G23 dl (.lst [.str "ins", .int i1]) dl = some (.lst [.str "ins", .int i1]) := upd_at
        generalize upd G23 dl (.lst [.str "ins", .int i1]) = G25 at l25 hdv
        generalize upd H24 dl (.lst [.str "ins", .int i1]) = H25 at l25 ⊢
        refine ⟨_, rfl, _, rfl, _, rfl, G25, vb, rowv, postv, .int i1, ry, ox, oy, c, rfl, l25.g, Up.up (R := rChart K) (s11.trans l25.s) hb7, ho, hfr.up (up1 l25), hfp.up (up1 l25), fun _ H' p e hp => ?_, fun h => (by cases h), fun h => (by cases h)⟩
        have l26 := l25.same e
        exact ⟨_, rfl, .list [.str "ins", .int i1], .list [.str "ins", .int i1], .lst (.of hp) (.cons (.str _) (.cons (.int _) .nil)), .lst (.of (l26.g _ _ hdv)) (.cons (.str _) (.cons (.int _) .nil)), (shaped_pair i1 (show PyData.strOk "ins" = true by decide +kernel)), (shaped_pair i1 (show PyData.strOk "ins" = true by decide +kernel)), _, rfl, by
          rw [ne_self (shaped_pair i1 (show PyData.strOk "ins" = true by decide +kernel))]
          exact iteF ⟨_, back l26, _, _, _, _, _, _, _, _, _, _, _, _, _, _, _, _, rfl⟩⟩
      refine iteF ⟨_, rfl, rfl, _, rfl, ?_⟩
      rcases fw_int hfp with rfl | ⟨i2, rfl⟩
      rotate_left
      · refine iteT ⟨_, rfl, (by show 2 ≤ sizeLine; decide), fun dl hdl => ?_⟩
        have l25 := l24.seal (o := .lst [.str "post", .int i2]) hdl
        have hdv : upd G23 dl (.lst [.str "post", .int i2]) dl = some (.lst [.str "post", .int i2]) := upd_at
        generalize upd G23 dl (.lst [.str "post", .int i2]) = G25 at l25 hdv
        generalize upd H24 dl (.lst [.str "post", .int i2]) = H25 at l25 ⊢
        refine ⟨_, rfl, _, rfl, _, rfl, G25, vb, rowv, postv, .non, .int i2, ox, oy, c, rfl, l25.g, Up.up (R := rChart K) (s11.trans l25.s) hb7, ho, hfr.up (up1 l25), hfp.up (up1 l25), fun h => absurd rfl h, fun _ _ H' p e hp => ?_, fun _ h => (by cases h)⟩
        have l26 := l25.same e
        exact ⟨_, rfl, .list [.str "post", .int i2], .list [.str "post", .int i2], .lst (.of hp) (.cons (.str _) (.cons (.int _) .nil)), .lst (.of (l26.g _ _ hdv)) (.cons (.str _) (.cons (.int _) .nil)), (shaped_pair i2 (show PyData.strOk "post" = true by decide +kernel)), (shaped_pair i2 (show PyData.strOk "post" = true by decide +kernel)), _, rfl, by
          rw [ne_self (shaped_pair i2 (show PyData.strOk "post" = true by decide +kernel))]
          exact iteF ⟨_, back l26, _, _, _, _, _, _, _, _, _, _, _, _, _, _, _, _, rfl⟩⟩
      refine iteF ?_
      obtain ⟨rb, ns, hrb, hsr, hns, hor⟩ := fw_row hfr
      obtain ⟨pb, ms, hpb, hsp, hms, hop⟩ := fw_row hfp
      have hrowv := hrb
      have hpostv := hpb
      subst hrb hpb
      have runs := drawn_runs hdr hns hms
      refine ⟨_, rfl, ?_⟩
      rcases hsr with hsr | hsr
      · refine ⟨_, rfl, rb, _, rfl, .inl ⟨l24.g.seq hsr, fun q1 hq1 => ?_⟩⟩
        have lq1 := l24.seal (o := .tup (ns.map V.int)) hq1
        have hT1 : SqT K (upd G23 q1 (.tup (ns.map V.int))) q1 (ns.map V.int) := .of upd_at
        generalize upd G23 q1 (.tup (ns.map V.int)) = Gx at lq1 hT1
        generalize upd H24 q1 (.tup (ns.map V.int)) = Hx at lq1 ⊢
        rcases hsp with hsp | hsp
        · refine ⟨_, rfl, pb, _, rfl, .inl ⟨(lq1.s.trans lq1.g).seq (hsp), fun q2 hq2 => ?_⟩⟩
          have lq2 := lq1.seal (o := .tup (ms.map V.int)) hq2
          have hT2 : SqT K (upd Gx q2 (.tup (ms.map V.int))) q2 (ms.map V.int) := .of upd_at
          have hT1 := sqt_up (same_new (lq1.g.free hq2) (o := .tup (ms.map V.int))) hT1
          generalize upd Gx q2 (.tup (ms.map V.int)) = Gy at lq2 hT2 hT1
          generalize upd Hx q2 (.tup (ms.map V.int)) = Hy at lq2 ⊢
          refine ⟨Gy, _, q1, q2, c, ns, ms, rfl, lq2.g, Up.up (R := rLC K) (s11.trans lq2.s) hc7, ho, hT1, hT2, hns, hms, runs, fun Ga Ha vd gra hdue => ?_⟩
          obtain ⟨dl, dv, rfl, hdl, hdP⟩ := hdue
          have la := lq2.step gra
          refine ⟨dl, dv, rfl, .inl ⟨gra.gh.seq hdl, fun dt hdt => ?_⟩⟩
          have lb := la.seal (o := .tup dv) hdt
          have hdT : SqT K (upd Ga dt (.tup dv)) dt dv := .of upd_at
          have hdP := paired_up (same_new (la.g.free hdt) (o := .tup dv)) hdP
          generalize upd Ga dt (.tup dv) = Gb at lb hdT hdP
          generalize upd Ha dt (.tup dv) = Hb at lb ⊢
          refine ⟨_, rfl, _, rfl, _, rfl, Gb, vb, _, _, .non, .non, _, _, c, rfl, lb.g, Up.up (R := rChart K) (s11.trans lb.s) hb7, ho, hfr.up (up1 lb), hfp.up (up1 lb), fun h => absurd rfl h, fun _ h => absurd rfl h, fun _ _ ns' ms' h1 h2 f1 f2 => ?_⟩
          rw [hor] at h1
          rw [hop] at h2
          have h1 := ints_inj (Option.some.inj h1)
          have h2 := ints_inj (Option.some.inj h2)
          subst h1 h2
          refine ⟨runs, fun Gz Hz vt grz htold => ?_⟩
          have lz := lb.step grz
          obtain ⟨ta, tv, rfl, hzT, hzP⟩ := htold
          have hdT := sqt_up grz.gg hdT
          have hdP := paired_up grz.gg hdP
          have hsh := shaped_rows (workedM c ns ms)
          refine ⟨_, rfl, _, _, .tup (sqt_up lz.g hzT) (dp_rows (paired_up lz.g hzP)), .tup (sqt_up lz.g hdT) (dp_rows (paired_up lz.g hdP)), hsh, hsh, _, rfl, ?_⟩
          rw [ne_self hsh]
          exact iteF ⟨_, back lz, _, _, _, _, _, _, _, _, _, _, _, _, _, _, _, _, rfl⟩
        · refine ⟨_, rfl, pb, _, rfl, .inr ⟨sqt_up (lq1.s.trans lq1.g) hsp, ?_⟩⟩
          refine ⟨Gx, _, q1, pb, c, ns, ms, rfl, lq1.g, Up.up (R := rLC K) (s11.trans lq1.s) hc7, ho, hT1, (sqt_up lq1.s hsp), hns, hms, runs, fun Ga Ha vd gra hdue => ?_⟩
          obtain ⟨dl, dv, rfl, hdl, hdP⟩ := hdue
          have la := lq1.step gra
          refine ⟨dl, dv, rfl, .inl ⟨gra.gh.seq hdl, fun dt hdt => ?_⟩⟩
          have lb := la.seal (o := .tup dv) hdt
          have hdT : SqT K (upd Ga dt (.tup dv)) dt dv := .of upd_at
          have hdP := paired_up (same_new (la.g.free hdt) (o := .tup dv)) hdP
          generalize upd Ga dt (.tup dv) = Gb at lb hdT hdP
          generalize upd Ha dt (.tup dv) = Hb at lb ⊢
          refine ⟨_, rfl, _, rfl, _, rfl, Gb, vb, _, _, .non, .non, _, _, c, rfl, lb.g, Up.up (R := rChart K) (s11.trans lb.s) hb7, ho, hfr.up (up1 lb), hfp.up (up1 lb), fun h => absurd rfl h, fun _ h => absurd rfl h, fun _ _ ns' ms' h1 h2 f1 f2 => ?_⟩
          rw [hor] at h1
          rw [hop] at h2
          have h1 := ints_inj (Option.some.inj h1)
          have h2 := ints_inj (Option.some.inj h2)
          subst h1 h2
          refine ⟨runs, fun Gz Hz vt grz htold => ?_⟩
          have lz := lb.step grz
          obtain ⟨ta, tv, rfl, hzT, hzP⟩ := htold
          have hdT := sqt_up grz.gg hdT
          have hdP := paired_up grz.gg hdP
          have hsh := shaped_rows (workedM c ns ms)
          refine ⟨_, rfl, _, _, .tup (sqt_up lz.g hzT) (dp_rows (paired_up lz.g hzP)), .tup (sqt_up lz.g hdT) (dp_rows (paired_up lz.g hdP)), hsh, hsh, _, rfl, ?_⟩
          rw [ne_self hsh]
          exact iteF ⟨_, back lz, _, _, _, _, _, _, _, _, _, _, _, _, _, _, _, _, rfl⟩
      · refine ⟨_, rfl, rb, _, rfl, .inr ⟨sqt_up l24.g hsr, ?_⟩⟩
        rcases hsp with hsp | hsp
        · refine ⟨_, rfl, pb, _, rfl, .inl ⟨(l24.s.trans l24.g).seq (hsp), fun q2 hq2 => ?_⟩⟩
          have lq2 := l24.seal (o := .tup (ms.map V.int)) hq2
          have hT2 : SqT K (upd G23 q2 (.tup (ms.map V.int))) q2 (ms.map V.int) := .of upd_at
          have hT1 := sqt_up (same_new (l24.g.free hq2) (o := .tup (ms.map V.int))) hsr
          generalize upd G23 q2 (.tup (ms.map V.int)) = Gy at lq2 hT2 hT1
          generalize upd H24 q2 (.tup (ms.map V.int)) = Hy at lq2 ⊢
          refine ⟨Gy, _, rb, q2, c, ns, ms, rfl, lq2.g, Up.up (R := rLC K) (s11.trans lq2.s) hc7, ho, hT1, hT2, hns, hms, runs, fun Ga Ha vd gra hdue => ?_⟩
          obtain ⟨dl, dv, rfl, hdl, hdP⟩ := hdue
          have la := lq2.step gra
          refine ⟨dl, dv, rfl, .inl ⟨gra.gh.seq hdl, fun dt hdt => ?_⟩⟩
          have lb := la.seal (o := .tup dv) hdt
          have hdT : SqT K (upd Ga dt (.tup dv)) dt dv := .of upd_at
          have hdP := paired_up (same_new (la.g.free hdt) (o := .tup dv)) hdP
          generalize upd Ga dt (.tup dv) = Gb at lb hdT hdP
          generalize upd Ha dt (.tup dv) = Hb at lb ⊢
          refine ⟨_, rfl, _, rfl, _, rfl, Gb, vb, _, _, .non, .non, _, _, c, rfl, lb.g, Up.up (R := rChart K) (s11.trans lb.s) hb7, ho, hfr.up (up1 lb), hfp.up (up1 lb), fun h => absurd rfl h, fun _ h => absurd rfl h, fun _ _ ns' ms' h1 h2 f1 f2 => ?_⟩
          rw [hor] at h1
          rw [hop] at h2
          have h1 := ints_inj (Option.some.inj h1)
          have h2 := ints_inj (Option.some.inj h2)
          subst h1 h2
          refine ⟨runs, fun Gz Hz vt grz htold => ?_⟩
          have lz := lb.step grz
          obtain ⟨ta, tv, rfl, hzT, hzP⟩ := htold
          have hdT := sqt_up grz.gg hdT
          have hdP := paired_up grz.gg hdP
          have hsh := shaped_rows (workedM c ns ms)
          refine ⟨_, rfl, _, _, .tup (sqt_up lz.g hzT) (dp_rows (paired_up lz.g hzP)), .tup (sqt_up lz.g hdT) (dp_rows (paired_up lz.g hdP)), hsh, hsh, _, rfl, ?_⟩
          rw [ne_self hsh]
          exact iteF ⟨_, back lz, _, _, _, _, _, _, _, _, _, _, _, _, _, _, _, _, rfl⟩
        · refine ⟨_, rfl, pb, _, rfl, .inr ⟨sqt_up (l24.s.trans l24.g) hsp, ?_⟩⟩
          refine ⟨G23, _, rb, pb, c, ns, ms, rfl, l24.g, Up.up (R := rLC K) (s11.trans l24.s) hc7, ho, hsr, (sqt_up l24.s hsp), hns, hms, runs, fun Ga Ha vd gra hdue => ?_⟩
          obtain ⟨dl, dv, rfl, hdl, hdP⟩ := hdue
          have la := l24.step gra
          refine ⟨dl, dv, rfl, .inl ⟨gra.gh.seq hdl, fun dt hdt => ?_⟩⟩
          have lb := la.seal (o := .tup dv) hdt
          have hdT : SqT K (upd Ga dt (.tup dv)) dt dv := .of upd_at
          have hdP := paired_up (same_new (la.g.free hdt) (o := .tup dv)) hdP
          generalize upd Ga dt (.tup dv) = Gb at lb hdT hdP
          generalize upd Ha dt (.tup dv) = Hb at lb ⊢
          refine ⟨_, rfl, _, rfl, _, rfl, Gb, vb, _, _, .non, .non, _, _, c, rfl, lb.g, Up.up (R := rChart K) (s11.trans lb.s) hb7, ho, hfr.up (up1 lb), hfp.up (up1 lb), fun h => absurd rfl h, fun _ h => absurd rfl h, fun _ _ ns' ms' h1 h2 f1 f2 => ?_⟩
          rw [hor] at h1
          rw [hop] at h2
          have h1 := ints_inj (Option.some.inj h1)
          have h2 := ints_inj (Option.some.inj h2)
          subst h1 h2
          refine ⟨runs, fun Gz Hz vt grz htold => ?_⟩
          have lz := lb.step grz
          obtain ⟨ta, tv, rfl, hzT, hzP⟩ := htold
          have hdT := sqt_up grz.gg hdT
          have hdP := paired_up grz.gg hdP
          have hsh := shaped_rows (workedM c ns ms)
          refine ⟨_, rfl, _, _, .tup (sqt_up lz.g hzT) (dp_rows (paired_up lz.g hzP)), .tup (sqt_up lz.g hdT) (dp_rows (paired_up lz.g hdP)), hsh, hsh, _, rfl, ?_⟩
          rw [ne_self hsh]
          exact iteF ⟨_, back lz, _, _, _, _, _, _, _, _, _, _, _, _, _, _, _, _, rfl⟩
    · subst es
      exact q _
end
end K6


set_option Elab.async false
set_option linter.all false
set_option maxRecDepth 100000
set_option maxHeartbeats 8000000
namespace K6
open PySem PySem.Spec PyProof.Rows L2
theorem facts {P : Program} {w : World} {K : PySem.W.Frag} {h : Heap} {mg : Str → Option Value} {f : Addr} (X : K.In h) (G : h.Ns mainGlobals mg) (hfa : mg ("law" : Str) = some (.ref f)) (c : He.SaysD fa fn K) (e : exB K = true) :
    ∃ fd : FuncData, (∀ (s : Shared) (v : Value), BindsTo s fd ⟨[v], []⟩ [("_law_script", v)]) ∧ ∀ base : Heap, K.In base → base.Ns mainGlobals mg → FnOk P w K mg base CX0 11 f fd ["_law_script"] (spLaw K) := by
  have T := tx_of X G c e
  obtain ⟨f', fd, F, hm⟩ := T.f_law
  have e := hfa.symm.trans hm
  cases e
  have b := FunD.bindsA (ps := ["_law_script"]) F fun _ _ _ _ _ _ us hl => match us, hl with | [_], _ => rfl
  exact ⟨fd, fun s v => b s [v] rfl, fun base _ _ => ok_law T F⟩
end K6
open PySem PySem.W PySem.Calls PyProof.Rows
theorem PySem.Challenge.cw_alreadytold_k06_whole_days_worked_one_by_holds : PySem.Challenge.rw_alreadytold_k06_whole_days_worked_one_by.Holds := by
  w_on; o_law
  refine HeadRun.head_imp (r := K6X.R) (q := view K6X.R.prog [0, 79]) (H := K6X.hk) (ob := K6X.ob) (M := 6000) (loose := K6.loose) (d := HandSHeadRun.topDef K6X.R.prog 79) (kwd := []) K6X.ob_eq K6X.run
    (by kernel_rfl) (by kernel_rfl) (by kernel_rfl) (by rfl) (by first | assumption | decide +kernel) (by decide +kernel) ⟨rfl, rfl, rfl, rfl, rfl, by decide +kernel⟩ ?hw ?hc
  case hw => w_witness2
  case hc =>
    refine L2.walk_ofE (l := PySem.Challenge.rw_alreadytold_k06_whole_days_worked_one_by) (n := 63) (k := 11) (x := "_law_script") (CX := L2.CX0) rfl (by decide) (by kernel_rfl) ⟨rfl, by decide, by decide⟩ ?F (fun _ _ _ _ z => z)
    intro w mg fa h Y G hmg0
    obtain ⟨K, KX, c⟩ := Y
    have hmg : mg ("law" : PySem.Str) = some (.ref fa) := by
      have e : (HandSHeadRun.topDef K6X.R.prog 79).name = ("law" : PySem.Str) := by kernel_rfl
      rw [← e]
      exact hmg0
    obtain ⟨fd, hb, hF⟩ := K6.facts (P := (PySem.Challenge.rw_alreadytold_k06_whole_days_worked_one_by).prog) (w := w) KX G hmg c.t.d c.more
    exact ⟨K, fd, K6.spLaw K, KX, hb, fun H a ns hl _ hS => ⟨a, ns, rfl, hS, Nat.le_trans hl (by decide), fun _ => rfl⟩, hF⟩

