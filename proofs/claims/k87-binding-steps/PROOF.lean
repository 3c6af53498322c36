import PyProof.Rows.All
import Wide.All
import OpenK.AllK
import Wide.FinOn
import HandS.ForMost
import HandS.Exc
import HandS.TryOnly
import HandS.ExcOwn
import HandS.Words
import HandS.WordsExc
import HandS.CallSlots
import HandS.Nested
import HandS.Star
import HandS.Lambda
import KE.GoesEnum
import HandS.Defaults
import HandS.List
import HandS.IsInst
import HandS.TupMul
import HandS.Conv
import HandS.ExcIs
import HandS.Small
import HandS.Head0
import HandS.HeadHook1
import PyProof.ExcBaseAll.ValueError
import HandS.HeadHook4
import KE.KDictCopyH
import HandS.HeadWalk
import HandS.Head2
import HandS.HeadEnd
import PySem.Challenge.RW_onestory_k87_binding_steps
set_option Elab.async false
set_option linter.all false
set_option maxRecDepth 100000
set_option maxHeartbeats 0
namespace On
open PySem PySem.Spec PyProof.Rows L2
structure LamF where
  qual : Str
  params : Arguments
  body : Expr
  scope : Scope
structure Gs where
  adr : Str → Addr
  T : List (Addr × Str)
  fn : Nat → LamF
instance : CoeFun Gs fun _ => Str → Addr := ⟨Gs.adr⟩
inductive TyN where
  | b (n : String)
  | o (c : Str)
deriving DecidableEq
def TyN.val (G : Gs) : TyN → Value
  | .b n => .type n
  | .o c => .ref (G c)
def pBody : Stmt → List Stmt
  | .FunctionDef _ _ b _ _ _ _ _ _ _ => b
  | .ClassDef _ _ _ b _ _ _ _ _ _ _ => b
  | _ => []
def pIter : Stmt → Expr
  | .For _ i _ _ _ => i
  | _ => .Constant .none 0 ⟨0, 0, 0, 0⟩
def pElts : Expr → List Expr
  | .Tuple l _ _ => l
  | _ => []
def pLam (q : Str) : Expr → LamF
  | .Lambda a b s _ => ⟨q, a, b, s⟩
  | e => ⟨q, default, e, default⟩
def gsOf (K : PySem.W.Frag) (tf : List He.Defn) (fns : List LamF) : Gs := ⟨He.ga K, tf.map fun p => ((He.cT K p).2, p.1 ++ ".<locals>.<lambda>"), fun n => fns.getD n ⟨"", default, default, default⟩⟩
def insB (K : PySem.W.Frag) (c : Str) : Bool := He.eqO (PySem.W.findIn K (.ref (He.ga K c)) "__class__") (some (some (.builtin "object.__class__"))) && (decide (PySem.W.specialIn K (.builtin "object.__class__") "__get__" = some (some (.builtin "getset_descriptor.__get__"))) &&
  (decide (PySem.W.takesIn K (.builtin "object.__class__") = some true) && decide (PySem.W.mroIn K (He.ga K c) (.type "object") = some true)))
def excB (K : PySem.W.Frag) (c : Str) : Bool := He.eqO (PySem.W.findIn K (.ref (He.ga K c)) "__getattribute__") (some (some (.builtin "BaseException.__getattribute__"))) && (He.eqO (PySem.W.findIn K (.ref (He.ga K c)) "__getattr__") (some none) && (PySem.W.hasDictIn K (He.ga K c) && insB K c))
def oneB (G : Gs) (K : PySem.W.Frag) (p : TyN × TyN × Bool) : Bool := decide (PySem.W.kitOne K (p.1.val G) (p.2.1.val G) = some p.2.2)
def noLst (K : PySem.W.Frag) : Bool := K.all fun p => !decide (p.2.cls = .type "list")
def exB (cs es : List Str) (tab : List (TyN × TyN × Bool)) (tf : List He.Defn) (fns : List LamF) (K : PySem.W.Frag) : Bool :=
  cs.all (insB K) && (es.all (excB K) && (tab.all (oneB (gsOf K tf fns) K) && (decide (tf.map fun p => (He.cT K p).2).Nodup && noLst K)))
def csL : List Str := ["Table"]
def esL : List Str := ["BadNotes", "BadSending", "BadSends", "BadTable", "BadTakes", "NotFine", "StoryError"]
def tabL : List (TyN × TyN × Bool) := [(.b "NoneType", .b "tuple", false), (.b "NoneType", .b "list", false), (.b "NoneType", .b "dict", false), (.b "NoneType", .b "bool", false), (.b "NoneType", .b "int", false), (.b "NoneType", .o "Table", false), (.b "NoneType", .b "str", false), (.b "NoneType", .o "BadTable", false), (.b "NoneType", .o "BadSending", false), (.b "NoneType", .o "NotFine", false), (.b "bool", .b "tuple", false), (.b "bool", .b "list", false), (.b "bool", .b "dict", false), (.b "bool", .b "bool", true), (.b "bool", .b "int", true), (.b "bool", .o "Table", false), (.b "bool", .b "str", false), (.b "bool", .o "BadTable", false), (.b "bool", .o "BadSending", false), (.b "bool", .o "NotFine", false), (.b "int", .b "tuple", false), (.b "int", .b "list", false), (.b "int", .b "dict", false), (.b "int", .b "bool", false), (.b "int", .b "int", true), (.b "int", .o "Table", false), (.b "int", .b "str", false), (.b "int", .o "BadTable", false), (.b "int", .o "BadSending", false), (.b "int", .o "NotFine", false), (.b "str", .b "tuple", false), (.b "str", .b "list", false), (.b "str", .b "dict", false), (.b "str", .b "bool", false), (.b "str", .b "int", false), (.b "str", .o "Table", false), (.b "str", .b "str", true), (.b "str", .o "BadTable", false), (.b "str", .o "BadSending", false), (.b "str", .o "NotFine", false), (.b "tuple", .b "tuple", true), (.b "tuple", .b "list", false), (.b "tuple", .b "dict", false), (.b "tuple", .b "bool", false), (.b "tuple", .b "int", false), (.b "tuple", .o "Table", false), (.b "tuple", .b "str", false), (.b "tuple", .o "BadTable", false), (.b "tuple", .o "BadSending", false), (.b "tuple", .o "NotFine", false), (.b "list", .b "tuple", false), (.b "list", .b "list", true), (.b "list", .b "dict", false), (.b "list", .b "bool", false), (.b "list", .b "int", false), (.b "list", .o "Table", false), (.b "list", .b "str", false), (.b "list", .o "BadTable", false), (.b "list", .o "BadSending", false), (.b "list", .o "NotFine", false), (.b "dict", .b "tuple", false), (.b "dict", .b "list", false), (.b "dict", .b "dict", true), (.b "dict", .b "bool", false), (.b "dict", .b "int", false), (.b "dict", .o "Table", false), (.b "dict", .b "str", false), (.b "dict", .o "BadTable", false), (.b "dict", .o "BadSending", false), (.b "dict", .o "NotFine", false), (.o "Table", .b "tuple", false), (.o "Table", .b "list", false), (.o "Table", .b "dict", false), (.o "Table", .b "bool", false), (.o "Table", .b "int", false), (.o "Table", .o "Table", true), (.o "Table", .b "str", false), (.o "Table", .o "BadTable", false), (.o "Table", .o "BadSending", false), (.o "Table", .o "NotFine", false), (.o "BadNotes", .b "tuple", false), (.o "BadNotes", .b "list", false), (.o "BadNotes", .b "dict", false), (.o "BadNotes", .b "bool", false), (.o "BadNotes", .b "int", false), (.o "BadNotes", .o "Table", false), (.o "BadNotes", .b "str", false), (.o "BadNotes", .o "BadTable", false), (.o "BadNotes", .o "BadSending", false), (.o "BadNotes", .o "NotFine", false), (.o "BadSending", .b "tuple", false), (.o "BadSending", .b "list", false), (.o "BadSending", .b "dict", false), (.o "BadSending", .b "bool", false), (.o "BadSending", .b "int", false), (.o "BadSending", .o "Table", false), (.o "BadSending", .b "str", false), (.o "BadSending", .o "BadTable", false), (.o "BadSending", .o "BadSending", true), (.o "BadSending", .o "NotFine", false), (.o "BadSends", .b "tuple", false), (.o "BadSends", .b "list", false), (.o "BadSends", .b "dict", false), (.o "BadSends", .b "bool", false), (.o "BadSends", .b "int", false), (.o "BadSends", .o "Table", false), (.o "BadSends", .b "str", false), (.o "BadSends", .o "BadTable", false), (.o "BadSends", .o "BadSending", false), (.o "BadSends", .o "NotFine", false), (.o "BadTable", .b "tuple", false), (.o "BadTable", .b "list", false), (.o "BadTable", .b "dict", false), (.o "BadTable", .b "bool", false), (.o "BadTable", .b "int", false), (.o "BadTable", .o "Table", false), (.o "BadTable", .b "str", false), (.o "BadTable", .o "BadTable", true), (.o "BadTable", .o "BadSending", false), (.o "BadTable", .o "NotFine", false), (.o "BadTakes", .b "tuple", false), (.o "BadTakes", .b "list", false), (.o "BadTakes", .b "dict", false), (.o "BadTakes", .b "bool", false), (.o "BadTakes", .b "int", false), (.o "BadTakes", .o "Table", false), (.o "BadTakes", .b "str", false), (.o "BadTakes", .o "BadTable", false), (.o "BadTakes", .o "BadSending", false), (.o "BadTakes", .o "NotFine", false), (.o "NotFine", .b "tuple", false), (.o "NotFine", .b "list", false), (.o "NotFine", .b "dict", false), (.o "NotFine", .b "bool", false), (.o "NotFine", .b "int", false), (.o "NotFine", .o "Table", false), (.o "NotFine", .b "str", false), (.o "NotFine", .o "BadTable", false), (.o "NotFine", .o "BadSending", false), (.o "NotFine", .o "NotFine", true), (.o "StoryError", .b "tuple", false), (.o "StoryError", .b "list", false), (.o "StoryError", .b "dict", false), (.o "StoryError", .b "bool", false), (.o "StoryError", .b "int", false), (.o "StoryError", .o "Table", false), (.o "StoryError", .b "str", false), (.o "StoryError", .o "BadTable", false), (.o "StoryError", .o "BadSending", false), (.o "StoryError", .o "NotFine", false)]
def top (i : Nat) : Stmt := PySem.Challenge.pw_onestory_k87_binding_steps.main.body.getD i (.Pass ⟨0, 0, 0, 0⟩)
def clsBody : Stmt → List Stmt
  | .ClassDef _ _ _ b _ _ _ _ _ _ _ => b
  | _ => []
def met (i j : Nat) : Stmt := (clsBody (top i)).getD j (.Pass ⟨0, 0, 0, 0⟩)
def hd_is_number : He.DefD := ⟨("is_number", none), "is_number", "is_number", defArgs (top 12), defBody (top 12), defScope (top 12), [], []⟩
def hd_is_between : He.DefD := ⟨("is_between", none), "is_between", "is_between", defArgs (top 13), defBody (top 13), defScope (top 13), [], []⟩
def hd_product_of : He.DefD := ⟨("product_of", none), "product_of", "product_of", defArgs (top 14), defBody (top 14), defScope (top 14), [], []⟩
def hd_is_row : He.DefD := ⟨("is_row", none), "is_row", "is_row", defArgs (top 15), defBody (top 15), defScope (top 15), [], []⟩
def hd_rows_of : He.DefD := ⟨("rows_of", none), "rows_of", "rows_of", defArgs (top 16), defBody (top 16), defScope (top 16), [], []⟩
def hd_place_of : He.DefD := ⟨("place_of", none), "place_of", "place_of", defArgs (top 17), defBody (top 17), defScope (top 17), [], []⟩
def hd_are_sizes : He.DefD := ⟨("are_sizes", none), "are_sizes", "are_sizes", defArgs (top 18), defBody (top 18), defScope (top 18), [], []⟩
def hd_need_sends : He.DefD := ⟨("need_sends", none), "need_sends", "need_sends", defArgs (top 19), defBody (top 19), defScope (top 19), [], []⟩
def hd_need_takes : He.DefD := ⟨("need_takes", none), "need_takes", "need_takes", defArgs (top 20), defBody (top 20), defScope (top 20), [], []⟩
def hd_need_table : He.DefD := ⟨("need_table", none), "need_table", "need_table", defArgs (top 22), defBody (top 22), defScope (top 22), [], []⟩
def hd_need_sending : He.DefD := ⟨("need_sending", none), "need_sending", "need_sending", defArgs (top 23), defBody (top 23), defScope (top 23), [], []⟩
def hd_delivery_of : He.DefD := ⟨("delivery_of", none), "delivery_of", "delivery_of", defArgs (top 24), defBody (top 24), defScope (top 24), [], []⟩
def hd_part_of : He.DefD := ⟨("part_of", none), "part_of", "part_of", defArgs (top 26), defBody (top 26), defScope (top 26), [], []⟩
def hd_parts_of : He.DefD := ⟨("parts_of", none), "parts_of", "parts_of", defArgs (top 27), defBody (top 27), defScope (top 27), [], []⟩
def hd_pairs_left : He.DefD := ⟨("pairs_left", none), "pairs_left", "pairs_left", defArgs (top 28), defBody (top 28), defScope (top 28), [], []⟩
def hd_is_fine_table : He.DefD := ⟨("is_fine_table", none), "is_fine_table", "is_fine_table", defArgs (top 29), defBody (top 29), defScope (top 29), [], []⟩
def hd_is_rule_of : He.DefD := ⟨("is_rule_of", none), "is_rule_of", "is_rule_of", defArgs (top 31), defBody (top 31), defScope (top 31), [], []⟩
def hd_are_rules_of : He.DefD := ⟨("are_rules_of", none), "are_rules_of", "are_rules_of", defArgs (top 32), defBody (top 32), defScope (top 32), [], []⟩
def hd_answer_of : He.DefD := ⟨("answer_of", none), "answer_of", "answer_of", defArgs (top 33), defBody (top 33), defScope (top 33), [], []⟩
def hd_stories_of : He.DefD := ⟨("stories_of", none), "stories_of", "stories_of", defArgs (top 34), defBody (top 34), defScope (top 34), [], []⟩
def hd_rule_through : He.DefD := ⟨("rule_through", none), "rule_through", "rule_through", defArgs (top 36), defBody (top 36), defScope (top 36), [], []⟩
def hd_rule_for : He.DefD := ⟨("rule_for", none), "rule_for", "rule_for", defArgs (top 37), defBody (top 37), defScope (top 37), [], []⟩
def hd_need_fine : He.DefD := ⟨("need_fine", none), "need_fine", "need_fine", defArgs (top 39), defBody (top 39), defScope (top 39), [], []⟩
def hd_need_fine_table : He.DefD := ⟨("need_fine_table", none), "need_fine_table", "need_fine_table", defArgs (top 41), defBody (top 41), defScope (top 41), [], []⟩
def hd_parting_of : He.DefD := ⟨("parting_of", none), "parting_of", "parting_of", defArgs (top 43), defBody (top 43), defScope (top 43), [], []⟩
def hd_need_ends : He.DefD := ⟨("need_ends", none), "need_ends", "need_ends", defArgs (top 44), defBody (top 44), defScope (top 44), [], []⟩
def hd_parting : He.DefD := ⟨("parting", none), "parting", "parting", defArgs (top 45), defBody (top 45), defScope (top 45), [], []⟩
def hd_ready_rules : He.DefD := ⟨("ready_rules", none), "ready_rules", "ready_rules", defArgs (top 46), defBody (top 46), defScope (top 46), [], []⟩
def hd_crossed_rules : He.DefD := ⟨("crossed_rules", none), "crossed_rules", "crossed_rules", defArgs (top 47), defBody (top 47), defScope (top 47), [], []⟩
def hd_binding_step : He.DefD := ⟨("binding_step", none), "binding_step", "binding_step", defArgs (top 48), defBody (top 48), defScope (top 48), [], []⟩
def hd_unlike_rooms : He.DefD := ⟨("unlike_rooms", none), "unlike_rooms", "unlike_rooms", defArgs (top 49), defBody (top 49), defScope (top 49), [], []⟩
def hd_is_binding_step : He.DefD := ⟨("is_binding_step", none), "is_binding_step", "is_binding_step", defArgs (top 50), defBody (top 50), defScope (top 50), [], []⟩
def hd_law_begun : He.DefD := ⟨("_law_begun", none), "_law_begun", "_law_begun", defArgs (top 52), defBody (top 52), defScope (top 52), [], []⟩
def hd_law_draw : He.DefD := ⟨("_law_draw", none), "_law_draw", "_law_draw", defArgs (top 53), defBody (top 53), defScope (top 53), [], []⟩
def hd_law_pick : He.DefD := ⟨("_law_pick", none), "_law_pick", "_law_pick", defArgs (top 54), defBody (top 54), defScope (top 54), [], []⟩
def hd_law_mixed : He.DefD := ⟨("_law_mixed", none), "_law_mixed", "_law_mixed", defArgs (top 55), defBody (top 55), defScope (top 55), [], []⟩
def hd_law_caught : He.DefD := ⟨("_law_caught", none), "_law_caught", "_law_caught", defArgs (top 56), defBody (top 56), defScope (top 56), [], []⟩
def hd_law_is_whole : He.DefD := ⟨("_law_is_whole", none), "_law_is_whole", "_law_is_whole", defArgs (top 57), defBody (top 57), defScope (top 57), [], []⟩
def hd_law_odd : He.DefD := ⟨("_law_odd", none), "_law_odd", "_law_odd", defArgs (top 58), defBody (top 58), defScope (top 58), [], []⟩
def hd_law_rows : He.DefD := ⟨("_law_rows", none), "_law_rows", "_law_rows", defArgs (top 59), defBody (top 59), defScope (top 59), [], []⟩
def hd_law_sizes : He.DefD := ⟨("_law_sizes", none), "_law_sizes", "_law_sizes", defArgs (top 60), defBody (top 60), defScope (top 60), [], []⟩
def hd_law_some_takes : He.DefD := ⟨("_law_some_takes", none), "_law_some_takes", "_law_some_takes", defArgs (top 61), defBody (top 61), defScope (top 61), [], []⟩
def hd_law_led_by : He.DefD := ⟨("_law_led_by", none), "_law_led_by", "_law_led_by", defArgs (top 62), defBody (top 62), defScope (top 62), [], []⟩
def hd_law_led : He.DefD := ⟨("_law_led", none), "_law_led", "_law_led", defArgs (top 63), defBody (top 63), defScope (top 63), [], []⟩
def hd_law_turning : He.DefD := ⟨("_law_turning", none), "_law_turning", "_law_turning", defArgs (top 64), defBody (top 64), defScope (top 64), [], []⟩
def hd_law_map : He.DefD := ⟨("_law_map", none), "_law_map", "_law_map", defArgs (top 65), defBody (top 65), defScope (top 65), [], []⟩
def hd_law_through : He.DefD := ⟨("_law_through", none), "_law_through", "_law_through", defArgs (top 66), defBody (top 66), defScope (top 66), [], []⟩
def hd_law_beside : He.DefD := ⟨("_law_beside", none), "_law_beside", "_law_beside", defArgs (top 67), defBody (top 67), defScope (top 67), [], []⟩
def hd_law_rooms_mixed : He.DefD := ⟨("_law_rooms_mixed", none), "_law_rooms_mixed", "_law_rooms_mixed", defArgs (top 68), defBody (top 68), defScope (top 68), [], []⟩
def hd_law_fine : He.DefD := ⟨("_law_fine", none), "_law_fine", "_law_fine", defArgs (top 69), defBody (top 69), defScope (top 69), [], []⟩
def hd_law_near : He.DefD := ⟨("_law_near", none), "_law_near", "_law_near", defArgs (top 70), defBody (top 70), defScope (top 70), [], []⟩
def hd_law_made : He.DefD := ⟨("_law_made", none), "_law_made", "_law_made", defArgs (top 71), defBody (top 71), defScope (top 71), [], []⟩
def hd_law_rules : He.DefD := ⟨("_law_rules", none), "_law_rules", "_law_rules", defArgs (top 72), defBody (top 72), defScope (top 72), [], []⟩
def hd_law_answer : He.DefD := ⟨("_law_answer", none), "_law_answer", "_law_answer", defArgs (top 73), defBody (top 73), defScope (top 73), [], []⟩
def hd_law_stories : He.DefD := ⟨("_law_stories", none), "_law_stories", "_law_stories", defArgs (top 74), defBody (top 74), defScope (top 74), [], []⟩
def hd_law_parts : He.DefD := ⟨("_law_parts", none), "_law_parts", "_law_parts", defArgs (top 75), defBody (top 75), defScope (top 75), [], []⟩
def hd_law_pairs : He.DefD := ⟨("_law_pairs", none), "_law_pairs", "_law_pairs", defArgs (top 76), defBody (top 76), defScope (top 76), [], []⟩
def hd_law_unparted : He.DefD := ⟨("_law_unparted", none), "_law_unparted", "_law_unparted", defArgs (top 77), defBody (top 77), defScope (top 77), [], []⟩
def hd_law_is_row : He.DefD := ⟨("_law_is_row", none), "_law_is_row", "_law_is_row", defArgs (top 78), defBody (top 78), defScope (top 78), [], []⟩
def hd_law_bool_row : He.DefD := ⟨("_law_bool_row", none), "_law_bool_row", "_law_bool_row", defArgs (top 79), defBody (top 79), defScope (top 79), [], []⟩
def hd_law_bad_row : He.DefD := ⟨("_law_bad_row", none), "_law_bad_row", "_law_bad_row", defArgs (top 80), defBody (top 80), defScope (top 80), [], []⟩
def hd_law_bad_rules : He.DefD := ⟨("_law_bad_rules", none), "_law_bad_rules", "_law_bad_rules", defArgs (top 81), defBody (top 81), defScope (top 81), [], []⟩
def hd_law_alike : He.DefD := ⟨("_law_alike", none), "_law_alike", "_law_alike", defArgs (top 82), defBody (top 82), defScope (top 82), [], []⟩
def hd_law_are_rules : He.DefD := ⟨("_law_are_rules", none), "_law_are_rules", "_law_are_rules", defArgs (top 83), defBody (top 83), defScope (top 83), [], []⟩
def hd_law_with : He.DefD := ⟨("_law_with", none), "_law_with", "_law_with", defArgs (top 84), defBody (top 84), defScope (top 84), [], []⟩
def hd_law_rule : He.DefD := ⟨("_law_rule", none), "_law_rule", "_law_rule", defArgs (top 85), defBody (top 85), defScope (top 85), [], []⟩
def hd_law_through_row : He.DefD := ⟨("_law_through_row", none), "_law_through_row", "_law_through_row", defArgs (top 86), defBody (top 86), defScope (top 86), [], []⟩
def hd_law_unlike_spots : He.DefD := ⟨("_law_unlike_spots", none), "_law_unlike_spots", "_law_unlike_spots", defArgs (top 87), defBody (top 87), defScope (top 87), [], []⟩
def hd_law_is_step : He.DefD := ⟨("_law_is_step", none), "_law_is_step", "_law_is_step", defArgs (top 88), defBody (top 88), defScope (top 88), [], []⟩
def hd_law_near_step : He.DefD := ⟨("_law_near_step", none), "_law_near_step", "_law_near_step", defArgs (top 89), defBody (top 89), defScope (top 89), [], []⟩
def hd_law_steps_right : He.DefD := ⟨("_law_steps_right", none), "_law_steps_right", "_law_steps_right", defArgs (top 90), defBody (top 90), defScope (top 90), [], []⟩
def hd_law_refused : He.DefD := ⟨("_law_refused", none), "_law_refused", "_law_refused", defArgs (top 91), defBody (top 91), defScope (top 91), [], []⟩
def hd_law : He.DefD := ⟨("law", none), "law", "law", defArgs (top 92), defBody (top 92), defScope (top 92), [], []⟩
def hd_Table_init : He.DefD := ⟨("Table", some "__init__"), "__init__", "Table.__init__", defArgs (met 21 0), defBody (met 21 0), defScope (met 21 0), [], []⟩
def hfn : List He.DefD := [hd_is_number, hd_is_between, hd_product_of, hd_is_row, hd_rows_of, hd_place_of, hd_are_sizes, hd_need_sends, hd_need_takes, hd_need_table, hd_need_sending, hd_delivery_of, hd_part_of, hd_parts_of, hd_pairs_left, hd_is_fine_table, hd_is_rule_of, hd_are_rules_of, hd_answer_of, hd_stories_of, hd_rule_through, hd_rule_for, hd_need_fine, hd_need_fine_table, hd_parting_of, hd_need_ends, hd_parting, hd_ready_rules, hd_crossed_rules, hd_binding_step, hd_unlike_rooms, hd_is_binding_step, hd_law_begun, hd_law_draw, hd_law_pick, hd_law_mixed, hd_law_caught, hd_law_is_whole, hd_law_odd, hd_law_rows, hd_law_sizes, hd_law_some_takes, hd_law_led_by, hd_law_led, hd_law_turning, hd_law_map, hd_law_through, hd_law_beside, hd_law_rooms_mixed, hd_law_fine, hd_law_near, hd_law_made, hd_law_rules, hd_law_answer, hd_law_stories, hd_law_parts, hd_law_pairs, hd_law_unparted, hd_law_is_row, hd_law_bool_row, hd_law_bad_row, hd_law_bad_rules, hd_law_alike, hd_law_are_rules, hd_law_with, hd_law_rule, hd_law_through_row, hd_law_unlike_spots, hd_law_is_step, hd_law_near_step, hd_law_steps_right, hd_law_refused, hd_law, hd_Table_init]
def hfa : List He.Fa := [.glo "is_number", .glo "is_between", .glo "product_of", .glo "is_row", .glo "rows_of", .glo "place_of", .glo "are_sizes", .glo "need_sends", .glo "need_takes", .glo "need_table", .glo "need_sending", .glo "delivery_of", .glo "part_of", .glo "parts_of", .glo "pairs_left", .glo "is_fine_table", .glo "is_rule_of", .glo "are_rules_of", .glo "answer_of", .glo "stories_of", .glo "rule_through", .glo "rule_for", .glo "need_fine", .glo "need_fine_table", .glo "parting_of", .glo "need_ends", .glo "parting", .glo "ready_rules", .glo "crossed_rules", .glo "binding_step", .glo "unlike_rooms", .glo "is_binding_step", .glo "_law_begun", .glo "_law_draw", .glo "_law_pick", .glo "_law_mixed", .glo "_law_caught", .glo "_law_is_whole", .glo "_law_odd", .glo "_law_rows", .glo "_law_sizes", .glo "_law_some_takes", .glo "_law_led_by", .glo "_law_led", .glo "_law_turning", .glo "_law_map", .glo "_law_through", .glo "_law_beside", .glo "_law_rooms_mixed", .glo "_law_fine", .glo "_law_near", .glo "_law_made", .glo "_law_rules", .glo "_law_answer", .glo "_law_stories", .glo "_law_parts", .glo "_law_pairs", .glo "_law_unparted", .glo "_law_is_row", .glo "_law_bool_row", .glo "_law_bad_row", .glo "_law_bad_rules", .glo "_law_alike", .glo "_law_are_rules", .glo "_law_with", .glo "_law_rule", .glo "_law_through_row", .glo "_law_unlike_spots", .glo "_law_is_step", .glo "_law_near_step", .glo "_law_steps_right", .glo "_law_refused", .glo "law", .glo "StoryError", .glo "BadNotes", .glo "BadSending", .glo "BadSends", .glo "BadTable", .glo "BadTakes", .glo "NotFine", .glo "Table", .free "abs", .free "all", .free "bool", .free "dict", .free "enumerate", .free "int", .free "isinstance", .free "len", .free "list", .free "range", .free "str", .free "tuple", .free "zip", .int "MOST_ROOMS" 6, .int "MOST_SIZE" 64, .int "MOST_SENDINGS" 64, .exc "BadNotes", .exm "BadNotes" "StoryError" true, .exc "BadSending", .exm "BadSending" "StoryError" true, .exc "BadSends", .exm "BadSends" "StoryError" true, .exc "BadTable", .exm "BadTable" "StoryError" true, .exc "BadTakes", .exm "BadTakes" "StoryError" true, .exc "NotFine", .exm "NotFine" "StoryError" true, .exc "StoryError", .exm "StoryError" "StoryError" true, .cls "Table", .mkr "Table", .noat "Table" "sends", .noat "Table" "takes", .noat "Table" "notes"]
def htf : List He.Defn := [("_law_refused", none)]
def hlm : List LamF := [pLam "_law_refused.<locals>.<lambda>" ((pElts (pIter ((pBody (top 91)).getD 3 (.Pass ⟨0, 0, 0, 0⟩)))).getD 2 (.Constant .none 0 ⟨0, 0, 0, 0⟩))]
def hex (K : PySem.W.Frag) : Bool := exB csL esL tabL htf hlm K
def loose0 : List Str := ["StoryError", "BadNotes", "BadSending", "BadSends", "BadTable", "BadTakes", "NotFine", "is_number", "is_between", "product_of", "is_row", "rows_of", "place_of", "are_sizes", "need_sends", "need_takes", "Table", "need_table", "need_sending", "delivery_of", "part_of", "parts_of", "pairs_left", "is_fine_table", "is_rule_of", "are_rules_of", "answer_of", "stories_of", "rule_through", "rule_for"]
def loose1 : List Str := ["need_fine", "need_fine_table", "parting_of", "need_ends", "parting", "ready_rules", "crossed_rules", "binding_step", "unlike_rooms", "is_binding_step", "_law_begun", "_law_draw", "_law_pick", "_law_mixed", "_law_caught", "_law_is_whole", "_law_odd", "_law_rows", "_law_sizes", "_law_some_takes", "_law_led_by", "_law_led", "_law_turning", "_law_map", "_law_through", "_law_beside", "_law_rooms_mixed", "_law_fine", "_law_near", "_law_made"]
def loose2 : List Str := ["_law_rules", "_law_answer", "_law_stories", "_law_parts", "_law_pairs", "_law_unparted", "_law_is_row", "_law_bool_row", "_law_bad_row", "_law_bad_rules", "_law_alike", "_law_are_rules", "_law_with", "_law_rule", "_law_through_row", "_law_unlike_spots", "_law_is_step", "_law_near_step", "_law_steps_right", "_law_refused", "MOST_ROOMS", "MOST_SIZE", "MOST_SENDINGS"]
def loose : List Str := loose0 ++ (loose1 ++ (loose2))
abbrev hR : PySem.W.OpenRow := PySem.W.OpenLaw.row PySem.Challenge.rw_onestory_k87_binding_steps
abbrev hk : PySem.W.Hook := He.hookX 5 hfa hfn [] htf hex
def hob (s : PySem.W.SharedT) : He.AlX := He.obsX 5 hfa hfn [] htf hex (HandSHeadRun.getT s)
theorem hob_eq (s : PySem.W.SharedT) : hob s = hk.obs s.abs := He.obsX_eq (HandSHeadRun.getT_eq s)
theorem hrun (w : World) : HandSHeadRun.RunEq hR (PySem.W.view hR.prog [92]) hk hob 6000 loose w := by
  intro os
  kernel_rfl
end On
set_option Elab.async false
set_option linter.all false
set_option maxRecDepth 100000
set_option maxHeartbeats 4000000
/-! On1: plain data, what it is in the heap, who owns what. -/
namespace On
open PySem PySem.Spec PyProof.Rows L2

/-- plain data. tup, lst, dk (keys ints and texts), dt (keys tuples of these), ins: shared, never changed; gl x: what the module's name x stands for;
exc: an exception of a class; cl: a lambda; fl: a list that is never changed; ol, od, ot, oi: owned by one name, changed in place -/
inductive D where
  | non | bl (b : Bool) | int (i : Int) | str (x : Str)
  | tup (l : List D) | lst (l : List D)
  | dk (l : List (Key × D)) | dt (l : List (List Key × D))
  | ins (c : Str) (l : List (Str × D))
  | gl (x : Str) | exc (c : Str) | cl (n : Nat) | fl (l : List D)
  | ol (l : List D) | od (l : List (Key × D)) | ot (l : List (List Key × D)) | oi (c : Str) (l : List (Str × D))

/-- the exception object at a, of the class at k -/
def ExcO (a k : Addr) : HO := .ext fun h => ∃ oe vs, h.get? a = some oe ∧ oe.cls = .ref k ∧ oe.dict = none ∧ oe.data = .fields vs
/-- the function object of a lambda at a, its code object at c -/
def LamO (L : LamF) (a c : Addr) : HO := .ext fun h => ∃ pm ctv, h.get? a = some (PySem.W.kla_obj "<lambda>" L.qual L.params L.body L.scope [] pm c ctv)

section
variable (G : Gs)
mutual
/-- the value v is the shared datum d: nothing that may be changed (M) is in it -/
inductive Rep (M : Addr → Prop) (H : Hp) : V → D → Prop
  | non : Rep M H .non .non
  | bl (b : Bool) : Rep M H (.bl b) (.bl b)
  | int (i : Int) : Rep M H (.int i) (.int i)
  | str (x : Str) : Rep M H (.str x) (.str x)
  | gl (x : Str) : Rep M H (.ref (G x)) (.gl x)
  | exc {a : Addr} {c : Str} : H a = some (ExcO a (G c)) → Rep M H (.ref a) (.exc c)
  | cl {a c : Addr} {n : Nat} : H a = some (LamO (G.fn n) a c) → H c = some (LamX.CodeO c (G.fn n).qual) → Rep M H (.ref a) (.cl n)
  | tup {a : Addr} {xs : List V} {ds : List D} : H a = some (.tup xs) → Reps M H xs ds → Rep M H (.ref a) (.tup ds)
  | lst {a : Addr} {xs : List V} {ds : List D} : ¬ M a → H a = some (.lst xs) → Reps M H xs ds → Rep M H (.ref a) (.lst ds)
  | fl {a : Addr} {o : Obj} {xs : List V} {ds : List D} : ¬ M a → H a = some (.frz o (.lst xs)) → Reps M H xs ds → Rep M H (.ref a) (.fl ds)
  | dk {a : Addr} {xs : List (Key × V)} {ds : List (Key × D)} : ¬ M a → Rd H a (.dK xs) → RepK M H xs ds → Rep M H (.ref a) (.dk ds)
  | dt {a : Addr} {xs : List (List Key × V)} {ds : List (List Key × D)} : ¬ M a → Rd H a (.dT xs) → RepT M H xs ds → Rep M H (.ref a) (.dt ds)
  | ins {a dx : Addr} {c : Str} {xs : List (Str × V)} {ds : List (Str × D)} : ¬ M a → H a = some (.ins (G c) dx xs) → RepF M H xs ds → Rep M H (.ref a) (.ins c ds)
inductive Reps (M : Addr → Prop) (H : Hp) : List V → List D → Prop
  | nil : Reps M H [] []
  | cons {v : V} {d : D} {xs : List V} {ds : List D} : Rep M H v d → Reps M H xs ds → Reps M H (v :: xs) (d :: ds)
inductive RepK (M : Addr → Prop) (H : Hp) : List (Key × V) → List (Key × D) → Prop
  | nil : RepK M H [] []
  | cons {k : Key} {v : V} {d : D} {xs : List (Key × V)} {ds : List (Key × D)} : Rep M H v d → RepK M H xs ds → RepK M H ((k, v) :: xs) ((k, d) :: ds)
inductive RepT (M : Addr → Prop) (H : Hp) : List (List Key × V) → List (List Key × D) → Prop
  | nil : RepT M H [] []
  | cons {k : List Key} {v : V} {d : D} {xs : List (List Key × V)} {ds : List (List Key × D)} : Rep M H v d → RepT M H xs ds → RepT M H ((k, v) :: xs) ((k, d) :: ds)
inductive RepF (M : Addr → Prop) (H : Hp) : List (Str × V) → List (Str × D) → Prop
  | nil : RepF M H [] []
  | cons {k : Str} {v : V} {d : D} {xs : List (Str × V)} {ds : List (Str × D)} : Rep M H v d → RepF M H xs ds → RepF M H ((k, v) :: xs) ((k, d) :: ds)
end
mutual
/-- the value v is the datum d, whose own parts stand at as, each once -/
inductive Own (M : Addr → Prop) (H : Hp) : List Addr → V → D → Prop
  | sh {v : V} {d : D} : Rep G M H v d → Own M H [] v d
  | ol {a : Addr} {as : List Addr} {xs : List V} {ds : List D} : H a = some (.lst xs) → OwnL M H as xs ds → Own M H (a :: as) (.ref a) (.ol ds)
  | od {a : Addr} {as : List Addr} {xs : List (Key × V)} {ds : List (Key × D)} : H a = some (.dK xs) → OwnK M H as xs ds → Own M H (a :: as) (.ref a) (.od ds)
  | ot {a : Addr} {as : List Addr} {xs : List (List Key × V)} {ds : List (List Key × D)} : H a = some (.dT xs) → OwnT M H as xs ds → Own M H (a :: as) (.ref a) (.ot ds)
  | oi {a dx : Addr} {c : Str} {as : List Addr} {xs : List (Str × V)} {ds : List (Str × D)} : H a = some (.ins (G c) dx xs) → OwnF M H as xs ds → Own M H (a :: as) (.ref a) (.oi c ds)
inductive OwnL (M : Addr → Prop) (H : Hp) : List Addr → List V → List D → Prop
  | nil : OwnL M H [] [] []
  | cons {as bs : List Addr} {v : V} {d : D} {xs : List V} {ds : List D} : Own M H as v d → OwnL M H bs xs ds → OwnL M H (as ++ bs) (v :: xs) (d :: ds)
inductive OwnK (M : Addr → Prop) (H : Hp) : List Addr → List (Key × V) → List (Key × D) → Prop
  | nil : OwnK M H [] [] []
  | cons {as bs : List Addr} {k : Key} {v : V} {d : D} {xs : List (Key × V)} {ds : List (Key × D)} : Own M H as v d → OwnK M H bs xs ds → OwnK M H (as ++ bs) ((k, v) :: xs) ((k, d) :: ds)
inductive OwnT (M : Addr → Prop) (H : Hp) : List Addr → List (List Key × V) → List (List Key × D) → Prop
  | nil : OwnT M H [] [] []
  | cons {as bs : List Addr} {k : List Key} {v : V} {d : D} {xs : List (List Key × V)} {ds : List (List Key × D)} : Own M H as v d → OwnT M H bs xs ds → OwnT M H (as ++ bs) ((k, v) :: xs) ((k, d) :: ds)
inductive OwnF (M : Addr → Prop) (H : Hp) : List Addr → List (Str × V) → List (Str × D) → Prop
  | nil : OwnF M H [] [] []
  | cons {as bs : List Addr} {k : Str} {v : V} {d : D} {xs : List (Str × V)} {ds : List (Str × D)} : Own M H as v d → OwnF M H bs xs ds → OwnF M H (as ++ bs) ((k, v) :: xs) ((k, d) :: ds)
end
end

/-- an object that is no table -/
def NoTbl (o : HO) : Prop := ∀ ps, o ≠ .tbl ps
/-- what shared data leans on is kept -/
structure Kp (M M' : Addr → Prop) (H H' : Hp) : Prop where
  imm : ∀ a xs, H a = some (.tup xs) → H' a = some (.tup xs)
  ext : ∀ a φ, H a = some (.ext φ) → H' a = some (.ext φ)
  lst : ∀ a xs, ¬ M a → H a = some (.lst xs) → H' a = some (.lst xs) ∧ ¬ M' a
  frz : ∀ a o xs, ¬ M a → H a = some (.frz o (.lst xs)) → H' a = some (.frz o (.lst xs)) ∧ ¬ M' a
  dk : ∀ a xs, ¬ M a → Rd H a (.dK xs) → Rd H' a (.dK xs) ∧ ¬ M' a
  dt : ∀ a xs, ¬ M a → Rd H a (.dT xs) → Rd H' a (.dT xs) ∧ ¬ M' a
  ins : ∀ a c dx xs, ¬ M a → H a = some (.ins c dx xs) → H' a = some (.ins c dx xs) ∧ ¬ M' a

section
variable {G : Gs} {M M' : Addr → Prop} {H H' : Hp}
mutual
theorem Rep.kp (k : Kp M M' H H') : ∀ {v : V} {d : D}, Rep G M H v d → Rep G M' H' v d
  | _, _, .non => .non
  | _, _, .bl b => .bl b
  | _, _, .int i => .int i
  | _, _, .str x => .str x
  | _, _, .gl x => .gl x
  | _, _, .exc e => .exc (k.ext _ _ e)
  | _, _, .cl e f => .cl (k.ext _ _ e) (k.ext _ _ f)
  | _, _, .fl m e r => .fl (k.frz _ _ _ m e).2 (k.frz _ _ _ m e).1 (Reps.kp k r)
  | _, _, .tup e r => .tup (k.imm _ _ e) (Reps.kp k r)
  | _, _, .lst m e r => .lst (k.lst _ _ m e).2 (k.lst _ _ m e).1 (Reps.kp k r)
  | _, _, .dk m e r => .dk (k.dk _ _ m e).2 (k.dk _ _ m e).1 (RepK.kp k r)
  | _, _, .dt m e r => .dt (k.dt _ _ m e).2 (k.dt _ _ m e).1 (RepT.kp k r)
  | _, _, .ins m e r => .ins (k.ins _ _ _ _ m e).2 (k.ins _ _ _ _ m e).1 (RepF.kp k r)
theorem Reps.kp (k : Kp M M' H H') : ∀ {v : List V} {d : List D}, Reps G M H v d → Reps G M' H' v d
  | _, _, .nil => .nil
  | _, _, .cons a b => .cons (Rep.kp k a) (Reps.kp k b)
theorem RepK.kp (k : Kp M M' H H') : ∀ {v : List (Key × V)} {d : List (Key × D)}, RepK G M H v d → RepK G M' H' v d
  | _, _, .nil => .nil
  | _, _, .cons a b => .cons (Rep.kp k a) (RepK.kp k b)
theorem RepT.kp (k : Kp M M' H H') : ∀ {v : List (List Key × V)} {d : List (List Key × D)}, RepT G M H v d → RepT G M' H' v d
  | _, _, .nil => .nil
  | _, _, .cons a b => .cons (Rep.kp k a) (RepT.kp k b)
theorem RepF.kp (k : Kp M M' H H') : ∀ {v : List (Str × V)} {d : List (Str × D)}, RepF G M H v d → RepF G M' H' v d
  | _, _, .nil => .nil
  | _, _, .cons a b => .cons (Rep.kp k a) (RepF.kp k b)
end
mutual
/-- owned data is kept where its own parts are as they were -/
theorem Own.kp (k : Kp M M' H H') : ∀ {as : List Addr} {v : V} {d : D}, Own G M H as v d → (∀ a ∈ as, H' a = H a) → Own G M' H' as v d
  | _, _, _, .sh r, _ => .sh (r.kp k)
  | _, _, _, .ol e r, h => .ol ((h _ List.mem_cons_self).trans e) (OwnL.kp k r fun a ha => h a (List.mem_cons_of_mem _ ha))
  | _, _, _, .od e r, h => .od ((h _ List.mem_cons_self).trans e) (OwnK.kp k r fun a ha => h a (List.mem_cons_of_mem _ ha))
  | _, _, _, .ot e r, h => .ot ((h _ List.mem_cons_self).trans e) (OwnT.kp k r fun a ha => h a (List.mem_cons_of_mem _ ha))
  | _, _, _, .oi e r, h => .oi ((h _ List.mem_cons_self).trans e) (OwnF.kp k r fun a ha => h a (List.mem_cons_of_mem _ ha))
theorem OwnL.kp (k : Kp M M' H H') : ∀ {as : List Addr} {v : List V} {d : List D}, OwnL G M H as v d → (∀ a ∈ as, H' a = H a) → OwnL G M' H' as v d
  | _, _, _, .nil, _ => .nil
  | _, _, _, .cons a b, h => .cons (Own.kp k a fun x hx => h x (List.mem_append_left _ hx)) (OwnL.kp k b fun x hx => h x (List.mem_append_right _ hx))
theorem OwnK.kp (k : Kp M M' H H') : ∀ {as : List Addr} {v : List (Key × V)} {d : List (Key × D)}, OwnK G M H as v d → (∀ a ∈ as, H' a = H a) → OwnK G M' H' as v d
  | _, _, _, .nil, _ => .nil
  | _, _, _, .cons a b, h => .cons (Own.kp k a fun x hx => h x (List.mem_append_left _ hx)) (OwnK.kp k b fun x hx => h x (List.mem_append_right _ hx))
theorem OwnT.kp (k : Kp M M' H H') : ∀ {as : List Addr} {v : List (List Key × V)} {d : List (List Key × D)}, OwnT G M H as v d → (∀ a ∈ as, H' a = H a) → OwnT G M' H' as v d
  | _, _, _, .nil, _ => .nil
  | _, _, _, .cons a b, h => .cons (Own.kp k a fun x hx => h x (List.mem_append_left _ hx)) (OwnT.kp k b fun x hx => h x (List.mem_append_right _ hx))
theorem OwnF.kp (k : Kp M M' H H') : ∀ {as : List Addr} {v : List (Str × V)} {d : List (Str × D)}, OwnF G M H as v d → (∀ a ∈ as, H' a = H a) → OwnF G M' H' as v d
  | _, _, _, .nil, _ => .nil
  | _, _, _, .cons a b, h => .cons (Own.kp k a fun x hx => h x (List.mem_append_left _ hx)) (OwnF.kp k b fun x hx => h x (List.mem_append_right _ hx))
end
theorem Reps.length : ∀ {v : List V} {d : List D}, Reps G M H v d → v.length = d.length
  | _, _, .nil => rfl
  | _, _, .cons _ b => congrArg (· + 1) b.length
theorem Reps.get : ∀ {v : List V} {d : List D} {i : Nat} {x : D}, Reps G M H v d → d[i]? = some x → ∃ y, v[i]? = some y ∧ Rep G M H y x
  | _, _, _, _, .nil, e => by simp at e
  | _, _, 0, _, .cons r _, e => by simp at e; subst e; exact ⟨_, rfl, r⟩
  | _, _, i + 1, x, .cons _ t, e => by
    obtain ⟨u, h1, h2⟩ := Reps.get (i := i) (x := x) t (by simpa using e)
    exact ⟨u, by simpa using h1, h2⟩
theorem Reps.append : ∀ {v v' : List V} {d d' : List D}, Reps G M H v d → Reps G M H v' d' → Reps G M H (v ++ v') (d ++ d')
  | _, _, _, _, .nil, s => s
  | _, _, _, _, .cons r t, s => .cons r (t.append s)
theorem Reps.take : ∀ {v : List V} {d : List D} (n : Nat), Reps G M H v d → Reps G M H (v.take n) (d.take n)
  | _, _, 0, _ => .nil
  | _, _, _ + 1, .nil => .nil
  | _, _, n + 1, .cons r t => .cons r (Reps.take n t)
theorem Reps.drop : ∀ {v : List V} {d : List D} (n : Nat), Reps G M H v d → Reps G M H (v.drop n) (d.drop n)
  | _, _, 0, r => r
  | _, _, _ + 1, .nil => .nil
  | _, _, n + 1, .cons _ t => Reps.drop n t
theorem OwnL.of : ∀ {v : List V} {d : List D}, Reps G M H v d → OwnL G M H [] v d
  | _, _, .nil => .nil
  | _, _, .cons a b => .cons (as := []) (.sh a) (OwnL.of b)
theorem OwnK.of : ∀ {v : List (Key × V)} {d : List (Key × D)}, RepK G M H v d → OwnK G M H [] v d
  | _, _, .nil => .nil
  | _, _, .cons a b => .cons (as := []) (.sh a) (OwnK.of b)
theorem OwnT.of : ∀ {v : List (List Key × V)} {d : List (List Key × D)}, RepT G M H v d → OwnT G M H [] v d
  | _, _, .nil => .nil
  | _, _, .cons a b => .cons (as := []) (.sh a) (OwnT.of b)
theorem OwnL.length : ∀ {as : List Addr} {v : List V} {d : List D}, OwnL G M H as v d → v.length = d.length
  | _, _, _, .nil => rfl
  | _, _, _, .cons _ b => congrArg (· + 1) b.length
end

/-- nothing owned at the top -/
def D.sh : D → Bool
  | .ol _ => false
  | .od _ => false
  | .ot _ => false
  | .oi _ _ => false
  | _ => true
theorem Own.rep {G : Gs} {M : Addr → Prop} {H : Hp} {as : List Addr} {v : V} {d : D} (o : Own G M H as v d) (s : d.sh = true) : as = [] ∧ Rep G M H v d := by
  cases o with
  | sh r => exact ⟨rfl, r⟩
  | ol _ _ => cases s
  | od _ _ => cases s
  | ot _ _ => cases s
  | oi _ _ => cases s

/-! ### freezing: what was owned is shared from now on -/
mutual
def D.fz : D → D
  | .ol l => .lst (fzL l)
  | .od l => .dk (fzK l)
  | .ot l => .dt (fzT l)
  | .oi c l => .ins c (fzF l)
  | .non => .non
  | .bl b => .bl b
  | .int i => .int i
  | .str x => .str x
  | .tup l => .tup l
  | .lst l => .lst l
  | .dk l => .dk l
  | .dt l => .dt l
  | .ins c l => .ins c l
  | .gl x => .gl x
  | .exc c => .exc c
  | .cl n => .cl n
  | .fl l => .fl l
def fzL : List D → List D
  | [] => []
  | d :: r => d.fz :: fzL r
def fzK : List (Key × D) → List (Key × D)
  | [] => []
  | (k, d) :: r => (k, d.fz) :: fzK r
def fzT : List (List Key × D) → List (List Key × D)
  | [] => []
  | (k, d) :: r => (k, d.fz) :: fzT r
def fzF : List (Str × D) → List (Str × D)
  | [] => []
  | (k, d) :: r => (k, d.fz) :: fzF r
end
section
variable {G : Gs} {M N : Addr → Prop} {H : Hp}
theorem kp_less (h : ∀ a, N a → M a) : Kp M N H H :=
  ⟨fun _ _ e => e, fun _ _ e => e, fun a _ m e => ⟨e, fun z => m (h a z)⟩, fun a _ _ m e => ⟨e, fun z => m (h a z)⟩, fun a _ m e => ⟨e, fun z => m (h a z)⟩, fun a _ m e => ⟨e, fun z => m (h a z)⟩, fun a _ _ _ m e => ⟨e, fun z => m (h a z)⟩⟩
theorem fz_rep : ∀ {v : V} {d : D}, Rep G M H v d → d.fz = d
  | _, _, .non => by unfold D.fz; rfl
  | _, _, .bl b => by unfold D.fz; rfl
  | _, _, .int i => by unfold D.fz; rfl
  | _, _, .str x => by unfold D.fz; rfl
  | _, _, .gl x => by unfold D.fz; rfl
  | _, _, .exc e => by unfold D.fz; rfl
  | _, _, .cl e f => by unfold D.fz; rfl
  | _, _, .fl m e r => by unfold D.fz; rfl
  | _, _, .tup e r => by unfold D.fz; rfl
  | _, _, .lst m e r => by unfold D.fz; rfl
  | _, _, .dk m e r => by unfold D.fz; rfl
  | _, _, .dt m e r => by unfold D.fz; rfl
  | _, _, .ins m e r => by unfold D.fz; rfl
mutual
/-- N: M less what was owned -/
theorem Own.fz (h : ∀ a, N a → M a) : ∀ {as : List Addr} {v : V} {d : D}, Own G M H as v d → (∀ a ∈ as, ¬ N a) → Rep G N H v d.fz
  | _, _, _, .sh r, _ => by rw [fz_rep r]; exact r.kp (kp_less h)
  | _, _, _, .ol e r, n => by unfold D.fz; exact .lst (n _ List.mem_cons_self) e (OwnL.fz h r fun a ha => n a (List.mem_cons_of_mem _ ha))
  | _, _, _, .od e r, n => by unfold D.fz; exact .dk (n _ List.mem_cons_self) (.inl e) (OwnK.fz h r fun a ha => n a (List.mem_cons_of_mem _ ha))
  | _, _, _, .ot e r, n => by unfold D.fz; exact .dt (n _ List.mem_cons_self) (.inl e) (OwnT.fz h r fun a ha => n a (List.mem_cons_of_mem _ ha))
  | _, _, _, .oi e r, n => by unfold D.fz; exact .ins (n _ List.mem_cons_self) e (OwnF.fz h r fun a ha => n a (List.mem_cons_of_mem _ ha))
theorem OwnL.fz (h : ∀ a, N a → M a) : ∀ {as : List Addr} {v : List V} {d : List D}, OwnL G M H as v d → (∀ a ∈ as, ¬ N a) → Reps G N H v (fzL d)
  | _, _, _, .nil, _ => by unfold fzL; exact .nil
  | _, _, _, .cons a b, n => by unfold fzL; exact .cons (Own.fz h a fun x hx => n x (List.mem_append_left _ hx)) (OwnL.fz h b fun x hx => n x (List.mem_append_right _ hx))
theorem OwnK.fz (h : ∀ a, N a → M a) : ∀ {as : List Addr} {v : List (Key × V)} {d : List (Key × D)}, OwnK G M H as v d → (∀ a ∈ as, ¬ N a) → RepK G N H v (fzK d)
  | _, _, _, .nil, _ => by unfold fzK; exact .nil
  | _, _, _, .cons a b, n => by unfold fzK; exact .cons (Own.fz h a fun x hx => n x (List.mem_append_left _ hx)) (OwnK.fz h b fun x hx => n x (List.mem_append_right _ hx))
theorem OwnT.fz (h : ∀ a, N a → M a) : ∀ {as : List Addr} {v : List (List Key × V)} {d : List (List Key × D)}, OwnT G M H as v d → (∀ a ∈ as, ¬ N a) → RepT G N H v (fzT d)
  | _, _, _, .nil, _ => by unfold fzT; exact .nil
  | _, _, _, .cons a b, n => by unfold fzT; exact .cons (Own.fz h a fun x hx => n x (List.mem_append_left _ hx)) (OwnT.fz h b fun x hx => n x (List.mem_append_right _ hx))
theorem OwnF.fz (h : ∀ a, N a → M a) : ∀ {as : List Addr} {v : List (Str × V)} {d : List (Str × D)}, OwnF G M H as v d → (∀ a ∈ as, ¬ N a) → RepF G N H v (fzF d)
  | _, _, _, .nil, _ => by unfold fzF; exact .nil
  | _, _, _, .cons a b, n => by unfold fzF; exact .cons (Own.fz h a fun x hx => n x (List.mem_append_left _ hx)) (OwnF.fz h b fun x hx => n x (List.mem_append_right _ hx))
end
end
end On

set_option Elab.async false
set_option linter.all false
set_option maxRecDepth 100000
set_option maxHeartbeats 4000000
/-! On2: worlds, the names' data, mirrors, what a mirror says of a text. -/
namespace On
open PySem PySem.Spec PyProof.Rows L2

/-- a world: the abstract heap, what shared data must not lean on (M), what the running def may change (C) -/
structure Wd where
  H : Hp
  M : Addr → Prop
  C : Addr → Prop
/-- an object that is no table stands there -/
def IsO (H : Hp) (a : Addr) : Prop := ∃ o, H a = some o ∧ NoTbl o
/-- a dict -/
def IsD : HO → Prop
  | .dK _ => True
  | .dT _ => True
  | _ => False
/-- w' comes behind w; a shared dict may have been locked for good -/
structure Le (G : Gs) (w w' : Wd) : Prop where
  dir : ∀ a o, ¬ w.C a → NoTbl o → w.H a = some o → w'.H a = some o ∨ (¬ w.M a ∧ IsD o ∧ ∃ od, w'.H a = some (.frz od o))
  imm : ∀ a xs, w.H a = some (.tup xs) → w'.H a = some (.tup xs)
  ext : ∀ a φ, w.H a = some (.ext φ) → w'.H a = some (.ext φ)
  m1 : ∀ a, w'.M a → w.M a ∨ ¬ IsO w.H a
  m2 : ∀ a, w.M a → IsO w.H a → w'.M a ∨ w.C a
  c1 : ∀ a, w'.C a → w.C a ∨ ¬ IsO w.H a
  dom : ∀ a, IsO w.H a → IsO w'.H a
  tab : LamX.Tabs G.T w.H → LamX.Tabs G.T w'.H
theorem noTbl_tup {xs} : NoTbl (.tup xs) := fun _ z => nomatch z
theorem noTbl_lst {xs} : NoTbl (.lst xs) := fun _ z => nomatch z
theorem noTbl_dK {xs} : NoTbl (.dK xs) := fun _ z => nomatch z
theorem noTbl_dT {xs} : NoTbl (.dT xs) := fun _ z => nomatch z
theorem noTbl_ins {a b xs} : NoTbl (.ins a b xs) := fun _ z => nomatch z
theorem noTbl_frz {a b} : NoTbl (.frz a b) := fun _ z => nomatch z
theorem noTbl_own {a} : NoTbl (.own a) := fun _ z => nomatch z
theorem noTbl_ext {a} : NoTbl (.ext a) := fun _ z => nomatch z
theorem live_of {H : Hp} {a : Addr} {o : HO} (e : H a = some o) : H a ≠ none := by rw [e]; simp
theorem isO_of {H : Hp} {a : Addr} {o : HO} (e : H a = some o) (n : NoTbl o) : IsO H a := ⟨o, e, n⟩
variable {G : Gs}
theorem Le.dirN {w w' : Wd} (l : Le G w w') {a : Addr} {o : HO} (c : ¬ w.C a) (n : NoTbl o) (d : ¬ IsD o) (e : w.H a = some o) : w'.H a = some o := (l.dir a o c n e).elim id fun h => absurd h.2.1 d
theorem Le.dirM {w w' : Wd} (l : Le G w w') {a : Addr} {o : HO} (c : ¬ w.C a) (n : NoTbl o) (d : w.M a) (e : w.H a = some o) : w'.H a = some o := (l.dir a o c n e).elim id fun h => absurd d h.1
theorem Le.refl (w : Wd) : Le G w w := ⟨fun _ _ _ _ e => .inl e, fun _ _ e => e, fun _ _ e => e, fun _ h => .inl h, fun _ h _ => .inl h, fun _ h => .inl h, fun _ h => h, fun h => h⟩
theorem Le.trans {w w1 w2 : Wd} (a : Le G w w1) (b : Le G w1 w2) : Le G w w2 where
  dir := fun x o c n e => by
    have c1 : ¬ w1.C x := fun z => (a.c1 x z).elim c fun q => q (isO_of e n)
    rcases a.dir x o c n e with h | ⟨h1, h2, od, h3⟩
    · rcases b.dir x o c1 n h with h' | ⟨h1, h2, h3⟩
      · exact .inl h'
      · exact .inr ⟨fun z => (a.m2 x z (isO_of e n)).elim h1 c, h2, h3⟩
    · exact .inr ⟨h1, h2, od, b.dirN c1 noTbl_frz (fun z => z) h3⟩
  imm := fun x xs e => b.imm x xs (a.imm x xs e)
  ext := fun x xs e => b.ext x xs (a.ext x xs e)
  m1 := fun x h => (b.m1 x h).elim (a.m1 x) fun q => .inr fun z => q (a.dom x z)
  m2 := fun x h l => (a.m2 x h l).elim (fun q => (b.m2 x q (a.dom x l)).elim .inl fun z => (a.c1 x z).elim .inr fun q2 => absurd l q2) .inr
  c1 := fun x h => (b.c1 x h).elim (a.c1 x) fun q => .inr fun z => q (a.dom x z)
  dom := fun x h => b.dom x (a.dom x h)
  tab := fun h => b.tab (a.tab h)
theorem Le.rd {w w' : Wd} (a : Le G w w') {x : Addr} {u : HO} (c : ¬ w.C x) (n : NoTbl u) (h : Rd w.H x u) : Rd w'.H x u := by
  rcases h with h | ⟨o, h⟩
  · rcases a.dir x _ c n h with q | ⟨_, _, od, q⟩
    · exact .inl q
    · exact .inr ⟨od, q⟩
  · exact .inr ⟨o, a.dirN c noTbl_frz (fun z => z) h⟩
theorem rd_live {H : Hp} {a : Addr} {u : HO} (h : Rd H a u) : H a ≠ none := by
  rcases h with h | ⟨o, h⟩ <;> exact live_of h
theorem rd_isO {H : Hp} {a : Addr} {u : HO} (n : NoTbl u) (h : Rd H a u) : IsO H a := by
  rcases h with h | ⟨o, h⟩
  · exact isO_of h n
  · exact isO_of h noTbl_frz
theorem Le.kp {w w' : Wd} (a : Le G w w') (s : ∀ x, w.C x → w.M x) : Kp w.M w'.M w.H w'.H where
  imm := a.imm
  ext := a.ext
  lst := fun x xs m e => ⟨a.dirN (fun z => m (s x z)) noTbl_lst (fun z => z) e, fun z => (a.m1 x z).elim m fun q => q (isO_of e noTbl_lst)⟩
  dk := fun x xs m e => ⟨a.rd (fun z => m (s x z)) noTbl_dK e, fun z => (a.m1 x z).elim m fun q => q (rd_isO noTbl_dK e)⟩
  dt := fun x xs m e => ⟨a.rd (fun z => m (s x z)) noTbl_dT e, fun z => (a.m1 x z).elim m fun q => q (rd_isO noTbl_dT e)⟩
  frz := fun x o xs m e => ⟨a.dirN (fun z => m (s x z)) noTbl_frz (fun z => z) e, fun z => (a.m1 x z).elim m fun q => q (isO_of e noTbl_frz)⟩
  ins := fun x c dx xs m e => ⟨a.dirN (fun z => m (s x z)) noTbl_ins (fun z => z) e, fun z => (a.m1 x z).elim m fun q => q (isO_of e noTbl_ins)⟩

theorem IsO.live {H : Hp} {a : Addr} (h : IsO H a) : H a ≠ none := by
  obtain ⟨o, e, _⟩ := h
  exact live_of e
/-- new objects alone; those at as are owned -/
structure Prim (w w' : Wd) (as : List Addr) : Prop where
  dir : ∀ a o, NoTbl o → w.H a = some o → w'.H a = some o
  tbl : ∀ a ps, w.H a = some (.tbl ps) → w'.H a = some (.tbl ps)
  m : w'.M = fun a => w.M a ∨ a ∈ as
  c : w'.C = fun a => w.C a ∨ a ∈ as
  fresh : ∀ a ∈ as, w.H a = none
  live : ∀ a ∈ as, IsO w'.H a
  nd : as.Nodup
theorem Prim.le {w w' : Wd} {as : List Addr} (p : Prim w w' as) : Le G w w' where
  dir := fun a o _ n e => .inl (p.dir a o n e)
  imm := fun a xs e => p.dir a _ noTbl_tup e
  ext := fun a φ e => p.dir a _ noTbl_ext e
  m1 := fun a h => by rw [p.m] at h; exact h.elim .inl fun z => .inr fun y => y.live (p.fresh a z)
  m2 := fun a h _ => by rw [p.m]; exact .inl (.inl h)
  c1 := fun a h => by rw [p.c] at h; exact h.elim .inl fun z => .inr fun y => y.live (p.fresh a z)
  dom := fun a ⟨o, e, n⟩ => ⟨o, p.dir a o n e, n⟩
  tab := fun t => t.ext fun b o e => by
    cases o with
    | tbl ps => exact p.tbl b ps e
    | _ => exact p.dir b _ (fun ps z => nomatch z) e
/-- a new shared object -/
theorem Prim.new {w : Wd} {p : Addr} {o : HO} (hp : w.H p = none) : Prim w ⟨upd w.H p o, w.M, w.C⟩ [] where
  dir := fun a u _ e => by show upd w.H p o a = _; rw [upd_ne (ne_of_none e hp)]; exact e
  tbl := fun a u e => by show upd w.H p o a = _; rw [upd_ne (ne_of_none e hp)]; exact e
  m := by funext a; simp
  c := by funext a; simp
  fresh := fun _ h => nomatch h
  live := fun _ h => nomatch h
  nd := .nil
/-- a new object, owned -/
theorem Prim.newO {w : Wd} {p : Addr} {o : HO} (hp : w.H p = none) (n : NoTbl o) : Prim w ⟨upd w.H p o, fun a => w.M a ∨ a ∈ [p], fun a => w.C a ∨ a ∈ [p]⟩ [p] where
  dir := (Prim.new hp).dir
  tbl := (Prim.new hp).tbl
  m := rfl
  c := rfl
  fresh := fun a h => by rw [List.mem_singleton.mp h]; exact hp
  live := fun a h => by rw [List.mem_singleton.mp h]; exact ⟨o, upd_same, n⟩
  nd := by simp
theorem Prim.refl (w : Wd) : Prim w w [] := ⟨fun _ _ _ e => e, fun _ _ h => h, by funext a; simp, by funext a; simp, fun _ h => (nomatch h), fun _ h => (nomatch h), .nil⟩

/-! ### tables of code objects -/
theorem Le.tb {w w' : Wd} (l : Le G w w') (t : LamX.Tabs G.T w.H) : LamX.Tabs G.T w'.H := l.tab t
theorem tabs_set {H : Hp} {p : Addr} {o : HO} {T : List (Addr × Str)} (tb : ∀ ps, H p ≠ some (.tbl ps)) (te : ∀ φ, H p ≠ some (.ext φ)) (t : LamX.Tabs T H) : LamX.Tabs T (upd H p o) := fun q hq => by
  obtain ⟨ps, h1, h2, h3⟩ := t q hq
  refine ⟨ps, (upd_ne fun z => tb ps (by rw [← z]; exact h1)).trans h1, h2, fun pos cv hc => ?_⟩
  obtain ⟨c, e1, e2⟩ := h3 pos cv hc
  exact ⟨c, e1, (upd_ne fun z => te _ (by rw [← z]; exact e2)).trans e2⟩

/-! ### the names' data -/
abbrev Sl := List (Option V)
abbrev Rho := List (Option D)
section
variable (G : Gs)
inductive EnvL (M : Addr → Prop) (H : Hp) : List Addr → Sl → Rho → Prop
  | nil : EnvL M H [] [] []
  | skip {as : List Addr} {o : Option V} {σ : Sl} {ρ : Rho} : EnvL M H as σ ρ → EnvL M H as (o :: σ) (none :: ρ)
  | cons {as bs : List Addr} {v : V} {d : D} {σ : Sl} {ρ : Rho} : Own G M H as v d → EnvL M H bs σ ρ → EnvL M H (as ++ bs) (some v :: σ) (some d :: ρ)
/-- the slots σ hold the data ρ; T: what is owned by no name for the moment -/
structure EnvR (w : Wd) (σ : Sl) (ρ : Rho) (T : List Addr) : Prop where
  ex : ∃ as, EnvL G w.M w.H as σ ρ ∧ (as ++ T).Nodup ∧ ∀ a ∈ as ++ T, w.C a ∧ IsO w.H a
  sub : ∀ a, w.C a → w.M a
  tb : LamX.Tabs G.T w.H
end
section
variable {G : Gs} {M M' : Addr → Prop} {H H' : Hp} {w w' : Wd} {σ : Sl} {ρ : Rho} {T as bs : List Addr} {v : V} {d : D}
theorem EnvL.kp (k : Kp M M' H H') : ∀ {as : List Addr} {σ : Sl} {ρ : Rho}, EnvL G M H as σ ρ → (∀ a ∈ as, H' a = H a) → EnvL G M' H' as σ ρ
  | _, _, _, .nil, _ => .nil
  | _, _, _, .skip e, h => .skip (e.kp k h)
  | _, _, _, .cons o e, h => .cons (o.kp k fun x hx => h x (List.mem_append_left _ hx)) (e.kp k fun x hx => h x (List.mem_append_right _ hx))
theorem EnvL.len : ∀ {as : List Addr} {σ : Sl} {ρ : Rho}, EnvL G M H as σ ρ → σ.length = ρ.length
  | _, _, _, .nil => rfl
  | _, _, _, .skip e => congrArg (· + 1) e.len
  | _, _, _, .cons _ e => congrArg (· + 1) e.len
theorem EnvL.get : ∀ {as : List Addr} {σ : Sl} {ρ : Rho} {i : Nat} {d : D}, EnvL G M H as σ ρ → ρ[i]? = some (some d) → ∃ v bs, σ[i]? = some (some v) ∧ Own G M H bs v d ∧ ∀ a ∈ bs, a ∈ as
  | _, _, _, _, _, .nil, h => by simp at h
  | _, _, _, 0, _, .skip e, h => by simp at h
  | _, _, _, i + 1, d, .skip e, h => by
    obtain ⟨v, bs, h1, h2, h3⟩ := EnvL.get (i := i) (d := d) e (by simpa using h)
    exact ⟨v, bs, by simpa using h1, h2, h3⟩
  | _, _, _, 0, _, .cons o e, h => by
    simp at h
    subst h
    exact ⟨_, _, rfl, o, fun a ha => List.mem_append_left _ ha⟩
  | _, _, _, i + 1, d, .cons o e, h => by
    obtain ⟨v, bs, h1, h2, h3⟩ := EnvL.get (i := i) (d := d) e (by simpa using h)
    exact ⟨v, bs, by simpa using h1, h2, fun a ha => List.mem_append_right _ (h3 a ha)⟩
/-- one entry out of the middle: what it owns, and the rest -/
theorem EnvL.at_ : ∀ {as : List Addr} {σ : Sl} {ρ : Rho} {i : Nat} {d : D}, EnvL G M H as σ ρ → ρ[i]? = some (some d) → ∃ v bs cs, σ[i]? = some (some v) ∧ Own G M H bs v d ∧ as.Perm (bs ++ cs) ∧
    ∀ (M' : Addr → Prop) (H' : Hp) (bs' : List Addr) (d' : D), Kp M M' H H' → (∀ a ∈ cs, H' a = H a) → Own G M' H' bs' v d' → ∃ as', EnvL G M' H' as' σ (ρ.set i (some d')) ∧ as'.Perm (bs' ++ cs)
  | _, _, _, _, _, .nil, h => by simp at h
  | _, _, _, 0, _, .skip e, h => by simp at h
  | _, _, _, i + 1, d, .skip e, h => by
    obtain ⟨v, bs, cs, h1, h2, h3, h4⟩ := EnvL.at_ (i := i) (d := d) e (by simpa using h)
    refine ⟨v, bs, cs, by simpa using h1, h2, h3, fun M' H' bs' d' k hc o => ?_⟩
    obtain ⟨as', e', p⟩ := h4 M' H' bs' d' k hc o
    exact ⟨as', .skip e', p⟩
  | _, _, _, 0, _, .cons (bs := bs) o e, h => by
    simp at h
    subst h
    exact ⟨_, _, _, rfl, o, .refl _, fun M' H' bs' d' k hc o' => ⟨_, .cons o' (e.kp k hc), .refl _⟩⟩
  | _, _, _, i + 1, d, .cons (as := as) o e, h => by
    obtain ⟨v, bs, cs, h1, h2, h3, h4⟩ := EnvL.at_ (i := i) (d := d) e (by simpa using h)
    refine ⟨v, bs, as ++ cs, by simpa using h1, h2, ?_, fun M' H' bs' d' k hc o' => ?_⟩
    · exact (List.Perm.append_left as h3).trans (by rw [← List.append_assoc, ← List.append_assoc]; exact List.Perm.append_right cs List.perm_append_comm)
    · obtain ⟨as', e', p⟩ := h4 M' H' bs' d' k (fun a ha => hc a (List.mem_append_right _ ha)) o'
      refine ⟨as ++ as', .cons (o.kp k fun a ha => hc a (List.mem_append_left _ ha)) e', ?_⟩
      exact (List.Perm.append_left as p).trans (by rw [← List.append_assoc, ← List.append_assoc]; exact List.Perm.append_right cs List.perm_append_comm)
/-- a slot is stored -/
theorem EnvL.set : ∀ {as : List Addr} {σ : Sl} {ρ : Rho} {i : Nat} {bs : List Addr} {v : V} {d : D}, EnvL G M H as σ ρ → i < ρ.length → Own G M H bs v d → ∃ cs as', EnvL G M H as' (σ.set i (some v)) (ρ.set i (some d)) ∧ as'.Perm (bs ++ cs) ∧ ∃ ds, as.Perm (ds ++ cs)
  | _, _, _, _, _, _, _, .nil, h, _ => by simp at h
  | _, _, _, 0, _, _, _, .skip (as := as) e, h, o => ⟨as, _, .cons o e, .refl _, [], .refl _⟩
  | _, _, _, 0, _, _, _, .cons (as := as) (bs := bs) o' e, h, o => ⟨bs, _, .cons o e, .refl _, as, .refl _⟩
  | _, _, _, i + 1, bs, v, d, .skip e, h, o => by
    obtain ⟨cs, as', h1, h2, h3⟩ := EnvL.set (i := i) e (by simpa using h) o
    exact ⟨cs, as', .skip h1, h2, h3⟩
  | _, _, _, i + 1, bs, v, d, .cons (as := as) o' e, h, o => by
    obtain ⟨cs, as', h1, h2, ds, h3⟩ := EnvL.set (i := i) e (by simpa using h) o
    refine ⟨as ++ cs, as ++ as', .cons o' h1, ?_, ds, ?_⟩
    · exact (List.Perm.append_left as h2).trans (by rw [← List.append_assoc, ← List.append_assoc]; exact List.Perm.append_right cs List.perm_append_comm)
    · exact (List.Perm.append_left as h3).trans (by rw [← List.append_assoc, ← List.append_assoc]; exact List.Perm.append_right cs List.perm_append_comm)
/-- a name is forgotten; its slot may hold anything -/
theorem EnvL.drop : ∀ {as : List Addr} {σ : Sl} {ρ : Rho} (i : Nat) (o : Option V), EnvL G M H as σ ρ → ∃ cs, EnvL G M H cs (σ.set i o) (ρ.set i none) ∧ ∃ ds, as.Perm (ds ++ cs)
  | _, _, _, _, _, .nil => ⟨[], .nil, [], .refl _⟩
  | _, _, _, 0, _, .skip (as := as) e => ⟨as, .skip e, [], .refl _⟩
  | _, _, _, 0, _, .cons (as := as) (bs := bs) o e => ⟨bs, .skip e, as, .refl _⟩
  | _, _, _, i + 1, o, .skip e => by
    obtain ⟨cs, h1, h2⟩ := EnvL.drop i o e
    exact ⟨cs, .skip h1, h2⟩
  | _, _, _, i + 1, o, .cons (as := as) o' e => by
    obtain ⟨cs, h1, ds, h2⟩ := EnvL.drop i o e
    exact ⟨as ++ cs, .cons o' h1, ds, (List.Perm.append_left as h2).trans (by rw [← List.append_assoc, ← List.append_assoc]; exact List.Perm.append_right cs List.perm_append_comm)⟩

theorem EnvR.len (e : EnvR G w σ ρ T) : σ.length = ρ.length := by
  obtain ⟨as, h, _⟩ := e.ex
  exact h.len
theorem EnvR.get (e : EnvR G w σ ρ T) {i : Nat} (h : ρ[i]? = some (some d)) : ∃ v bs, σ[i]? = some (some v) ∧ Own G w.M w.H bs v d ∧ ∀ a ∈ bs, w.C a ∧ IsO w.H a := by
  obtain ⟨as, h1, h2, h3⟩ := e.ex
  obtain ⟨v, bs, a, b, c⟩ := h1.get h
  exact ⟨v, bs, a, b, fun x hx => h3 x (List.mem_append_left _ (c x hx))⟩
theorem EnvR.less (e : EnvR G w σ ρ (as ++ T)) : EnvR G w σ ρ T := by
  obtain ⟨bs, h1, h2, h3⟩ := e.ex
  refine ⟨⟨bs, h1, h2.sublist (List.Sublist.append_left (List.sublist_append_right _ _) _), fun a ha => h3 a ?_⟩, e.sub, e.tb⟩
  rcases List.mem_append.mp ha with z | z
  · exact List.mem_append_left _ z
  · exact List.mem_append_right _ (List.mem_append_right _ z)
theorem EnvR.set (e : EnvR G w σ ρ (as ++ T)) {i : Nat} (hi : i < ρ.length) (o : Own G w.M w.H as v d) : EnvR G w (σ.set i (some v)) (ρ.set i (some d)) T := by
  obtain ⟨bs, h1, h2, h3⟩ := e.ex
  obtain ⟨cs, as', q1, q2, ds, q3⟩ := h1.set hi o
  refine ⟨⟨as', q1, ?_, fun a ha => h3 a ?_⟩, e.sub, e.tb⟩
  · have p : (as' ++ T).Perm (cs ++ (as ++ T)) := (List.Perm.append_right T (q2.trans List.perm_append_comm)).trans (by rw [List.append_assoc])
    refine p.symm.nodup (List.Nodup.sublist ?_ ((List.Perm.append_right (as ++ T) q3).nodup h2))
    rw [List.append_assoc]
    exact List.sublist_append_right _ _
  · rcases List.mem_append.mp ha with z | z
    · rcases List.mem_append.mp (q2.mem_iff.mp z) with y | y
      · exact List.mem_append_right _ (List.mem_append_left _ y)
      · exact List.mem_append_left _ (q3.mem_iff.mpr (List.mem_append_right _ y))
    · exact List.mem_append_right _ (List.mem_append_right _ z)
theorem EnvR.drop (e : EnvR G w σ ρ T) (i : Nat) (o : Option V) : EnvR G w (σ.set i o) (ρ.set i none) T := by
  obtain ⟨bs, h1, h2, h3⟩ := e.ex
  obtain ⟨cs, q1, ds, q3⟩ := h1.drop i o
  refine ⟨⟨cs, q1, ?_, fun a ha => h3 a ?_⟩, e.sub, e.tb⟩
  · refine List.Nodup.sublist ?_ ((List.Perm.append_right T q3).nodup h2)
    rw [List.append_assoc]
    exact List.sublist_append_right _ _
  · rcases List.mem_append.mp ha with z | z
    · exact List.mem_append_left _ (q3.mem_iff.mpr (List.mem_append_right _ z))
    · exact List.mem_append_right _ z
theorem Prim.kp (p : Prim w w' as) : Kp w.M w'.M w.H w'.H where
  imm := fun a xs e => p.dir a _ noTbl_tup e
  ext := fun a φ e => p.dir a _ noTbl_ext e
  lst := fun a xs m e => ⟨p.dir a _ noTbl_lst e, fun z => by rw [p.m] at z; exact z.elim m fun y => by rw [p.fresh a y] at e; cases e⟩
  dk := fun a xs m e => ⟨e.elim (fun z => .inl (p.dir a _ noTbl_dK z)) fun ⟨o, z⟩ => .inr ⟨o, p.dir a _ noTbl_frz z⟩, fun z => by rw [p.m] at z; exact z.elim m fun y => rd_live e (p.fresh a y)⟩
  dt := fun a xs m e => ⟨e.elim (fun z => .inl (p.dir a _ noTbl_dT z)) fun ⟨o, z⟩ => .inr ⟨o, p.dir a _ noTbl_frz z⟩, fun z => by rw [p.m] at z; exact z.elim m fun y => rd_live e (p.fresh a y)⟩
  frz := fun a o xs m e => ⟨p.dir a _ noTbl_frz e, fun z => by rw [p.m] at z; exact z.elim m fun y => by rw [p.fresh a y] at e; cases e⟩
  ins := fun a c dx xs m e => ⟨p.dir a _ noTbl_ins e, fun z => by rw [p.m] at z; exact z.elim m fun y => by rw [p.fresh a y] at e; cases e⟩
mutual
/-- what owned data stands at -/
theorem Own.isObj : ∀ {as : List Addr} {v : V} {d : D}, Own G M H as v d → ∀ a ∈ as, ∃ o, H a = some o ∧ NoTbl o
  | _, _, _, .sh r, _, h => nomatch h
  | _, _, _, .ol e r, a, h => (List.mem_cons.mp h).elim (fun z => by subst z; exact ⟨_, e, noTbl_lst⟩) fun z => OwnL.isObj r a z
  | _, _, _, .od e r, a, h => (List.mem_cons.mp h).elim (fun z => by subst z; exact ⟨_, e, noTbl_dK⟩) fun z => OwnK.isObj r a z
  | _, _, _, .ot e r, a, h => (List.mem_cons.mp h).elim (fun z => by subst z; exact ⟨_, e, noTbl_dT⟩) fun z => OwnT.isObj r a z
  | _, _, _, .oi e r, a, h => (List.mem_cons.mp h).elim (fun z => by subst z; exact ⟨_, e, noTbl_ins⟩) fun z => OwnF.isObj r a z
theorem OwnL.isObj : ∀ {as : List Addr} {v : List V} {d : List D}, OwnL G M H as v d → ∀ a ∈ as, ∃ o, H a = some o ∧ NoTbl o
  | _, _, _, .nil, _, h => nomatch h
  | _, _, _, .cons a b, x, h => (List.mem_append.mp h).elim (Own.isObj a x) (OwnL.isObj b x)
theorem OwnK.isObj : ∀ {as : List Addr} {v : List (Key × V)} {d : List (Key × D)}, OwnK G M H as v d → ∀ a ∈ as, ∃ o, H a = some o ∧ NoTbl o
  | _, _, _, .nil, _, h => nomatch h
  | _, _, _, .cons a b, x, h => (List.mem_append.mp h).elim (Own.isObj a x) (OwnK.isObj b x)
theorem OwnT.isObj : ∀ {as : List Addr} {v : List (List Key × V)} {d : List (List Key × D)}, OwnT G M H as v d → ∀ a ∈ as, ∃ o, H a = some o ∧ NoTbl o
  | _, _, _, .nil, _, h => nomatch h
  | _, _, _, .cons a b, x, h => (List.mem_append.mp h).elim (Own.isObj a x) (OwnT.isObj b x)
theorem OwnF.isObj : ∀ {as : List Addr} {v : List (Str × V)} {d : List (Str × D)}, OwnF G M H as v d → ∀ a ∈ as, ∃ o, H a = some o ∧ NoTbl o
  | _, _, _, .nil, _, h => nomatch h
  | _, _, _, .cons a b, x, h => (List.mem_append.mp h).elim (Own.isObj a x) (OwnF.isObj b x)
end
theorem EnvL.isObj : ∀ {as : List Addr} {σ : Sl} {ρ : Rho}, EnvL G M H as σ ρ → ∀ a ∈ as, ∃ o, H a = some o ∧ NoTbl o
  | _, _, _, .nil, _, h => nomatch h
  | _, _, _, .skip e, a, h => e.isObj a h
  | _, _, _, .cons o e, a, h => (List.mem_append.mp h).elim (o.isObj a) (e.isObj a)
theorem Own.same (p : ∀ a o, NoTbl o → H a = some o → H' a = some o) (o : Own G M H as v d) : ∀ a ∈ as, H' a = H a := fun a ha => by
  obtain ⟨u, e, n⟩ := o.isObj a ha
  rw [e]; exact p a u n e
theorem EnvL.same (p : ∀ a o, NoTbl o → H a = some o → H' a = some o) (o : EnvL G M H as σ ρ) : ∀ a ∈ as, H' a = H a := fun a ha => by
  obtain ⟨u, e, n⟩ := o.isObj a ha
  rw [e]; exact p a u n e
theorem Prim.isO (p : Prim w w' as) {a : Addr} (h : IsO w.H a) : IsO w'.H a := by
  obtain ⟨o, e, n⟩ := h
  exact ⟨o, p.dir a o n e, n⟩
theorem EnvR.prim (e : EnvR G w σ ρ T) (p : Prim w w' as) : EnvR G w' σ ρ (as ++ T) := by
  obtain ⟨bs, h1, h2, h3⟩ := e.ex
  refine ⟨⟨bs, h1.kp p.kp (h1.same p.dir), ?_, fun a ha => ?_⟩, fun a h => ?_, p.le.tb e.tb⟩
  · have q : (bs ++ (as ++ T)).Perm (as ++ (bs ++ T)) := by
      rw [← List.append_assoc, ← List.append_assoc]
      exact List.Perm.append_right T List.perm_append_comm
    refine q.symm.nodup (List.nodup_append.mpr ⟨p.nd, h2, fun x hx y hy z => ?_⟩)
    subst z
    exact (h3 x hy).2.live (p.fresh x hx)
  · rw [p.c]
    rcases List.mem_append.mp ha with z | z
    · exact ⟨.inl (h3 a (List.mem_append_left _ z)).1, p.isO (h3 a (List.mem_append_left _ z)).2⟩
    · rcases List.mem_append.mp z with y | y
      · exact ⟨.inr y, p.live a y⟩
      · exact ⟨.inl (h3 a (List.mem_append_right _ y)).1, p.isO (h3 a (List.mem_append_right _ y)).2⟩
  · rw [p.c] at h
    rw [p.m]
    exact h.elim (fun z => .inl (e.sub a z)) .inr
/-- behind, what is owned by no name as it was -/
structure Go G (T : List Addr) (w w' : Wd) : Prop where
  le : Le G w w'
  ts : ∀ a ∈ T, w'.H a = w.H a
theorem Go.refl (T : List Addr) (w : Wd) : Go G T w w := ⟨.refl w, fun _ _ => rfl⟩
theorem Go.trans {w1 w2 : Wd} (a : Go G T w w1) (b : Go G T w1 w2) : Go G T w w2 := ⟨a.le.trans b.le, fun x h => (b.ts x h).trans (a.ts x h)⟩
theorem Go.less (a : Go G (as ++ T) w w') : Go G T w w' := ⟨a.le, fun x h => a.ts x (List.mem_append_right _ h)⟩
theorem Prim.go (p : Prim w w' as) (e : EnvR G w σ ρ T) : Go G T w w' := ⟨p.le, fun a h => by
  obtain ⟨bs, h1, h2, h3⟩ := e.ex
  obtain ⟨o, q, n⟩ := (h3 a (List.mem_append_right _ h)).2
  rw [q]; exact p.dir a o n q⟩
/-- owned data that no name holds is kept -/
theorem Go.own (g : Go G (as ++ T) w w') (s : ∀ a, w.C a → w.M a) (o : Own G w.M w.H as v d) : Own G w'.M w'.H as v d := o.kp (g.le.kp s) fun a h => g.ts a (List.mem_append_left _ h)
theorem Go.ownL (g : Go G (as ++ T) w w') (s : ∀ a, w.C a → w.M a) {vs : List V} {ds : List D} (o : OwnL G w.M w.H as vs ds) : OwnL G w'.M w'.H as vs ds := o.kp (g.le.kp s) fun a h => g.ts a (List.mem_append_left _ h)
theorem EnvR.prim0 (e : EnvR G w σ ρ T) (p : Prim w w' []) : EnvR G w' σ ρ T := e.prim p
end
end On

set_option Elab.async false
set_option linter.all false
set_option maxRecDepth 100000
set_option maxHeartbeats 4000000
/-! On3: mirrors of expressions, and what they say. -/
namespace On
open PySem PySem.Spec PyProof.Rows L2

/-- what an expression comes to: a datum and the names' data behind; an exception of a class; no word -/
inductive XR where
  | ok (d : D) (ρ : Rho)
  | ex (c : Str) (ρ : Rho)
  | no
abbrev Xx := Rho → XR
def XR.bind (r : XR) (f : D → Rho → XR) : XR := match r with
  | .ok d ρ => f d ρ
  | .ex c ρ => .ex c ρ
  | .no => .no
inductive AR where
  | ok (ds : List D) (ρ : Rho)
  | ex (c : Str) (ρ : Rho)
  | no
abbrev Ax := Rho → AR
inductive BR where
  | ok (b : Bool) (ρ : Rho)
  | ex (c : Str) (ρ : Rho)
  | no
abbrev Bx := Rho → BR
/-- a bool at the end -/
def ofB : Bx → Xx := fun t ρ => match t ρ with
  | .ok b ρ1 => .ok (.bl b) ρ1
  | .ex c ρ1 => .ex c ρ1
  | .no => .no
def toB : Xx → Bx := fun x ρ => match x ρ with
  | .ok (.bl b) ρ1 => .ok b ρ1
  | .ok _ _ => .no
  | .ex c ρ1 => .ex c ρ1
  | .no => .no

section
variable (G : Gs) (E : WX)
def tD (x : Xx) : TE := fun σ H Q => ∃ w ρ T, w.H = H ∧ EnvR G w σ ρ T ∧ match x ρ with
  | .ok d ρ' => ∀ v w' as, Go G T w w' → EnvR G w' σ ρ' (as ++ T) → Own G w'.M w'.H as v d → Q v w'.H
  | .ex c ρ' => ∀ w', Go G T w w' → EnvR G w' σ ρ' T → E (.ref (G c)) none σ w'.H
  | .no => False
def tDA (x : Ax) : TA := fun σ H Q => ∃ w ρ T, w.H = H ∧ EnvR G w σ ρ T ∧ match x ρ with
  | .ok ds ρ' => ∀ vs w' as, Go G T w w' → EnvR G w' σ ρ' (as ++ T) → OwnL G w'.M w'.H as vs ds → Q vs w'.H
  | .ex c ρ' => ∀ w', Go G T w w' → EnvR G w' σ ρ' T → E (.ref (G c)) none σ w'.H
  | .no => False
def tDB (x : Bx) : TT := fun σ H Q => ∃ w ρ T, w.H = H ∧ EnvR G w σ ρ T ∧ match x ρ with
  | .ok b ρ' => ∀ w', Go G T w w' → EnvR G w' σ ρ' T → Q b w'.H
  | .ex c ρ' => ∀ w', Go G T w w' → EnvR G w' σ ρ' T → E (.ref (G c)) none σ w'.H
  | .no => False
end

section
variable {X : Cx} {e : Expr} {es : List Expr}
theorem _root_.L2.PE.imp {t t' : TE} (h : PE X e t) (f : ∀ σ H Q, t' σ H Q → t σ H Q) : PE X e t' := ⟨fun pins s σ H Q I q => h.run pins s σ H Q I (f σ H Q q)⟩
theorem _root_.L2.PT.imp {t t' : TT} (h : PT X e t) (f : ∀ σ H Q, t' σ H Q → t σ H Q) : PT X e t' := ⟨fun pins s σ H Q I q => h.run pins s σ H Q I (f σ H Q q)⟩
theorem _root_.L2.PW.imp {t t' : TT} (h : PW X e t) (f : ∀ σ H Q, t' σ H Q → t σ H Q) : PW X e t' := ⟨fun wh pins s σ H Q I q => h.run wh pins s σ H Q I (f σ H Q q)⟩
theorem _root_.L2.PA.imp {t t' : TA} (h : PA X es t) (f : ∀ σ H Q, t' σ H Q → t σ H Q) : PA X es t' := ⟨fun pos pins s σ H Q I q => h.run pos pins s σ H Q I (f σ H Q q)⟩
end

section
variable {X : Cx} {G : Gs} {E : WX} {e a b c : Expr} {es rest : List Expr} {pos : Pos} {x xa xb xc : Xx} {ta tb tc : Bx} {ya : Ax}

/-! ### tests -/
theorem et_val (h : PE X e (tD G E x)) (he : ∀ whole, isTrue e X.env whole = (do let v ← whole; standAt e.pos; holding [v] (truthy v)) := by intro _; rfl) : PT X e (tDB G E (toB x)) := by
  refine (pt_val h he).imp fun σ H Q q => ?_
  obtain ⟨w, ρ, T, rfl, er, q⟩ := q
  refine ⟨w, ρ, T, rfl, er, ?_⟩
  unfold toB at q
  cases hx : x ρ with
  | ok d ρ1 =>
    rw [hx] at q
    cases d with
    | bl k =>
      intro v w' as g er' o
      obtain ⟨rfl, r⟩ := o.rep rfl
      cases r
      exact ⟨k, rfl, q w' g er'⟩
    | _ => exact q.elim
  | ex c ρ1 =>
    rw [hx] at q
    exact q
  | no =>
    rw [hx] at q
    exact q.elim
/-- a comparison, a chain, as a test -/
theorem et_tB {t : TE} (h : PT X e (tB t)) (hx : ∀ σ H Q, tD G E x σ H Q → t σ H Q) : PT X e (tDB G E (toB x)) := by
  refine h.imp fun σ H Q q => hx σ H _ ?_
  obtain ⟨w, ρ, T, rfl, er, q⟩ := q
  refine ⟨w, ρ, T, rfl, er, ?_⟩
  unfold toB at q
  cases hx : x ρ with
  | ok d ρ1 =>
    rw [hx] at q
    cases d with
    | bl k =>
      intro v w' as g er' o
      obtain ⟨rfl, r⟩ := o.rep rfl
      cases r
      exact ⟨k, rfl, q w' g er'⟩
    | _ => exact q.elim
  | ex c ρ1 =>
    rw [hx] at q
    exact q
  | no =>
    rw [hx] at q
    exact q.elim
def yAnd (s t : Bx) : Bx := fun ρ => match s ρ with
  | .ok true ρ1 => t ρ1
  | r => r
def yOr (s t : Bx) : Bx := fun ρ => match s ρ with
  | .ok false ρ1 => t ρ1
  | r => r
def yNot (s : Bx) : Bx := fun ρ => match s ρ with
  | .ok b ρ1 => .ok (!b) ρ1
  | r => r
theorem ew_and1 (ha : PT X a (tDB G E ta)) : PW X (.BoolOp .And [a] pos) (tDB G E ta) := pw_and1 ha
theorem ew_or1 (ha : PT X a (tDB G E ta)) : PW X (.BoolOp .Or [a] pos) (tDB G E ta) := pw_or1 ha
theorem ew_and (ha : PT X a (tDB G E ta)) (hb : PW X (.BoolOp .And (b :: rest) pos) (tDB G E tb)) : PW X (.BoolOp .And (a :: b :: rest) pos) (tDB G E (yAnd ta tb)) := by
  refine (pw_and ha hb).imp fun σ H Q q => ?_
  obtain ⟨w, ρ, T, rfl, er, q⟩ := q
  refine ⟨w, ρ, T, rfl, er, ?_⟩
  unfold yAnd at q
  cases h1 : ta ρ with
  | ok k ρ1 =>
    rw [h1] at q
    intro w1 g1 er1
    cases k with
    | true =>
      refine ⟨w1, ρ1, T, rfl, er1, ?_⟩
      cases h2 : tb ρ1 with
      | ok k2 ρ2 => simp only [h2] at q; exact fun w2 g2 er2 => q w2 (g1.trans g2) er2
      | ex c ρ2 => simp only [h2] at q; exact fun w2 g2 er2 => q w2 (g1.trans g2) er2
      | no => simp only [h2] at q
    | false => exact q w1 g1 er1
  | ex c ρ1 =>
    rw [h1] at q
    exact q
  | no =>
    rw [h1] at q
    exact q.elim
theorem ew_or (ha : PT X a (tDB G E ta)) (hb : PW X (.BoolOp .Or (b :: rest) pos) (tDB G E tb)) : PW X (.BoolOp .Or (a :: b :: rest) pos) (tDB G E (yOr ta tb)) := by
  refine (pw_or ha hb).imp fun σ H Q q => ?_
  obtain ⟨w, ρ, T, rfl, er, q⟩ := q
  refine ⟨w, ρ, T, rfl, er, ?_⟩
  unfold yOr at q
  cases h1 : ta ρ with
  | ok k ρ1 =>
    rw [h1] at q
    intro w1 g1 er1
    cases k with
    | false =>
      refine ⟨w1, ρ1, T, rfl, er1, ?_⟩
      cases h2 : tb ρ1 with
      | ok k2 ρ2 => simp only [h2] at q; exact fun w2 g2 er2 => q w2 (g1.trans g2) er2
      | ex c ρ2 => simp only [h2] at q; exact fun w2 g2 er2 => q w2 (g1.trans g2) er2
      | no => simp only [h2] at q
    | true => exact q w1 g1 er1
  | ex c ρ1 =>
    rw [h1] at q
    exact q
  | no =>
    rw [h1] at q
    exact q.elim
theorem et_w (h : PW X e (tDB G E ta)) : PT X e (tDB G E ta) := h.pt
theorem et_not (ha : PT X a (tDB G E ta)) : PT X (.UnaryOp .Not a pos) (tDB G E (yNot ta)) := by
  refine (pt_not ha).imp fun σ H Q q => ?_
  obtain ⟨w, ρ, T, rfl, er, q⟩ := q
  refine ⟨w, ρ, T, rfl, er, ?_⟩
  unfold yNot at q
  cases h1 : ta ρ with
  | ok k ρ1 =>
    rw [h1] at q
    exact q
  | ex c ρ1 =>
    rw [h1] at q
    exact q
  | no =>
    rw [h1] at q
    exact q.elim

/-! ### names, constants -/
def xVar (i : Nat) : Xx := fun ρ => match ρ[i]? with
  | some (some d) => if d.sh = true then .ok d ρ else .no
  | _ => .no
def xC (d : D) : Xx := fun ρ => .ok d ρ
theorem ed_var {i : Nat} {n : Str} (hN : X.N[i]? = some n) (hv : Vis X.env.scope n) (hd : (n == ("__debug__" : Str)) = false := by decide) (hcd : (n == ("__classdict__" : Str)) = false := by decide) : PE X (.Name n pos) (tD G E (xVar i)) := by
  refine (pe_var hN hv hd hcd).imp fun σ H Q q => ?_
  obtain ⟨w, ρ, T, rfl, er, q⟩ := q
  unfold xVar at q
  cases h1 : ρ[i]? with
  | none =>
    rw [h1] at q
    exact q.elim
  | some o =>
    cases o with
    | none =>
      rw [h1] at q
      exact q.elim
    | some d =>
      simp only [h1] at q
      obtain ⟨v, bs, hs, ho, _⟩ := er.get h1
      by_cases hd : d.sh = true
      · rw [if_pos hd] at q
        obtain ⟨rfl, r⟩ := ho.rep hd
        exact ⟨v, hs, q v w [] (.refl T w) er (.sh r)⟩
      · rw [if_neg hd] at q
        exact q.elim
theorem ed_int {i : Int} {j} : PE X (.Constant (.int i) j pos) (tD G E (xC (.int i))) := pe_int.imp fun σ H Q q => by
  obtain ⟨w, ρ, T, rfl, er, q⟩ := q
  exact q _ w [] (.refl T w) er (.sh (.int i))
theorem ed_bl {i : Bool} {j} : PE X (.Constant (.bool i) j pos) (tD G E (xC (.bl i))) := pe_bl.imp fun σ H Q q => by
  obtain ⟨w, ρ, T, rfl, er, q⟩ := q
  exact q _ w [] (.refl T w) er (.sh (.bl i))
theorem ed_non {j} : PE X (.Constant .none j pos) (tD G E (xC .non)) := pe_non.imp fun σ H Q q => by
  obtain ⟨w, ρ, T, rfl, er, q⟩ := q
  exact q _ w [] (.refl T w) er (.sh .non)
theorem ed_str {i : Str} {j} : PE X (.Constant (.str i) j pos) (tD G E (xC (.str i))) := pe_str.imp fun σ H Q q => by
  obtain ⟨w, ρ, T, rfl, er, q⟩ := q
  exact q _ w [] (.refl T w) er (.sh (.str i))
theorem ed_gl {n : Str} (hg : Gl X n) (hm : X.mg n = some (.ref (G n))) (hd : (n == ("__debug__" : Str)) = false := by decide) : PE X (.Name n pos) (tD G E (xC (.gl n))) := (pe_glob hg hm (v := .ref (G n)) rfl hd).imp fun σ H Q q => by
  obtain ⟨w, ρ, T, rfl, er, q⟩ := q
  exact q _ w [] (.refl T w) er (.sh (.gl n))
theorem ed_gint {n : Str} {i : Int} (hg : Gl X n) (hm : ∃ t, X.mg n = some (.int i t)) (hd : (n == ("__debug__" : Str)) = false := by decide) : PE X (.Name n pos) (tD G E (xC (.int i))) := by
  obtain ⟨t, hm⟩ := hm
  refine (pe_glob hg hm (v := .int i) ⟨t, rfl⟩ hd).imp fun σ H Q q => ?_
  obtain ⟨w, ρ, T, rfl, er, q⟩ := q
  exact q _ w [] (.refl T w) er (.sh (.int i))

/-! ### two values, one value -/
def xOp (f : D → D → Option D) (xa xb : Xx) : Xx := fun ρ => (xa ρ).bind fun d1 ρ1 => (xb ρ1).bind fun d2 ρ2 =>
  if d1.sh = true ∧ d2.sh = true then (match f d1 d2 with
    | some d => .ok d ρ2
    | none => .no) else .no
/-- by values: r does f -/
def Op2 (G : Gs) (r : R2) (f : D → D → Option D) : Prop := ∀ (w : Wd) (x y : V) (d1 d2 d : D), f d1 d2 = some d → Rep G w.M w.H x d1 → Rep G w.M w.H y d2 →
  ∀ Q : VK, (∀ v w' as, Prim w w' as → Own G w'.M w'.H as v d → Q v w'.H) → r x y w.H Q
theorem tD_op {r : R2} {f : D → D → Option D} (hf : Op2 G r f) (σ : Sl) (H : Hp) (Q : VK) (q : tD G E (xOp f xa xb) σ H Q) : tOp r (tD G E xa) (tD G E xb) σ H Q := by
  obtain ⟨w, ρ, T, rfl, er, q⟩ := q
  refine ⟨w, ρ, T, rfl, er, ?_⟩
  unfold xOp XR.bind at q
  cases h1 : xa ρ with
  | ex c ρ1 =>
    simp only [h1] at q
    exact q
  | no =>
    simp only [h1] at q
  | ok d1 ρ1 =>
    simp only [h1] at q
    intro v1 w1 as1 g1 er1 o1
    refine ⟨w1, ρ1, as1 ++ T, rfl, er1, ?_⟩
    cases h2 : xb ρ1 with
    | ex c ρ2 =>
      simp only [h2] at q
      exact fun w2 g2 er2 => q w2 (g1.trans g2.less) er2.less
    | no =>
      simp only [h2] at q
    | ok d2 ρ2 =>
      simp only [h2] at q
      intro v2 w2 as2 g2 er2 o2
      by_cases hs : d1.sh = true ∧ d2.sh = true
      · rw [if_pos hs] at q
        obtain ⟨e1, r1⟩ := o1.rep hs.1
        obtain ⟨e2, r2⟩ := o2.rep hs.2
        subst e1 e2
        cases h3 : f d1 d2 with
        | none =>
          simp only [h3] at q
        | some d =>
          simp only [h3] at q
          refine hf w2 v1 v2 d1 d2 d h3 (r1.kp (g2.le.kp er1.sub)) r2 Q fun v w3 as p o => ?_
          exact q v w3 as ((g1.trans g2).trans (p.go er2)) (er2.prim p) o
      · rw [if_neg hs] at q
        exact q.elim
theorem ed_op {op : Operator} {r : R2} {f : D → D → Option D} (ho : OpR X (binaryOp op) r) (hf : Op2 G r f) (ha : PE X a (tD G E xa)) (hb : PE X b (tD G E xb)) : PE X (.BinOp a op b pos) (tD G E (xOp f xa xb)) :=
  (pe_op ho ha hb).imp (tD_op hf)
theorem ed_cmp {op : CmpOp} {r : R2} {f : D → D → Option D} (ho : OpR X (compareOp op) r) (hf : Op2 G r f) (ha : PE X a (tD G E xa)) (hb : PE X b (tD G E xb)) (hm : behindInMarks op b = false) : PE X (.Compare a [op] [b] pos) (tD G E (xOp f xa xb)) :=
  (pe_cmpR ho ha hb hm).imp (tD_op hf)
theorem et_cmp {op : CmpOp} {r : R2} {f : D → D → Option D} (ho : OpR X (compareOp op) r) (hf : Op2 G r f) (ha : PE X a (tD G E xa)) (hb : PE X b (tD G E xb)) (hm : behindInMarks op b = false) : PT X (.Compare a [op] [b] pos) (tDB G E (toB (xOp f xa xb))) :=
  et_tB (t := tOp r (tD G E xa) (tD G E xb)) (pt_cmpR ho ha hb hm) (tD_op hf)
theorem ed_ix {r : R2} {f : D → D → Option D} (ho : IxR X r) (hf : Op2 G r f) (ha : PE X a (tD G E xa)) (hb : PE X b (tD G E xb)) (hs : PlainIx b) : PE X (.Subscript a b pos) (tD G E (xOp f xa xb)) :=
  (pe_ix ho ha hb hs).imp (tD_op hf)
/-- one value -/
def xUn (f : D → Option D) (xa : Xx) : Xx := fun ρ => (xa ρ).bind fun d1 ρ1 => if d1.sh = true then (match f d1 with
  | some d => .ok d ρ1
  | none => .no) else .no
def Op1 (G : Gs) (r : V → Hp → VK → Prop) (f : D → Option D) : Prop := ∀ (w : Wd) (x : V) (d1 d : D), f d1 = some d → Rep G w.M w.H x d1 → ∀ Q : VK, (∀ v w' as, Prim w w' as → Own G w'.M w'.H as v d → Q v w'.H) → r x w.H Q
theorem tD_un {r : V → Hp → VK → Prop} {f : D → Option D} (hf : Op1 G r f) (σ : Sl) (H : Hp) (Q : VK) (q : tD G E (xUn f xa) σ H Q) : tUn r (tD G E xa) σ H Q := by
  obtain ⟨w, ρ, T, rfl, er, q⟩ := q
  refine ⟨w, ρ, T, rfl, er, ?_⟩
  unfold xUn XR.bind at q
  cases h1 : xa ρ with
  | ex c ρ1 =>
    simp only [h1] at q
    exact q
  | no =>
    simp only [h1] at q
  | ok d1 ρ1 =>
    simp only [h1] at q
    intro v1 w1 as1 g1 er1 o1
    by_cases hs : d1.sh = true
    · rw [if_pos hs] at q
      obtain ⟨e1, r1⟩ := o1.rep hs
      subst e1
      cases h3 : f d1 with
      | none => simp only [h3] at q
      | some d =>
        simp only [h3] at q
        exact hf w1 v1 d1 d h3 r1 Q fun v w3 as p o => q v w3 as (g1.trans (p.go er1)) (er1.prim p) o
    · rw [if_neg hs] at q
      exact q.elim
theorem ed_un {op : UnaryOp} {r : V → Hp → VK → Prop} {f : D → Option D} (ho : UnR X (unaryOp op) r) (hf : Op1 G r f) (ha : PE X a (tD G E xa)) : PE X (.UnaryOp op a pos) (tD G E (xUn f xa)) :=
  (pe_un ho ha).imp (tD_un hf)

/-! ### values by tests -/
theorem ed_not (ha : PT X a (tDB G E ta)) (h : PE X (.UnaryOp .Not a pos) (tNotV (tD G E (ofB ta)))) : PE X (.UnaryOp .Not a pos) (tD G E (ofB (yNot ta))) := by
  refine h.imp fun σ H Q q => ?_
  obtain ⟨w, ρ, T, rfl, er, q⟩ := q
  refine ⟨w, ρ, T, rfl, er, ?_⟩
  unfold ofB yNot at q
  unfold ofB
  cases h1 : ta ρ with
  | ok k ρ1 =>
    simp only [h1] at q ⊢
    intro v w1 as g er1 o
    obtain ⟨rfl, r⟩ := o.rep rfl
    cases r
    exact ⟨k, rfl, q _ w1 [] g er1 (.sh (.bl _))⟩
  | ex c ρ1 =>
    simp only [h1] at q ⊢
    exact q
  | no =>
    simp only [h1] at q
/-- a and b, a or b, as values: all but the last are bools -/
def xAnd (xa xb : Xx) : Xx := fun ρ => match xa ρ with
  | .ok (.bl true) ρ1 => xb ρ1
  | .ok (.bl false) ρ1 => .ok (.bl false) ρ1
  | .ok _ _ => .no
  | .ex c ρ1 => .ex c ρ1
  | .no => .no
def xOr (xa xb : Xx) : Xx := fun ρ => match xa ρ with
  | .ok (.bl false) ρ1 => xb ρ1
  | .ok (.bl true) ρ1 => .ok (.bl true) ρ1
  | .ok _ _ => .no
  | .ex c ρ1 => .ex c ρ1
  | .no => .no
def xNot (xa : Xx) : Xx := fun ρ => match xa ρ with
  | .ok (.bl b) ρ1 => .ok (.bl (!b)) ρ1
  | .ok _ _ => .no
  | .ex c ρ1 => .ex c ρ1
  | .no => .no
theorem ed_one {op} (h : PE X a (tD G E xa)) : PE X (.BoolOp op [a] pos) (tD G E xa) := pe_one h
theorem ed_and (ha : PE X a (tD G E xa)) (hb : PE X (.BoolOp .And (b :: rest) pos) (tD G E xb)) : PE X (.BoolOp .And (a :: b :: rest) pos) (tD G E (xAnd xa xb)) := by
  refine (pe_and ha hb).imp fun σ H Q q => ?_
  obtain ⟨w, ρ, T, rfl, er, q⟩ := q
  refine ⟨w, ρ, T, rfl, er, ?_⟩
  unfold xAnd at q
  cases h1 : xa ρ with
  | ex c ρ1 =>
    rw [h1] at q
    exact q
  | no =>
    rw [h1] at q
    exact q.elim
  | ok d ρ1 =>
    rw [h1] at q
    cases d with
    | bl k =>
      intro v w1 as g er1 o
      obtain ⟨rfl, r⟩ := o.rep rfl
      cases r
      refine ⟨k, rfl, ?_⟩
      cases k with
      | true =>
        rw [if_pos rfl]
        refine ⟨w1, ρ1, T, rfl, er1, ?_⟩
        cases h2 : xb ρ1 with
        | ok d2 ρ2 => simp only [h2] at q; exact fun v w2 as g2 er2 o => q v w2 as (g.trans g2) er2 o
        | ex c ρ2 => simp only [h2] at q; exact fun w2 g2 er2 => q w2 (g.trans g2) er2
        | no => simp only [h2] at q
      | false =>
        rw [if_neg (by decide)]
        exact q _ w1 [] g er1 (.sh (.bl _))
    | _ => exact q.elim
theorem ed_or (ha : PE X a (tD G E xa)) (hb : PE X (.BoolOp .Or (b :: rest) pos) (tD G E xb)) : PE X (.BoolOp .Or (a :: b :: rest) pos) (tD G E (xOr xa xb)) := by
  refine (pe_or ha hb).imp fun σ H Q q => ?_
  obtain ⟨w, ρ, T, rfl, er, q⟩ := q
  refine ⟨w, ρ, T, rfl, er, ?_⟩
  unfold xOr at q
  cases h1 : xa ρ with
  | ex c ρ1 =>
    rw [h1] at q
    exact q
  | no =>
    rw [h1] at q
    exact q.elim
  | ok d ρ1 =>
    rw [h1] at q
    cases d with
    | bl k =>
      intro v w1 as g er1 o
      obtain ⟨rfl, r⟩ := o.rep rfl
      cases r
      refine ⟨k, rfl, ?_⟩
      cases k with
      | false =>
        rw [if_neg (by decide)]
        refine ⟨w1, ρ1, T, rfl, er1, ?_⟩
        cases h2 : xb ρ1 with
        | ok d2 ρ2 => simp only [h2] at q; exact fun v w2 as g2 er2 o => q v w2 as (g.trans g2) er2 o
        | ex c ρ2 => simp only [h2] at q; exact fun w2 g2 er2 => q w2 (g.trans g2) er2
        | no => simp only [h2] at q
      | true =>
        rw [if_pos rfl]
        exact q _ w1 [] g er1 (.sh (.bl _))
    | _ => exact q.elim
theorem ed_notV (ha : PE X a (tD G E xa)) : PE X (.UnaryOp .Not a pos) (tD G E (xNot xa)) := by
  refine (pe_not ha).imp fun σ H Q q => ?_
  obtain ⟨w, ρ, T, rfl, er, q⟩ := q
  refine ⟨w, ρ, T, rfl, er, ?_⟩
  unfold xNot at q
  cases h1 : xa ρ with
  | ex c ρ1 =>
    rw [h1] at q
    exact q
  | no =>
    rw [h1] at q
    exact q.elim
  | ok d ρ1 =>
    rw [h1] at q
    cases d with
    | bl k =>
      intro v w1 as g er1 o
      obtain ⟨rfl, r⟩ := o.rep rfl
      cases r
      exact ⟨k, rfl, q _ w1 [] g er1 (.sh (.bl _))⟩
    | _ => exact q.elim
/-- a if t else b -/
def xIf (t : Bx) (xa xb : Xx) : Xx := fun ρ => match t ρ with
  | .ok true ρ1 => xa ρ1
  | .ok false ρ1 => xb ρ1
  | .ex c ρ1 => .ex c ρ1
  | .no => .no
theorem ed_if (hc : PT X c (tDB G E tc)) (ha : PE X a (tD G E xa)) (hb : PE X b (tD G E xb)) : PE X (.IfExp c a b pos) (tD G E (xIf tc xa xb)) := by
  refine (pe_ifExp hc ha hb).imp fun σ H Q q => ?_
  obtain ⟨w, ρ, T, rfl, er, q⟩ := q
  refine ⟨w, ρ, T, rfl, er, ?_⟩
  unfold xIf at q
  cases h1 : tc ρ with
  | ex c ρ1 =>
    rw [h1] at q
    exact q
  | no =>
    rw [h1] at q
    exact q.elim
  | ok k ρ1 =>
    rw [h1] at q
    intro w1 g er1
    cases k with
    | true =>
      rw [if_pos rfl]
      refine ⟨w1, ρ1, T, rfl, er1, ?_⟩
      cases h2 : xa ρ1 with
      | ok d2 ρ2 => simp only [h2] at q; exact fun v w2 as g2 er2 o => q v w2 as (g.trans g2) er2 o
      | ex c ρ2 => simp only [h2] at q; exact fun w2 g2 er2 => q w2 (g.trans g2) er2
      | no => simp only [h2] at q
    | false =>
      rw [if_neg (by decide)]
      refine ⟨w1, ρ1, T, rfl, er1, ?_⟩
      cases h2 : xb ρ1 with
      | ok d2 ρ2 => simp only [h2] at q; exact fun v w2 as g2 er2 o => q v w2 as (g.trans g2) er2 o
      | ex c ρ2 => simp only [h2] at q; exact fun w2 g2 er2 => q w2 (g.trans g2) er2
      | no => simp only [h2] at q

/-! ### argument lists -/
def aNil : Ax := fun ρ => .ok [] ρ
def aCons (x : Xx) (y : Ax) : Ax := fun ρ => match x ρ with
  | .ok d ρ1 => (match y ρ1 with
    | .ok ds ρ2 => .ok (d :: ds) ρ2
    | r => r)
  | .ex c ρ1 => .ex c ρ1
  | .no => .no
theorem ea_nil : PA X [] (tDA G E aNil) := pa_nil.imp fun σ H Q q => by
  obtain ⟨w, ρ, T, rfl, er, q⟩ := q
  exact q [] w [] (.refl T w) er .nil
theorem ea_cons (ha : PE X e (tD G E x)) (hr : PA X es (tDA G E ya)) (hs : starEach (e :: es) X.env = (false, eval e X.env) :: starEach es X.env := by rfl) : PA X (e :: es) (tDA G E (aCons x ya)) := by
  refine (pa_cons ha hr hs).imp fun σ H Q q => ?_
  obtain ⟨w, ρ, T, rfl, er, q⟩ := q
  refine ⟨w, ρ, T, rfl, er, ?_⟩
  unfold aCons at q
  cases h1 : x ρ with
  | ex c ρ1 =>
    rw [h1] at q
    exact q
  | no =>
    rw [h1] at q
    exact q.elim
  | ok d ρ1 =>
    simp only [h1] at q
    intro v w1 as1 g1 er1 o1
    refine ⟨w1, ρ1, as1 ++ T, rfl, er1, ?_⟩
    cases h2 : ya ρ1 with
    | ex c ρ2 =>
      simp only [h2] at q
      exact fun w2 g2 er2 => q w2 (g1.trans g2.less) er2.less
    | no =>
      simp only [h2] at q
    | ok ds ρ2 =>
      simp only [h2] at q
      intro vs w2 as2 g2 er2 o2
      refine q (v :: vs) w2 (as1 ++ as2) (g1.trans g2.less) ?_ (.cons (g2.own er1.sub o1) o2)
      obtain ⟨bs, e1, e2, e3⟩ := er2.ex
      have pm : (bs ++ (as2 ++ (as1 ++ T))).Perm (bs ++ ((as1 ++ as2) ++ T)) := List.Perm.append_left bs (by
        rw [← List.append_assoc]
        exact List.Perm.append_right T List.perm_append_comm)
      exact ⟨⟨bs, e1, pm.nodup e2, fun a ha => e3 a (pm.mem_iff.mpr ha)⟩, er2.sub, er2.tb⟩

/-! ### displays -/
def most : Nat := 1000000
theorem most_line : most ≤ sizeLine := by rw [sizeLine_eq]; decide
def shL : List D → Bool
  | [] => true
  | d :: r => d.sh && shL r
theorem OwnL.reps {G : Gs} {M : Addr → Prop} {H : Hp} : ∀ {as : List Addr} {vs : List V} {ds : List D}, OwnL G M H as vs ds → shL ds = true → as = [] ∧ Reps G M H vs ds
  | _, _, _, .nil, _ => ⟨rfl, .nil⟩
  | _, _, _, .cons a b, h => by
    obtain ⟨h1, h2⟩ := Bool.and_eq_true_iff.mp h
    obtain ⟨e1, r1⟩ := a.rep h1
    obtain ⟨e2, r2⟩ := OwnL.reps b h2
    subst e1 e2
    exact ⟨rfl, .cons r1 r2⟩
def xTup (y : Ax) : Xx := fun ρ => match y ρ with
  | .ok ds ρ1 => if shL ds = true ∧ ds.length ≤ most then .ok (.tup ds) ρ1 else .no
  | .ex c ρ1 => .ex c ρ1
  | .no => .no
theorem ed_tup {k} (h : PA X es (tDA G E ya)) : PE X (.Tuple es k pos) (tD G E (xTup ya)) := by
  refine (pe_tup h).imp fun σ H Q q => ?_
  obtain ⟨w, ρ, T, rfl, er, q⟩ := q
  refine ⟨w, ρ, T, rfl, er, ?_⟩
  unfold xTup at q
  cases h1 : ya ρ with
  | ex c ρ1 =>
    rw [h1] at q
    exact q
  | no =>
    rw [h1] at q
    exact q.elim
  | ok ds ρ1 =>
    simp only [h1] at q
    intro vs w1 as g1 er1 o1
    by_cases hs : shL ds = true ∧ ds.length ≤ most
    · rw [if_pos hs] at q
      obtain ⟨e1, r1⟩ := o1.reps hs.1
      subst e1
      refine ⟨by rw [r1.length]; exact Nat.le_trans hs.2 most_line, fun p hp => ?_⟩
      have P := Prim.new (w := w1) (o := .tup vs) hp
      exact q (.ref p) _ [] (g1.trans (P.go er1)) (er1.prim0 P) (.sh (.tup (by exact upd_same) (r1.kp P.kp)))
    · rw [if_neg hs] at q
      exact q.elim
/-- a list display: owned -/
def xLst (y : Ax) : Xx := fun ρ => match y ρ with
  | .ok ds ρ1 => if ds.length ≤ most then .ok (.ol ds) ρ1 else .no
  | .ex c ρ1 => .ex c ρ1
  | .no => .no
/-- a new node over owned parts: what is owned then -/
theorem node_env {w : Wd} {σ : Sl} {ρ : Rho} {T as : List Addr} {p : Addr} {o : HO} (er : EnvR G w σ ρ (as ++ T)) (hp : w.H p = none) (n : NoTbl o) :
    EnvR G ⟨upd w.H p o, fun a => w.M a ∨ a ∈ [p], fun a => w.C a ∨ a ∈ [p]⟩ σ ρ ((p :: as) ++ T) := er.prim (Prim.newO hp n)
theorem ed_lst (h : PA X es (tDA G E ya)) : PE X (.List es pos) (tD G E (xLst ya)) := by
  refine (pe_lst h).imp fun σ H Q q => ?_
  obtain ⟨w, ρ, T, rfl, er, q⟩ := q
  refine ⟨w, ρ, T, rfl, er, ?_⟩
  unfold xLst at q
  cases h1 : ya ρ with
  | ex c ρ1 =>
    rw [h1] at q
    exact q
  | no =>
    rw [h1] at q
    exact q.elim
  | ok ds ρ1 =>
    simp only [h1] at q
    intro vs w1 as g1 er1 o1
    by_cases hs : ds.length ≤ most
    · rw [if_pos hs] at q
      refine ⟨by rw [o1.length]; exact Nat.le_trans hs most_line, fun p hp => ?_⟩
      have P := Prim.newO (w := w1) (o := .lst vs) hp noTbl_lst
      refine q (.ref p) ⟨upd w1.H p (.lst vs), fun a => w1.M a ∨ a ∈ [p], fun a => w1.C a ∨ a ∈ [p]⟩ (p :: as) (g1.trans (P.go er1.less)) (node_env er1 hp noTbl_lst) ?_
      exact .ol (by exact upd_same) ((P.go er1).ownL er1.sub o1)
    · rw [if_neg hs] at q
      exact q.elim
/-- what was owned is shared from now on -/
def xFz (x : Xx) : Xx := fun ρ => match x ρ with
  | .ok d ρ1 => .ok d.fz ρ1
  | r => r
theorem fz_sh : ∀ d : D, d.fz.sh = true := fun d => by cases d <;> (unfold D.fz; rfl)
theorem tD_fz (σ : Sl) (H : Hp) (Q : VK) (q : tD G E (xFz x) σ H Q) : tD G E x σ H Q := by
  obtain ⟨w, ρ, T, rfl, er, q⟩ := q
  refine ⟨w, ρ, T, rfl, er, ?_⟩
  unfold xFz at q
  cases h1 : x ρ with
  | ex c ρ1 =>
    rw [h1] at q
    exact q
  | no =>
    rw [h1] at q
    exact q.elim
  | ok d ρ1 =>
    simp only [h1] at q
    intro v w1 as g1 er1 o1
    obtain ⟨bs, e1, e2, e3⟩ := er1.ex
    have nd : as.Nodup := (List.nodup_append.mp (List.nodup_append.mp e2).2.1).1
    have hC : ∀ a ∈ as, w1.C a := fun a ha => (e3 a (List.mem_append_right _ (List.mem_append_left _ ha))).1
    -- M and C less as
    have le : Le G w1 ⟨w1.H, fun a => w1.M a ∧ a ∉ as, fun a => w1.C a ∧ a ∉ as⟩ :=
      ⟨fun _ _ _ _ e => .inl e, fun _ _ e => e, fun _ _ e => e, fun a h => .inl h.1, fun a h _ => by
        by_cases z : a ∈ as
        · exact .inr (hC a z)
        · exact .inl ⟨h, z⟩, fun a h => .inl h.1, fun _ h => h, fun h => h⟩
    have dj : ∀ a ∈ bs ++ T, a ∉ as := fun a ha z => by
      rcases List.mem_append.mp ha with y | y
      · exact (List.nodup_append.mp e2).2.2 a y a (List.mem_append_left _ z) rfl
      · exact (List.nodup_append.mp (List.nodup_append.mp e2).2.1).2.2 a z a y rfl
    refine q v ⟨w1.H, fun a => w1.M a ∧ a ∉ as, fun a => w1.C a ∧ a ∉ as⟩ [] (g1.trans ⟨le, fun _ _ => rfl⟩) ⟨⟨bs, e1.kp (kp_less fun a h => h.1) (fun _ _ => rfl), ?_, fun a ha => ?_⟩, fun a h => ⟨er1.sub a h.1, h.2⟩, er1.tb⟩ (.sh (o1.fz (fun a h => h.1) fun a ha z => z.2 ha))
    · exact (List.Sublist.append_left (List.sublist_append_right _ _) bs).nodup e2
    · have ha' : a ∈ bs ++ (as ++ T) := (List.Sublist.append_left (List.sublist_append_right as T) bs).subset ha
      exact ⟨⟨(e3 a ha').1, dj a ha⟩, (e3 a ha').2⟩
theorem ed_fz (h : PE X e (tD G E x)) : PE X e (tD G E (xFz x)) := h.imp tD_fz
end
end On

set_option Elab.async false
set_option linter.all false
set_option maxRecDepth 100000
set_option maxHeartbeats 4000000
/-! On4: mirrors of targets, of what is walked, of statements, of loops and comprehensions. -/
namespace On
open PySem PySem.Spec PyProof.Rows L2

section
variable {G : Gs} {M : Addr → Prop} {H : Hp} {as : List Addr} {vs : List V} {d : D} {ds : List D}
theorem OwnL.nil_inv (h : OwnL G M H as vs []) : as = [] ∧ vs = [] := by
  cases h
  exact ⟨rfl, rfl⟩
theorem OwnL.cons_inv (h : OwnL G M H as vs (d :: ds)) : ∃ a b v r, as = a ++ b ∧ vs = v :: r ∧ Own G M H a v d ∧ OwnL G M H b r ds := by
  cases h with
  | cons a b => exact ⟨_, _, _, _, rfl, rfl, a, b⟩
end
inductive SR where
  | nx (ρ : Rho)
  | rt (d : D) (ρ : Rho)
  | ex (c : Str) (ρ : Rho)
  | bk (ρ : Rho)
  | ct (ρ : Rho)
  | no
abbrev Sx := Rho → SR
/-- the slots of P are as they were -/
def Pin (P : Nat → Bool) (σ σ' : Sl) : Prop := σ'.length = σ.length ∧ ∀ i : Nat, P i = true → σ'[i]? = σ[i]?
theorem Pin.refl {P : Nat → Bool} {σ : Sl} : Pin P σ σ := ⟨rfl, fun _ _ => rfl⟩
theorem Pin.trans {P : Nat → Bool} {σ σ1 σ2 : Sl} (a : Pin P σ σ1) (b : Pin P σ1 σ2) : Pin P σ σ2 := ⟨b.1.trans a.1, fun i h => (b.2 i h).trans (a.2 i h)⟩
theorem Pin.set {P : Nat → Bool} {σ : Sl} {i : Nat} {o : Option V} (h : P i = false) : Pin P σ (σ.set i o) := ⟨List.length_set, fun j hj => List.getElem?_set_ne (fun e => by rw [e, hj] at h; cases h)⟩

section
variable (G : Gs) (E : WX) (P : Nat → Bool)
def tS (y : Sx) : TS := fun D σ H => ∃ w ρ T, w.H = H ∧ EnvR G w σ ρ T ∧ match y ρ with
  | .nx ρ' => ∀ σ' w', Go G T w w' → EnvR G w' σ' ρ' T → Pin P σ σ' → D.nx σ' w'.H
  | .rt d ρ' => ∀ v σ' w' as, Go G T w w' → EnvR G w' σ' ρ' (as ++ T) → Pin P σ σ' → Own G w'.M w'.H as v d → D.rt v w'.H
  | .ex c ρ' => ∀ σ' w', Go G T w w' → EnvR G w' σ' ρ' T → Pin P σ σ' → E (.ref (G c)) none σ' w'.H
  | .bk ρ' => ∀ σ' w', Go G T w w' → EnvR G w' σ' ρ' T → Pin P σ σ' → D.bk σ' w'.H
  | .ct ρ' => ∀ σ' w', Go G T w w' → EnvR G w' σ' ρ' T → Pin P σ σ' → D.ct σ' w'.H
  | .no => False
/-- a datum comes to a target -/
abbrev Gx := D → Rho → Option Rho
def tG (g : Gx) : TG := fun v σ H Q => ∃ w ρ T as d, w.H = H ∧ EnvR G w σ ρ (as ++ T) ∧ Own G w.M w.H as v d ∧ match g d ρ with
  | some ρ' => ∀ σ' w', Go G T w w' → EnvR G w' σ' ρ' T → Pin P σ σ' → Q σ' w'.H
  | none => False
abbrev GLx := List D → Rho → Option Rho
def tGL (g : GLx) : TGs := fun vs σ H Q => ∃ w ρ T as ds, w.H = H ∧ EnvR G w σ ρ (as ++ T) ∧ OwnL G w.M w.H as vs ds ∧ match g ds ρ with
  | some ρ' => ∀ σ' w', Go G T w w' → EnvR G w' σ' ρ' T → Pin P σ σ' → Q σ' w'.H
  | none => False
/-- the iterator J gives these data -/
def Gives (J : It) (w : Wd) (ds : List D) : Prop := ∀ w1, Le G w w1 → (∀ a, w1.C a → w1.M a) → J.stop ds.length w1.H ∧ ∀ (i : Nat) (d : D), ds[i]? = some d → J.go i w1.H ∧ ∀ x H', J.yld i w1.H x H' → ∃ w2, w2.H = H' ∧ Prim w1 w2 [] ∧ Rep G w2.M w2.H x d
def tI (x : Ax) : TI := fun σ H R => ∃ w ρ T, w.H = H ∧ EnvR G w σ ρ T ∧ match x ρ with
  | .ok ds ρ' => ∀ J w', Go G T w w' → EnvR G w' σ ρ' T → Gives G J w' ds → R J w'.H
  | .ex c ρ' => ∀ w', Go G T w w' → EnvR G w' σ ρ' T → E (.ref (G c)) none σ w'.H
  | .no => False
end
section
variable {X : Cx} {e : Expr} {es : List Expr} {st : Stmt} {sts : List Stmt}
theorem _root_.L2.PS.imp {t t' : TS} (h : PS X st t) (f : ∀ D σ H, t' D σ H → t D σ H) : PS X st t' := ⟨fun pins s σ H D I q => h.run pins s σ H D I (f D σ H q)⟩
theorem _root_.L2.PSs.imp {t t' : TS} (h : PSs X sts t) (f : ∀ D σ H, t' D σ H → t D σ H) : PSs X sts t' := ⟨fun pins s σ H D I q => h.run pins s σ H D I (f D σ H q)⟩
theorem _root_.L2.PG.imp {t t' : TG} (h : PG X e t) (f : ∀ v σ H Q, t' v σ H Q → t v σ H Q) : PG X e t' := ⟨fun pins s σ H v u Q I r q => h.run pins s σ H v u Q I r (f v σ H Q q)⟩
theorem _root_.L2.PGs.imp {t t' : TGs} (h : PGs X es t) (f : ∀ v σ H Q, t' v σ H Q → t v σ H Q) : PGs X es t' := ⟨fun pins s σ H v u Q I r q => h.run pins s σ H v u Q I r (f v σ H Q q)⟩
theorem _root_.L2.PI.imp {tg : Expr} {t t' : TI} (h : PI X tg e t) (f : ∀ σ H R, t' σ H R → t σ H R) : PI X tg e t' := ⟨fun pins s σ H R I q => h.run pins s σ H R I (f σ H R q)⟩
end

section
variable {X : Cx} {G : Gs} {E : WX} {P : Nat → Bool} {e a b c : Expr} {es rest : List Expr} {st : Stmt} {sts : List Stmt} {pos : Pos} {x xa xb xc : Xx} {tb tc : Bx} {ya : Ax} {s t : Sx}

/-! ### targets -/
def gxName (i : Nat) : Gx := fun d ρ => if i < ρ.length then some (ρ.set i (some d)) else none
theorem eg_name {i : Nat} {n : Str} (hp : P i = false) (hN : X.N.Nodup) (hi : X.N[i]? = some n) (hx : Loc X.env.scope n) (hf : X.fn n = true ∨ X.env.scope.names.lookup n = some .local := by first | exact .inl rfl | exact .inr rfl | assumption) : PG X (.Name n pos) (tG G P (gxName i)) := by
  refine (pg_name hN hi hx hf).imp fun v σ H Q q => ?_
  obtain ⟨w, ρ, T, as, d, rfl, er, o, q⟩ := q
  unfold gxName at q
  by_cases h : i < ρ.length
  · simp only [if_pos h] at q
    exact q _ w (.refl T w) (er.set h o) (Pin.set hp)
  · simp only [if_neg h] at q
def glNil : GLx := fun ds ρ => match ds with
  | [] => some ρ
  | _ => none
def glCons (g : Gx) (h : GLx) : GLx := fun ds ρ => match ds with
  | d :: r => (match g d ρ with
    | some ρ1 => h r ρ1
    | none => none)
  | [] => none
theorem egs_nil : PGs X [] (tGL G P glNil) := by
  refine pgs_nil.imp fun v σ H Q q => ?_
  obtain ⟨w, ρ, T, as, ds, rfl, er, o, q⟩ := q
  cases o with
  | nil =>
    simp only [glNil] at q
    exact ⟨rfl, q σ w (.refl T w) er Pin.refl⟩
  | cons a b => simp only [glNil] at q
theorem egs_cons {g : Gx} {h : GLx} (h1 : PG X e (tG G P g)) (h2 : PGs X es (tGL G P h)) (hs : (assignEach (e :: es) X.env).map (·.2) = assign e X.env :: (assignEach es X.env).map (·.2) := by rfl) : PGs X (e :: es) (tGL G P (glCons g h)) := by
  refine (pgs_cons h1 h2 hs).imp fun v σ H Q q => ?_
  obtain ⟨w, ρ, T, as, ds, rfl, er, o, q⟩ := q
  cases o with
  | nil => simp only [glCons] at q
  | cons oa ob =>
    rename_i as bs v d xs ds
    simp only [glCons] at q
    cases h3 : g d ρ with
    | none => simp only [h3] at q
    | some ρ1 =>
      simp only [h3] at q
      refine ⟨v, xs, rfl, w, ρ, bs ++ T, as, d, rfl, by rw [← List.append_assoc]; exact er, oa, ?_⟩
      simp only [h3]
      intro σ1 w1 g1 er1 p1
      refine ⟨w1, ρ1, T, bs, ds, rfl, er1, g1.ownL er.sub ob, ?_⟩
      cases h4 : h ds ρ1 with
      | none => simp only [h4] at q
      | some ρ2 =>
        simp only [h4] at q
        exact fun σ2 w2 g2 er2 p2 => q σ2 w2 (g1.less.trans g2) er2 (p1.trans p2)
/-- (a, b, ..) = a shared tuple -/
def gxTup (n : Nat) (h : GLx) : Gx := fun d ρ => match d with
  | .tup ds => if ds.length = n then h ds ρ else none
  | _ => none
theorem eg_tup {k n : Nat} {h : GLx} (hc : X.calm = true) (hg : PGs X es (tGL G P h)) (hn : (assignEach es X.env).length = n := by rfl) (hst : (assignEach es X.env).findIdx? (·.1) = none := by rfl) : PG X (.Tuple es k pos) (tG G P (gxTup n h)) := by
  refine (pg_tup hc hg hn hst).imp fun v σ H Q q => ?_
  obtain ⟨w, ρ, T, as, d, rfl, er, o, q⟩ := q
  unfold gxTup at q
  cases d with
  | tup ds =>
    obtain ⟨rfl, r⟩ := o.rep rfl
    by_cases hl : ds.length = n
    · simp only [if_pos hl] at q
      cases r with
      | tup ha rs => exact ⟨_, _, rfl, SqT.of ha, rs.length.trans hl, w, ρ, T, [], ds, rfl, er, OwnL.of rs, q⟩
    · simp only [if_neg hl] at q
  | _ => simp only at q

/-! ### blocks, small statements -/
def yNil : Sx := fun ρ => .nx ρ
def ySeq (s t : Sx) : Sx := fun ρ => match s ρ with
  | .nx ρ1 => t ρ1
  | r => r
theorem es_nil : PSs X [] (tS G E P yNil) := pss_nil.imp fun D σ H q => by
  obtain ⟨w, ρ, T, rfl, er, q⟩ := q
  exact q σ w (.refl T w) er Pin.refl
theorem es_pass : PS X (.Pass pos) (tS G E P yNil) := ps_pass.imp fun D σ H q => by
  obtain ⟨w, ρ, T, rfl, er, q⟩ := q
  exact q σ w (.refl T w) er Pin.refl
theorem es_cons (h1 : PS X st (tS G E P s)) (h2 : PSs X sts (tS G E P t)) : PSs X (st :: sts) (tS G E P (ySeq s t)) := by
  refine (pss_cons h1 h2).imp fun D σ H q => ?_
  obtain ⟨w, ρ, T, rfl, er, q⟩ := q
  refine ⟨w, ρ, T, rfl, er, ?_⟩
  unfold ySeq at q
  cases hs : s ρ with
  | nx ρ1 =>
    rw [hs] at q
    intro σ1 w1 g1 er1 p1
    refine ⟨w1, ρ1, T, rfl, er1, ?_⟩
    cases ht : t ρ1 with
    | nx ρ2 => simp only [ht] at q; exact fun σ2 w2 g2 er2 p2 => q σ2 w2 (g1.trans g2) er2 (p1.trans p2)
    | rt d ρ2 => simp only [ht] at q; exact fun v σ2 w2 as g2 er2 p2 r => q v σ2 w2 as (g1.trans g2) er2 (p1.trans p2) r
    | ex c ρ2 => simp only [ht] at q; exact fun σ2 w2 g2 er2 p2 => q σ2 w2 (g1.trans g2) er2 (p1.trans p2)
    | bk ρ2 => simp only [ht] at q; exact fun σ2 w2 g2 er2 p2 => q σ2 w2 (g1.trans g2) er2 (p1.trans p2)
    | ct ρ2 => simp only [ht] at q; exact fun σ2 w2 g2 er2 p2 => q σ2 w2 (g1.trans g2) er2 (p1.trans p2)
    | no => simp only [ht] at q
  | rt d ρ1 => rw [hs] at q; exact q
  | ex c ρ1 => rw [hs] at q; exact q
  | bk ρ1 => rw [hs] at q; exact q
  | ct ρ1 => rw [hs] at q; exact q
  | no => rw [hs] at q; exact q.elim
theorem es_one (h1 : PS X st (tS G E P s)) : PSs X [st] (tS G E P s) := pss_one h1
def yBreak : Sx := fun ρ => .bk ρ
def yCont : Sx := fun ρ => .ct ρ
theorem es_break : PS X (.Break pos) (tS G E P yBreak) := ps_break.imp fun D σ H q => by
  obtain ⟨w, ρ, T, rfl, er, q⟩ := q
  exact q σ w (.refl T w) er Pin.refl
theorem es_cont : PS X (.Continue pos) (tS G E P yCont) := ps_continue.imp fun D σ H q => by
  obtain ⟨w, ρ, T, rfl, er, q⟩ := q
  exact q σ w (.refl T w) er Pin.refl
/-- name = e, any target = e -/
def yAsg (g : Gx) (x : Xx) : Sx := fun ρ => match x ρ with
  | .ok d ρ1 => (match g d ρ1 with
    | some ρ2 => .nx ρ2
    | none => .no)
  | .ex c ρ1 => .ex c ρ1
  | .no => .no
theorem tS_asg {g : Gx} {D : Ends} {σ : Sl} {H : Hp} (q : tS G E P (yAsg g x) D σ H) : tAsg (tD G E x) (tG G P g) D σ H := by
  obtain ⟨w, ρ, T, rfl, er, q⟩ := q
  refine ⟨w, ρ, T, rfl, er, ?_⟩
  unfold yAsg at q
  cases h1 : x ρ with
  | ex c ρ1 =>
    rw [h1] at q
    exact fun w1 g1 er1 => q σ w1 g1 er1 Pin.refl
  | no =>
    rw [h1] at q
    exact q.elim
  | ok d ρ1 =>
    simp only [h1] at q
    intro v w1 as g1 er1 o1
    refine ⟨w1, ρ1, T, as, d, rfl, er1, o1, ?_⟩
    cases h2 : g d ρ1 with
    | none => simp only [h2] at q
    | some ρ2 =>
      simp only [h2] at q
      exact fun σ2 w2 g2 er2 p2 => q σ2 w2 (g1.trans g2) er2 p2
theorem es_asg {tg : Expr} {g : Gx} (he : PE X e (tD G E x)) (hg : PG X tg (tG G P g)) (hs : swapsWithSole [tg] e pos.line X.env = pure false := by rfl) (hw : swappedStores [tg] e X.env = pure none := by rfl)
    (h1 : (assignEach [tg] X.env).map (·.2) = [assign tg X.env] := by rfl) : PS X (.Assign [tg] e pos) (tS G E P (yAsg g x)) := (ps_asg he hg hs hw h1).imp fun D σ H q => tS_asg q
theorem es_set {i : Nat} {n : Str} {p2 : Pos} (hp : P i = false) (hN : X.N.Nodup) (hi : X.N[i]? = some n) (hx : Loc X.env.scope n) (he : PE X e (tD G E x)) (hs : swapsWith e (some (.Name n p2)) pos.line X.env = pure false := by rfl) (hf : X.fn n = true ∨ X.env.scope.names.lookup n = some .local := by first | exact .inl rfl | exact .inr rfl | assumption) :
    PS X (.Assign [.Name n p2] e pos) (tS G E P (yAsg (gxName i) x)) := by
  refine (ps_set hN hi hx he hs hf).imp fun D σ H q => ?_
  obtain ⟨w, ρ, T, rfl, er, q⟩ := q
  refine ⟨w, ρ, T, rfl, er, ?_⟩
  unfold yAsg gxName at q
  cases h1 : x ρ with
  | ex c ρ1 =>
    rw [h1] at q
    exact fun w1 g1 er1 => q σ w1 g1 er1 Pin.refl
  | no =>
    rw [h1] at q
    exact q.elim
  | ok d ρ1 =>
    simp only [h1] at q
    intro v w1 as g1 er1 o1
    by_cases h : i < ρ1.length
    · simp only [if_pos h] at q
      exact q _ w1 g1 (er1.set h o1) (Pin.set hp)
    · simp only [if_neg h] at q
/-- a, b = x, y with plain local names -/
def yPar (i j : Nat) (y : Ax) : Sx := fun ρ => match y ρ with
  | .ok [d1, d2] ρ1 => if i < ρ1.length ∧ j < ρ1.length then .nx ((ρ1.set i (some d1)).set j (some d2)) else .no
  | .ok _ _ => .no
  | .ex c ρ1 => .ex c ρ1
  | .no => .no
theorem es_par {i j : Nat} {n m : Str} {px py pt : Pos} {kt k2 pt2} (hpi : P i = false) (hpj : P j = false) (hc : X.calm = true) (hN : X.N.Nodup) (hi : X.N[i]? = some n) (hj : X.N[j]? = some m) (hij : i ≠ j) (hx : X.env.scope.names.lookup n = some .local) (hy : X.env.scope.names.lookup m = some .local) (ha : PA X [a, b] (tDA G E ya))
    (hw : swappedStores [.Tuple [.Name n px, .Name m py] kt pt] (.Tuple [a, b] k2 pt2) X.env = pure (some [n, m])) (hs : swapsWithSole [.Tuple [.Name n px, .Name m py] kt pt] (.Tuple [a, b] k2 pt2) pos.line X.env = pure false := by rfl) :
    PS X (.Assign [.Tuple [.Name n px, .Name m py] kt pt] (.Tuple [a, b] k2 pt2) pos) (tS G E P (yPar i j ya)) := by
  refine (ps_par hc hN hi hj hij hx hy ha hw hs).imp fun D σ H q => ?_
  obtain ⟨w, ρ, T, rfl, er, q⟩ := q
  refine ⟨w, ρ, T, rfl, er, ?_⟩
  unfold yPar at q
  cases h1 : ya ρ with
  | ex c ρ1 =>
    rw [h1] at q
    exact fun w1 g1 er1 => q σ w1 g1 er1 Pin.refl
  | no =>
    rw [h1] at q
    exact q.elim
  | ok ds ρ1 =>
    rw [h1] at q
    intro vs w1 as g1 er1 o1
    match ds, q with
    | [d1, d2], q =>
      obtain ⟨a1, r1, v1, vr, rfl, rfl, oa, ob⟩ := o1.cons_inv
      obtain ⟨a2, r2, v2, vr2, rfl, rfl, ob2, oc⟩ := ob.cons_inv
      obtain ⟨rfl, rfl⟩ := oc.nil_inv
      by_cases h : i < ρ1.length ∧ j < ρ1.length
      · simp only [if_pos h] at q
        refine ⟨_, _, rfl, q _ w1 g1 ?_ ((Pin.set hpi).trans (Pin.set hpj))⟩
        rw [List.append_nil] at er1
        have e1 : EnvR G w1 (σ.set i (some _)) (ρ1.set i (some d1)) (a2 ++ T) := EnvR.set (as := a1) (by rw [← List.append_assoc]; exact er1) h.1 oa
        exact e1.set (by rw [List.length_set]; exact h.2) ob2
      · simp only [if_neg h] at q
    | [], q => exact q.elim
    | [_], q => exact q.elim
    | _ :: _ :: _ :: _, q => exact q.elim
def yExpr (x : Xx) : Sx := fun ρ => match x ρ with
  | .ok _ ρ1 => .nx ρ1
  | .ex c ρ1 => .ex c ρ1
  | .no => .no
theorem es_expr (he : PE X e (tD G E x)) (hs : swapsWith e none pos.line X.env = pure false := by rfl) : PS X (.Expr e pos) (tS G E P (yExpr x)) := by
  refine (ps_expr he hs).imp fun D σ H q => ?_
  obtain ⟨w, ρ, T, rfl, er, q⟩ := q
  refine ⟨w, ρ, T, rfl, er, ?_⟩
  unfold yExpr at q
  cases h1 : x ρ with
  | ex c ρ1 =>
    rw [h1] at q
    exact fun w1 g1 er1 => q σ w1 g1 er1 Pin.refl
  | no =>
    rw [h1] at q
    exact q.elim
  | ok d ρ1 =>
    rw [h1] at q
    exact fun v w1 as g1 er1 o1 => q σ w1 g1 er1.less Pin.refl
def yRet (x : Xx) : Sx := fun ρ => match x ρ with
  | .ok d ρ1 => .rt d ρ1
  | .ex c ρ1 => .ex c ρ1
  | .no => .no
theorem es_ret (he : PE X e (tD G E x)) : PS X (.Return (some e) pos) (tS G E P (yRet x)) := by
  refine (ps_ret he).imp fun D σ H q => ?_
  obtain ⟨w, ρ, T, rfl, er, q⟩ := q
  refine ⟨w, ρ, T, rfl, er, ?_⟩
  unfold yRet at q
  cases h1 : x ρ with
  | ex c ρ1 =>
    rw [h1] at q
    exact fun w1 g1 er1 => q σ w1 g1 er1 Pin.refl
  | no =>
    rw [h1] at q
    exact q.elim
  | ok d ρ1 =>
    simp only [h1] at q
    exact fun v w1 as g1 er1 o1 => q v σ w1 as g1 er1 Pin.refl o1
def yRetN : Sx := fun ρ => .rt .non ρ
theorem es_retN : PS X (.Return none pos) (tS G E P yRetN) := ps_retN.imp fun D σ H q => by
  obtain ⟨w, ρ, T, rfl, er, q⟩ := q
  exact q .non σ w [] (.refl T w) er Pin.refl (.sh .non)
def yIf (c : Bx) (s t : Sx) : Sx := fun ρ => match c ρ with
  | .ok true ρ1 => s ρ1
  | .ok false ρ1 => t ρ1
  | .ex c ρ1 => .ex c ρ1
  | .no => .no
/-- a reading goes on from a later world -/
theorem tS_from {y : Sx} {D : Ends} {σ : Sl} {w w1 : Wd} {ρ1 : Rho} {T : List Addr} (g : Go G T w w1) (er1 : EnvR G w1 σ ρ1 T) (q : match y ρ1 with
    | .nx ρ' => ∀ σ' w', Go G T w w' → EnvR G w' σ' ρ' T → Pin P σ σ' → D.nx σ' w'.H
    | .rt d ρ' => ∀ v σ' w' as, Go G T w w' → EnvR G w' σ' ρ' (as ++ T) → Pin P σ σ' → Own G w'.M w'.H as v d → D.rt v w'.H
    | .ex c ρ' => ∀ σ' w', Go G T w w' → EnvR G w' σ' ρ' T → Pin P σ σ' → E (.ref (G c)) none σ' w'.H
    | .bk ρ' => ∀ σ' w', Go G T w w' → EnvR G w' σ' ρ' T → Pin P σ σ' → D.bk σ' w'.H
    | .ct ρ' => ∀ σ' w', Go G T w w' → EnvR G w' σ' ρ' T → Pin P σ σ' → D.ct σ' w'.H
    | .no => False) : tS G E P y D σ w1.H := by
  refine ⟨w1, ρ1, T, rfl, er1, ?_⟩
  cases ht : y ρ1 with
  | nx ρ2 => rw [ht] at q; exact fun σ2 w2 g2 er2 p2 => q σ2 w2 (g.trans g2) er2 p2
  | rt d ρ2 => rw [ht] at q; exact fun v σ2 w2 as g2 er2 p2 r => q v σ2 w2 as (g.trans g2) er2 p2 r
  | ex c ρ2 => rw [ht] at q; exact fun σ2 w2 g2 er2 p2 => q σ2 w2 (g.trans g2) er2 p2
  | bk ρ2 => rw [ht] at q; exact fun σ2 w2 g2 er2 p2 => q σ2 w2 (g.trans g2) er2 p2
  | ct ρ2 => rw [ht] at q; exact fun σ2 w2 g2 er2 p2 => q σ2 w2 (g.trans g2) er2 p2
  | no => rw [ht] at q; exact q.elim
theorem es_if {sa sb : List Stmt} (hc : PT X c (tDB G E tc)) (ha : PSs X sa (tS G E P s)) (hb : PSs X sb (tS G E P t)) : PS X (.If c sa sb pos) (tS G E P (yIf tc s t)) := by
  refine (ps_if hc ha hb).imp fun D σ H q => ?_
  obtain ⟨w, ρ, T, rfl, er, q⟩ := q
  refine ⟨w, ρ, T, rfl, er, ?_⟩
  unfold yIf at q
  cases h1 : tc ρ with
  | ex c ρ1 =>
    rw [h1] at q
    exact fun w1 g1 er1 => q σ w1 g1 er1 Pin.refl
  | no =>
    rw [h1] at q
    exact q.elim
  | ok k ρ1 =>
    intro w1 g1 er1
    cases k with
    | true =>
      simp only [h1] at q
      rw [if_pos rfl]
      exact tS_from g1 er1 q
    | false =>
      simp only [h1] at q
      rw [if_neg (by decide)]
      exact tS_from g1 er1 q
/-- name op= e -/
def yAug (i : Nat) (f : D → D → Option D) (x : Xx) : Sx := fun ρ => match ρ[i]? with
  | some (some d0) => (match x ρ with
    | .ok d1 ρ1 => if d0.sh = true ∧ d1.sh = true ∧ i < ρ1.length then (match f d0 d1 with
      | some d => .nx (ρ1.set i (some d))
      | none => .no) else .no
    | .ex c ρ1 => .ex c ρ1
    | .no => .no)
  | _ => .no
theorem es_aug {i : Nat} {n : Str} {op : Operator} {r : TIp} {f : D → D → Option D} {p2 : Pos} (hp : P i = false) (hN : X.N.Nodup) (hi : X.N[i]? = some n) (hx : Loc X.env.scope n) (he : PE X e (tD G E x)) (ho : PIp X op r) (hv : Op2 G r f) (hf : X.fn n = true ∨ X.env.scope.names.lookup n = some .local := by first | exact .inl rfl | exact .inr rfl | assumption) :
    PS X (.AugAssign (.Name n p2) op e pos) (tS G E P (yAug i f x)) := by
  refine (ps_aug hN hi hx he ho hf).imp fun D σ H q => ?_
  obtain ⟨w, ρ, T, rfl, er, q⟩ := q
  unfold yAug at q
  cases h0 : ρ[i]? with
  | none =>
    rw [h0] at q
    exact q.elim
  | some o0 =>
    cases o0 with
    | none =>
      rw [h0] at q
      exact q.elim
    | some d0 =>
      simp only [h0] at q
      obtain ⟨v0, bs, hs, o0, _⟩ := er.get h0
      refine ⟨v0, hs, w, ρ, T, rfl, er, ?_⟩
      cases h1 : x ρ with
      | ex c ρ1 =>
        simp only [h1] at q
        exact fun w1 g1 er1 => q σ w1 g1 er1 Pin.refl
      | no =>
        simp only [h1] at q
      | ok d1 ρ1 =>
        simp only [h1] at q
        intro v1 w1 as g1 er1 o1
        by_cases hh : d0.sh = true ∧ d1.sh = true ∧ i < ρ1.length
        · rw [if_pos hh] at q
          obtain ⟨rfl, r0⟩ := o0.rep hh.1
          obtain ⟨rfl, r1⟩ := o1.rep hh.2.1
          cases h2 : f d0 d1 with
          | none => simp only [h2] at q
          | some d =>
            simp only [h2] at q
            refine hv w1 v0 v1 d0 d1 d h2 (r0.kp (g1.le.kp er.sub)) r1 _ fun v w2 as p o => ?_
            exact q _ w2 (g1.trans (p.go er1)) ((er1.prim p).set hh.2.2 o) (Pin.set hp)
        · rw [if_neg hh] at q
          exact q.elim

/-! ### loops -/
/-- the turns over the data: g the target, y the body -/
def forL (g : Gx) (y : Sx) : List D → Sx
  | [], ρ => .nx ρ
  | d :: r, ρ => match g d ρ with
    | none => .no
    | some ρ1 => match y ρ1 with
      | .nx ρ2 => forL g y r ρ2
      | .ct ρ2 => forL g y r ρ2
      | .bk ρ2 => .nx ρ2
      | .rt d ρ2 => .rt d ρ2
      | .ex c ρ2 => .ex c ρ2
      | .no => .no
def yFor (x : Ax) (g : Gx) (y : Sx) : Sx := fun ρ => match x ρ with
  | .ok ds ρ1 => forL g y ds ρ1
  | .ex c ρ1 => .ex c ρ1
  | .no => .no
/-- what follows an end -/
def After (G : Gs) (E : WX) (P : Nat → Bool) (D : Ends) (σ0 : Sl) (w0 : Wd) (T : List Addr) : SR → Prop
  | .nx ρ' => ∀ σ' w', Go G T w0 w' → EnvR G w' σ' ρ' T → Pin P σ0 σ' → D.nx σ' w'.H
  | .rt d ρ' => ∀ v σ' w' as, Go G T w0 w' → EnvR G w' σ' ρ' (as ++ T) → Pin P σ0 σ' → Own G w'.M w'.H as v d → D.rt v w'.H
  | .ex c ρ' => ∀ σ' w', Go G T w0 w' → EnvR G w' σ' ρ' T → Pin P σ0 σ' → E (.ref (G c)) none σ' w'.H
  | .bk ρ' => ∀ σ' w', Go G T w0 w' → EnvR G w' σ' ρ' T → Pin P σ0 σ' → D.bk σ' w'.H
  | .ct ρ' => ∀ σ' w', Go G T w0 w' → EnvR G w' σ' ρ' T → Pin P σ0 σ' → D.ct σ' w'.H
  | .no => False
theorem tS_def {y : Sx} {D : Ends} {σ : Sl} {H : Hp} : tS G E P y D σ H ↔ ∃ w ρ T, w.H = H ∧ EnvR G w σ ρ T ∧ After G E P D σ w T (y ρ) := by
  constructor <;> (rintro ⟨w, ρ, T, h, er, q⟩; refine ⟨w, ρ, T, h, er, ?_⟩; cases hy : y ρ <;> (rw [hy] at q; exact q))
theorem for_run {J : It} {g : Gx} {y : Sx} {Dn : Ends} {σ0 : Sl} {w0 : Wd} {T : List Addr} {ds : List D} {ρ0 : Rho} (er0 : EnvR G w0 σ0 ρ0 T) (gv : Gives G J w0 ds) (q : After G E P Dn σ0 w0 T (forL g y ds ρ0)) :
    ∃ W : Nat → Nat → Sl → Hp → Prop, (∃ m, W 0 m σ0 w0.H) ∧ ∀ i m σ H, W i m σ H →
      (J.stop i H ∧ Dn.nx σ H) ∨ (J.go i H ∧ ∃ N : Sl → Hp → Prop, (∀ σ' H', N σ' H' → ∃ m', m' < m ∧ W (i + 1) m' σ' H') ∧ ∀ x H', J.yld i H x H' → tG G P g x σ H' fun σ2 H2 => tS G E P y { Dn with nx := N, ct := N, bk := Dn.nx } σ2 H2) := by
  refine ⟨fun i m σ H => ∃ w ρ, w.H = H ∧ Go G T w0 w ∧ EnvR G w σ ρ T ∧ Pin P σ0 σ ∧ m = ds.length - i ∧ i ≤ ds.length ∧ After G E P Dn σ0 w0 T (forL g y (ds.drop i) ρ), ⟨_, w0, ρ0, rfl, .refl T w0, er0, Pin.refl, rfl, Nat.zero_le _, q⟩, ?_⟩
  rintro i m σ H ⟨w, ρ, rfl, gw, er, pn, rfl, hi, q⟩
  obtain ⟨hstop, hgo⟩ := gv w gw.le er.sub
  by_cases hlt : i < ds.length
  · have hd : ds.drop i = ds[i] :: ds.drop (i + 1) := List.drop_eq_getElem_cons hlt
    obtain ⟨go, yld⟩ := hgo i ds[i] (List.getElem?_eq_getElem hlt)
    refine .inr ⟨go, fun σ' H' => ∃ w ρ, w.H = H' ∧ Go G T w0 w ∧ EnvR G w σ' ρ T ∧ Pin P σ0 σ' ∧ After G E P Dn σ0 w0 T (forL g y (ds.drop (i + 1)) ρ), fun σ' H' ⟨w1, ρ1, e1, g1, er1, p1, q1⟩ => ⟨_, by omega, w1, ρ1, e1, g1, er1, p1, rfl, hlt, q1⟩, fun x H' hy => ?_⟩
    obtain ⟨w2, rfl, pr, r⟩ := yld x H' hy
    have er2 : EnvR G w2 σ ρ T := er.prim0 pr
    have g2 : Go G T w0 w2 := gw.trans (pr.go er)
    rw [hd] at q
    unfold forL at q
    refine ⟨w2, ρ, T, [], ds[i], rfl, er2, .sh r, ?_⟩
    cases hg : g ds[i] ρ with
    | none => simp only [hg] at q; exact q
    | some ρ1 =>
      simp only [hg] at q
      intro σ3 w3 g3 er3 p3
      refine tS_def.mpr ⟨w3, ρ1, T, rfl, er3, ?_⟩
      have g03 := g2.trans g3
      cases hy1 : y ρ1 with
      | nx ρ2 => simp only [hy1] at q; exact fun σ4 w4 g4 er4 p4 => ⟨w4, ρ2, rfl, g03.trans g4, er4, (pn.trans p3).trans p4, q⟩
      | ct ρ2 => simp only [hy1] at q; exact fun σ4 w4 g4 er4 p4 => ⟨w4, ρ2, rfl, g03.trans g4, er4, (pn.trans p3).trans p4, q⟩
      | bk ρ2 => simp only [hy1] at q; exact fun σ4 w4 g4 er4 p4 => q σ4 w4 (g03.trans g4) er4 ((pn.trans p3).trans p4)
      | rt d ρ2 => simp only [hy1] at q; exact fun v σ4 w4 as g4 er4 p4 r4 => q v σ4 w4 as (g03.trans g4) er4 ((pn.trans p3).trans p4) r4
      | ex c ρ2 => simp only [hy1] at q; exact fun σ4 w4 g4 er4 p4 => q σ4 w4 (g03.trans g4) er4 ((pn.trans p3).trans p4)
      | no => simp only [hy1] at q; exact q
  · have e : i = ds.length := by omega
    subst e
    refine .inl ⟨hstop, ?_⟩
    rw [List.drop_length] at q
    exact q σ w gw er pn
theorem es_for {iter tg : Expr} {body : List Stmt} {xi : Ax} {g : Gx} {y : Sx} (hp : PassesOwn (model X.prog X.w) X.A X.env X.xe) (hc : X.calm = true) (hi : PI X tg iter (tI G E xi)) (hg : PG X tg (tG G P g)) (hb : PSs X body (tS G E P y)) (hs : ∀ x, foldedSetIterable iter X.env x = pure x := by intro _; rfl) :
    PS X (.For tg iter body [] pos) (tS G E P (yFor xi g y)) := by
  refine (ps_for hp hc hi hg hb hs).imp fun D σ H q => ?_
  obtain ⟨w, ρ, T, rfl, er, q⟩ := tS_def.mp q
  refine ⟨w, ρ, T, rfl, er, ?_⟩
  unfold yFor at q
  cases h1 : xi ρ with
  | ex c ρ1 =>
    rw [h1] at q
    exact fun w1 g1 er1 => q σ w1 g1 er1 Pin.refl
  | no =>
    rw [h1] at q
    exact q.elim
  | ok ds ρ1 =>
    simp only [h1] at q
    intro J w1 g1 er1 gv
    refine for_run er1 gv ?_
    cases hf : forL g y ds ρ1 with
    | nx ρ2 => rw [hf] at q; exact fun σ2 w2 g2 er2 p2 => q σ2 w2 (g1.trans g2) er2 p2
    | rt d ρ2 => rw [hf] at q; exact fun v σ2 w2 as g2 er2 p2 r => q v σ2 w2 as (g1.trans g2) er2 p2 r
    | ex c ρ2 => rw [hf] at q; exact fun σ2 w2 g2 er2 p2 => q σ2 w2 (g1.trans g2) er2 p2
    | bk ρ2 => rw [hf] at q; exact fun σ2 w2 g2 er2 p2 => q σ2 w2 (g1.trans g2) er2 p2
    | ct ρ2 => rw [hf] at q; exact fun σ2 w2 g2 er2 p2 => q σ2 w2 (g1.trans g2) er2 p2
    | no => rw [hf] at q; exact q
/-- at most n turns -/
def whileL (c : Bx) (y : Sx) : Nat → Sx
  | 0, _ => .no
  | n + 1, ρ => match c ρ with
    | .ok false ρ1 => .nx ρ1
    | .ok true ρ1 => (match y ρ1 with
      | .nx ρ2 => whileL c y n ρ2
      | .ct ρ2 => whileL c y n ρ2
      | .bk ρ2 => .nx ρ2
      | .rt d ρ2 => .rt d ρ2
      | .ex c ρ2 => .ex c ρ2
      | .no => .no)
    | .ex c ρ1 => .ex c ρ1
    | .no => .no
theorem es_while {body : List Stmt} {y : Sx} (n : Nat) (hp : PassesOwn (model X.prog X.w) X.A X.env X.xe) (hc : PT X c (tDB G E tc)) (hb : PSs X body (tS G E P y)) : PS X (.While c body [] pos) (tS G E P (whileL tc y n)) := by
  refine (ps_while hp hc hb).imp fun D σ0 H q => ?_
  obtain ⟨w0, ρ0, T, rfl, er0, q⟩ := tS_def.mp q
  refine ⟨fun m σ H => ∃ w ρ, w.H = H ∧ Go G T w0 w ∧ EnvR G w σ ρ T ∧ Pin P σ0 σ ∧ After G E P D σ0 w0 T (whileL tc y m ρ), ⟨n, w0, ρ0, rfl, .refl T w0, er0, Pin.refl, q⟩, ?_⟩
  rintro m σ H ⟨w, ρ, rfl, gw, er, pn, q⟩
  cases m with
  | zero => exact q.elim
  | succ m =>
    unfold whileL at q
    refine ⟨w, ρ, T, rfl, er, ?_⟩
    cases h1 : tc ρ with
    | ex c ρ1 =>
      rw [h1] at q
      exact fun w1 g1 er1 => q σ w1 (gw.trans g1) er1 pn
    | no =>
      rw [h1] at q
      exact q.elim
    | ok k ρ1 =>
      intro w1 g1 er1
      have g01 := gw.trans g1
      cases k with
      | false =>
        simp only [h1] at q
        rw [if_neg (by decide)]
        exact q σ w1 g01 er1 pn
      | true =>
        simp only [h1] at q
        rw [if_pos rfl]
        refine ⟨fun σ' H' => ∃ w ρ, w.H = H' ∧ Go G T w0 w ∧ EnvR G w σ' ρ T ∧ Pin P σ0 σ' ∧ After G E P D σ0 w0 T (whileL tc y m ρ), fun σ' H' h => ⟨m, Nat.lt_succ_self m, h⟩, ?_⟩
        refine tS_def.mpr ⟨w1, ρ1, T, rfl, er1, ?_⟩
        cases hy1 : y ρ1 with
        | nx ρ2 => simp only [hy1] at q; exact fun σ4 w4 g4 er4 p4 => ⟨w4, ρ2, rfl, g01.trans g4, er4, pn.trans p4, q⟩
        | ct ρ2 => simp only [hy1] at q; exact fun σ4 w4 g4 er4 p4 => ⟨w4, ρ2, rfl, g01.trans g4, er4, pn.trans p4, q⟩
        | bk ρ2 => simp only [hy1] at q; exact fun σ4 w4 g4 er4 p4 => q σ4 w4 (g01.trans g4) er4 (pn.trans p4)
        | rt d ρ2 => simp only [hy1] at q; exact fun v σ4 w4 as g4 er4 p4 r4 => q v σ4 w4 as (g01.trans g4) er4 (pn.trans p4) r4
        | ex c ρ2 => simp only [hy1] at q; exact fun σ4 w4 g4 er4 p4 => q σ4 w4 (g01.trans g4) er4 (pn.trans p4)
        | no => simp only [hy1] at q; exact q
end
end On

set_option Elab.async false
set_option linter.all false
set_option maxRecDepth 100000
set_option maxHeartbeats 4000000
/-! On5: comprehensions. -/
namespace On
open PySem PySem.Spec PyProof.Rows L2

/-- nothing is wished of an exception -/
def W0 : WX := fun _ _ _ _ => False
def wipeR (ρ : Rho) : List Nat → Rho
  | [] => ρ
  | v :: vs => (wipeR ρ vs).set v none
theorem wipeR_length (ρ : Rho) : ∀ vs : List Nat, (wipeR ρ vs).length = ρ.length
  | [] => rfl
  | v :: vs => by unfold wipeR; rw [List.length_set, wipeR_length ρ vs]
theorem wipe_off {σ : Sl} {i : Nat} : ∀ {vs : List Nat}, i ∉ vs → (wipe σ vs)[i]? = σ[i]?
  | [], _ => rfl
  | v :: vs, h => by
    unfold wipe
    rw [List.getElem?_set_ne (fun e => h (by rw [e]; exact List.mem_cons_self))]
    exact wipe_off fun z => h (List.mem_cons_of_mem _ z)
theorem wipe_on {σ : Sl} {i : Nat} (hi : i < σ.length) : ∀ {vs : List Nat}, i ∈ vs → (wipe σ vs)[i]? = some none
  | v :: vs, h => by
    unfold wipe
    by_cases e : v = i
    · subst e
      rw [List.getElem?_set_self (by rw [wipe_length]; exact hi)]
    · rw [List.getElem?_set_ne e]
      exact wipe_on hi ((List.mem_cons.mp h).resolve_left fun z => e z.symm)
/-- what parts two slots' states off the block's own names is nothing -/
theorem wipe_eq {σ σ' : Sl} {vs : List Nat} (hl : σ'.length = σ.length) (h : ∀ i : Nat, i ∉ vs → σ'[i]? = σ[i]?) : wipe σ' vs = wipe σ vs := by
  apply List.ext_getElem?
  intro i
  by_cases hv : i ∈ vs
  · by_cases hi : i < σ.length
    · rw [wipe_on hi hv, wipe_on (by rw [hl]; exact hi) hv]
    · rw [List.getElem?_eq_none (by rw [wipe_length]; omega), List.getElem?_eq_none (by rw [wipe_length]; omega)]
  · rw [wipe_off hv, wipe_off hv, h i hv]
section
variable {G : Gs} {M M' : Addr → Prop} {H H' : Hp} {w w' w0 : Wd} {σ σ' : Sl} {ρ : Rho} {T as bs : List Addr} {v : V} {d : D} {p : Addr}
theorem EnvR.wipe (e : EnvR G w σ ρ T) : ∀ vs : List Nat, EnvR G w (L2.wipe σ vs) (wipeR ρ vs) T
  | [] => e
  | v :: vs => by
    unfold L2.wipe wipeR
    exact (e.wipe vs).drop v none
theorem EnvL.swap : ∀ {as : List Addr} {σ σ' : Sl} {ρ : Rho}, EnvL G M H as σ ρ → σ'.length = σ.length → (∀ (i : Nat) (d : D), ρ[i]? = some (some d) → σ'[i]? = σ[i]?) → EnvL G M H as σ' ρ
  | _, _, [], _, .nil, _, _ => .nil
  | _, _, _ :: _, _, .nil, h, _ => by simp at h
  | _, _, [], _, .skip _, h, _ => by simp at h
  | _, _, _ :: _, _, .skip e, h, k => .skip (e.swap (by simpa using h) fun i d q => by simpa using k (i + 1) d (by simpa using q))
  | _, _, [], _, .cons _ _, h, _ => by simp at h
  | _, _, o :: r, _, .cons (v := v) (d := d) a e, h, k => by
    have q := k 0 d (by simp)
    simp at q
    subst q
    exact .cons a (e.swap (by simpa using h) fun i d q => by simpa using k (i + 1) d (by simpa using q))
theorem EnvR.swap (e : EnvR G w σ ρ T) (hl : σ'.length = σ.length) (h : ∀ (i : Nat) (d : D), ρ[i]? = some (some d) → σ'[i]? = σ[i]?) : EnvR G w σ' ρ T := by
  obtain ⟨as, a, b, c⟩ := e.ex
  exact ⟨⟨as, a.swap hl h, b, c⟩, e.sub, e.tb⟩
theorem wipeR_on {i : Nat} : ∀ {vs : List Nat} {d : D}, i ∈ vs → (wipeR ρ vs)[i]? ≠ some (some d)
  | v :: vs, d, h, q => by
    unfold wipeR at q
    by_cases e : v = i
    · subst e
      by_cases hv : v < (wipeR ρ vs).length
      · rw [List.getElem?_set_self hv] at q; cases q
      · rw [List.getElem?_eq_none (by rw [List.length_set]; omega)] at q; cases q
    · rw [List.getElem?_set_ne e] at q
      exact wipeR_on ((List.mem_cons.mp h).resolve_left fun z => e z.symm) q
/-- back to the slots around -/
theorem EnvR.back {vs : List Nat} (e : EnvR G w (L2.wipe σ vs) (wipeR ρ vs) T) : EnvR G w σ (wipeR ρ vs) T :=
  e.swap (by rw [wipe_length]) fun i d q => by
    by_cases hv : i ∈ vs
    · exact absurd q (wipeR_on hv)
    · rw [wipe_off hv]
/-- a temporary object of ours is written -/
theorem kp_upd {o : HO} (hp : M p) (nt : ∀ xs, H p ≠ some (.tup xs)) (ne : ∀ φ, H p ≠ some (.ext φ)) : Kp M M H (upd H p o) where
  imm := fun a xs e => by rw [upd_ne (fun z => nt xs (by rw [← z]; exact e))]; exact e
  ext := fun a xs e => by rw [upd_ne (fun z => ne xs (by rw [← z]; exact e))]; exact e
  lst := fun a xs m e => ⟨by rw [upd_ne (fun z => m (by rw [z]; exact hp))]; exact e, m⟩
  dk := fun a xs m e => ⟨by unfold Rd; rw [upd_ne (fun z => m (by rw [z]; exact hp))]; exact e, m⟩
  dt := fun a xs m e => ⟨by unfold Rd; rw [upd_ne (fun z => m (by rw [z]; exact hp))]; exact e, m⟩
  frz := fun a o xs m e => ⟨by rw [upd_ne (fun z => m (by rw [z]; exact hp))]; exact e, m⟩
  ins := fun a c dx xs m e => ⟨by rw [upd_ne (fun z => m (by rw [z]; exact hp))]; exact e, m⟩
theorem EnvR.upd {o : HO} (e : EnvR G w σ ρ (p :: T)) (n : NoTbl o) (nt : ∀ xs, w.H p ≠ some (.tup xs)) (ne : ∀ φ, w.H p ≠ some (.ext φ)) : EnvR G ⟨L2.upd w.H p o, w.M, w.C⟩ σ ρ (p :: T) := by
  obtain ⟨as, a, b, c⟩ := e.ex
  have hc := c p (List.mem_append_right _ List.mem_cons_self)
  have np : p ∉ as := fun z => (List.nodup_append.mp b).2.2 p z p List.mem_cons_self rfl
  refine ⟨⟨as, a.kp (kp_upd (e.sub p hc.1) nt ne) fun x hx => upd_ne fun z => np (by rw [← z]; exact hx), b, fun x hx => ⟨(c x hx).1, ?_⟩⟩, e.sub, tabs_set (fun ps z => by
    obtain ⟨u, hu, nu⟩ := hc.2
    rw [hu] at z
    exact nu ps (Option.some.inj z)) ne e.tb⟩
  by_cases z : x = p
  · subst z; exact ⟨o, upd_same, n⟩
  · obtain ⟨u, hu, nu⟩ := (c x hx).2
    exact ⟨u, by show L2.upd w.H p o x = _; rw [upd_ne z]; exact hu, nu⟩
end

section
variable {G : Gs} {w w0 : Wd} {T : List Addr} {p : Addr}
/-- an object that the def may change is written -/
theorem Go.updC {o : HO} (no : NoTbl o) (g : Go G T w0 w) (hC : w0.C p) (hT : p ∉ T) (n0 : ∀ xs, w0.H p ≠ some (.tup xs)) (n1 : ∀ φ, w0.H p ≠ some (.ext φ)) (tb : ∀ ps, w.H p ≠ some (.tbl ps)) (te : ∀ φ, w.H p ≠ some (.ext φ)) : Go G T w0 ⟨L2.upd w.H p o, w.M, w.C⟩ := by
  refine ⟨⟨fun a u c n e => ?_, fun a xs e => ?_, fun a φ e => ?_, g.le.m1, g.le.m2, g.le.c1, fun a h => ?_, fun t => tabs_set tb te (g.le.tab t)⟩, fun a ha => ?_⟩
  · show L2.upd w.H p o a = _ ∨ (_ ∧ _ ∧ ∃ od, L2.upd w.H p o a = _); rw [upd_ne (fun z => c (by rw [z]; exact hC))]; exact g.le.dir a u c n e
  · show L2.upd w.H p o a = _; rw [upd_ne (fun z => n0 xs (by rw [← z]; exact e))]; exact g.le.imm a xs e
  · show L2.upd w.H p o a = _; rw [upd_ne (fun z => n1 φ (by rw [← z]; exact e))]; exact g.le.ext a φ e
  · obtain ⟨u, hu, nu⟩ := g.le.dom a h
    by_cases z : a = p
    · rw [z]; exact ⟨o, upd_same, no⟩
    · exact ⟨u, (upd_ne z).trans hu, nu⟩
  · show L2.upd w.H p o a = _
    rw [upd_ne (fun z => hT (by rw [← z]; exact ha))]
    exact g.ts a ha
end

/-! ### one clause -/
/-- the items that the turns give -/
def lcL (vs : List Nat) (g : Gx) (t : Bx) (x : Xx) : List D → Rho → AR
  | [], ρ => .ok [] ρ
  | d :: r, ρ => match g d ρ with
    | none => .no
    | some ρ1 => match t ρ1 with
      | .ok true ρ2 => (match x ρ2 with
        | .ok y ρ3 => if y.sh = true then (match lcL vs g t x r (wipeR ρ3 vs) with
          | .ok ys ρ4 => .ok (y :: ys) ρ4
          | _ => .no) else .no
        | _ => .no)
      | .ok false ρ2 => lcL vs g t x r (wipeR ρ2 vs)
      | _ => .no
def xLc (vs : List Nat) (xi : Ax) (g : Gx) (t : Bx) (x : Xx) : Xx := fun ρ => match xi ρ with
  | .ok ds ρ1 => (match lcL vs g t x ds (wipeR ρ1 vs) with
    | .ok ys ρ2 => if ys.length ≤ most then .ok (.ol ys) ρ2 else .no
    | _ => .no)
  | .ex c ρ1 => .ex c ρ1
  | .no => .no
/-- no test -/
def bYes : Bx := fun ρ => .ok true ρ
section
variable {X : Cx} {G : Gs} {E : WX} {e a b c : Expr} {es rest : List Expr} {pos : Pos} {x : Xx} {t : Bx} {xi : Ax} {g : Gx}
/-- the block's own names alone are stored by its target -/
def offL (vs : List Nat) (i : Nat) : Bool := !vs.contains i
theorem offL_false {vs : List Nat} {i : Nat} (h : i ∈ vs) : offL vs i = false := by unfold offL; simp [h]
theorem pin_off {vs : List Nat} {σ σ' : Sl} (h : Pin (offL vs) σ σ') (i : Nat) (hi : i ∉ vs) : σ'[i]? = σ[i]? := h.2 i (by unfold offL; simp [hi])
theorem tests_yes : PTs X [] (tDB G E bYes) := ⟨fun pins s σ H Q I q => by
  obtain ⟨w, ρ, T, rfl, er, q⟩ := q
  exact (pts_nil (X := X)).run pins s σ w.H Q I (q w (.refl T w) er)⟩
theorem tests_one (h : PT X c (tDB G E t)) : PTs X [c] (tDB G E t) := pts_one h
theorem wipe_idem (σ : Sl) (vs : List Nat) : wipe (wipe σ vs) vs = wipe σ vs := wipe_eq (by rw [wipe_length]) fun i hi => wipe_off hi
/-- the turns: from what the list at L holds to what it holds behind -/
theorem lc_turns {J : It} {vs : List Nat} {σ : Sl} {w0 : Wd} {T : List Addr} {ds : List D} {ρ1 : Rho} {zs ys0 : List D} {ρ2 : Rho} {Qe : Hp → Prop} {L : Addr} {acc0 : List V} (LT : L ∉ T) (er0 : EnvR G w0 σ ρ1 (L :: T)) (at0 : w0.H L = some (.lst acc0)) (rp0 : Reps G w0.M w0.H acc0 ys0)
    (gv : Gives G J w0 ds) (hr : lcL vs g t x ds (wipeR ρ1 vs) = .ok zs ρ2) (hm : ys0.length + zs.length ≤ most)
    (q : ∀ w' acc' ρ', ρ2 = wipeR ρ' vs → Go G T w0 w' → EnvR G w' (wipe σ vs) ρ2 (L :: T) → w'.H L = some (.lst acc') → Reps G w'.M w'.H acc' (ys0 ++ zs) → Qe w'.H) :
    ∃ W : Nat → Nat → Hp → Prop, (∃ m, W 0 m w0.H) ∧ ∀ i m H, W i m H →
      (J.stop i H ∧ Qe H) ∨ (J.go i H ∧ ∃ Nx : Hp → Prop, (∀ H', Nx H' → ∃ m', m' < m ∧ W (i + 1) m' H') ∧ ∀ z H', J.yld i H z H' → tG G (offL vs) g z (wipe σ vs) H' fun σ2 H2 => wipe σ2 vs = wipe σ vs ∧ tDB G W0 t σ2 H2 fun b H3 =>
        if b = true then tD G W0 x σ2 H3 fun y H4 => ∃ acc, H4 L = some (.lst acc) ∧ acc.length < sizeLine ∧ Nx (upd H4 L (.lst (acc ++ [y]))) else Nx H3) := by
  have LC : w0.C L := by
    obtain ⟨as, a, b, c⟩ := er0.ex
    exact (c L (List.mem_append_right _ List.mem_cons_self)).1
  refine ⟨fun i m H => ∃ w ρ acc ys zs', w.H = H ∧ Go G T w0 w ∧ EnvR G w (wipe σ vs) (wipeR ρ vs) (L :: T) ∧ w.H L = some (.lst acc) ∧ Reps G w.M w.H acc ys ∧ lcL vs g t x (ds.drop i) (wipeR ρ vs) = .ok zs' ρ2 ∧ ys ++ zs' = ys0 ++ zs ∧ m = ds.length - i ∧ i ≤ ds.length,
    ⟨_, w0, ρ1, acc0, ys0, zs, rfl, .refl T w0, er0.wipe vs, at0, rp0, hr, rfl, rfl, Nat.zero_le _⟩, ?_⟩
  rintro i m H ⟨w, ρ, acc, ys, zs', rfl, gw, er, at_, rp, h1, h2, rfl, hi⟩
  obtain ⟨hstop, hgo⟩ := gv w gw.le er.sub
  by_cases hlt : i < ds.length
  · have hd : ds.drop i = ds[i] :: ds.drop (i + 1) := List.drop_eq_getElem_cons hlt
    obtain ⟨go, yld⟩ := hgo i ds[i] (List.getElem?_eq_getElem hlt)
    refine .inr ⟨go, fun H' => ∃ w ρ acc ys zs', w.H = H' ∧ Go G T w0 w ∧ EnvR G w (wipe σ vs) (wipeR ρ vs) (L :: T) ∧ w.H L = some (.lst acc) ∧ Reps G w.M w.H acc ys ∧ lcL vs g t x (ds.drop (i + 1)) (wipeR ρ vs) = .ok zs' ρ2 ∧ ys ++ zs' = ys0 ++ zs,
      fun H' ⟨w1, ρ1, acc1, ys1, zs1, e1, e2, e3, e4, e5, e6, e7⟩ => ⟨_, by omega, w1, ρ1, acc1, ys1, zs1, e1, e2, e3, e4, e5, e6, e7, rfl, hlt⟩, fun z H' hy => ?_⟩
    obtain ⟨w2, rfl, pr, r⟩ := yld z H' hy
    have er2 : EnvR G w2 (wipe σ vs) (wipeR ρ vs) (L :: T) := er.prim0 pr
    have g2 : Go G T w0 w2 := gw.trans (Go.less (as := [L]) (pr.go er))
    have at2 : w2.H L = some (.lst acc) := pr.dir L _ noTbl_lst at_
    have rp2 : Reps G w2.M w2.H acc ys := rp.kp pr.kp
    rw [hd] at h1
    unfold lcL at h1
    refine ⟨w2, wipeR ρ vs, L :: T, [], ds[i], rfl, er2, .sh r, ?_⟩
    cases hg : g ds[i] (wipeR ρ vs) with
    | none => simp only [hg] at h1; cases h1
    | some ρa =>
      simp only [hg] at h1 ⊢
      intro σ3 w3 g3 er3 p3
      have wσ : wipe σ3 vs = wipe σ vs := by
        rw [← wipe_idem σ vs]
        exact wipe_eq p3.1 fun i hi => pin_off p3 i hi
      refine ⟨wσ, w3, ρa, L :: T, rfl, er3, ?_⟩
      have g03 : Go G T w0 w3 := g2.trans (Go.less (as := [L]) g3)
      have at3 : w3.H L = some (.lst acc) := (g3.ts L List.mem_cons_self).trans at2
      have rp3 : Reps G w3.M w3.H acc ys := rp2.kp (g3.le.kp er2.sub)
      cases ht : t ρa with
      | ex c ρb => simp only [ht] at h1; cases h1
      | no => simp only [ht] at h1; cases h1
      | ok k ρb =>
        intro w4 g4 er4
        have g04 : Go G T w0 w4 := g03.trans (Go.less (as := [L]) g4)
        have at4 : w4.H L = some (.lst acc) := (g4.ts L List.mem_cons_self).trans at3
        have rp4 : Reps G w4.M w4.H acc ys := rp3.kp (g4.le.kp er3.sub)
        cases k with
        | false =>
          simp only [ht] at h1
          rw [if_neg (by decide)]
          exact ⟨w4, ρb, acc, ys, zs', rfl, g04, by rw [← wσ]; exact er4.wipe vs, at4, rp4, h1, h2⟩
        | true =>
          simp only [ht] at h1
          rw [if_pos rfl]
          refine ⟨w4, ρb, L :: T, rfl, er4, ?_⟩
          cases hx : x ρb with
          | ex c ρc => simp only [hx] at h1; cases h1
          | no => simp only [hx] at h1; cases h1
          | ok y ρc =>
            simp only [hx] at h1
            intro v w5 as g5 er5 o5
            by_cases hs : y.sh = true
            · rw [if_pos hs] at h1
              obtain ⟨rfl, r5⟩ := o5.rep hs
              cases hn : lcL vs g t x (ds.drop (i + 1)) (wipeR ρc vs) with
              | ex c ρd => simp only [hn] at h1; cases h1
              | no => simp only [hn] at h1; cases h1
              | ok zs2 ρd =>
                simp only [hn] at h1
                injection h1 with e1 e2
                subst e1 e2
                have g05 : Go G T w0 w5 := g04.trans (Go.less (as := [L]) g5)
                have at5 : w5.H L = some (.lst acc) := (g5.ts L List.mem_cons_self).trans at4
                have rp5 : Reps G w5.M w5.H acc ys := rp4.kp (g5.le.kp er4.sub)
                have nt : ∀ xs, w5.H L ≠ some (.tup xs) := fun xs q => by rw [at5] at q; cases q
                have ne : ∀ φ, w5.H L ≠ some (.ext φ) := fun xs q => by rw [at5] at q; cases q
                have nb : ∀ ps, w5.H L ≠ some (.tbl ps) := fun xs q => by rw [at5] at q; cases q
                have ml : w5.M L := er5.sub L (by
                  obtain ⟨_, _, _, c⟩ := er5.ex
                  exact (c L (List.mem_append_right _ List.mem_cons_self)).1)
                have len : acc.length < sizeLine := by
                  have l1 := rp5.length
                  have l2 : ys0.length + zs.length = ys.length + (zs2.length + 1) := by
                    have := congrArg List.length h2
                    simpa using this.symm
                  have := most_line
                  omega
                have kp := kp_upd (o := .lst (acc ++ [v])) ml nt ne
                refine ⟨acc, at5, len, ⟨upd w5.H L (.lst (acc ++ [v])), w5.M, w5.C⟩, ρc, acc ++ [v], ys ++ [y], zs2, rfl, Go.updC noTbl_lst g05 LC LT (fun xs q => by rw [at0] at q; cases q) (fun xs q => by rw [at0] at q; cases q) nb ne, ?_, upd_same, (rp5.kp kp).append (.cons (r5.kp kp) .nil), hn, by rw [List.append_assoc]; exact h2⟩
                rw [← wσ]
                exact (EnvR.upd er5 noTbl_lst nt ne).wipe vs
            · rw [if_neg hs] at h1
              cases h1
  · have e : i = ds.length := by omega
    subst e
    refine .inl ⟨hstop, ?_⟩
    rw [List.drop_length] at h1
    unfold lcL at h1
    injection h1 with e1 e2
    subst e1 e2
    rw [List.append_nil] at h2
    subst h2
    exact q w acc ρ rfl gw er at_ rp
theorem fresh_temp {w : Wd} {σ : Sl} {ρ : Rho} {T : List Addr} {L : Addr} (er : EnvR G w σ ρ T) (h : w.H L = none) : L ∉ T := fun z => by
  obtain ⟨as, a, b, c⟩ := er.ex
  exact (c L (List.mem_append_right _ z)).2.live h
theorem tD_lc {vs : List Nat} (σ : Sl) (H : Hp) (Q : VK) (q : tD G E (xLc vs xi g t x) σ H Q) : tLc (tI G E xi) (tG G (offL vs) g) (tDB G W0 t) (tD G W0 x) vs σ H Q := by
  obtain ⟨w, ρ, T, rfl, er, q⟩ := q
  refine ⟨w, ρ, T, rfl, er, ?_⟩
  unfold xLc at q
  cases h1 : xi ρ with
  | ex c ρ1 => simp only [h1] at q ⊢; exact q
  | no => simp only [h1] at q
  | ok ds ρ1 =>
    simp only [h1] at q ⊢
    intro J w1 g1 er1 gv L hL
    cases h2 : lcL vs g t x ds (wipeR ρ1 vs) with
    | ex c ρ2 => simp only [h2] at q
    | no => simp only [h2] at q
    | ok fin ρ2 =>
      simp only [h2] at q
      by_cases hm : fin.length ≤ most
      · simp only [if_pos hm] at q
        have P0 := Prim.newO (w := w1) (o := .lst []) hL noTbl_lst
        refine lc_turns (w0 := ⟨upd w1.H L (.lst []), fun a => w1.M a ∨ a ∈ [L], fun a => w1.C a ∨ a ∈ [L]⟩) (acc0 := []) (ys0 := []) (fresh_temp er1 hL) (er1.prim P0) upd_same .nil (fun w2 l2 s2 => gv w2 (P0.le.trans l2) s2) h2 (by simpa using hm) fun w' acc' ρ' e2 g er at_ rp => ?_
        subst e2
        exact q (.ref L) w' [L] ((g1.trans (P0.go er1)).trans g) er.back (.ol at_ (OwnL.of rp))
      · simp only [if_neg hm] at q
/-- [e for target in iter if ..], owned -/
theorem ed_lc {elt tg iter : Expr} {ifs : List Expr} {scope : Scope} {own : List (Str × Nat)} (hc : X.calm = true) (hN : X.N.Nodup) (hi : PI X tg iter (tI G E xi)) (ok : BlkOk X.N X.env.scope scope own)
    (hg : ∀ (s : Shared) (H : Hp) (C : Addr) (cl : List (Str × Addr)) (fp : List Addr), PG (X.blk s H scope (compEnvC scope cl C X.env) fp) tg (tG G (offL (own.map (·.2))) g))
    (ht : ∀ (s : Shared) (H : Hp) (C : Addr) (cl : List (Str × Addr)) (fp : List Addr), PTs (X.blk s H scope (compEnvC scope cl C X.env) fp) ifs (tDB G W0 t))
    (he : ∀ (s : Shared) (H : Hp) (C : Addr) (cl : List (Str × Addr)) (fp : List Addr), PE (X.blk s H scope (compEnvC scope cl C X.env) fp) elt (tD G W0 x)) (hs : ∀ x, foldedSetIterable iter X.env x = pure x := by intro _; rfl) :
    PE X (.ListComp elt [⟨tg, iter, ifs, 0⟩] scope pos) (tD G E (xLc (own.map (·.2)) xi g t x)) := (pe_lc hc hN hi ok hg ht he hs).imp tD_lc
/-- y = [e for ..], y a local; x' : the comprehension's data, frozen or not -/
theorem es_lc {i : Nat} {n : Str} {py : Pos} {elt tg iter : Expr} {ifs : List Expr} {scope : Scope} {own : List (Str × Nat)} {spos : Pos} {P : Nat → Bool} {x' : Xx} (hx : ∀ σ H Q, tD G E x' σ H Q → tD G E (xLc (own.map (·.2)) xi g t x) σ H Q) (hp : P i = false) (hc : X.calm = true) (hN : X.N.Nodup) (hy : X.N[i]? = some n) (hyl : X.env.scope.names.lookup n = some .local)
    (hsw : swapsWith (.ListComp elt [⟨tg, iter, ifs, 0⟩] scope pos) (some (.Name n py)) spos.line X.env = pure true) (hi : PI X tg iter (tI G E xi)) (ok : BlkOk X.N X.env.scope scope own)
    (hg : ∀ (s : Shared) (H : Hp) (C : Addr) (cl : List (Str × Addr)) (fp : List Addr), PG (X.blk s H scope (compEnvC scope cl C X.env) fp) tg (tG G (offL (own.map (·.2))) g))
    (ht : ∀ (s : Shared) (H : Hp) (C : Addr) (cl : List (Str × Addr)) (fp : List Addr), PTs (X.blk s H scope (compEnvC scope cl C X.env) fp) ifs (tDB G W0 t))
    (he : ∀ (s : Shared) (H : Hp) (C : Addr) (cl : List (Str × Addr)) (fp : List Addr), PE (X.blk s H scope (compEnvC scope cl C X.env) fp) elt (tD G W0 x)) (hs : ∀ x, foldedSetIterable iter X.env x = pure x := by intro _; rfl) :
    PS X (.Assign [.Name n py] (.ListComp elt [⟨tg, iter, ifs, 0⟩] scope pos) spos) (tS G E P (yAsg (gxName i) x')) := by
  refine (ps_setLc hc hN hy hyl hsw hi ok hg ht he hs).imp fun D σ H q => ?_
  refine tD_lc σ H _ (hx σ H _ ?_)
  obtain ⟨w, ρ, T, rfl, er, q⟩ := q
  refine ⟨w, ρ, T, rfl, er, ?_⟩
  unfold yAsg gxName at q
  cases h1 : x' ρ with
  | ex c ρ1 =>
    rw [h1] at q
    exact fun w1 g1 er1 => q σ w1 g1 er1 Pin.refl
  | no =>
    rw [h1] at q
    exact q.elim
  | ok d ρ1 =>
    simp only [h1] at q
    intro v w1 as g1 er1 o1
    by_cases h : i < ρ1.length
    · simp only [if_pos h] at q
      exact q _ w1 g1 (er1.set h o1) (Pin.set hp)
    · simp only [if_neg h] at q

/-! ### two clauses -/
/-- the items that the turns give; vs the block's names, vs1 those of the second target -/
def lc2L (vs vs1 : List Nat) (g : Gx) (t : Bx) (xi1 : Ax) (g1 : Gx) (t1 : Bx) (x : Xx) : List D → Rho → AR
  | [], ρ => .ok [] ρ
  | d :: r, ρ => match g d ρ with
    | none => .no
    | some ρ1 => match t ρ1 with
      | .ok true ρ2 => (match xi1 ρ2 with
        | .ok ds1 ρ3 => (match lcL vs1 g1 t1 x ds1 (wipeR ρ3 vs1) with
          | .ok zs ρ4 => (match lc2L vs vs1 g t xi1 g1 t1 x r (wipeR ρ4 vs) with
            | .ok ys ρ5 => .ok (zs ++ ys) ρ5
            | _ => .no)
          | _ => .no)
        | _ => .no)
      | .ok false ρ2 => lc2L vs vs1 g t xi1 g1 t1 x r (wipeR ρ2 vs)
      | _ => .no
def xLc2 (vs vs1 : List Nat) (xi : Ax) (g : Gx) (t : Bx) (xi1 : Ax) (g1 : Gx) (t1 : Bx) (x : Xx) : Xx := fun ρ => match xi ρ with
  | .ok ds ρ1 => (match lc2L vs vs1 g t xi1 g1 t1 x ds (wipeR ρ1 vs) with
    | .ok ys ρ2 => if ys.length ≤ most then .ok (.ol ys) ρ2 else .no
    | _ => .no)
  | .ex c ρ1 => .ex c ρ1
  | .no => .no
variable {xi1 : Ax} {g1 : Gx} {t1 : Bx}
theorem tD_lc2 {vs vs1 : List Nat} (hv : ∀ i ∈ vs1, i ∈ vs) (σ : Sl) (H : Hp) (Q : VK) (q : tD G E (xLc2 vs vs1 xi g t xi1 g1 t1 x) σ H Q) : tLc2 (tI G E xi) (tG G (offL vs) g) (tDB G W0 t) (tI G W0 xi1) (tG G (offL vs1) g1) (tDB G W0 t1) (tD G W0 x) vs vs1 σ H Q := by
  obtain ⟨w, ρ, T, rfl, er, q⟩ := q
  refine ⟨w, ρ, T, rfl, er, ?_⟩
  unfold xLc2 at q
  cases h1 : xi ρ with
  | ex c ρ1 => simp only [h1] at q ⊢; exact q
  | no => simp only [h1] at q
  | ok ds ρ1 =>
    simp only [h1] at q ⊢
    intro J wa ga era gv L hL
    cases hr : lc2L vs vs1 g t xi1 g1 t1 x ds (wipeR ρ1 vs) with
    | ex c ρ2 => simp only [hr] at q
    | no => simp only [hr] at q
    | ok fin ρ2 =>
      simp only [hr] at q
      by_cases hm : fin.length ≤ most
      · simp only [if_pos hm] at q
        have P0 := Prim.newO (w := wa) (o := .lst []) hL noTbl_lst
        have LT := fresh_temp era hL
        have er0 := era.prim P0
        have LC : (fun a => wa.C a ∨ a ∈ [L]) L := .inr (List.mem_singleton.mpr rfl)
        refine ⟨fun i m H => ∃ w ρ acc ys zs, w.H = H ∧ Go G T wa w ∧ Go G T ⟨upd wa.H L (.lst []), fun a => wa.M a ∨ a ∈ [L], fun a => wa.C a ∨ a ∈ [L]⟩ w ∧ EnvR G w (wipe σ vs) (wipeR ρ vs) (L :: T) ∧ w.H L = some (.lst acc) ∧ Reps G w.M w.H acc ys ∧ lc2L vs vs1 g t xi1 g1 t1 x (ds.drop i) (wipeR ρ vs) = .ok zs ρ2 ∧ ys ++ zs = fin ∧ m = ds.length - i ∧ i ≤ ds.length,
          ⟨_, _, ρ1, [], [], fin, rfl, P0.go era, .refl T _, er0.wipe vs, upd_same, .nil, hr, rfl, rfl, Nat.zero_le _⟩, ?_⟩
        rintro i m H ⟨w1, ρ', acc, ys, zs, rfl, gw, gw0, er1, at1, rp1, h1', h2, rfl, hi⟩
        obtain ⟨hstop, hgo⟩ := gv w1 gw.le er1.sub
        by_cases hlt : i < ds.length
        · have hd : ds.drop i = ds[i] :: ds.drop (i + 1) := List.drop_eq_getElem_cons hlt
          obtain ⟨go, yld⟩ := hgo i ds[i] (List.getElem?_eq_getElem hlt)
          refine .inr ⟨go, fun H' => ∃ w ρ acc ys zs, w.H = H' ∧ Go G T wa w ∧ Go G T ⟨upd wa.H L (.lst []), fun a => wa.M a ∨ a ∈ [L], fun a => wa.C a ∨ a ∈ [L]⟩ w ∧ EnvR G w (wipe σ vs) (wipeR ρ vs) (L :: T) ∧ w.H L = some (.lst acc) ∧ Reps G w.M w.H acc ys ∧ lc2L vs vs1 g t xi1 g1 t1 x (ds.drop (i + 1)) (wipeR ρ vs) = .ok zs ρ2 ∧ ys ++ zs = fin,
            fun H' ⟨w1, ρ1, acc1, ys1, zs1, e1, e2, e3, e4, e5, e6, e7, e8⟩ => ⟨_, by omega, w1, ρ1, acc1, ys1, zs1, e1, e2, e3, e4, e5, e6, e7, e8, rfl, hlt⟩, fun z H' hy => ?_⟩
          obtain ⟨w2, rfl, pr, r⟩ := yld z H' hy
          have er2 : EnvR G w2 (wipe σ vs) (wipeR ρ' vs) (L :: T) := er1.prim0 pr
          have s2 : Go G T w1 w2 := Go.less (as := [L]) (pr.go er1)
          have at2 : w2.H L = some (.lst acc) := pr.dir L _ noTbl_lst at1
          have rp2 : Reps G w2.M w2.H acc ys := rp1.kp pr.kp
          rw [hd] at h1'
          unfold lc2L at h1'
          refine ⟨w2, wipeR ρ' vs, L :: T, [], ds[i], rfl, er2, .sh r, ?_⟩
          cases hg : g ds[i] (wipeR ρ' vs) with
          | none => simp only [hg] at h1'; cases h1'
          | some ρa =>
            simp only [hg] at h1' ⊢
            intro σ3 w3 g3 er3 p3
            have wσ : wipe σ3 vs = wipe σ vs := by
              rw [← wipe_idem σ vs]
              exact wipe_eq p3.1 fun i hi => pin_off p3 i hi
            refine ⟨wσ, w3, ρa, L :: T, rfl, er3, ?_⟩
            have s3 : Go G T w1 w3 := s2.trans (Go.less (as := [L]) g3)
            have at3 : w3.H L = some (.lst acc) := (g3.ts L List.mem_cons_self).trans at2
            have rp3 : Reps G w3.M w3.H acc ys := rp2.kp (g3.le.kp er2.sub)
            cases ht : t ρa with
            | ex c ρb => simp only [ht] at h1'; cases h1'
            | no => simp only [ht] at h1'; cases h1'
            | ok k ρb =>
              intro w4 g4 er4
              have s4 : Go G T w1 w4 := s3.trans (Go.less (as := [L]) g4)
              have at4 : w4.H L = some (.lst acc) := (g4.ts L List.mem_cons_self).trans at3
              have rp4 : Reps G w4.M w4.H acc ys := rp3.kp (g4.le.kp er3.sub)
              cases k with
              | false =>
                simp only [ht] at h1'
                rw [if_neg (by decide)]
                exact ⟨w4, ρb, acc, ys, zs, rfl, gw.trans s4, gw0.trans s4, by rw [← wσ]; exact er4.wipe vs, at4, rp4, h1', h2⟩
              | true =>
                simp only [ht] at h1'
                rw [if_pos rfl]
                refine ⟨w4, ρb, L :: T, rfl, er4, ?_⟩
                cases hx : xi1 ρb with
                | ex c ρc => simp only [hx] at h1'; cases h1'
                | no => simp only [hx] at h1'; cases h1'
                | ok ds1 ρc =>
                  simp only [hx] at h1'
                  cases hl : lcL vs1 g1 t1 x ds1 (wipeR ρc vs1) with
                  | ex c ρd => simp only [hl] at h1'; cases h1'
                  | no => simp only [hl] at h1'; cases h1'
                  | ok zs1 ρd =>
                    simp only [hl] at h1'
                    cases hn : lc2L vs vs1 g t xi1 g1 t1 x (ds.drop (i + 1)) (wipeR ρd vs) with
                    | ex c ρe => simp only [hn] at h1'; cases h1'
                    | no => simp only [hn] at h1'; cases h1'
                    | ok ys1 ρe =>
                      simp only [hn] at h1'
                      injection h1' with e1 e2
                      subst e1 e2
                      intro J1 w5 g5 er5 gv1
                      have s5 : Go G T w1 w5 := s4.trans (Go.less (as := [L]) g5)
                      have at5 : w5.H L = some (.lst acc) := (g5.ts L List.mem_cons_self).trans at4
                      have rp5 : Reps G w5.M w5.H acc ys := rp4.kp (g5.le.kp er4.sub)
                      have hmm : ys.length + zs1.length ≤ most := by
                        have := congrArg List.length h2
                        simp only [List.length_append] at this
                        omega
                      refine lc_turns LT er5 at5 rp5 gv1 hl hmm fun w6 acc6 ρ6 e6 g6 er6 at6 rp6 => ?_
                      refine ⟨w6, ρd, acc6, ys ++ zs1, ys1, rfl, (gw.trans s5).trans g6, (gw0.trans s5).trans g6, ?_, at6, rp6, hn, by rw [List.append_assoc]; exact h2⟩
                      have b := er6.wipe vs
                      have q1 : wipe (wipe σ3 vs1) vs = wipe σ vs := by
                        rw [← wσ]
                        exact wipe_eq (by rw [wipe_length]) fun i hi => wipe_off fun z => hi (hv i z)
                      rw [q1] at b
                      exact b
        · have e : i = ds.length := by omega
          subst e
          refine .inl ⟨hstop, ?_⟩
          rw [List.drop_length] at h1'
          unfold lc2L at h1'
          injection h1' with e1 e2
          subst e1 e2
          rw [List.append_nil] at h2
          subst h2
          exact q (.ref L) w1 [L] (ga.trans gw) er1.back (.ol at1 (OwnL.of rp1))
      · simp only [if_neg hm] at q
/-- [e for tg in iter if .. for tg1 in iter1 if ..], owned -/
theorem ed_lc2 {elt tg iter tg1 iter1 : Expr} {ifs ifs1 : List Expr} {scope : Scope} {own : List (Str × Nat)} {vs1 : List Nat} (hc : X.calm = true) (hN : X.N.Nodup) (hi : PI X tg iter (tI G E xi)) (ok : BlkOk X.N X.env.scope scope own) (hv : ∀ i ∈ vs1, i ∈ own.map (·.2))
    (hg : ∀ (s : Shared) (H : Hp) (C : Addr) (cl : List (Str × Addr)) (fp : List Addr), PG (X.blk s H scope (compEnvC scope cl C X.env) fp) tg (tG G (offL (own.map (·.2))) g))
    (ht : ∀ (s : Shared) (H : Hp) (C : Addr) (cl : List (Str × Addr)) (fp : List Addr), PTs (X.blk s H scope (compEnvC scope cl C X.env) fp) ifs (tDB G W0 t))
    (hi1 : ∀ (s : Shared) (H : Hp) (C : Addr) (cl : List (Str × Addr)) (fp : List Addr), PI (X.blk s H scope (compEnvC scope cl C X.env) fp) tg1 iter1 (tI G W0 xi1))
    (hg1 : ∀ (s : Shared) (H : Hp) (C : Addr) (cl : List (Str × Addr)) (fp : List Addr), PG (X.blk s H scope (compEnvC scope cl C X.env) fp) tg1 (tG G (offL vs1) g1))
    (ht1 : ∀ (s : Shared) (H : Hp) (C : Addr) (cl : List (Str × Addr)) (fp : List Addr), PTs (X.blk s H scope (compEnvC scope cl C X.env) fp) ifs1 (tDB G W0 t1))
    (he : ∀ (s : Shared) (H : Hp) (C : Addr) (cl : List (Str × Addr)) (fp : List Addr), PE (X.blk s H scope (compEnvC scope cl C X.env) fp) elt (tD G W0 x)) (hs : ∀ x, foldedSetIterable iter X.env x = pure x := by intro _; rfl) (hs1 : ∀ env x, foldedSetIterable iter1 env x = pure x := by intro _ _; rfl) :
    PE X (.ListComp elt [⟨tg, iter, ifs, 0⟩, ⟨tg1, iter1, ifs1, 0⟩] scope pos) (tD G E (xLc2 (own.map (·.2)) vs1 xi g t xi1 g1 t1 x)) :=
  (pe_lc2 hc hN hi ok hv hg ht hi1 hg1 ht1 he hs hs1).imp (tD_lc2 hv)
theorem es_lc2 {i : Nat} {n : Str} {py : Pos} {elt tg iter tg1 iter1 : Expr} {ifs ifs1 : List Expr} {scope : Scope} {own : List (Str × Nat)} {vs1 : List Nat} {spos : Pos} {P : Nat → Bool} {x' : Xx} (hx : ∀ σ H Q, tD G E x' σ H Q → tD G E (xLc2 (own.map (·.2)) vs1 xi g t xi1 g1 t1 x) σ H Q) (hp : P i = false)
    (hc : X.calm = true) (hN : X.N.Nodup) (hy : X.N[i]? = some n) (hyl : X.env.scope.names.lookup n = some .local) (hsw : swapsWith (.ListComp elt [⟨tg, iter, ifs, 0⟩, ⟨tg1, iter1, ifs1, 0⟩] scope pos) (some (.Name n py)) spos.line X.env = pure true)
    (hi : PI X tg iter (tI G E xi)) (ok : BlkOk X.N X.env.scope scope own) (hv : ∀ i ∈ vs1, i ∈ own.map (·.2))
    (hg : ∀ (s : Shared) (H : Hp) (C : Addr) (cl : List (Str × Addr)) (fp : List Addr), PG (X.blk s H scope (compEnvC scope cl C X.env) fp) tg (tG G (offL (own.map (·.2))) g))
    (ht : ∀ (s : Shared) (H : Hp) (C : Addr) (cl : List (Str × Addr)) (fp : List Addr), PTs (X.blk s H scope (compEnvC scope cl C X.env) fp) ifs (tDB G W0 t))
    (hi1 : ∀ (s : Shared) (H : Hp) (C : Addr) (cl : List (Str × Addr)) (fp : List Addr), PI (X.blk s H scope (compEnvC scope cl C X.env) fp) tg1 iter1 (tI G W0 xi1))
    (hg1 : ∀ (s : Shared) (H : Hp) (C : Addr) (cl : List (Str × Addr)) (fp : List Addr), PG (X.blk s H scope (compEnvC scope cl C X.env) fp) tg1 (tG G (offL vs1) g1))
    (ht1 : ∀ (s : Shared) (H : Hp) (C : Addr) (cl : List (Str × Addr)) (fp : List Addr), PTs (X.blk s H scope (compEnvC scope cl C X.env) fp) ifs1 (tDB G W0 t1))
    (he : ∀ (s : Shared) (H : Hp) (C : Addr) (cl : List (Str × Addr)) (fp : List Addr), PE (X.blk s H scope (compEnvC scope cl C X.env) fp) elt (tD G W0 x)) (hs : ∀ x, foldedSetIterable iter X.env x = pure x := by intro _; rfl) (hs1 : ∀ env x, foldedSetIterable iter1 env x = pure x := by intro _ _; rfl) :
    PS X (.Assign [.Name n py] (.ListComp elt [⟨tg, iter, ifs, 0⟩, ⟨tg1, iter1, ifs1, 0⟩] scope pos) spos) (tS G E P (yAsg (gxName i) x')) := by
  refine (ps_setLc2 hc hN hy hyl hsw hi ok hv hg ht hi1 hg1 ht1 he hs hs1).imp fun D σ H q => ?_
  refine tD_lc2 hv σ H _ (hx σ H _ ?_)
  obtain ⟨w, ρ, T, rfl, er, q⟩ := q
  refine ⟨w, ρ, T, rfl, er, ?_⟩
  unfold yAsg gxName at q
  cases h1 : x' ρ with
  | ex c ρ1 =>
    rw [h1] at q
    exact fun w1 g1 er1 => q σ w1 g1 er1 Pin.refl
  | no =>
    rw [h1] at q
    exact q.elim
  | ok d ρ1 =>
    simp only [h1] at q
    intro v w1 as g1 er1 o1
    by_cases h : i < ρ1.length
    · simp only [if_pos h] at q
      exact q _ w1 g1 (er1.set h o1) (Pin.set hp)
    · simp only [if_neg h] at q
end
end On

set_option Elab.async false
set_option linter.all false
set_option maxRecDepth 100000
set_option maxHeartbeats 4000000
/-! On6: what is walked: a list, a tuple, a range, enumerate, zip. -/
namespace On
open PySem PySem.Spec PyProof.Rows L2

/-! ### sources: a list, a tuple -/
inductive Sk where
  | l | t
def Sk.It (k : Sk) (h : Heap) (it a : Addr) (i : Nat) : Prop := match k with
  | .l => h.IsListIter it a i
  | .t => h.IsTupleIter it a i
def Sk.Sq (k : Sk) (K : PySem.W.Frag) (H : Hp) (a : Addr) (xs : List V) : Prop := match k with
  | .l => SqL K H a xs
  | .t => SqT K H a xs
def Sk.Is (k : Sk) (h : Heap) (a : Addr) (items : Array Value) : Prop := match k with
  | .l => h.IsList a items
  | .t => h.IsTuple a items
def Sk.o (k : Sk) (a : Addr) : Obj := match k with
  | .l => { cls := .type "list_iterator", data := .fields #[.ref a, .int 0 0] }
  | .t => { cls := .type "tuple_iterator", data := .fields #[.ref a, .int 0 0] }
theorem Sk.begins (k : Sk) (a : Addr) (items : Array Value) : Begins (.ref a) (k.o a) fun h => k.Is h a items := match k with
  | .l => begins_list a items
  | .t => begins_tuple a items
theorem Sk.draws (k : Sk) {prog : Program} {w : World} {A : Around} (hh : A.handled = none) (it a : Addr) (hne : a ≠ it) (items : Array Value) :
    Draws prog w A it [it, a] items.size (fun i v => items[i]? = some v) (fun i h => k.It h it a i ∧ k.Is h a items) := match k with
  | .l => Draws.list hh it a hne items
  | .t => Draws.tuple hh it a hne items
theorem Sk.at_ {k : Sk} {h h' : Heap} {it a : Addr} {i : Nat} (x : k.It h it a i) (q : ∀ o, h.get? it = some o → h'.get? it = some o) : k.It h' it a i := match k, x with
  | .l, x => Heap.IsListIter.at x q
  | .t, x => Heap.IsTupleIter.at x q
theorem Sk.obj {k : Sk} {h : Heap} {it a : Addr} {i : Nat} (x : k.It h it a i) : ∃ o, h.get? it = some o ∧ ∀ v, o.data ≠ .cell v := match k, x with
  | .l, ⟨o, e, _, d⟩ => ⟨o, e, fun v q => by rw [d] at q; cases q⟩
  | .t, ⟨o, e, _, d⟩ => ⟨o, e, fun v q => by rw [d] at q; cases q⟩
theorem Sk.new (k : Sk) {h : Heap} {it a : Addr} (e : h.get? it = some (k.o a)) : k.It h it a 0 := match k, e with
  | .l, e => ⟨_, e, rfl, rfl⟩
  | .t, e => ⟨_, e, rfl, rfl⟩
section
variable {X : Cx} {pins : List (Addr × Obj)} {σ : Sl} {H : Hp} {s : Shared} {a : Addr} {xs ys : List V} {k : Sk}
theorem Sk.items (I : Inv X pins σ H s) (q : k.Sq X.K H a xs) : ∃ its : List Value, Vals xs its ∧ k.Is s.heap a its.toArray ∧ a < s.heap.objs.size := by
  cases k with
  | l =>
    obtain ⟨its, r, p, _⟩ := I.list q
    exact ⟨its, r, p.isList, p.lt⟩
  | t =>
    obtain ⟨its, r, p, _⟩ := I.tuple q
    refine ⟨its, r, p, ?_⟩
    obtain ⟨o, e, _⟩ := p
    exact Heap.lt_size e
theorem Sk.inj (I : Inv X pins σ H s) (q : k.Sq X.K H a xs) (q' : k.Sq X.K H a ys) : xs = ys := by
  cases k with
  | l => exact I.list_inj q q'
  | t => exact I.tuple_inj q q'
end
/-- the things at a and b as they stand at each turn, the items in new pairs -/
def ItZ (k1 k2 : Sk) (K : PySem.W.Frag) (a b : Addr) : It :=
  ⟨fun i H => ∃ (xs ys : List V) (x y : V), k1.Sq K H a xs ∧ k2.Sq K H b ys ∧ xs[i]? = some x ∧ ys[i]? = some y,
    fun i H v H' => ∃ T x y, v = .ref T ∧ H T = none ∧ H' = upd H T (.tup [x, y]) ∧ (∀ xs, k1.Sq K H a xs → xs[i]? = some x) ∧ ∀ ys, k2.Sq K H b ys → ys[i]? = some y,
    fun i H => ∃ xs ys : List V, k1.Sq K H a xs ∧ k2.Sq K H b ys ∧ i = min xs.length ys.length⟩
theorem turn_zipK {P : Program} {w : World} {K : PySem.W.Frag} {elts : List Expr} {kk : Nat} {tpos : Pos} {k1 k2 : Sk} {a b z TI TO i1 i2 : Addr} (S : ZipSep2 z TI TO i1 i2 [i1, a] [i2, b]) (n1 : a ≠ i1) (n2 : b ≠ i2) :
    Turn P w K (.Tuple elts kk tpos) (ItZ k1 k2 K a b) [z, TI, TO, i1, i2] z (fun i h => IsZip h z TI TO .none ∧ IsTupOf2 h TI (.ref i1) (.ref i2) ∧ (∃ x y, IsTupOf2 h TO x y) ∧ k1.It h i1 a i ∧ k2.It h i2 b i) where
  mem := by simp
  obj := fun i h st c hc => by
    obtain ⟨hz, hTI, ⟨x, y, hTO⟩, h1, h2⟩ := st
    have e' : c = z ∨ c = TI ∨ c = TO ∨ c = i1 ∨ c = i2 := by simpa using hc
    rcases e' with q | q | q | q | q
    · rw [q]; exact ⟨_, hz, fun v q => nomatch q⟩
    · rw [q]; exact ⟨_, hTI, fun v q => nomatch q⟩
    · rw [q]; exact ⟨_, hTO, fun v q => nomatch q⟩
    · rw [q]; exact Sk.obj h1
    · rw [q]; exact Sk.obj h2
  keep := fun i h h' st k => by
    obtain ⟨hz, hTI, ⟨x, y, hTO⟩, h1, h2⟩ := st
    exact ⟨k z (by simp) _ hz, k TI (by simp) _ hTI, ⟨x, y, k TO (by simp) _ hTO⟩, Sk.at_ h1 fun o q => k i1 (by simp) o q, Sk.at_ h2 fun o q => k i2 (by simp) o q⟩
  item := by
    intro X hP hw hK hc i pins s σ H E I hf st hg
    subst hP hw hK
    obtain ⟨hz, hTI, hTO, h1, h2⟩ := st
    obtain ⟨xs, ys, x, y, hqx, hqy, hx, hy⟩ := hg
    obtain ⟨its, rv, p, la⟩ := Sk.items I hqx
    obtain ⟨its2, rv2, p2, lb⟩ := Sk.items I hqy
    obtain ⟨u, hu, ru⟩ := rv.get hx
    obtain ⟨u2, hu2, ru2⟩ := rv2.get hy
    have D1 := k1.draws (prog := X.prog) (w := X.w) (A := X.A.in1) (I.ok.hd hc) i1 a n1 its.toArray
    have D2 := k2.draws (prog := X.prog) (w := X.w) (A := X.A.in1) (I.ok.hd hc) i2 b n2 its2.toArray
    have W := WalksT.zipD2 S D1 D2
    have hi1 : i < its.length := (List.getElem?_eq_some_iff.mp hu).1
    have hi2 : i < its2.length := (List.getElem?_eq_some_iff.mp hu2).1
    refine W.item i s _ E (by simp; omega) ⟨hz, hTI, hTO, ⟨h1, p⟩, ⟨h2, p2⟩⟩ fun T vals h' tk hP hT htup hmid hk => ⟨.ref T, rfl, ?_⟩
    obtain ⟨x1, x2, q1, q2, ev⟩ := hP
    have e1 : x1 = u := by
      have : its.toArray[i]? = some u := by simpa using hu
      rw [this] at q1; exact (Option.some.inj q1).symm
    have e2 : x2 = u2 := by
      have : its2.toArray[i]? = some u2 := by simpa using hu2
      rw [this] at q2; exact (Option.some.inj q2).symm
    subst e1 e2
    have wrs : ∀ c, c ∉ [z, TI, TO, i1, i2] → c ∉ [z, TO, i1, i2] := fun c hc h => hc (by
      have e' : c = z ∨ c = TO ∨ c = i1 ∨ c = i2 := by simpa using h
      rcases e' with q | q | q | q <;> (rw [q]; simp))
    refine W.go elts kk tpos i T { s with heap := h', toks := tk } _ E hmid fun h'' st2 hk2 => ?_
    have hT2 : IsTup h'' T #[x1, x2] := by
      obtain ⟨o, e, c, n, d⟩ := htup
      exact ⟨o, hk2 T o (W.apart i T h' hmid) e, c, n, by rw [d, ev]⟩
    have new : ObjOk X.prog X.w (upd H T (.tup [x, y])) h'' T (.tup [x, y]) := ⟨by show 2 ≤ sizeLine; rw [sizeLine_eq]; decide, [x1, x2], .cons ru (.cons ru2 .nil), hT2⟩
    have I1 : Inv X pins σ (upd H T (.tup [x, y])) { s with heap := h'', toks := tk } := I.turnedNew (ch := [z, TI, TO, i1, i2]) (fun c o hb q => hk2 c o (wrs c hb) (hk c o (wrs c hb) q)) hf hT new
    obtain ⟨hz2, hTI2, hTO2, ⟨s1, _⟩, ⟨s2, _⟩⟩ := st2
    refine ⟨.ref T, _, I1, rfl, ⟨T, x, y, rfl, I.hok.fresh hT, rfl, fun l hl => by rw [Sk.inj I hl hqx]; exact hx, fun l hl => by rw [Sk.inj I hl hqy]; exact hy⟩, ⟨hz2, hTI2, hTO2, s1, s2⟩, fun c hcm => ?_⟩
    have hlt : c < s.heap.objs.size := by
      have e' : c = z ∨ c = TI ∨ c = TO ∨ c = i1 ∨ c = i2 := by simpa using hcm
      obtain ⟨_, _, hTO⟩ := hTO
      rcases e' with q | q | q | q | q
      · rw [q]; exact Heap.lt_size hz
      · rw [q]; exact Heap.lt_size hTI
      · rw [q]; exact Heap.lt_size hTO
      · rw [q]; obtain ⟨_, e1, _⟩ := Sk.obj h1; exact Heap.lt_size e1
      · rw [q]; obtain ⟨_, e2, _⟩ := Sk.obj h2; exact Heap.lt_size e2
    rw [upd_ne (Nat.ne_of_lt (Nat.lt_of_lt_of_le hlt hT))]
    exact (hf c hcm).1
  done := by
    intro X hP hw hK hc i pins s σ H E I hf st hg
    subst hP hw hK
    obtain ⟨hz, hTI, hTO, h1, h2⟩ := st
    obtain ⟨xs, ys, hqx, hqy, hend⟩ := hg
    obtain ⟨its, rv, p, la⟩ := Sk.items I hqx
    obtain ⟨its2, rv2, p2, lb⟩ := Sk.items I hqy
    have l1 := rv.length
    have l2 := rv2.length
    have D1 := k1.draws (prog := X.prog) (w := X.w) (A := X.A.in1) (I.ok.hd hc) i1 a n1 its.toArray
    have D2 := k2.draws (prog := X.prog) (w := X.w) (A := X.A.in1) (I.ok.hd hc) i2 b n2 its2.toArray
    have W := WalksT.zipD2 S D1 D2
    have ei : i = min its.toArray.size its2.toArray.size := by simp; omega
    subst ei
    have wrs : ∀ c, c ∉ [z, TI, TO, i1, i2] → c ∉ [z, TO, i1, i2] := fun c hc h => hc (by
      have e' : c = z ∨ c = TO ∨ c = i1 ∨ c = i2 := by simpa using h
      rcases e' with q | q | q | q <;> (rw [q]; simp))
    exact W.done s _ E ⟨hz, hTI, hTO, ⟨h1, p⟩, ⟨h2, p2⟩⟩ fun h' tk hk => ⟨rfl, I.turnedL (ch := [z, TI, TO, i1, i2]) (fun c o hb q => hk c o (wrs c hb) q) hf⟩
  self := fun A i s Q E st h => wpAny_pyIter_zip st.1 h
/-- the thing at a as it stands at each turn, each item in a new pair with its place -/
def ItE (k : Sk) (K : PySem.W.Frag) (a : Addr) : It :=
  ⟨fun i H => ∃ (xs : List V) (x : V), k.Sq K H a xs ∧ xs[i]? = some x,
    fun i H v H' => ∃ T x, v = .ref T ∧ H T = none ∧ H' = upd H T (.tup [.int (i : Nat), x]) ∧ ∀ xs, k.Sq K H a xs → xs[i]? = some x,
    fun i H => ∃ xs : List V, k.Sq K H a xs ∧ i = xs.length⟩
theorem turn_enumK {P : Program} {w : World} {K : PySem.W.Frag} {elts : List Expr} {kk : Nat} {tpos : Pos} {k : Sk} {a e it : Addr} (n1 : a ≠ it) (n2 : e ≠ it) (n3 : e ≠ a) :
    Turn P w K (.Tuple elts kk tpos) (ItE k K a) [e, it] e (fun i h => (∃ old, IsEnum h e it ((0 : Int) + (i : Int)) old) ∧ k.It h it a i) where
  mem := by simp
  obj := fun i h st c hc => by
    obtain ⟨⟨old, he⟩, hi⟩ := st
    have e' : c = e ∨ c = it := by simpa using hc
    rcases e' with q | q
    · rw [q]; exact ⟨_, he, fun v q => nomatch q⟩
    · rw [q]; exact Sk.obj hi
  keep := fun i h h' st k => ⟨let ⟨old, he⟩ := st.1; ⟨old, k e (by simp) _ he⟩, Sk.at_ st.2 fun o q => k it (by simp) o q⟩
  item := by
    intro X hP hw hK hc i pins s σ H E I hf st hg
    subst hP hw hK
    obtain ⟨he, hi⟩ := st
    obtain ⟨xs, x, hq, hx⟩ := hg
    obtain ⟨its, rv, p, la⟩ := Sk.items I hq
    obtain ⟨u, hu, ru⟩ := rv.get hx
    have D1 := k.draws (prog := X.prog) (w := X.w) (A := X.A.in1) (I.ok.hd hc) it a n1 its.toArray
    have W := WalksT.enumFrom 0 D1 e n2 (by simp [n2, n3]) (by simp)
    have hi1 : i < its.length := (List.getElem?_eq_some_iff.mp hu).1
    refine W.item i s _ E (by simpa using hi1) ⟨he, hi, p⟩ fun T vals h' tk hP hT htup hmid hk => ⟨.ref T, rfl, ?_⟩
    obtain ⟨t, x1, q1, ev⟩ := hP
    have e1 : x1 = u := by
      have : its.toArray[i]? = some u := by simpa using hu
      rw [this] at q1; exact (Option.some.inj q1).symm
    subst e1
    refine W.go elts kk tpos i T { s with heap := h', toks := tk } _ E hmid fun h'' st2 hk2 => ?_
    have hT2 : IsTup h'' T #[.int ((0 : Int) + (i : Int)) t, x1] := by
      obtain ⟨o, q, c, n, d⟩ := htup
      exact ⟨o, hk2 T o (W.apart i T h' hmid) q, c, n, by rw [d, ev]⟩
    have new : ObjOk X.prog X.w (upd H T (.tup [.int (i : Nat), x])) h'' T (.tup [.int (i : Nat), x]) := ⟨by show 2 ≤ sizeLine; rw [sizeLine_eq]; decide, [.int ((0 : Int) + (i : Int)) t, x1], .cons ⟨t, by rw [Int.zero_add]⟩ (.cons ru .nil), hT2⟩
    have I1 : Inv X pins σ (upd H T (.tup [.int (i : Nat), x])) { s with heap := h'', toks := tk } := I.turnedNew (ch := [e, it]) (fun c o hb q => hk2 c o hb (hk c o hb q)) hf hT new
    refine ⟨.ref T, _, I1, rfl, ⟨T, x, rfl, I.hok.fresh hT, rfl, fun l hl => by rw [Sk.inj I hl hq]; exact hx⟩, ⟨st2.1, st2.2.1⟩, fun c hcm => ?_⟩
    have hlt : c < s.heap.objs.size := by
      have e' : c = e ∨ c = it := by simpa using hcm
      obtain ⟨_, he⟩ := he
      rcases e' with q | q
      · rw [q]; exact Heap.lt_size he
      · rw [q]; obtain ⟨_, e1, _⟩ := Sk.obj hi; exact Heap.lt_size e1
    rw [upd_ne (Nat.ne_of_lt (Nat.lt_of_lt_of_le hlt hT))]
    exact (hf c hcm).1
  done := by
    intro X hP hw hK hc i pins s σ H E I hf st hg
    subst hP hw hK
    obtain ⟨he, hi⟩ := st
    obtain ⟨xs, hq, hend⟩ := hg
    obtain ⟨its, rv, p, la⟩ := Sk.items I hq
    have l1 := rv.length
    have D1 := k.draws (prog := X.prog) (w := X.w) (A := X.A.in1) (I.ok.hd hc) it a n1 its.toArray
    have W := WalksT.enumFrom 0 D1 e n2 (by simp [n2, n3]) (by simp)
    have ei : i = its.toArray.size := by simp; omega
    subst ei
    exact W.done s _ E ⟨he, hi, p⟩ fun h' tk hk => ⟨rfl, I.turnedL (ch := [e, it]) (fun c o hb q => hk c o hb q) hf⟩
  self := fun A i s Q E st h => let ⟨_, he⟩ := st.1; wpAny_pyIter_enum he h
theorem meets_enum1 {v : Value} {o : Obj} {H : Heap → Prop} (B : Begins v o H) :
    Meets (Builtin.«enumerate.__new__» ⟨[.type "enumerate", v], []⟩) (fun _ R s => H s.heap ∧
      R (.ok (.ret (.ref (s.heap.push o).objs.size))) { s with heap := (s.heap.push o).push { cls := .type "enumerate", data := .fields #[.none, .bool false, .ref s.heap.objs.size, rawInt 0, .none, .none] } }) :=
  .of_wp fun prog w A R s h => by
    obtain ⟨hp, g, d, tk, os⟩ := s
    obtain ⟨h1, h⟩ := h
    have hsub := sub_enumerate
    have q1 : ∀ {A' : Around} {E : Value → Shared → Prop} {Q : Value → Shared → Prop}, Q (.ref hp.objs.size) ⟨hp.push o, g, d, tk, os⟩ → wpAny (model prog w) A' (pyIter v) Q E ⟨hp, g, d, tk, os⟩ := fun q => B.iter prog w _ _ ⟨hp, g, d, tk, os⟩ _ h1 q
    wp_walk using q1
    refine wpAny_stack_any fun st => wpAny_pure ?_
    split
    · rename_i c _ _ _ _ _
      cases (c == Value.type "enumerate") <;> (wp_walk using q1; exact ⟨_, rfl, h⟩)
    · wp_walk using q1
      exact ⟨_, rfl, h⟩
theorem enum1_begins {prog : Program} {w : World} {A : Around} {E : Value → Shared → Prop} {s : Shared} {v : Value} {o : Obj} {H : Heap → Prop} {Q : Value → Shared → Prop} (B : Begins v o H) (h1 : H s.heap)
    (h : ∀ h', IsEnum h' (s.heap.objs.size + 1) s.heap.objs.size 0 .none → h'.get? s.heap.objs.size = some o → h'.objs.size = s.heap.objs.size + 2 → (∀ b o, s.heap.get? b = some o → h'.get? b = some o) → Q (.ref (s.heap.objs.size + 1)) { s with heap := h' }) :
    wpAny (model prog w) A (call (.type "enumerate") [v]) Q E s := by
  refine callType_new F.called_enumerate (by decide) (F.typeCall_enumerate_1 _) (F.newCall_enumerate_1 _) (fun obj => F.args_object_init_2 obj _) F.entry_enumerate_new (meets_enum1 B) ⟨h1, ?_⟩
  have hz : (s.heap.push o).objs.size = s.heap.objs.size + 1 := Heap.size_push ..
  show _ ∧ _
  rw [hz]
  have he : IsEnum ((s.heap.push o).push { cls := .type "enumerate", data := .fields #[.none, .bool false, .ref s.heap.objs.size, rawInt 0, .none, .none] }) (s.heap.objs.size + 1) s.heap.objs.size 0 .none := by
    have z := Heap.get?_push_size (s.heap.push o) (o := { cls := .type "enumerate", data := .fields #[.none, .bool false, .ref s.heap.objs.size, rawInt 0, .none, .none] }) rfl
    rw [hz] at z
    exact z
  exact ⟨⟨_, he, rfl⟩, h _ he (Heap.get?_push_of_some _ (Heap.get?_push_size _ B.free)) (by rw [Heap.size_push, hz]) fun b o x => Heap.get?_push_of_some _ (Heap.get?_push_of_some _ x)⟩
end On

set_option Elab.async false
set_option linter.all false
set_option maxRecDepth 100000
set_option maxHeartbeats 4000000
/-! On7: what is walked, as mirrors: a list, a tuple, a dict by its keys, range, zip, enumerate. -/
namespace On
open PySem PySem.Spec PyProof.Rows L2

def kD : Key → D
  | .inl i => .int i
  | .inr x => .str x
section
variable {G : Gs} {M : Addr → Prop} {H : Hp}
theorem kD_rep (k : Key) : Rep G M H (kV k) (kD k) := by
  cases k with
  | inl i => exact .int i
  | inr x => exact .str x
theorem kDs_rep : ∀ k : List Key, Reps G M H (k.map kV) (k.map kD)
  | [] => .nil
  | k :: r => .cons (kD_rep k) (kDs_rep r)
theorem RepK.get : ∀ {v : List (Key × V)} {d : List (Key × D)} {i : Nat} {k : Key} {x : D}, RepK G M H v d → d[i]? = some (k, x) → ∃ y, v[i]? = some (k, y) ∧ Rep G M H y x
  | _, _, _, _, _, .nil, e => by simp at e
  | _, _, 0, _, _, .cons r _, e => by
    simp at e
    obtain ⟨rfl, rfl⟩ := e
    exact ⟨_, rfl, r⟩
  | _, _, i + 1, k, x, .cons _ t, e => by
    obtain ⟨u, h1, h2⟩ := RepK.get (i := i) (k := k) (x := x) t (by simpa using e)
    exact ⟨u, by simpa using h1, h2⟩
theorem RepT.get : ∀ {v : List (List Key × V)} {d : List (List Key × D)} {i : Nat} {k : List Key} {x : D}, RepT G M H v d → d[i]? = some (k, x) → ∃ y, v[i]? = some (k, y) ∧ Rep G M H y x
  | _, _, _, _, _, .nil, e => by simp at e
  | _, _, 0, _, _, .cons r _, e => by
    simp at e
    obtain ⟨rfl, rfl⟩ := e
    exact ⟨_, rfl, r⟩
  | _, _, i + 1, k, x, .cons _ t, e => by
    obtain ⟨u, h1, h2⟩ := RepT.get (i := i) (k := k) (x := x) t (by simpa using e)
    exact ⟨u, by simpa using h1, h2⟩
theorem RepK.length : ∀ {v : List (Key × V)} {d : List (Key × D)}, RepK G M H v d → v.length = d.length
  | _, _, .nil => rfl
  | _, _, .cons _ b => congrArg (· + 1) b.length
theorem RepT.length : ∀ {v : List (List Key × V)} {d : List (List Key × D)}, RepT G M H v d → v.length = d.length
  | _, _, .nil => rfl
  | _, _, .cons _ b => congrArg (· + 1) b.length
theorem RepK.keys : ∀ {v : List (Key × V)} {d : List (Key × D)}, RepK G M H v d → v.map (·.1) = d.map (·.1)
  | _, _, .nil => rfl
  | _, _, .cons _ b => by simp [b.keys]
theorem RepT.keys : ∀ {v : List (List Key × V)} {d : List (List Key × D)}, RepT G M H v d → v.map (·.1) = d.map (·.1)
  | _, _, .nil => rfl
  | _, _, .cons _ b => by simp [b.keys]
end

/-- what a value gives when it is walked -/
def D.items : D → Option (List D)
  | .lst l => some l
  | .fl l => some l
  | .tup l => some l
  | .dk l => some (l.map fun p => kD p.1)
  | .dt l => some (l.map fun p => .tup (p.1.map kD))
  | _ => none
/-- walked: a list, a tuple, a dict (which is locked from then on) -/
def iSeq (K : PySem.W.Frag) (tl : TE) : TI := fun σ H R => tl σ H fun x H1 => ∃ a, x = .ref a ∧ (((∃ xs, SqL K H1 a xs) ∧ R (Itl K a) H1) ∨ ((∃ xs, SqT K H1 a xs) ∧ R (Itt K a) H1) ∨
  (∃ kvs, H1 a = some (.dK kvs) ∧ ∀ o, R (Itk a o kvs) (upd H1 a (.frz o (.dK kvs)))) ∨ (∃ o kvs, H1 a = some (.frz o (.dK kvs)) ∧ R (Itk a o kvs) H1) ∨
  (∃ kvs, H1 a = some (.dT kvs) ∧ ∀ o, R (Itkt a o kvs) (upd H1 a (.frz o (.dT kvs)))) ∨ (∃ o kvs, H1 a = some (.frz o (.dT kvs)) ∧ R (Itkt a o kvs) H1))
section
variable {X : Cx} {tg l : Expr} {tl : TE}
theorem run_keysK {pins : List (Addr × Obj)} {σ : L2.St} {H : Hp} {s : Shared} {R : It → Hp → Prop} {E : Value → Shared → Prop} {d : Addr} {o : Obj} {kvs : List (Key × V)} (I1 : Inv X pins σ H s) (hd : H d = some (.frz o (.dK kvs))) (q : R (Itk d o kvs) H) :
    wpAny (model X.prog X.w) X.A (pyIter (.ref d)) (PIE X pins σ tg R) E s := by
  obtain ⟨hs, hgd, hx, es, ep, vs, hdt, hsz, kv, hm⟩ := I1.frzK hd
  refine iter_keys hs hgd hx hdt (pi_one (tk := s.toks) I1 _ (turn_keys _ hdt) ⟨_, Heap.get?_push_size _ rfl, rfl, ?_⟩ q)
  rw [hsz] <;> rfl
theorem run_keysT {pins : List (Addr × Obj)} {σ : L2.St} {H : Hp} {s : Shared} {R : It → Hp → Prop} {E : Value → Shared → Prop} {d : Addr} {o : Obj} {kvs : List (List Key × V)} (I1 : Inv X pins σ H s) (hd : H d = some (.frz o (.dT kvs))) (q : R (Itkt d o kvs) H) :
    wpAny (model X.prog X.w) X.A (pyIter (.ref d)) (PIE X pins σ tg R) E s := by
  obtain ⟨hs, hgd, hx, es, ep, hdt, hsz, ent⟩ := I1.frzT hd
  refine iter_keys hs hgd hx hdt (pi_one (tk := s.toks) I1 _ (turn_keysT _ hdt) ⟨_, Heap.get?_push_size _ rfl, rfl, ?_⟩ q)
  rw [hsz] <;> rfl
theorem pi_seq (hl : PE X l tl) : PI X tg l (iSeq X.K tl) := by
  refine ⟨fun pins s σ H R I h => ?_⟩
  refine thn (hl.run pins s σ H _ I h) fun v s1 ⟨x, H1, I1, r1, q1⟩ => ?_
  obtain ⟨a, e, q⟩ := q1
  subst e
  cases r1
  rcases q with ⟨⟨xs, hq⟩, q⟩ | ⟨⟨xs, hq⟩, q⟩ | ⟨kvs, hd, q⟩ | ⟨o, kvs, hd, q⟩ | ⟨kvs, hd, q⟩ | ⟨o, kvs, hd, q⟩
  · obtain ⟨its, rv, p, hz⟩ := I1.list hq
    refine wpAny_pyIter_list p.isList ?_
    exact pi_one (tk := s1.toks) I1 _ (turn_list a _) ⟨_, Heap.get?_push_size _ rfl, rfl, rfl⟩ q
  · obtain ⟨its, rv, p, hz⟩ := I1.tuple hq
    refine wpAny_pyIter_tuple (show s1.heap.IsTuple a its.toArray from p) ?_
    exact pi_one (tk := s1.toks) I1 _ (turn_tuple a _) ⟨_, Heap.get?_push_size _ rfl, rfl, rfl⟩ q
  · obtain ⟨o, I2⟩ := I1.lock hd trivial
    exact run_keysK I2 upd_same (q o)
  · exact run_keysK I1 hd q
  · obtain ⟨o, I2⟩ := I1.lock hd trivial
    exact run_keysT I2 upd_same (q o)
  · exact run_keysT I1 hd q
end

section
variable {G : Gs} {K : PySem.W.Frag} {w w0 : Wd} {a : Addr} {xs : List V} {ds : List D} {o : Obj} {σ : Sl} {ρ : Rho} {T : List Addr}
theorem gives_list (h : ¬ w.M a) (e : w.H a = some (.lst xs)) (r : Reps G w.M w.H xs ds) (sub : ∀ a, w.C a → w.M a) : Gives G (Itl K a) w ds := by
  intro w1 le s1
  have e1 : w1.H a = some (.lst xs) := le.dirN (fun z => h (sub a z)) noTbl_lst (fun z => z) e
  have r1 := r.kp (le.kp sub)
  refine ⟨⟨xs, .of e1, by rw [r1.length]; exact Nat.le_refl _⟩, fun i d hd => ?_⟩
  obtain ⟨x, hx, rx⟩ := r1.get hd
  refine ⟨⟨xs, x, .of e1, hx⟩, fun v H' y => ?_⟩
  obtain ⟨rfl, y⟩ := y
  have y := y xs (.of e1)
  rw [hx] at y
  cases y
  exact ⟨w1, rfl, .refl w1, rx⟩
theorem gives_frz (h : ¬ w.M a) (e : w.H a = some (.frz o (.lst xs))) (r : Reps G w.M w.H xs ds) (sub : ∀ a, w.C a → w.M a) : Gives G (Itl K a) w ds := by
  intro w1 le s1
  have e1 : w1.H a = some (.frz o (.lst xs)) := le.dirN (fun z => h (sub a z)) noTbl_frz (fun z => z) e
  have r1 := r.kp (le.kp sub)
  refine ⟨⟨xs, .inl (.inr ⟨_, e1⟩), by rw [r1.length]; exact Nat.le_refl _⟩, fun i d hd => ?_⟩
  obtain ⟨x, hx, rx⟩ := r1.get hd
  refine ⟨⟨xs, x, .inl (.inr ⟨_, e1⟩), hx⟩, fun v H' y => ?_⟩
  obtain ⟨rfl, y⟩ := y
  have y := y xs (.inl (.inr ⟨_, e1⟩))
  rw [hx] at y
  cases y
  exact ⟨w1, rfl, .refl w1, rx⟩
theorem gives_tup (e : w.H a = some (.tup xs)) (r : Reps G w.M w.H xs ds) (sub : ∀ a, w.C a → w.M a) : Gives G (Itt K a) w ds := by
  intro w1 le s1
  have e1 : w1.H a = some (.tup xs) := le.imm _ _ e
  have r1 := r.kp (le.kp sub)
  refine ⟨⟨xs, .of e1, by rw [r1.length]; exact Nat.le_refl _⟩, fun i d hd => ?_⟩
  obtain ⟨x, hx, rx⟩ := r1.get hd
  refine ⟨⟨xs, x, .of e1, hx⟩, fun v H' y => ?_⟩
  obtain ⟨rfl, y⟩ := y
  have y := y xs (.of e1)
  rw [hx] at y
  cases y
  exact ⟨w1, rfl, .refl w1, rx⟩
theorem gives_keysK {kvs : List (Key × V)} {ds : List (Key × D)} (h : ¬ w.C a) (e : w.H a = some (.frz o (.dK kvs))) (r : kvs.map (·.1) = ds.map (·.1)) : Gives G (Itk a o kvs) w (ds.map fun p => kD p.1) := by
  intro w1 le s1
  have e1 := le.dirN h noTbl_frz (fun z => z) e
  have hl : kvs.length = ds.length := by simpa using congrArg List.length r
  refine ⟨⟨e1, by simp [hl]⟩, fun i d hd => ?_⟩
  have hi : i < ds.length := by simpa using (List.getElem?_eq_some_iff.mp hd).1
  refine ⟨⟨e1, by omega⟩, fun v H' y => ?_⟩
  obtain ⟨rfl, k, u, hk, rfl⟩ := y
  refine ⟨w1, rfl, .refl w1, ?_⟩
  have q : (kvs.map (·.1))[i]? = some k := by rw [List.getElem?_map, hk]; rfl
  rw [r, List.getElem?_map] at q
  rw [List.getElem?_map] at hd
  cases h3 : ds[i]? with
  | none => rw [h3] at hd; cases hd
  | some p =>
    rw [h3] at hd q
    simp at hd q
    subst hd q
    exact kD_rep _
theorem gives_keysT {kvs : List (List Key × V)} {ds : List (List Key × D)} (h : ¬ w.C a) (e : w.H a = some (.frz o (.dT kvs))) (r : kvs.map (·.1) = ds.map (·.1)) : Gives G (Itkt a o kvs) w (ds.map fun p => .tup (p.1.map kD)) := by
  intro w1 le s1
  have e1 := le.dirN h noTbl_frz (fun z => z) e
  have hl : kvs.length = ds.length := by simpa using congrArg List.length r
  refine ⟨⟨e1, by simp [hl]⟩, fun i d hd => ?_⟩
  have hi : i < ds.length := by simpa using (List.getElem?_eq_some_iff.mp hd).1
  refine ⟨⟨e1, by omega⟩, fun v H' y => ?_⟩
  obtain ⟨rfl, k, u, b, hk, rfl, hb⟩ := y
  refine ⟨w1, rfl, .refl w1, ?_⟩
  have q : (kvs.map (·.1))[i]? = some k := by rw [List.getElem?_map, hk]; rfl
  rw [r, List.getElem?_map] at q
  rw [List.getElem?_map] at hd
  cases h3 : ds[i]? with
  | none => rw [h3] at hd; cases hd
  | some p =>
    rw [h3] at hd q
    simp at hd q
    subst hd q
    exact .tup hb (kDs_rep _)
/-- a shared dict is locked -/
theorem lock_env {u : HO} (hd : IsD u) (h : ¬ w.M a) (e : w.H a = some u) (er : EnvR G w σ ρ T) : Go G T w ⟨upd w.H a (.frz o u), w.M, w.C⟩ ∧ EnvR G ⟨upd w.H a (.frz o u), w.M, w.C⟩ σ ρ T := by
  have nu : ∀ v, w.H a = some v → v = u := fun v h => by rw [e] at h; exact (Option.some.inj h).symm
  have neq : ∀ x v, w.H x = some v → ¬ IsD v → x ≠ a := fun x v hx n z => n (by rw [nu v (by rw [← z]; exact hx)]; exact hd)
  have hC : ¬ w.C a := fun z => h (er.sub a z)
  have le : Le G w ⟨upd w.H a (.frz o u), w.M, w.C⟩ := by
    refine ⟨fun x v c n hx => ?_, fun x xs hx => ?_, fun x φ hx => ?_, fun _ h => .inl h, fun _ h _ => .inl h, fun _ h => .inl h, fun x hx => ?_, fun t => ?_⟩
    · by_cases z : x = a
      · subst z
        rw [nu v hx]
        exact .inr ⟨h, hd, o, upd_same⟩
      · exact .inl ((upd_ne z).trans hx)
    · exact (upd_ne (neq x _ hx fun z => z)).trans hx
    · exact (upd_ne (neq x _ hx fun z => z)).trans hx
    · obtain ⟨v, hv, nv⟩ := hx
      by_cases z : x = a
      · rw [z]; exact ⟨_, upd_same, noTbl_frz⟩
      · exact ⟨v, (upd_ne z).trans hv, nv⟩
    · exact tabs_set (fun ps z => neq a _ z (fun z => z) rfl) (fun ps z => neq a _ z (fun z => z) rfl) t
  obtain ⟨as, h1, h2, h3⟩ := er.ex
  have ne : ∀ x ∈ as ++ T, x ≠ a := fun x hx z => hC (by rw [← z]; exact (h3 x hx).1)
  refine ⟨⟨le, fun x hx => upd_ne (ne x (List.mem_append_right _ hx))⟩, ⟨as, h1.kp (le.kp er.sub) fun x hx => upd_ne (ne x (List.mem_append_left _ hx)), h2, fun x hx => ⟨(h3 x hx).1, ?_⟩⟩, er.sub, le.tb er.tb⟩
  obtain ⟨v, hv, n⟩ := (h3 x hx).2
  exact ⟨v, (upd_ne (ne x hx)).trans hv, n⟩
end

section
variable {X : Cx} {G : Gs} {E : WX} {tg e e2 : Expr} {x : Xx} {y : Ax} {p pos tpos : Pos}
def aSeq (x : Xx) : Ax := fun ρ => match x ρ with
  | .ok d ρ1 => (match d.items with
    | some ds => .ok ds ρ1
    | none => .no)
  | .ex c ρ1 => .ex c ρ1
  | .no => .no
theorem ei_seq (h : PE X e (tD G E x)) : PI X tg e (tI G E (aSeq x)) := by
  refine (pi_seq h).imp fun σ H R q => ?_
  obtain ⟨w, ρ, T, rfl, er, q⟩ := q
  refine ⟨w, ρ, T, rfl, er, ?_⟩
  unfold aSeq at q
  cases h1 : x ρ with
  | ex c ρ1 =>
    rw [h1] at q
    exact q
  | no =>
    rw [h1] at q
    exact q.elim
  | ok d ρ1 =>
    simp only [h1] at q
    intro v w1 as g1 er1 o1
    cases d with
    | lst ds =>
      simp only [D.items] at q
      obtain ⟨rfl, r⟩ := o1.rep rfl
      cases r with
      | lst m e r => exact ⟨_, rfl, .inl ⟨⟨_, .of e⟩, q _ w1 g1 er1 (gives_list m e r er1.sub)⟩⟩
    | fl ds =>
      simp only [D.items] at q
      obtain ⟨rfl, r⟩ := o1.rep rfl
      cases r with
      | fl m e r => exact ⟨_, rfl, .inl ⟨⟨_, .inl (.inr ⟨_, e⟩)⟩, q _ w1 g1 er1 (gives_frz m e r er1.sub)⟩⟩
    | tup ds =>
      simp only [D.items] at q
      obtain ⟨rfl, r⟩ := o1.rep rfl
      cases r with
      | tup e r => exact ⟨_, rfl, .inr (.inl ⟨⟨_, .of e⟩, q _ w1 g1 er1 (gives_tup e r er1.sub)⟩)⟩
    | dk ds =>
      simp only [D.items] at q
      obtain ⟨rfl, r⟩ := o1.rep rfl
      cases r with
      | dk m e r =>
        rcases e with e | ⟨o, e⟩
        · refine ⟨_, rfl, .inr (.inr (.inl ⟨_, e, fun o => ?_⟩))⟩
          obtain ⟨g2, er2⟩ := lock_env (o := o) (u := .dK _) trivial m e er1
          exact q _ _ (g1.trans g2) er2 (gives_keysK (fun z => m (er1.sub _ z)) upd_same r.keys)
        · exact ⟨_, rfl, .inr (.inr (.inr (.inl ⟨_, _, e, q _ _ g1 er1 (gives_keysK (fun z => m (er1.sub _ z)) e r.keys)⟩)))⟩
    | dt ds =>
      simp only [D.items] at q
      obtain ⟨rfl, r⟩ := o1.rep rfl
      cases r with
      | dt m e r =>
        rcases e with e | ⟨o, e⟩
        · refine ⟨_, rfl, .inr (.inr (.inr (.inr (.inl ⟨_, e, fun o => ?_⟩))))⟩
          obtain ⟨g2, er2⟩ := lock_env (o := o) (u := .dT _) trivial m e er1
          exact q _ _ (g1.trans g2) er2 (gives_keysT (fun z => m (er1.sub _ z)) upd_same r.keys)
        · exact ⟨_, rfl, .inr (.inr (.inr (.inr (.inr ⟨_, _, e, q _ _ g1 er1 (gives_keysT (fun z => m (er1.sub _ z)) e r.keys)⟩))))⟩
    | _ => simp only [D.items] at q
end
end On

set_option Elab.async false
set_option linter.all false
set_option maxRecDepth 100000
set_option maxHeartbeats 4000000
/-! On8: range, zip, enumerate as mirrors. -/
namespace On
open PySem PySem.Spec PyProof.Rows L2

section
variable {X : Cx} {e e2 : Expr} {ta : TA} {p pos tpos : Pos} {elts : List Expr} {kk : Nat}
def iZipK (K : PySem.W.Frag) (ta : TA) : TI := fun σ H R => ta σ H fun vs H1 => ∃ (k1 k2 : Sk) (a b : Addr) (xs ys : List V), vs = [.ref a, .ref b] ∧ k1.Sq K H1 a xs ∧ k2.Sq K H1 b ys ∧ R (ItZ k1 k2 K a b) H1
theorem pi_zipK (hg : Gl X "zip") (hm : X.mg "zip" = none) (ha : PA X [e, e2] ta)
    (hs : starEach [e, e2] X.env = (false, eval e X.env) :: starEach [e2] X.env := by rfl) (hpl : (backTo pos (starEach [e2] X.env)).any (·.1) = false := by rfl) :
    PI X (.Tuple elts kk tpos) (.Call (.Name "zip" p) [e, e2] [] pos) (iZipK X.K ta) := by
  refine ⟨fun pins s σ H R I h => ?_⟩
  refine Call_ (ld_blt I hg hm PyProof.Rows.boot_zip (PyProof.Rows.callWith_type1 (thn (ha.run pos pins s σ H _ I h) fun us s1 ⟨vs, H1, I1, r1, q1⟩ => ?_) hs hpl))
  obtain ⟨k1, k2, a, b, xs, ys, ex, hqx, hqy, q⟩ := q1
  subst ex
  cases r1 with
  | cons r rr =>
    cases rr with
    | cons r' rr =>
      cases rr
      cases r
      cases r'
      obtain ⟨its, rv, p1, la⟩ := Sk.items I1 hqx
      obtain ⟨its2, rv2, p2, lb⟩ := Sk.items I1 hqy
      refine zip_begins2 (k1.begins a its.toArray) (k2.begins b its2.toArray) p1 p2 fun h' hz hTI hTO g1 g2 hsz hk => wpAny_pyIter_zip hz ?_
      have I2 : Inv X pins σ H1 { s1 with heap := h' } := I1.kept (t' := s1.toks) hk
      have S := zip_sep2 (N := s1.heap.objs.size) (fp1 := [a]) (fp2 := [b]) (fun c hc => by rw [List.mem_singleton.mp hc]; exact la) (fun c hc => by rw [List.mem_singleton.mp hc]; exact lb)
      refine ⟨s1.heap.objs.size + 4, [s1.heap.objs.size + 4, s1.heap.objs.size + 2, s1.heap.objs.size + 3, s1.heap.objs.size, s1.heap.objs.size + 1], _, _, H1, rfl, I2,
        turn_zipK (k1 := k1) (k2 := k2) S (Nat.ne_of_lt la) (Nat.ne_of_lt (Nat.lt_succ_of_lt lb)), ⟨hz, hTI, ⟨_, _, hTO⟩, k1.new g1, k2.new g2⟩, fun c hcm => ?_, q⟩
      have e' : c = s1.heap.objs.size + 4 ∨ c = s1.heap.objs.size + 2 ∨ c = s1.heap.objs.size + 3 ∨ c = s1.heap.objs.size ∨ c = s1.heap.objs.size + 1 := by simpa using hcm
      have hle : s1.heap.objs.size ≤ c := by
        rcases e' with z | z | z | z | z <;> rw [z]
        · exact Nat.le_add_right _ _
        · exact Nat.le_add_right _ _
        · exact Nat.le_add_right _ _
        · exact Nat.le_refl _
        · exact Nat.le_add_right _ _
      exact I1.fpOk hle (I1.hok.fresh hle)
def iEnumK (K : PySem.W.Frag) (ta : TA) : TI := fun σ H R => ta σ H fun vs H1 => ∃ (k : Sk) (a : Addr) (xs : List V), vs = [.ref a] ∧ k.Sq K H1 a xs ∧ R (ItE k K a) H1
theorem pi_enumK (hg : Gl X "enumerate") (hm : X.mg "enumerate" = none) (ha : PA X [e] ta) (hs : starEach [e] X.env = [(false, eval e X.env)] := by rfl) :
    PI X (.Tuple elts kk tpos) (.Call (.Name "enumerate" p) [e] [] pos) (iEnumK X.K ta) := by
  refine ⟨fun pins s σ H R I h => ?_⟩
  refine Call_ (ld_blt I hg hm boot_enumerate (PyProof.Rows.callWith_type1 (thn (ha.run pos pins s σ H _ I h) fun us s1 ⟨vs, H1, I1, r1, q1⟩ => ?_) hs rfl))
  obtain ⟨k, a, xs, ex, hq, q⟩ := q1
  subst ex
  cases r1 with
  | cons r rr =>
    cases rr
    cases r
    obtain ⟨its, rv, p1, la⟩ := Sk.items I1 hq
    refine enum1_begins (k.begins a its.toArray) p1 fun h' he g1 hsz hk => wpAny_pyIter_enum he ?_
    have I2 : Inv X pins σ H1 { s1 with heap := h' } := I1.kept (t' := s1.toks) hk
    refine ⟨s1.heap.objs.size + 1, [s1.heap.objs.size + 1, s1.heap.objs.size], _, _, H1, rfl, I2, turn_enumK (k := k) (a := a) (Nat.ne_of_lt la) (Nat.succ_ne_self _) (Nat.ne_of_gt (Nat.lt_succ_of_lt la)), ⟨⟨.none, by simpa using he⟩, k.new g1⟩, fun b hb => ?_, q⟩
    have e' : b = s1.heap.objs.size + 1 ∨ b = s1.heap.objs.size := by simpa using hb
    have hle : s1.heap.objs.size ≤ b := by
      rcases e' with z | z <;> rw [z]
      · exact Nat.le_add_right _ _
      · exact Nat.le_refl _
    exact I1.fpOk hle (I1.hok.fresh hle)
end

section
variable {G : Gs} {K : PySem.W.Frag} {w : Wd} {a b : Addr} {xs ys : List V} {ds es : List D} {v u : V}
/-- a shared list, a tuple, its parts -/
def SqR (G : Gs) (w : Wd) (k : Sk) (a : Addr) (xs : List V) (ds : List D) : Prop := match k with
  | .l => ¬ w.M a ∧ w.H a = some (.lst xs) ∧ Reps G w.M w.H xs ds
  | .t => w.H a = some (.tup xs) ∧ Reps G w.M w.H xs ds
theorem SqR.sq {k : Sk} (h : SqR G w k a xs ds) : k.Sq K w.H a xs := by
  cases k with
  | l => exact SqL.of h.2.1
  | t => exact SqT.of h.1
theorem SqR.reps {k : Sk} (h : SqR G w k a xs ds) : Reps G w.M w.H xs ds := by
  cases k with
  | l => exact h.2.2
  | t => exact h.2
theorem SqR.le {k : Sk} {w1 : Wd} (h : SqR G w k a xs ds) (l : Le G w w1) (s : ∀ a, w.C a → w.M a) : SqR G w1 k a xs ds := by
  cases k with
  | l =>
    obtain ⟨m, e, r⟩ := h
    obtain ⟨e1, m1⟩ := (l.kp s).lst a xs m e
    exact ⟨m1, e1, r.kp (l.kp s)⟩
  | t => exact ⟨l.imm _ _ h.1, h.2.kp (l.kp s)⟩
/-- a list or a tuple -/
def D.seq : D → Option (List D)
  | .lst l => some l
  | .tup l => some l
  | _ => none
theorem rep_seq {d : D} (h : d.seq = some ds) (r : Rep G w.M w.H v d) : ∃ k a xs, v = .ref a ∧ SqR G w k a xs ds := by
  cases d with
  | lst l =>
    cases h
    cases r with
    | lst m e r => exact ⟨.l, _, _, rfl, m, e, r⟩
  | tup l =>
    cases h
    cases r with
    | tup e r => exact ⟨.t, _, _, rfl, e, r⟩
  | _ => cases h
theorem seq_sh {d : D} (h : d.seq = some ds) : d.sh = true := by cases d <;> first | rfl | cases h
def pair2 (p : D × D) : D := .tup [p.1, p.2]
theorem gives_zip {k1 k2 : Sk} (h1 : SqR G w k1 a xs ds) (h2 : SqR G w k2 b ys es) (s : ∀ a, w.C a → w.M a) : Gives G (ItZ k1 k2 K a b) w ((ds.zip es).map pair2) := by
  intro w1 le s1
  have q1 := h1.le le s
  have q2 := h2.le le s
  have l1 := q1.reps.length
  have l2 := q2.reps.length
  refine ⟨⟨xs, ys, q1.sq, q2.sq, by simp [l1, l2]⟩, fun i d hd => ?_⟩
  have hi : i < ((ds.zip es).map pair2).length := (List.getElem?_eq_some_iff.mp hd).1
  rw [List.length_map, List.length_zip] at hi
  have a1 : ds[i]? = some ds[i] := List.getElem?_eq_getElem (by omega)
  have a2 : es[i]? = some es[i] := List.getElem?_eq_getElem (by omega)
  obtain ⟨x, hx, rx⟩ := q1.reps.get a1
  obtain ⟨y, hy, ry⟩ := q2.reps.get a2
  have ed : d = .tup [ds[i], es[i]] := by
    rw [List.getElem?_map, show (ds.zip es)[i]? = some (ds[i], es[i]) from List.getElem?_zip_eq_some.mpr ⟨a1, a2⟩] at hd
    exact (Option.some.inj hd).symm
  subst ed
  refine ⟨⟨xs, ys, x, y, q1.sq, q2.sq, hx, hy⟩, fun v H' z => ?_⟩
  obtain ⟨t, x', y', rfl, hn, rfl, z1, z2⟩ := z
  have z1 := z1 xs q1.sq
  have z2 := z2 ys q2.sq
  rw [hx] at z1
  rw [hy] at z2
  cases z1
  cases z2
  have P := Prim.new (w := w1) (o := .tup [x, y]) hn
  exact ⟨_, rfl, P, .tup upd_same (.cons (rx.kp P.kp) (.cons (ry.kp P.kp) .nil))⟩
def pairI (p : D × Nat) : D := .tup [.int (p.2 : Nat), p.1]
theorem gives_enum {k : Sk} (h1 : SqR G w k a xs ds) (s : ∀ a, w.C a → w.M a) : Gives G (ItE k K a) w (ds.zipIdx.map pairI) := by
  intro w1 le s1
  have q1 := h1.le le s
  have l1 := q1.reps.length
  refine ⟨⟨xs, q1.sq, by simp [l1]⟩, fun i d hd => ?_⟩
  have hi : i < (ds.zipIdx.map pairI).length := (List.getElem?_eq_some_iff.mp hd).1
  rw [List.length_map, List.length_zipIdx] at hi
  have a1 : ds[i]? = some ds[i] := List.getElem?_eq_getElem (by omega)
  obtain ⟨x, hx, rx⟩ := q1.reps.get a1
  have ed : d = .tup [.int (i : Nat), ds[i]] := by
    rw [List.getElem?_map, List.getElem?_zipIdx, a1] at hd
    simp [pairI] at hd
    exact hd.symm
  subst ed
  refine ⟨⟨xs, x, q1.sq, hx⟩, fun v H' z => ?_⟩
  obtain ⟨t, x', rfl, hn, rfl, z1⟩ := z
  have z1 := z1 xs q1.sq
  rw [hx] at z1
  cases z1
  have P := Prim.new (w := w1) (o := .tup [.int (i : Nat), x]) hn
  exact ⟨_, rfl, P, .tup upd_same (.cons (.int _) (.cons (rx.kp P.kp) .nil))⟩
def rngD (lo : Int) (n : Nat) : List D := (List.range n).map fun (i : Nat) => .int (lo + i)
theorem gives_rng {lo : Int} {n : Nat} : Gives G (Itr lo n) w (rngD lo n) := by
  intro w1 le s1
  refine ⟨by show n ≤ (rngD lo n).length; simp [rngD], fun i d hd => ?_⟩
  unfold rngD at hd
  have hi : i < n := by simpa using (List.getElem?_eq_some_iff.mp hd).1
  refine ⟨hi, fun v H' z => ?_⟩
  obtain ⟨rfl, rfl⟩ := z
  have ed : d = .int (lo + (i : Nat)) := by
    rw [List.getElem?_map, List.getElem?_range hi] at hd
    exact (Option.some.inj hd).symm
  subst ed
  exact ⟨w1, rfl, .refl w1, .int _⟩
end

section
variable {X : Cx} {G : Gs} {E : WX} {tg e e2 : Expr} {y : Ax} {p pos tpos : Pos} {elts : List Expr} {kk : Nat}
/-- a walk over one or two values -/
def aOf (f : List D → Option (List D)) (y : Ax) : Ax := fun ρ => match y ρ with
  | .ok ds ρ1 => if shL ds = true then (match f ds with
    | some l => .ok l ρ1
    | none => .no) else .no
  | .ex c ρ1 => .ex c ρ1
  | .no => .no
theorem tI_of {f : List D → Option (List D)} {σ : Sl} {H : Hp} {R : It → Hp → Prop} {Z : List V → Hp → (It → Hp → Prop) → Prop}
    (hz : ∀ (w : Wd) (vs : List V) (ds l : List D), f ds = some l → (∀ a, w.C a → w.M a) → Reps G w.M w.H vs ds → (∀ J, Gives G J w l → R J w.H) → Z vs w.H R) (q : tI G E (aOf f y) σ H R) : tDA G E y σ H fun vs H1 => Z vs H1 R := by
  obtain ⟨w, ρ, T, rfl, er, q⟩ := q
  refine ⟨w, ρ, T, rfl, er, ?_⟩
  unfold aOf at q
  cases h1 : y ρ with
  | ex c ρ1 =>
    simp only [h1] at q
    exact q
  | no =>
    simp only [h1] at q
  | ok ds ρ1 =>
    simp only [h1] at q
    intro vs w1 as g1 er1 o1
    by_cases hs : shL ds = true
    · rw [if_pos hs] at q
      obtain ⟨rfl, r⟩ := o1.reps hs
      cases hf : f ds with
      | none => simp only [hf] at q
      | some l =>
        simp only [hf] at q
        exact hz w1 vs ds l hf er1.sub r fun J g => q J w1 g1 er1 g
    · rw [if_neg hs] at q
      exact q.elim
def fRng1 : List D → Option (List D)
  | [.int n] => if -(2 ^ 62) ≤ n ∧ n < 2 ^ 62 then some (rngD 0 n.toNat) else none
  | _ => none
def fRng2 : List D → Option (List D)
  | [.int m, .int n] => if -(2 ^ 62) ≤ m ∧ m < 2 ^ 62 ∧ -(2 ^ 62) ≤ n ∧ n < 2 ^ 62 then some (rngD m (n - m).toNat) else none
  | _ => none
def fZip : List D → Option (List D)
  | [a, b] => match a.seq, b.seq with
    | some x, some y => some ((x.zip y).map pair2)
    | _, _ => none
  | _ => none
def fEnum : List D → Option (List D)
  | [a] => match a.seq with
    | some x => some (x.zipIdx.map pairI)
    | none => none
  | _ => none
theorem ei_rng1 (hg : Gl X "range") (hm : X.mg "range" = none) (ha : PA X [e] (tDA G E y)) (hs : starEach [e] X.env = [(false, eval e X.env)] := by rfl) : PI X tg (.Call (.Name "range" p) [e] [] pos) (tI G E (aOf fRng1 y)) := by
  refine (pi_range1 hg hm ha hs).imp fun σ H R q => ?_
  refine tI_of (R := R) (Z := fun vs H1 R => _) (fun w vs ds l hf sub r q => ?_) q
  unfold fRng1 at hf
  split at hf
  · split at hf
    · rename_i n hb
      cases hf
      cases r with
      | cons r rr =>
        cases rr
        cases r
        exact ⟨n, rfl, hb.1, hb.2, q _ gives_rng⟩
    · cases hf
  · cases hf
theorem ei_rng2 (hg : Gl X "range") (hm : X.mg "range" = none) (ha : PA X [e, e2] (tDA G E y)) (hs : starEach [e, e2] X.env = [(false, eval e X.env), (false, eval e2 X.env)] := by rfl) (hs2 : starEach [e2] X.env = [(false, eval e2 X.env)] := by rfl) :
    PI X tg (.Call (.Name "range" p) [e, e2] [] pos) (tI G E (aOf fRng2 y)) := by
  refine (pi_range2 hg hm ha hs hs2).imp fun σ H R q => ?_
  refine tI_of (R := R) (Z := fun vs H1 R => _) (fun w vs ds l hf sub r q => ?_) q
  unfold fRng2 at hf
  split at hf
  · split at hf
    · rename_i m n hb
      cases hf
      cases r with
      | cons r rr =>
        cases rr with
        | cons r2 rr =>
          cases rr
          cases r
          cases r2
          exact ⟨m, n, rfl, ⟨hb.1, hb.2.1, hb.2.2.1, hb.2.2.2⟩, q _ gives_rng⟩
    · cases hf
  · cases hf
theorem ei_zip (hg : Gl X "zip") (hm : X.mg "zip" = none) (ha : PA X [e, e2] (tDA G E y)) (hs : starEach [e, e2] X.env = (false, eval e X.env) :: starEach [e2] X.env := by rfl) (hpl : (backTo pos (starEach [e2] X.env)).any (·.1) = false := by rfl) :
    PI X (.Tuple elts kk tpos) (.Call (.Name "zip" p) [e, e2] [] pos) (tI G E (aOf fZip y)) := by
  refine (pi_zipK hg hm ha hs hpl).imp fun σ H R q => ?_
  refine tI_of (R := R) (Z := fun vs H1 R => _) (fun w vs ds l hf sub r q => ?_) q
  unfold fZip at hf
  split at hf
  · rename_i d1 d2
    cases h1 : d1.seq with
    | none => rw [h1] at hf; cases hf
    | some x =>
      cases h2 : d2.seq with
      | none => rw [h1, h2] at hf; cases hf
      | some y =>
        rw [h1, h2] at hf
        cases hf
        cases r with
        | cons r rr =>
          cases rr with
          | cons r2 rr =>
            cases rr
            obtain ⟨k1, a, xs, rfl, s1⟩ := rep_seq h1 r
            obtain ⟨k2, b, ys, rfl, s2⟩ := rep_seq h2 r2
            exact ⟨k1, k2, a, b, xs, ys, rfl, s1.sq, s2.sq, q _ (gives_zip s1 s2 sub)⟩
  · cases hf
theorem ei_enum (hg : Gl X "enumerate") (hm : X.mg "enumerate" = none) (ha : PA X [e] (tDA G E y)) (hs : starEach [e] X.env = [(false, eval e X.env)] := by rfl) :
    PI X (.Tuple elts kk tpos) (.Call (.Name "enumerate" p) [e] [] pos) (tI G E (aOf fEnum y)) := by
  refine (pi_enumK hg hm ha hs).imp fun σ H R q => ?_
  refine tI_of (R := R) (Z := fun vs H1 R => _) (fun w vs ds l hf sub r q => ?_) q
  unfold fEnum at hf
  split at hf
  · rename_i d1
    cases h1 : d1.seq with
    | none => rw [h1] at hf; cases hf
    | some x =>
      rw [h1] at hf
      cases hf
      cases r with
      | cons r rr =>
        cases rr
        obtain ⟨k1, a, xs, rfl, s1⟩ := rep_seq h1 r
        exact ⟨k1, a, xs, rfl, s1.sq, q _ (gives_enum s1 sub)⟩
  · cases hf
end
end On

set_option Elab.async false
set_option linter.all false
set_option maxRecDepth 100000
set_option maxHeartbeats 4000000
/-! On9: defs: what they promise, how they are called. -/
namespace On
open PySem PySem.Spec PyProof.Rows L2

/-- what a def comes to: its value and what is behind of what it may change; an exception -/
inductive FR where
  | ok (d : D) (ms : List D)
  | ex (c : Str) (ms : List D)
  | no
abbrev Fx := List D → FR
def pick {α : Type} : List Bool → List α → List α
  | true :: m, a :: l => a :: pick m l
  | false :: m, _ :: l => pick m l
  | _, _ => []
/-- the same, of the names' data: all there -/
def muts : List Bool → Rho → Option (List D)
  | true :: m, some d :: ρ => (muts m ρ).map (d :: ·)
  | true :: _, _ => none
  | false :: m, _ :: ρ => muts m ρ
  | false :: _, [] => none
  | [], _ => some []
/-- owned by nobody else, changeable -/
def Fre (w : Wd) (as : List Addr) : Prop := as.Nodup ∧ ∀ a ∈ as, w.C a ∧ IsO w.H a
def spF (G : Gs) (m : Fx) (mask : List Bool) : Sp := fun vs H Q E => vs.length = mask.length ∧ ∃ w ds as, w.H = H ∧ OwnL G w.M w.H as vs ds ∧ Fre w as ∧ (∀ a, w.C a → w.M a) ∧ LamX.Tabs G.T w.H ∧ match m ds with
  | .ok d ms => ∀ v w' bs cs, Le G w w' → OwnL G w'.M w'.H cs (pick mask vs) ms → Own G w'.M w'.H bs v d → Fre w' (bs ++ cs) → (∀ a, w'.C a → w'.M a) → Q v w'.H
  | .ex c ms => ∀ w' cs, Le G w w' → OwnL G w'.M w'.H cs (pick mask vs) ms → Fre w' cs → (∀ a, w'.C a → w'.M a) → E (.ref (G c)) none w'.H
  | .no => False
/-- a body as a def: n names, the mask of what it may change -/
def runF (mask : List Bool) (n : Nat) (y : Sx) : Fx := fun ds => match y (ds.map some ++ List.replicate (n - ds.length) none) with
  | .rt d ρ => (match muts mask ρ with
    | some ms => .ok d ms
    | none => .no)
  | .nx ρ => (match muts mask ρ with
    | some ms => .ok .non ms
    | none => .no)
  | .ex c ρ => (match muts mask ρ with
    | some ms => .ex c ms
    | none => .no)
  | _ => .no

section
variable {G : Gs} {M : Addr → Prop} {H : Hp} {w : Wd}
theorem envL_nones : ∀ k : Nat, EnvL G M H [] (List.replicate k none) (List.replicate k none)
  | 0 => .nil
  | k + 1 => .skip (envL_nones k)
theorem envL_start (k : Nat) : ∀ {as : List Addr} {vs : List V} {ds : List D}, OwnL G M H as vs ds → EnvL G M H as (vs.map some ++ List.replicate k none) (ds.map some ++ List.replicate k none)
  | _, _, _, .nil => envL_nones k
  | _, _, _, .cons a b => .cons a (envL_start k b)
theorem envL_pick : ∀ {mask : List Bool} {as : List Addr} {vs : List V} {σ : Sl} {ρ : Rho} {ms : List D}, EnvL G M H as σ ρ → muts mask ρ = some ms → vs.length = mask.length → (∀ (i : Nat) (v : V), mask[i]? = some true → vs[i]? = some v → σ[i]? = some (some v)) →
    ∃ cs ds, OwnL G M H cs (pick mask vs) ms ∧ as.Perm (cs ++ ds)
  | [], as, vs, σ, ρ, ms, e, hm, hl, hp => by
    simp only [muts, Option.some.injEq] at hm
    subst hm
    exact ⟨[], as, .nil, .refl _⟩
  | b :: mask, as, vs, σ, ρ, ms, e, hm, hl, hp => by
    cases vs with
    | nil => simp at hl
    | cons v vs =>
      have hl' : vs.length = mask.length := by simpa using hl
      have tail : ∀ {σ' : Sl} {o : Option V}, σ = o :: σ' → ∀ (i : Nat) (v' : V), mask[i]? = some true → vs[i]? = some v' → σ'[i]? = some (some v') := fun {σ' o} es i v' h1 h2 => by
        have := hp (i + 1) v' (by simpa using h1) (by simpa using h2)
        subst es
        simpa using this
      cases e with
      | nil => cases b <;> simp [muts] at hm
      | skip e =>
        cases b with
        | true => simp [muts] at hm
        | false =>
          simp only [muts] at hm
          have := envL_pick (mask := mask) (vs := vs) e hm hl' (tail rfl)
          exact this
      | cons o e =>
        rename_i as1 bs u d σ1 ρ1
        cases b with
        | true =>
          simp only [muts, Option.map_eq_some_iff] at hm
          obtain ⟨ms', hm', rfl⟩ := hm
          obtain ⟨cs, ds, h1, h2⟩ := envL_pick e hm' hl' (tail rfl)
          have hu : u = v := by
            have := hp 0 v (by simp) (by simp)
            simpa using this
          subst hu
          exact ⟨as1 ++ cs, ds, .cons o h1, by rw [List.append_assoc]; exact List.Perm.append_left as1 h2⟩
        | false =>
          simp only [muts] at hm
          obtain ⟨cs, ds, h1, h2⟩ := envL_pick e hm hl' (tail rfl)
          refine ⟨cs, as1 ++ ds, h1, (List.Perm.append_left as1 h2).trans ?_⟩
          rw [← List.append_assoc, ← List.append_assoc]
          exact List.Perm.append_right ds List.perm_append_comm
theorem fre_of {as T cs ds bs : List Addr} (p : as.Perm (cs ++ ds)) (n : (as ++ bs).Nodup) (h : ∀ a ∈ as ++ bs, w.C a ∧ IsO w.H a) : Fre w (bs ++ cs) := by
  have p2 : (as ++ bs).Perm (bs ++ cs ++ ds) := (List.Perm.append_right bs p).trans (by
    rw [List.append_assoc bs]
    exact List.perm_append_comm)
  have n2 := p2.nodup n
  refine ⟨(List.nodup_append.mp n2).1, fun a ha => h a (p2.mem_iff.mpr (List.mem_append_left _ ha))⟩
end

section
variable {P : Program} {w : World} {K : PySem.W.Frag} {mg : Str → Option Value} {base : Heap} {x qual : Str} {params : Arguments} {body : List Stmt} {scope : Scope} {dvs : List V} {kws : List (Str × V)} {f : Addr} {fd : FuncData} {G : Gs}
/-- the wish for exceptions of a def's body -/
abbrev WD (E : XK) : WX := fun cls d _ H => E cls d H
def pinOf (mask : List Bool) : Nat → Bool := fun i => mask.getD i false
/-- a def from its body -/
theorem ok_def {N ps : List Str} {k : Nat} {mask : List Bool} {y : Sx} (F : FunD K x qual params body scope dvs kws f fd) (S : FnScope N ps scope) (hm : mask.length = ps.length)
    (hb : ∀ (X : Cx) (E : WX), X.prog = P → X.w = w → X.K = K → X.mg = mg → X.base = base → X.N = N → X.env.scope = scope → X.calm = true → (∀ n, X.fn n = true) → X.stack = X.env :: X.outer → X.env.frame = some X.env.locals → Room k X.A → Takes X E → PassesOwn (model X.prog X.w) X.A X.env X.xe → PSs X body (tS G E (pinOf mask) y)) :
    FnOk P w K mg base (L2.CX P w) (k + 1) f fd ps (spF G (runF mask N.length y) mask) := by
  refine F.ok S (fun vs H Q E h => h.1.trans hm) fun cdv A outer s H vs Q E hr h => ?_
  refine ⟨_, hb _ (WD E) rfl rfl rfl rfl rfl rfl rfl rfl (fun _ => rfl) rfl rfl hr (takes_of rfl rfl rfl rfl) (passes_of rfl), ?_⟩
  obtain ⟨hl, w0, ds, as, rfl, o, fr, sub, tb, q⟩ := h
  have hlen := o.length
  refine tS_def.mpr ⟨w0, ds.map some ++ List.replicate (N.length - ds.length) none, [], rfl, ⟨⟨as, ?_, by rw [List.append_nil]; exact fr.1, fun a ha => fr.2 a (by rw [List.append_nil] at ha; exact ha)⟩, sub, tb⟩, ?_⟩
  · have := envL_start (N.length - ds.length) o
    unfold L2.start
    rw [hlen]
    exact this
  · have vsat : ∀ {σ' : Sl}, Pin (pinOf mask) (L2.start N vs) σ' → ∀ (i : Nat) (v : V), mask[i]? = some true → vs[i]? = some v → σ'[i]? = some (some v) := fun {σ'} p i v h1 h2 => by
      rw [p.2 i (by unfold pinOf; rw [List.getD_eq_getElem?_getD, h1]; rfl)]
      unfold L2.start
      have hi : i < vs.length := (List.getElem?_eq_some_iff.mp h2).1
      rw [List.getElem?_append_left (by simpa using hi), List.getElem?_map, h2]
      rfl
    unfold runF at q
    cases hy : y (ds.map some ++ List.replicate (N.length - ds.length) none) with
    | no => simp only [hy] at q
    | bk ρ => simp only [hy] at q
    | ct ρ => simp only [hy] at q
    | nx ρ =>
      simp only [hy] at q
      cases hmu : muts mask ρ with
      | none => simp only [hmu] at q
      | some ms =>
        simp only [hmu] at q
        intro σ' w' g er p
        obtain ⟨as', e1, e2, e3⟩ := er.ex
        obtain ⟨cs, ds', h1, h2⟩ := envL_pick e1 hmu hl (vsat p)
        exact q .non w' [] cs g.le h1 (.sh .non) (fre_of (T := []) h2 e2 e3) er.sub
    | rt d ρ =>
      simp only [hy] at q
      cases hmu : muts mask ρ with
      | none => simp only [hmu] at q
      | some ms =>
        simp only [hmu] at q
        intro v σ' w' bs g er p ov
        obtain ⟨as', e1, e2, e3⟩ := er.ex
        obtain ⟨cs, ds', h1, h2⟩ := envL_pick e1 hmu hl (vsat p)
        rw [List.append_nil] at e2 e3
        exact q v w' bs cs g.le h1 ov (fre_of (T := []) h2 e2 e3) er.sub
    | ex c ρ =>
      simp only [hy] at q
      cases hmu : muts mask ρ with
      | none => simp only [hmu] at q
      | some ms =>
        simp only [hmu] at q
        intro σ' w' g er p
        obtain ⟨as', e1, e2, e3⟩ := er.ex
        obtain ⟨cs, ds', h1, h2⟩ := envL_pick e1 hmu hl (vsat p)
        exact q w' cs g.le h1 (fre_of (T := []) (bs := []) h2 e2 e3) er.sub
end

/-- a promise may tell less -/
def FLe (m' m : Fx) : Prop := ∀ ds, m' ds ≠ .no → m ds = m' ds
theorem spF_le {G : Gs} {m m' : Fx} {mask : List Bool} (h : FLe m' m) (vs : List V) (H : Hp) (Q : VK) (E : XK) (q : spF G m' mask vs H Q E) : spF G m mask vs H Q E := by
  obtain ⟨hl, w, ds, as, e, o, fr, sub, tb, q⟩ := q
  refine ⟨hl, w, ds, as, e, o, fr, sub, tb, ?_⟩
  have : m ds = m' ds := h ds (fun z => by rw [z] at q; exact q)
  rw [this]
  exact q

/-! ### calls -/
/-- the arguments that the callee may change stand in these names -/
def PatV : List (Option Nat) → Sl → List V → Prop
  | [], _, [] => True
  | none :: p, σ, _ :: vs => PatV p σ vs
  | some i :: p, σ, v :: vs => σ[i]? = some (some v) ∧ PatV p σ vs
  | _, _, _ => False
def tDM (G : Gs) (E : WX) (pat : List (Option Nat)) (y : Ax) : TA := fun σ H Q => ∃ w ρ T, w.H = H ∧ EnvR G w σ ρ T ∧ match y ρ with
  | .ok ds ρ' => ∀ vs w' as, Go G T w w' → EnvR G w' σ ρ' (as ++ T) → OwnL G w'.M w'.H as vs ds → PatV pat σ vs → Q vs w'.H
  | .ex c ρ' => ∀ w', Go G T w w' → EnvR G w' σ ρ' T → E (.ref (G c)) none σ w'.H
  | .no => False
/-- what a name holds is taken out -/
theorem EnvR.out {G : Gs} {w : Wd} {σ : Sl} {ρ : Rho} {T : List Addr} {i : Nat} {d : D} (e : EnvR G w σ ρ T) (h : ρ[i]? = some (some d)) : ∃ v bs, σ[i]? = some (some v) ∧ Own G w.M w.H bs v d ∧ EnvR G w σ (ρ.set i none) (bs ++ T) := by
  obtain ⟨as, h1, h2, h3⟩ := e.ex
  suffices q : ∃ v bs cs, σ[i]? = some (some v) ∧ Own G w.M w.H bs v d ∧ EnvL G w.M w.H cs σ (ρ.set i none) ∧ as.Perm (bs ++ cs) by
    obtain ⟨v, bs, cs, a1, a2, a3, a4⟩ := q
    have p : (as ++ T).Perm (cs ++ (bs ++ T)) := (List.Perm.append_right T (a4.trans List.perm_append_comm)).trans (by rw [List.append_assoc])
    exact ⟨v, bs, a1, a2, ⟨cs, a3, p.nodup h2, fun a ha => h3 a (p.mem_iff.mpr ha)⟩, e.sub, e.tb⟩
  clear h2 h3 e
  induction h1 generalizing i with
  | nil => simp at h
  | skip e ih =>
    cases i with
    | zero => simp at h
    | succ i =>
      obtain ⟨v, bs, cs, a1, a2, a3, a4⟩ := ih (i := i) (by simpa using h)
      exact ⟨v, bs, cs, by simpa using a1, a2, .skip a3, a4⟩
  | cons o e ih =>
    rename_i as1 bs1 v1 d1 σ1 ρ1
    cases i with
    | zero =>
      simp at h
      subst h
      exact ⟨v1, as1, bs1, rfl, o, .skip e, .refl _⟩
    | succ i =>
      obtain ⟨v, bs, cs, a1, a2, a3, a4⟩ := ih (i := i) (by simpa using h)
      refine ⟨v, bs, as1 ++ cs, by simpa using a1, a2, .cons o a3, (List.Perm.append_left as1 a4).trans ?_⟩
      rw [← List.append_assoc, ← List.append_assoc]
      exact List.Perm.append_right cs List.perm_append_comm
theorem set_self {σ : Sl} {i : Nat} {v : V} (h : σ[i]? = some (some v)) : σ.set i (some v) = σ := by
  apply List.ext_getElem?
  intro j
  by_cases e : i = j
  · subst e
    rw [List.getElem?_set_self (List.getElem?_eq_some_iff.mp h).1, h]
  · rw [List.getElem?_set_ne e]
/-- .. and put back -/
theorem EnvR.in_ {G : Gs} {w : Wd} {σ : Sl} {ρ : Rho} {T bs : List Addr} {i : Nat} {v : V} {d : D} (e : EnvR G w σ ρ (bs ++ T)) (h : σ[i]? = some (some v)) (o : Own G w.M w.H bs v d) : EnvR G w σ (ρ.set i (some d)) T := by
  have hi : i < ρ.length := by rw [← e.len]; exact (List.getElem?_eq_some_iff.mp h).1
  have := e.set hi o
  rw [set_self h] at this
  exact this

section
variable {X : Cx} {G : Gs} {E : WX} {e : Expr} {es : List Expr} {pos : Pos} {x : Xx} {y : Ax} {pat : List (Option Nat)}
theorem em_nil : PA X [] (tDM G E [] aNil) := pa_nil.imp fun σ H Q q => by
  obtain ⟨w, ρ, T, rfl, er, q⟩ := q
  exact q [] w [] (.refl T w) er .nil trivial
theorem em_cons (ha : PE X e (tD G E x)) (hr : PA X es (tDM G E pat y)) (hs : starEach (e :: es) X.env = (false, eval e X.env) :: starEach es X.env := by rfl) : PA X (e :: es) (tDM G E (none :: pat) (aCons x y)) := by
  refine (pa_cons ha hr hs).imp fun σ H Q q => ?_
  obtain ⟨w, ρ, T, rfl, er, q⟩ := q
  refine ⟨w, ρ, T, rfl, er, ?_⟩
  unfold aCons at q
  cases h1 : x ρ with
  | ex c ρ1 =>
    rw [h1] at q
    exact q
  | no =>
    rw [h1] at q
    exact q.elim
  | ok d ρ1 =>
    simp only [h1] at q
    intro v w1 as1 g1 er1 o1
    refine ⟨w1, ρ1, as1 ++ T, rfl, er1, ?_⟩
    cases h2 : y ρ1 with
    | ex c ρ2 =>
      simp only [h2] at q
      exact fun w2 g2 er2 => q w2 (g1.trans g2.less) er2.less
    | no =>
      simp only [h2] at q
    | ok ds ρ2 =>
      simp only [h2] at q
      intro vs w2 as2 g2 er2 o2 pv
      refine q (v :: vs) w2 (as1 ++ as2) (g1.trans g2.less) ?_ (.cons (g2.own er1.sub o1) o2) pv
      obtain ⟨bs, e1, e2, e3⟩ := er2.ex
      have pm : (bs ++ (as2 ++ (as1 ++ T))).Perm (bs ++ ((as1 ++ as2) ++ T)) := List.Perm.append_left bs (by
        rw [← List.append_assoc]
        exact List.Perm.append_right T List.perm_append_comm)
      exact ⟨⟨bs, e1, pm.nodup e2, fun a ha => e3 a (pm.mem_iff.mpr ha)⟩, er2.sub, er2.tb⟩
/-- an argument that the callee may change: the name's datum as it stands behind the other arguments -/
def aMut (i : Nat) (y : Ax) : Ax := fun ρ => match ρ[i]? with
  | some (some _) => (match y ρ with
    | .ok ds ρ1 => (match ρ1[i]? with
      | some (some d) => .ok (d :: ds) (ρ1.set i none)
      | _ => .no)
    | .ex c ρ1 => .ex c ρ1
    | .no => .no)
  | _ => .no
theorem em_mut {i : Nat} {n : Str} (hN : X.N[i]? = some n) (hv : Vis X.env.scope n) (hr : PA X es (tDM G E pat y)) (hs : starEach (.Name n pos :: es) X.env = (false, eval (.Name n pos) X.env) :: starEach es X.env := by rfl)
    (hd : (n == ("__debug__" : Str)) = false := by decide) (hcd : (n == ("__classdict__" : Str)) = false := by decide) : PA X (.Name n pos :: es) (tDM G E (some i :: pat) (aMut i y)) := by
  refine (pa_cons (pe_var hN hv hd hcd) hr hs).imp fun σ H Q q => ?_
  obtain ⟨w, ρ, T, rfl, er, q⟩ := q
  unfold aMut at q
  cases h0 : ρ[i]? with
  | none => simp only [h0] at q
  | some o =>
    cases o with
    | none => simp only [h0] at q
    | some d0 =>
      simp only [h0] at q
      obtain ⟨v, bs0, hs, _, _⟩ := er.get h0
      refine ⟨v, hs, w, ρ, T, rfl, er, ?_⟩
      cases h1 : y ρ with
      | ex c ρ1 =>
        simp only [h1] at q
        exact q
      | no => simp only [h1] at q
      | ok ds ρ1 =>
        simp only [h1] at q
        cases h2 : ρ1[i]? with
        | none => simp only [h2] at q
        | some o =>
          cases o with
          | none => simp only [h2] at q
          | some d =>
            simp only [h2] at q
            intro vs w2 as g2 er2 o2 pv
            obtain ⟨v2, bs, hs2, ov, er3⟩ := er2.out h2
            rw [hs] at hs2
            cases hs2
            exact q (v :: vs) w2 (bs ++ as) g2 (by rw [List.append_assoc]; exact er3) (.cons ov o2) ⟨hs, pv⟩
/-- what is behind comes back into the names -/
def putBack : List (Option Nat) → List D → Rho → Option Rho
  | [], [], ρ => some ρ
  | none :: p, ms, ρ => putBack p ms ρ
  | some i :: p, d :: ms, ρ => putBack p ms (ρ.set i (some d))
  | _, _, _ => none
def maskOf (pat : List (Option Nat)) : List Bool := pat.map Option.isSome
theorem put_back : ∀ {pat : List (Option Nat)} {vs : List V} {ms : List D} {ρ ρ' : Rho} {w : Wd} {σ : Sl} {T cs : List Addr}, PatV pat σ vs → OwnL G w.M w.H cs (pick (maskOf pat) vs) ms → EnvR G w σ ρ (cs ++ T) → putBack pat ms ρ = some ρ' → EnvR G w σ ρ' T
  | [], vs, ms, ρ, ρ', w, σ, T, cs, pv, o, er, h => by
    cases vs with
    | cons _ _ => exact pv.elim
    | nil =>
      simp only [maskOf, List.map_nil, pick] at o
      cases o
      simp only [putBack, Option.some.injEq] at h
      subst h
      exact er
  | none :: p, vs, ms, ρ, ρ', w, σ, T, cs, pv, o, er, h => by
    cases vs with
    | nil => exact pv.elim
    | cons v vs =>
      simp only [putBack] at h
      exact put_back (pat := p) (vs := vs) pv o er h
  | some i :: p, vs, ms, ρ, ρ', w, σ, T, cs, pv, o, er, h => by
    cases vs with
    | nil => exact pv.elim
    | cons v vs =>
      obtain ⟨hs, pv⟩ := pv
      replace o : OwnL G w.M w.H cs (v :: pick (maskOf p) vs) ms := o
      cases o with
      | cons ov o2 =>
        simp only [putBack] at h
        rw [List.append_assoc] at er
        exact put_back (pat := p) (vs := vs) pv o2 (er.in_ hs ov) h
def xCall (m : Fx) (pat : List (Option Nat)) (y : Ax) : Xx := fun ρ => match y ρ with
  | .ok ds ρ1 => (match m ds with
    | .ok d ms => (match putBack pat ms ρ1 with
      | some ρ2 => .ok d ρ2
      | none => .no)
    | .ex c ms => (match putBack pat ms ρ1 with
      | some ρ2 => .ex c ρ2
      | none => .no)
    | .no => .no)
  | .ex c ρ1 => .ex c ρ1
  | .no => .no
theorem PatV.len : ∀ {pat : List (Option Nat)} {σ : Sl} {vs : List V}, PatV pat σ vs → vs.length = pat.length
  | [], _, [], _ => rfl
  | [], _, _ :: _, h => h.elim
  | none :: p, σ, [], h => h.elim
  | some i :: p, σ, [], h => h.elim
  | none :: p, σ, v :: vs, h => congrArg (· + 1) (PatV.len (pat := p) (σ := σ) (vs := vs) h)
  | some i :: p, σ, v :: vs, h => congrArg (· + 1) (PatV.len (pat := p) (σ := σ) (vs := vs) h.2)
/-- the caller's world behind a callee that could change only what is at as -/
theorem call_le {w w' : Wd} {as : List Addr} (hC : ∀ a ∈ as, w.C a) (l : Le G ⟨w.H, w.M, fun a => a ∈ as⟩ w') : Le G w ⟨w'.H, w'.M, fun a => w'.C a ∨ (w.C a ∧ a ∉ as ∧ IsO w.H a)⟩ where
  dir := fun a o c n e => l.dir a o (fun z => c (hC a z)) n e
  imm := l.imm
  ext := l.ext
  m1 := l.m1
  m2 := fun a h1 h2 => (l.m2 a h1 h2).elim .inl fun z => .inr (hC a z)
  c1 := fun a h => h.elim (fun z => (l.c1 a z).elim (fun y => .inl (hC a y)) .inr) fun z => .inl z.1
  dom := l.dom
  tab := l.tab
theorem call_env {w w' : Wd} {σ : Sl} {ρ : Rho} {T as bs : List Addr} (er : EnvR G w σ ρ (as ++ T)) (l : Le G ⟨w.H, w.M, fun a => a ∈ as⟩ w') (fr : Fre w' bs) (sub : ∀ a, w'.C a → w'.M a) :
    Go G T w ⟨w'.H, w'.M, fun a => w'.C a ∨ (w.C a ∧ a ∉ as ∧ IsO w.H a)⟩ ∧ EnvR G ⟨w'.H, w'.M, fun a => w'.C a ∨ (w.C a ∧ a ∉ as ∧ IsO w.H a)⟩ σ ρ (bs ++ T) := by
  obtain ⟨cs, e1, e2, e3⟩ := er.ex
  have hC : ∀ a ∈ as, w.C a := fun a ha => (e3 a (List.mem_append_right _ (List.mem_append_left _ ha))).1
  have le := call_le hC l
  have off : ∀ a ∈ cs ++ T, a ∉ as := fun a ha z => by
    rcases List.mem_append.mp ha with y | y
    · exact (List.nodup_append.mp e2).2.2 a y a (List.mem_append_left _ z) rfl
    · exact (List.nodup_append.mp (List.nodup_append.mp e2).2.1).2.2 a z a y rfl
  have in_ : ∀ a ∈ cs ++ T, a ∈ cs ++ (as ++ T) := fun a ha => by
    rcases List.mem_append.mp ha with y | y
    · exact List.mem_append_left _ y
    · exact List.mem_append_right _ (List.mem_append_right _ y)
  have same : ∀ a ∈ cs ++ T, w'.H a = w.H a := fun a ha => by
    obtain ⟨c, o, ho, n⟩ := e3 a (in_ a ha)
    rw [ho]
    exact l.dirM (off a ha) n (er.sub a c) ho
  have keepM : ∀ a ∈ cs ++ T, w'.M a := fun a ha => by
    obtain ⟨c, o, ho, n⟩ := e3 a (in_ a ha)
    exact (l.m2 a (er.sub a c) (isO_of ho n)).resolve_right (off a ha)
  refine ⟨⟨le, fun a ha => same a (List.mem_append_right _ ha)⟩, ⟨cs, e1.kp (le.kp er.sub) fun a ha => same a (List.mem_append_left _ ha), ?_, fun a ha => ?_⟩, fun a ha => ?_, le.tb er.tb⟩
  · -- apart: bs new or of as
    have n1 : (cs ++ T).Nodup := (List.Sublist.append_left (List.sublist_append_right as T) cs).nodup e2
    have p : (cs ++ (bs ++ T)).Perm (bs ++ (cs ++ T)) := by
      rw [← List.append_assoc, ← List.append_assoc]
      exact List.Perm.append_right T List.perm_append_comm
    refine p.symm.nodup (List.nodup_append.mpr ⟨fr.1, n1, fun a ha b hb z => ?_⟩)
    subst z
    rcases l.c1 a (fr.2 a ha).1 with y | y
    · exact off a hb y
    · exact y (e3 a (in_ a hb)).2
  · rcases List.mem_append.mp ha with y | y
    · have := e3 a (in_ a (List.mem_append_left _ y))
      refine ⟨.inr ⟨this.1, off a (List.mem_append_left _ y), this.2⟩, ?_⟩
      obtain ⟨o, ho, n⟩ := this.2
      exact ⟨o, (same a (List.mem_append_left _ y)).trans ho, n⟩
    · rcases List.mem_append.mp y with y | y
      · exact ⟨.inl (fr.2 a y).1, (fr.2 a y).2⟩
      · have := e3 a (in_ a (List.mem_append_right _ y))
        refine ⟨.inr ⟨this.1, off a (List.mem_append_right _ y), this.2⟩, ?_⟩
        obtain ⟨o, ho, n⟩ := this.2
        exact ⟨o, (same a (List.mem_append_right _ y)).trans ho, n⟩
  · rcases ha with y | ⟨y1, y2, hl⟩
    · exact sub a y
    · exact (l.m2 a (er.sub a y1) hl).resolve_right y2
theorem tD_call {m : Fx} {pat : List (Option Nat)} {y : Ax} {σ : Sl} {H : Hp} {Q : VK} (q : tD G E (xCall m pat y) σ H Q) : tDM G E pat y σ H fun vs H1 => spF G m (maskOf pat) vs H1 Q (WE E σ) := by
  obtain ⟨w, ρ, T, rfl, er, q⟩ := q
  refine ⟨w, ρ, T, rfl, er, ?_⟩
  unfold xCall at q
  cases h1 : y ρ with
  | ex c ρ1 =>
    simp only [h1] at q
    exact q
  | no => simp only [h1] at q
  | ok ds ρ1 =>
    simp only [h1] at q
    intro vs w1 as g1 er1 o1 pv
    obtain ⟨cs0, e1, e2, e3⟩ := er1.ex
    have hC : ∀ a ∈ as, w1.C a := fun a ha => (e3 a (List.mem_append_right _ (List.mem_append_left _ ha))).1
    refine ⟨pv.len.trans (by simp [maskOf]), ⟨w1.H, w1.M, fun a => a ∈ as⟩, ds, as, rfl, o1, ⟨(List.nodup_append.mp (List.nodup_append.mp e2).2.1).1, fun a ha => ⟨ha, (e3 a (List.mem_append_right _ (List.mem_append_left _ ha))).2⟩⟩, fun a ha => er1.sub a (hC a ha), er1.tb, ?_⟩
    cases hm : m ds with
    | no => simp only [hm] at q
    | ok d ms =>
      simp only [hm] at q
      intro v w' bs cs l om ov fr sub
      cases hp : putBack pat ms ρ1 with
      | none => simp only [hp] at q
      | some ρ2 =>
        simp only [hp] at q
        obtain ⟨g2, er2⟩ := call_env er1 l fr sub
        have er3 : EnvR G ⟨w'.H, w'.M, fun a => w'.C a ∨ (w1.C a ∧ a ∉ as ∧ IsO w1.H a)⟩ σ ρ1 (cs ++ (bs ++ T)) := by
          obtain ⟨xs, f1, f2, f3⟩ := er2.ex
          have pm : (xs ++ (bs ++ cs ++ T)).Perm (xs ++ (cs ++ (bs ++ T))) := List.Perm.append_left xs (by
            rw [← List.append_assoc]
            exact List.Perm.append_right T List.perm_append_comm)
          exact ⟨⟨xs, f1, pm.nodup f2, fun a ha => f3 a (pm.mem_iff.mpr ha)⟩, er2.sub, er2.tb⟩
        exact q v ⟨w'.H, w'.M, fun a => w'.C a ∨ (w1.C a ∧ a ∉ as ∧ IsO w1.H a)⟩ bs (g1.trans g2) (put_back (w := ⟨w'.H, w'.M, fun a => w'.C a ∨ (w1.C a ∧ a ∉ as ∧ IsO w1.H a)⟩) pv om er3 hp) ov
    | ex c ms =>
      simp only [hm] at q
      intro w' cs l om fr sub
      cases hp : putBack pat ms ρ1 with
      | none => simp only [hp] at q
      | some ρ2 =>
        simp only [hp] at q
        obtain ⟨g2, er2⟩ := call_env er1 l fr sub
        exact q ⟨w'.H, w'.M, fun a => w'.C a ∨ (w1.C a ∧ a ∉ as ∧ IsO w1.H a)⟩ (g1.trans g2) (put_back (w := ⟨w'.H, w'.M, fun a => w'.C a ∨ (w1.C a ∧ a ∉ as ∧ IsO w1.H a)⟩) pv om er2 hp)
theorem ed_call {k : Nat} {f : Addr} {fd : FuncData} {ps : List Str} {m : Fx} {n : Str} {p : Pos} {mask : List Bool} (F : FnOk X.prog X.w X.K X.mg X.base (L2.CX X.prog X.w) k f fd ps (spF G m mask)) (hk : mask = maskOf pat) (hr : Room k X.A) (hg : Gl X n) (hm : X.mg n = some (.ref f)) (hkp : PySem.W.keepIn X.K (.ref f) = true) (hb : Binds X.K fd ps []) (tk : Takes X E)
    (ha : PA X (e :: es) (tDM G E pat y)) (hdb : (n == ("__debug__" : Str)) = false := by decide) (he : starEach (e :: es) X.env = (false, eval e X.env) :: starEach es X.env := by rfl) (hpl : (backTo pos (starEach es X.env)).any (·.1) = false := by rfl) :
    PE X (.Call (.Name n p) (e :: es) [] pos) (tD G E (xCall m pat y)) := by
  subst hk
  exact (pe_callS F hr hg hm hkp hb (fun σ => passAt tk σ) ha hdb he hpl).imp fun σ H Q q => tD_call q
theorem pe_callS0 {k : Nat} {f : Addr} {fd : FuncData} {ps : List Str} {sp : Sp} {E : L2.St → XK} {x : Str} {p : Pos} (F : FnOk X.prog X.w X.K X.mg X.base (L2.CX X.prog X.w) k f fd ps sp) (hr : Room k X.A) (hg : Gl X x) (hm : X.mg x = some (.ref f)) (hk : PySem.W.keepIn X.K (.ref f) = true) (hb : Binds X.K fd ps []) (hx : ∀ σ, PassesAt (L2.CX X.prog X.w) X σ (E σ))
    (hdb : (x == ("__debug__" : Str)) = false := by decide) : PE X (.Call (.Name x p) [] [] pos) (tCallS sp E tNil) := by
  refine ⟨fun pins s σ H Q I h => ?_⟩
  refine wpAny_Call_Name_kw (ld_glob I hg hm ?_ hdb)
  exact PySem.W.callWith_K0 I.kIn hk (run_fnS (us := []) F hr hb (hx σ) I .nil h)
theorem ed_call0 {k : Nat} {f : Addr} {fd : FuncData} {ps : List Str} {m : Fx} {n : Str} {p : Pos} {mask : List Bool} (F : FnOk X.prog X.w X.K X.mg X.base (L2.CX X.prog X.w) k f fd ps (spF G m mask)) (hk : mask = []) (hr : Room k X.A) (hg : Gl X n) (hm : X.mg n = some (.ref f)) (hkp : PySem.W.keepIn X.K (.ref f) = true) (hb : Binds X.K fd ps []) (tk : Takes X E)
    (hdb : (n == ("__debug__" : Str)) = false := by decide) : PE X (.Call (.Name n p) [] [] pos) (tD G E (xCall m [] aNil)) := by
  subst hk
  refine (pe_callS0 F hr hg hm hkp hb (fun σ => passAt tk σ) hdb).imp fun σ H Q q => ?_
  have q := tD_call (pat := []) q
  obtain ⟨w, ρ, T, rfl, er, q⟩ := q
  exact q [] w [] (.refl T w) er .nil trivial
/-! ### keywords -/
theorem _root_.L2.PK.imp {kws : List Keyword} {t t' : TA} (h : PK X kws t) (f : ∀ σ H Q, t' σ H Q → t σ H Q) : PK X kws t' := ⟨fun pos pins s σ H Q I q => h.run pos pins s σ H Q I (f σ H Q q)⟩
theorem ek_nil : PK X [] (tDM G E [] aNil) := pk_nil.imp fun σ H Q q => by
  obtain ⟨w, ρ, T, rfl, er, q⟩ := q
  exact q [] w [] (.refl T w) er .nil trivial
theorem ek_cons {nm : Option Str} {kpos : Pos} {kws : List Keyword} (ha : PE X e (tD G E x)) (hr : PK X kws (tDM G E pat y)) : PK X (⟨nm, e, kpos⟩ :: kws) (tDM G E (none :: pat) (aCons x y)) := by
  refine (pk_cons ha hr).imp fun σ H Q q => ?_
  obtain ⟨w, ρ, T, rfl, er, q⟩ := q
  refine ⟨w, ρ, T, rfl, er, ?_⟩
  unfold aCons at q
  cases h1 : x ρ with
  | ex c ρ1 =>
    rw [h1] at q
    exact q
  | no =>
    rw [h1] at q
    exact q.elim
  | ok d ρ1 =>
    simp only [h1] at q
    intro v w1 as1 g1 er1 o1
    refine ⟨w1, ρ1, as1 ++ T, rfl, er1, ?_⟩
    cases h2 : y ρ1 with
    | ex c ρ2 =>
      simp only [h2] at q
      exact fun w2 g2 er2 => q w2 (g1.trans g2.less) er2.less
    | no =>
      simp only [h2] at q
    | ok ds ρ2 =>
      simp only [h2] at q
      intro vs w2 as2 g2 er2 o2 pv
      refine q (v :: vs) w2 (as1 ++ as2) (g1.trans g2.less) ?_ (.cons (g2.own er1.sub o1) o2) pv
      obtain ⟨bs, e1, e2, e3⟩ := er2.ex
      have pm : (bs ++ (as2 ++ (as1 ++ T))).Perm (bs ++ ((as1 ++ as2) ++ T)) := List.Perm.append_left bs (by
        rw [← List.append_assoc]
        exact List.Perm.append_right T List.perm_append_comm)
      exact ⟨⟨bs, e1, pm.nodup e2, fun a ha => e3 a (pm.mem_iff.mpr ha)⟩, er2.sub, er2.tb⟩
/-- keywords alone, in the parameters' order -/
def KB (K : PySem.W.Frag) (fd : FuncData) (ps : List Str) : Prop := ∀ (s : Shared) (ws : List Value), K.In s.heap → ws.length = ps.length → BindsTo s fd ⟨[], ps.zip ws⟩ (ps.zip ws)
theorem ed_callK {kws : List Keyword} {k : Nat} {f : Addr} {fd : FuncData} {ps : List Str} {m : Fx} {n : Str} {p : Pos} {mask : List Bool} (F : FnOk X.prog X.w X.K X.mg X.base (L2.CX X.prog X.w) k f fd ps (spF G m mask)) (hk : mask = maskOf pat) (hr : Room k X.A) (hg : Gl X n) (hm : X.mg n = some (.ref f)) (hkp : PySem.W.keepIn X.K (.ref f) = true) (hb : KB X.K fd ps) (tk : Takes X E)
    (ha : PK X kws (tDM G E pat y)) (hdb : (n == ("__debug__" : Str)) = false := by decide) (hall : (backToKw pos (keywordEach kws X.env)).all (·.1.isSome) = true := by rfl) (hks : (backToKw pos (keywordEach kws X.env)).filterMap (·.1) = ps := by rfl)
    (hpl : ((backTo pos (starEach [] X.env)).any (·.1) || (backToKw pos (keywordEach kws X.env)).any (·.1.isNone)) = false := by rfl) :
    PE X (.Call (.Name n p) [] kws pos) (tD G E (xCall m pat y)) := by
  subst hk
  refine ⟨fun pins s σ H Q I h => ?_⟩
  refine wpAny_Call_Name_kw (ld_glob I hg hm ?_ hdb)
  refine PySem.W.callWith_KW0 (h₀ := X.base) I.ok.mod.kin hkp hall ?_ hpl
  refine thn (ha.run pos pins s σ H _ I (tD_call h)) fun ws s2 ⟨zs, H2, I2, rz, q2⟩ => ⟨I2.kIn, ?_⟩
  rw [hks]
  have hl : ws.length = ps.length := by rw [← rz.length]; exact F.len _ _ _ _ q2
  refine wpAny_call (codeAny_mono (F.run X.A X.stack s2 H2 ⟨[], ps.zip ws⟩ ws zs Q (WE E σ) hr I2.env0 (hb s2 ws I2.kIn hl) rz q2) fun r s' hq => ?_)
  cases r with
  | error e => exact passAt tk σ pins H2 s2 e s' I2 hq
  | ok fl =>
    cases fl with
    | ret u => exact I2.after hq
    | next => exact False.elim hq
    | brk => exact False.elim hq
    | cont => exact False.elim hq
end
end On

set_option Elab.async false
set_option linter.all false
set_option maxRecDepth 100000
set_option maxHeartbeats 4000000
/-! On10: operations by values. -/
namespace On
open PySem PySem.Spec PyProof.Rows L2

/-! ### data as the library's plain data -/
mutual
def D.py : D → Option PyData
  | .non => some .none
  | .bl b => some (.bool b)
  | .int i => some (.int i)
  | .str x => some (.str x)
  | .tup l => (pyL l).map .tuple
  | .lst l => (pyL l).map .list
  | _ => none
def pyL : List D → Option (List PyData)
  | [] => some []
  | d :: r => match d.py, pyL r with
    | some p, some q => some (p :: q)
    | _, _ => none
end
section
variable {G : Gs} {M : Addr → Prop} {H : Hp} {K : PySem.W.Frag}
mutual
theorem rep_py : ∀ {v : V} {d : D} {p : PyData}, Rep G M H v d → d.py = some p → Dp K H v p
  | _, _, _, .non, e => by simp only [D.py, Option.some.injEq] at e; subst e; exact .non
  | _, _, _, .bl b, e => by simp only [D.py, Option.some.injEq] at e; subst e; exact .bl b
  | _, _, _, .int i, e => by simp only [D.py, Option.some.injEq] at e; subst e; exact .int i
  | _, _, _, .str x, e => by simp only [D.py, Option.some.injEq] at e; subst e; exact .str x
  | _, _, _, .gl x, e => by simp only [D.py] at e; cases e
  | _, _, _, .exc _, e => by simp only [D.py] at e; cases e
  | _, _, _, .cl _ _, e => by simp only [D.py] at e; cases e
  | _, _, _, .fl _ _ _, e => by simp only [D.py] at e; cases e
  | _, _, _, .tup h r, e => by
    simp only [D.py, Option.map_eq_some_iff] at e
    obtain ⟨ps, e, rfl⟩ := e
    exact .tup (.of h) (reps_py r e)
  | _, _, _, .lst _ h r, e => by
    simp only [D.py, Option.map_eq_some_iff] at e
    obtain ⟨ps, e, rfl⟩ := e
    exact .lst (.of h) (reps_py r e)
  | _, _, _, .dk _ _ _, e => by simp only [D.py] at e; cases e
  | _, _, _, .dt _ _ _, e => by simp only [D.py] at e; cases e
  | _, _, _, .ins _ _ _, e => by simp only [D.py] at e; cases e
theorem reps_py : ∀ {vs : List V} {ds : List D} {ps : List PyData}, Reps G M H vs ds → pyL ds = some ps → DpAll K H vs ps
  | _, _, _, .nil, e => by simp only [pyL, Option.some.injEq] at e; subst e; exact .nil
  | _, _, _, .cons (d := d) (ds := ds) r t, e => by
    simp only [pyL] at e
    cases h1 : d.py with
    | none => simp only [h1] at e; cases e
    | some p =>
      cases h2 : pyL ds with
      | none => simp only [h1, h2] at e; cases e
      | some q =>
        simp only [h1, h2, Option.some.injEq] at e
        subst e
        exact .cons (rep_py r h1) (reps_py t h2)
end
end
/-- ==, where the model's == is settled -/
def eqD (a b : D) : Option Bool := match a.py, b.py with
  | some p, some q => if SeqAt.shaped p = true ∧ SeqAt.shaped q = true then some (PyData.eqv p q) else none
  | _, _ => none
def dEq (a b : D) : Option D := (eqD a b).map .bl
def dNe (a b : D) : Option D := (eqD a b).map fun k => .bl (!k)
section
variable {X : Cx} {G : Gs} {k : Nat}
theorem op_dEq (hr : Room k X.A) : OpR X (compareOp .Eq) (rEqD X.K) := op_eqD hr.units
theorem op_dNe (hr : Room k X.A) : OpR X (compareOp .NotEq) (rNeD X.K) := op_neD hr.units
theorem sp_dEq {K : PySem.W.Frag} : Op2 G (rEqD K) dEq := by
  intro w x y d1 d2 d e r1 r2 Q q
  unfold dEq eqD at e
  cases h1 : d1.py with
  | none => simp only [h1] at e; cases e
  | some p1 =>
    cases h2 : d2.py with
    | none => simp only [h1, h2] at e; cases e
    | some p2 =>
      simp only [h1, h2] at e
      split at e
      · rename_i hs
        simp only [Option.map_some, Option.some.injEq] at e
        subst e
        exact ⟨p1, p2, rep_py r1 h1, rep_py r2 h2, hs.1, hs.2, q _ w [] (.refl w) (.sh (.bl _))⟩
      · cases e
theorem sp_dNe {K : PySem.W.Frag} : Op2 G (rNeD K) dNe := by
  intro w x y d1 d2 d e r1 r2 Q q
  unfold dNe eqD at e
  cases h1 : d1.py with
  | none => simp only [h1] at e; cases e
  | some p1 =>
    cases h2 : d2.py with
    | none => simp only [h1, h2] at e; cases e
    | some p2 =>
      simp only [h1, h2] at e
      split at e
      · rename_i hs
        simp only [Option.map_some, Option.some.injEq] at e
        subst e
        exact ⟨p1, p2, rep_py r1 h1, rep_py r2 h2, hs.1, hs.2, q _ w [] (.refl w) (.sh (.bl _))⟩
      · cases e

/-! ### numbers -/
def dI2 (C : Int → Int → Prop) [DecidableRel C] (g : Int → Int → D) : D → D → Option D
  | .int i, .int j => if C i j then some (g i j) else none
  | _, _ => none
theorem sp_dI2 {C : Int → Int → Prop} [DecidableRel C] {g : Int → Int → D} {gV : Int → Int → V} (hg : ∀ (M : Addr → Prop) (H : Hp) i j, Rep G M H (gV i j) (g i j)) : Op2 G (rI C gV) (dI2 C g) := by
  intro w x y d1 d2 d e r1 r2 Q q
  unfold dI2 at e
  split at e
  · split at e
    · rename_i hc
      cases e
      cases r1
      cases r2
      exact ⟨_, _, rfl, rfl, hc, q _ w [] (.refl w) (.sh (hg _ _ _ _))⟩
    · cases e
  · cases e
def dI2T (g : Int → Int → D) : D → D → Option D
  | .int i, .int j => some (g i j)
  | _, _ => none
theorem sp_dI2T {g : Int → Int → D} {gV : Int → Int → V} (hg : ∀ (M : Addr → Prop) (H : Hp) i j, Rep G M H (gV i j) (g i j)) : Op2 G (rI0 gV) (dI2T g) := by
  intro w x y d1 d2 d e r1 r2 Q q
  unfold dI2T at e
  split at e
  · cases e
    cases r1
    cases r2
    exact ⟨_, _, rfl, rfl, q _ w [] (.refl w) (.sh (hg _ _ _ _))⟩
  · cases e
instance : DecidableRel CDiv := fun _ _ => inferInstanceAs (Decidable (_ ∧ _))
instance : DecidableRel CDivN := fun _ _ => inferInstanceAs (Decidable (_ ∧ _))
instance : DecidableRel CPow := fun _ _ => inferInstanceAs (Decidable (_ ∧ _ ∧ _))
instance : DecidableRel CMul := fun _ _ => inferInstanceAs (Decidable (_ ∨ _))
def CMod (_ j : Int) : Prop := 0 < j
instance : DecidableRel CMod := fun _ _ => inferInstanceAs (Decidable (_ < _))
def dSub : D → D → Option D := dI2T fun i j => .int (i - j)
def dFdiv : D → D → Option D := dI2 CDiv fun i j => .int (i / j)
def dMod : D → D → Option D := dI2 CMod fun i j => .int (i % j)
def dPow : D → D → Option D := dI2 CPow fun i j => .int (i ^ j.toNat)
def dLt : D → D → Option D := dI2T fun i j => .bl (decide (i < j))
def dLe : D → D → Option D := dI2T fun i j => .bl (decide (i ≤ j))
def dGt : D → D → Option D := dI2T fun i j => .bl (decide (j < i))
def dGe : D → D → Option D := dI2T fun i j => .bl (decide (j ≤ i))
theorem sp_dSub : Op2 G (rI0 fun i j => .int (i - j)) dSub := sp_dI2T fun _ _ _ _ => .int _
theorem sp_dFdiv : Op2 G (rI CDiv fun i j => .int (i / j)) dFdiv := sp_dI2 fun _ _ _ _ => .int _
theorem sp_dMod : Op2 G (rI (fun _ j => 0 < j) fun i j => .int (i % j)) dMod := sp_dI2 (C := CMod) fun _ _ _ _ => .int _
theorem sp_dPow : Op2 G (rI CPow fun i j => .int (i ^ j.toNat)) dPow := sp_dI2 fun _ _ _ _ => .int _
theorem sp_dLt : Op2 G (rI0 fun i j => .bl (decide (i < j))) dLt := sp_dI2T fun _ _ _ _ => .bl _
theorem sp_dLe : Op2 G (rI0 fun i j => .bl (decide (i ≤ j))) dLe := sp_dI2T fun _ _ _ _ => .bl _
theorem sp_dGt : Op2 G (rI0 fun i j => .bl (decide (j < i))) dGt := sp_dI2T fun _ _ _ _ => .bl _
theorem sp_dGe : Op2 G (rI0 fun i j => .bl (decide (j ≤ i))) dGe := sp_dI2T fun _ _ _ _ => .bl _
def dNeg : D → Option D
  | .int i => some (.int (-i))
  | _ => none
theorem sp_dNeg : Op1 G (rU fun i => .int (-i)) dNeg := by
  intro w x d1 d e r1 Q q
  unfold dNeg at e
  split at e
  · cases e
    cases r1
    exact ⟨_, rfl, q _ w [] (.refl w) (.sh (.int _))⟩
  · cases e

/-! ### + -/
theorem cat_tup0 {A : Around} {prog : Program} {w : World} {E : Value → Shared → Prop} {s : Shared} {t b : Addr} {ws : List Value} {Q : Value → Shared → Prop} (ht : IsTup s.heap t #[]) (hb : IsTup s.heap b ws.toArray) (h1 : Q (.ref b) s) : wpAny (model prog w) A (binaryOp .Add (.ref t) (.ref b)) Q E s := by
  obtain ⟨⟨cls, dd, data, sl⟩, ho, hc, n, hd⟩ := id ht
  obtain ⟨⟨cls2, dd2, data2, sl2⟩, ho2, hc2, n2, hd2⟩ := id hb
  simp only at hc hd hc2 hd2
  subst hc hd hc2 hd2
  exact concat_meets ⟨_, ho, rfl⟩ ⟨_, ho2, rfl⟩ noFill_tuple_add seq_tuple_add PySem.F.slot_tuple_add PySem.F.entry_tuple_add (PySem.F.args_tuple_add_2 _ _)
      (tuple_addW0 t b #[] ws.toArray n n2 dd dd2 sl sl2 rfl) ⟨ho, ho2, h1⟩
def rCat0 (K : PySem.W.Frag) : R2 := fun x y H Q => ∃ a b ys, x = .ref a ∧ y = .ref b ∧ SqT K H a [] ∧ SqT K H b ys ∧ Q (.ref b) H
theorem op_cat0 : OpR X (binaryOp .Add) (rCat0 X.K) := by
  intro pins s σ H x y v u Q I rx ry h
  obtain ⟨a, b, ys, rfl, rfl, ha, hb, q⟩ := h
  cases rx
  cases ry
  obtain ⟨its, r1, p1, _⟩ := I.tuple ha
  obtain ⟨its2, r2, p2, _⟩ := I.tuple hb
  cases r1
  exact cat_tup0 p1 p2 ⟨.ref b, H, I, rfl, q⟩
def rAddD (K : PySem.W.Frag) : R2 := fun x y H Q => rI0 (fun i j => .int (i + j)) x y H Q ∨ rCat0 K x y H Q ∨ rCatT K x y H Q ∨ rCat x y H Q
theorem op_dAdd : OpR X (binaryOp .Add) (rAddD X.K) := op_add.or (op_cat0.or (op_catT.or op_cat))
/-- + of numbers, tuples, lists -/
def dAdd : D → D → Option D
  | .int i, .int j => some (.int (i + j))
  | .tup l, .tup m => if l.length + m.length ≤ most then some (.tup (l ++ m)) else none
  | .lst l, .lst m => if l.length + m.length ≤ most then some (.ol (l ++ m)) else none
  | _, _ => none
theorem sp_dAdd {K : PySem.W.Frag} : Op2 G (rAddD K) dAdd := by
  intro w x y d1 d2 d e r1 r2 Q q
  unfold dAdd at e
  split at e
  · cases e
    cases r1
    cases r2
    exact .inl ⟨_, _, rfl, rfl, q _ w [] (.refl w) (.sh (.int _))⟩
  · rename_i l m
    split at e
    · rename_i hz
      cases e
      cases r1 with
      | tup e1 r1 =>
        cases r2 with
        | tup e2 r2 =>
          rename_i a xs b ys
          by_cases hx : xs = []
          · subst hx
            cases r1
            exact .inr (.inl ⟨a, b, ys, rfl, rfl, .of e1, .of e2, q _ w [] (.refl w) (.sh (.tup e2 r2))⟩)
          · refine .inr (.inr (.inl ⟨a, b, xs, ys, rfl, rfl, .of e1, .of e2, hx, ?_, fun hy => ?_, fun hy p hp => ?_⟩))
            · rw [r1.length, r2.length]; exact Nat.le_trans hz most_line
            · subst hy
              cases r2
              rw [List.append_nil] at q
              exact q _ w [] (.refl w) (.sh (.tup e1 r1))
            · have P := Prim.new (w := w) (o := .tup (xs ++ ys)) hp
              exact q _ _ [] P (.sh (.tup upd_same ((r1.kp P.kp).append (r2.kp P.kp))))
    · cases e
  · rename_i l m
    split at e
    · rename_i hz
      cases e
      cases r1 with
      | lst m1 e1 r1 =>
        cases r2 with
        | lst m2 e2 r2 =>
          rename_i a xs b ys
          refine .inr (.inr (.inr ⟨a, b, xs, ys, rfl, rfl, e1, e2, ?_, fun p hp => ?_⟩))
          · rw [r1.length, r2.length]; exact Nat.le_trans hz most_line
          · have P := Prim.newO (w := w) (o := .lst (xs ++ ys)) hp noTbl_lst
            exact q _ _ [p] P (.ol upd_same (.of ((r1.kp P.kp).append (r2.kp P.kp))))
    · cases e
  · cases e

/-! ### * -/
theorem tuple_mulW1 (l : Addr) (items : Array Value) (n : Nat) (dd : Option Addr) (sl : Array (Option Value)) (u : Tok) :
    Meets (Builtin.«tuple.__mul__» ⟨[.ref l, .int 1 u], []⟩) (fun _ R s => s.heap.get? l = some { cls := .type "tuple", dict := dd, data := .seq items n, slots := sl } ∧ R (.ok (.ret (Value.ref l))) s) :=
  .of_wp fun prog w A R s h => by
    obtain ⟨hp, g, d, tk, os⟩ := s
    obtain ⟨hl, h⟩ := h
    have f1 := AutoSeq1.idx_int
    have c1 : (items.isEmpty || (1 : Int) == 1) = true := by simp
    wp_walk using wpAny_loadPart' hl
    repeat (first
      | (refine wpAny_ite_true (decide_eq_true c1) ?_; wp_walk using wpAny_loadPart' hl))
    exact ⟨_, rfl, h⟩
def rRep1 (K : PySem.W.Frag) : R2 := fun x y H Q => ∃ l xs, x = .ref l ∧ y = .int 1 ∧ SqT K H l xs ∧ Q (.ref l) H
theorem op_rep1 : OpR X (binaryOp .Mult) (rRep1 X.K) := by
  intro pins s σ H x y v u Q I rx ry h
  obtain ⟨l, xs, rfl, rfl, hT, q⟩ := h
  cases rx
  obtain ⟨t, rfl⟩ := ry
  obtain ⟨its, r, ⟨⟨cls, dd, data, sl⟩, ho, hc, n, hd⟩, hs⟩ := I.tuple hT
  simp only at hc hd
  subst hc hd
  exact wpAny_binaryOp_repeat_ref (T := "tuple") (U := "int") (by decide) ⟨_, ho, rfl⟩ (fun s' => typeIs_int s' 1 t) noFill_tuple_mul F.fills_int_mul F.slot_int_rmul repeat_tuple F.slot_int_index.lookup
    (call_meets F.slot_int_rmul (typeIs_int s 1 t) F.entry_int_rmul (F.args_int_rmul_2 _ _) (int_rmul_tuple 1 t l its.toArray n dd sl)
      ⟨ho, rfl, ⟨_, ho, rfl⟩, call_meets F.slot_tuple_mul ⟨_, ho, rfl⟩ F.entry_tuple_mul (F.args_tuple_mul_2 _ _) (tuple_mulW1 l its.toArray n dd sl t) ⟨ho, .ref l, H, I, rfl, q⟩⟩)
end
end On

set_option Elab.async false
set_option linter.all false
set_option maxRecDepth 100000
set_option maxHeartbeats 4000000
/-! On11: operations by values: *, items, cuts, built-ins. -/
namespace On
open PySem PySem.Spec PyProof.Rows L2

section
variable {X : Cx} {G : Gs} {k : Nat} {M : Addr → Prop} {H : Hp}
theorem Reps.rep {vs : List V} {ds : List D} (r : Reps G M H vs ds) : ∀ n : Nat, Reps G M H (List.replicate n vs).flatten (List.replicate n ds).flatten
  | 0 => .nil
  | n + 1 => r.append (Reps.rep r n)
def rMulD (K : PySem.W.Frag) : R2 := fun x y H Q => rI CMul (fun i j => .int (i * j)) x y H Q ∨ rRep1 K x y H Q ∨ rRepT K x y H Q ∨ rRep x y H Q
theorem op_dMul : OpR X (binaryOp .Mult) (rMulD X.K) := op_mul.or (op_rep1.or (op_repT.or op_rep))
/-- * of numbers, a tuple by a number, a list by a number -/
def dMul : D → D → Option D
  | .int i, .int j => if CMul i j then some (.int (i * j)) else none
  | .tup l, .int n => if n = 1 then some (.tup l) else if l ≠ [] ∧ 2 ≤ n ∧ n ≤ 1000 ∧ l.length ≤ 1000 then some (.tup (List.replicate n.toNat l).flatten) else none
  | .lst l, .int n => if -(2 ^ 63) ≤ n ∧ n < 2 ^ 63 ∧ l.length * n.toNat ≤ most then some (.ol (List.replicate n.toNat l).flatten) else none
  | _, _ => none
theorem sp_dMul {K : PySem.W.Frag} : Op2 G (rMulD K) dMul := by
  intro w x y d1 d2 d e r1 r2 Q q
  unfold dMul at e
  split at e
  · split at e
    · rename_i hc
      cases e
      cases r1
      cases r2
      exact .inl ⟨_, _, rfl, rfl, hc, q _ w [] (.refl w) (.sh (.int _))⟩
    · cases e
  · rename_i l n
    split at e
    · rename_i h1
      subst h1
      cases e
      cases r2
      cases r1 with
      | tup e1 r1 => exact .inr (.inl ⟨_, _, rfl, rfl, .of e1, q _ w [] (.refl w) (.sh (.tup e1 r1))⟩)
    · split at e
      · rename_i hc
        cases e
        cases r2
        cases r1 with
        | tup e1 r1 =>
          rename_i a xs
          have hl := r1.length
          refine .inr (.inr (.inl ⟨_, _, _, rfl, rfl, .of e1, fun z => hc.1 ?_, hc.2.1, hc.2.2.1, by rw [hl]; exact hc.2.2.2, fun p hp => ?_⟩))
          · subst z
            cases r1
            rfl
          · have P := Prim.new (w := w) (o := .tup (List.replicate n.toNat xs).flatten) hp
            exact q _ _ [] P (.sh (.tup upd_same ((r1.kp P.kp).rep _)))
      · cases e
  · rename_i l n
    split at e
    · rename_i hc
      cases e
      cases r2
      cases r1 with
      | lst m1 e1 r1 =>
        rename_i a xs
        have hl := r1.length
        refine .inr (.inr (.inr ⟨_, _, _, rfl, rfl, e1, hc.1, hc.2.1, by rw [hl]; exact Nat.le_trans hc.2.2 most_line, fun p hp => ?_⟩))
        have P := Prim.newO (w := w) (o := .lst (List.replicate n.toNat xs).flatten) hp noTbl_lst
        exact q _ _ [p] P (.ol upd_same (.of ((r1.kp P.kp).rep _)))
    · cases e
  · cases e

/-! ### items -/
section
variable {κ : Type} [DecidableEq κ]
def valD (l : List (κ × D)) (k : κ) : Option D := (l.find? fun kv => decide (kv.1 = k)).map (·.2)
def putD (l : List (κ × D)) (k : κ) (v : D) : List (κ × D) := if (l.any fun kv => decide (kv.1 = k)) = true then l.map (fun kv => if kv.1 = k then (kv.1, v) else kv) else l ++ [(k, v)]
end
theorem RepK.val : ∀ {v : List (Key × V)} {d : List (Key × D)}, RepK G M H v d → ∀ k, match valD d k with
    | some x => ∃ y, valV v k = some y ∧ Rep G M H y x
    | none => valV v k = none
  | _, _, .nil, k => rfl
  | _, _, .cons (k := k0) (v := v0) (d := d0) (xs := xs) (ds := ds) r t, k => by
    by_cases e : k0 = k
    · subst e
      have h1 : valD ((k0, d0) :: ds) k0 = some d0 := by simp [valD, List.find?_cons]
      rw [h1]
      exact ⟨v0, valV_pos rfl, r⟩
    · have h1 : valD ((k0, d0) :: ds) k = valD ds k := by simp [valD, List.find?_cons, e]
      rw [h1, valV_neg (p := (k0, v0)) (r := xs) e]
      exact RepK.val t k
theorem RepT.val : ∀ {v : List (List Key × V)} {d : List (List Key × D)}, RepT G M H v d → ∀ k, match valD d k with
    | some x => ∃ y, valV v k = some y ∧ Rep G M H y x
    | none => valV v k = none
  | _, _, .nil, k => rfl
  | _, _, .cons (k := k0) (v := v0) (d := d0) (xs := xs) (ds := ds) r t, k => by
    by_cases e : k0 = k
    · subst e
      have h1 : valD ((k0, d0) :: ds) k0 = some d0 := by simp [valD, List.find?_cons]
      rw [h1]
      exact ⟨v0, valV_pos rfl, r⟩
    · have h1 : valD ((k0, d0) :: ds) k = valD ds k := by simp [valD, List.find?_cons, e]
      rw [h1, valV_neg (p := (k0, v0)) (r := xs) e]
      exact RepT.val t k
/-- a key of a dict -/
def D.key : D → Option Key
  | .int i => some (.inl i)
  | .str x => some (.inr x)
  | _ => none
def keysL : List D → Option (List Key)
  | [] => some []
  | d :: r => match d.key, keysL r with
    | some k, some ks => some (k :: ks)
    | _, _ => none
def D.keyT : D → Option (List Key)
  | .tup l => keysL l
  | _ => none
theorem rep_key {v : V} {d : D} {k : Key} (r : Rep G M H v d) (h : d.key = some k) : v = kV k := by
  cases r <;> simp only [D.key, Option.some.injEq] at h <;> first | (subst h; rfl) | cases h
theorem reps_keys : ∀ {vs : List V} {ds : List D} {ks : List Key}, Reps G M H vs ds → keysL ds = some ks → vs = ks.map kV
  | _, _, _, .nil, h => by simp only [keysL, Option.some.injEq] at h; subst h; rfl
  | _, _, _, .cons (d := d) (ds := ds) r t, h => by
    simp only [keysL] at h
    cases h1 : d.key with
    | none => simp only [h1] at h; cases h
    | some k =>
      cases h2 : keysL ds with
      | none => simp only [h1, h2] at h; cases h
      | some ks =>
        simp only [h1, h2, Option.some.injEq] at h
        subst h
        rw [rep_key r h1, reps_keys t h2]
        rfl
theorem rep_keyT {v : V} {d : D} {ks : List Key} (r : Rep G M H v d) (h : d.keyT = some ks) : ∃ b, v = .ref b ∧ H b = some (.tup (ks.map kV)) := by
  cases r with
  | tup e r =>
    simp only [D.keyT] at h
    rw [reps_keys r h] at e
    exact ⟨_, rfl, e⟩
  | _ => simp only [D.keyT] at h <;> cases h
/-- what a dict holds at a key -/
def dGetK (l : List (Key × D)) (y : D) : Option (Option D) := y.key.map fun k => valD l k
def dGetT (l : List (List Key × D)) (y : D) : Option (Option D) := y.keyT.map fun k => valD l k
def D.get_ : D → D → Option (Option D)
  | .dk l, y => dGetK l y
  | .dt l, y => dGetT l y
  | _, _ => none
def GetOk (G : Gs) (w : Wd) (a : Addr) (y : V) : Option D → Prop
  | some d => ∃ v, DGet w.H a y (some v) ∧ Rep G w.M w.H v d
  | none => DGet w.H a y none
theorem rep_get {w : Wd} {x y : V} {d1 d2 : D} {o : Option D} (h : d1.get_ d2 = some o) (r1 : Rep G w.M w.H x d1) (r2 : Rep G w.M w.H y d2) : ∃ a, x = .ref a ∧ L2.IsD w.H a ∧ GetOk G w a y o := by
  cases r1 with
  | dk m e r =>
    simp only [D.get_, dGetK, Option.map_eq_some_iff] at h
    obtain ⟨k, hk, rfl⟩ := h
    have ey := rep_key r2 hk
    refine ⟨_, rfl, .inl ⟨_, e⟩, ?_⟩
    have q := r.val k
    cases hv : valD _ k with
    | some d =>
      rw [hv] at q
      obtain ⟨v, q1, q2⟩ := q
      exact ⟨v, .inl ⟨_, k, e, ey, q1.symm⟩, q2⟩
    | none =>
      rw [hv] at q
      exact .inl ⟨_, k, e, ey, q.symm⟩
  | dt m e r =>
    simp only [D.get_, dGetT, Option.map_eq_some_iff] at h
    obtain ⟨k, hk, rfl⟩ := h
    obtain ⟨b, ey, eb⟩ := rep_keyT r2 hk
    refine ⟨_, rfl, .inr ⟨_, e⟩, ?_⟩
    have q := r.val k
    cases hv : valD _ k with
    | some d =>
      rw [hv] at q
      obtain ⟨v, q1, q2⟩ := q
      exact ⟨v, .inr ⟨_, k, b, e, ey, eb, q1.symm⟩, q2⟩
    | none =>
      rw [hv] at q
      exact .inr ⟨_, k, b, e, ey, eb, q.symm⟩
  | _ => simp only [D.get_] at h <;> cases h
/-- a dict's item -/
def rDGet : R2 := fun x y H Q => ∃ a v, x = .ref a ∧ DGet H a y (some v) ∧ Q v H
theorem ix_dict (hu : X.A.units + 1 < cLine) : IxR X rDGet := by
  intro value slice pins s σ H x y v u Q I rx ry h hs
  obtain ⟨a, z, rfl, g, q⟩ := h
  cases rx
  exact tail_any (dict_typeIs I g) PySem.F.slot_dict_getitem.lookup (d_getItem hu I g ry fun w' s3 I3 rw' => ⟨z, H, I3, rw', q⟩) hs
def rIxD (K : PySem.W.Frag) : R2 := fun x y H Q => rIxL K x y H Q ∨ rIxT K x y H Q ∨ rDGet x y H Q
theorem op_dIx (hr : Room k X.A) : IxR X (rIxD X.K) := ix_list.or (ix_tup.or (ix_dict (by have := hr.units; omega)))
/-- a[b] -/
def dIx : D → D → Option D
  | .lst l, .int i => atI l i
  | .tup l, .int i => atI l i
  | .dk l, y => (dGetK l y).bind id
  | .dt l, y => (dGetT l y).bind id
  | _, _ => none
theorem reps_at {vs : List V} {ds : List D} {i : Int} {d : D} (r : Reps G M H vs ds) (h : atI ds i = some d) : ∃ v, atI vs i = some v ∧ Rep G M H v d := by
  unfold atI at h ⊢
  rw [r.length]
  cases h1 : ixN ds.length i with
  | none => rw [h1] at h; cases h
  | some j =>
    rw [h1] at h
    exact r.get h
theorem sp_dIx {K : PySem.W.Frag} : Op2 G (rIxD K) dIx := by
  intro w x y d1 d2 d e r1 r2 Q q
  unfold dIx at e
  split at e
  · cases r2
    cases r1 with
    | lst m e1 r1 =>
      obtain ⟨v, h1, h2⟩ := reps_at r1 e
      exact .inl ⟨_, _, _, v, rfl, rfl, .of e1, h1, q v w [] (.refl w) (.sh h2)⟩
  · cases r2
    cases r1 with
    | tup e1 r1 =>
      obtain ⟨v, h1, h2⟩ := reps_at r1 e
      exact .inr (.inl ⟨_, _, _, v, rfl, rfl, .of e1, h1, q v w [] (.refl w) (.sh h2)⟩)
  · rename_i l
    cases h1 : dGetK l d2 with
    | none => rw [h1] at e; cases e
    | some o =>
      rw [h1] at e
      obtain rfl : o = some d := e
      obtain ⟨a, rfl, _, v, g, r⟩ := rep_get (d1 := .dk l) h1 r1 r2
      exact .inr (.inr ⟨a, v, rfl, g, q v w [] (.refl w) (.sh r)⟩)
  · rename_i l
    cases h1 : dGetT l d2 with
    | none => rw [h1] at e; cases e
    | some o =>
      rw [h1] at e
      obtain rfl : o = some d := e
      obtain ⟨a, rfl, _, v, g, r⟩ := rep_get (d1 := .dt l) h1 r1 r2
      exact .inr (.inr ⟨a, v, rfl, g, q v w [] (.refl w) (.sh r)⟩)
  · cases e

/-! ### is None -/
def dIsN : D → D → Option D
  | .non, .non => some (.bl true)
  | .exc _, .non => some (.bl false)
  | .bl _, .non => some (.bl false)
  | .int _, .non => some (.bl false)
  | .str _, .non => some (.bl false)
  | .tup _, .non => some (.bl false)
  | .lst _, .non => some (.bl false)
  | .dk _, .non => some (.bl false)
  | .dt _, .non => some (.bl false)
  | .ins _ _, .non => some (.bl false)
  | _, _ => none
def dNotN (a b : D) : Option D := match dIsN a b with
  | some (.bl k) => some (.bl (!k))
  | _ => none
theorem isN_val {w : Wd} {x y : V} {d1 d2 : D} {b : Bool} (e : dIsN d1 d2 = some (.bl b)) (r1 : Rep G w.M w.H x d1) (r2 : Rep G w.M w.H y d2) : y = .non ∧ decide (x = .non) = b := by
  cases r2 <;> first
    | (cases r1 <;> simp only [dIsN, Option.some.injEq, D.bl.injEq] at e <;> first | (subst e; exact ⟨rfl, by simp⟩) | cases e)
    | (cases r1 <;> simp only [dIsN] at e <;> cases e)
theorem dIsN_bl {a b d : D} (e : dIsN a b = some d) : ∃ k, d = .bl k := by
  unfold dIsN at e
  split at e <;> first | (cases e; exact ⟨_, rfl⟩) | cases e
theorem sp_dIsN : Op2 G (fun x y H Q => y = .non ∧ Q (.bl (decide (x = .non))) H) dIsN := by
  intro w x y d1 d2 d e r1 r2 Q q
  obtain ⟨b, rfl⟩ := dIsN_bl e
  obtain ⟨h1, h2⟩ := isN_val e r1 r2
  refine ⟨h1, ?_⟩
  rw [h2]
  exact q _ w [] (.refl w) (.sh (.bl _))
theorem sp_dNotN : Op2 G (fun x y H Q => y = .non ∧ Q (.bl (!decide (x = .non))) H) dNotN := by
  intro w x y d1 d2 d e r1 r2 Q q
  unfold dNotN at e
  cases h : dIsN d1 d2 with
  | none => rw [h] at e; cases e
  | some d0 =>
    obtain ⟨b, rfl⟩ := dIsN_bl h
    rw [h] at e
    cases e
    obtain ⟨h1, h2⟩ := isN_val h r1 r2
    refine ⟨h1, ?_⟩
    rw [h2]
    exact q _ w [] (.refl w) (.sh (.bl _))
end
end On

set_option Elab.async false
set_option linter.all false
set_option maxRecDepth 100000
set_option maxHeartbeats 4000000
/-! On12: built-ins by values, cuts, in, chains, stars, isinstance. -/
namespace On
open PySem PySem.Spec PyProof.Rows L2

section
variable {X : Cx} {G : Gs} {E : WX} {k : Nat} {M : Addr → Prop} {H : Hp} {a b c e e2 : Expr} {es : List Expr} {pos : Pos} {x xa xb xc : Xx} {y : Ax}
/-! ### a built-in's call -/
def OpN (G : Gs) (r : List V → Hp → VK → Prop) (f : List D → Option D) : Prop := ∀ (w : Wd) (vs : List V) (ds : List D) (d : D), f ds = some d → Reps G w.M w.H vs ds → ∀ Q : VK, (∀ v w' as, Prim w w' as → Own G w'.M w'.H as v d → Q v w'.H) → r vs w.H Q
def xB (f : List D → Option D) (y : Ax) : Xx := fun ρ => match y ρ with
  | .ok ds ρ1 => if shL ds = true then (match f ds with
    | some d => .ok d ρ1
    | none => .no) else .no
  | .ex c ρ1 => .ex c ρ1
  | .no => .no
theorem tD_cb {r : List V → Hp → VK → Prop} {f : List D → Option D} (hf : OpN G r f) (σ : Sl) (H : Hp) (Q : VK) (q : tD G E (xB f y) σ H Q) : tCB r (tDA G E y) σ H Q := by
  obtain ⟨w, ρ, T, rfl, er, q⟩ := q
  refine ⟨w, ρ, T, rfl, er, ?_⟩
  unfold xB at q
  cases h1 : y ρ with
  | ex c ρ1 =>
    simp only [h1] at q
    exact q
  | no => simp only [h1] at q
  | ok ds ρ1 =>
    simp only [h1] at q
    intro vs w1 as g1 er1 o1
    by_cases hs : shL ds = true
    · rw [if_pos hs] at q
      obtain ⟨rfl, r⟩ := o1.reps hs
      cases hd : f ds with
      | none => simp only [hd] at q
      | some d =>
        simp only [hd] at q
        exact hf w1 vs ds d hd r Q fun v w3 as p o => q v w3 as (g1.trans (p.go er1)) (er1.prim p) o
    · rw [if_neg hs] at q
      exact q.elim
theorem ed_cb {r : List V → Hp → VK → Prop} {f : List D → Option D} {id : String} {n : Str} {p : Pos} (hc : CallR X (.builtin id) r) (hf : OpN G r f) (hg : Gl X n) (hm : X.mg n = none) (hv : bootBuiltins n = some (.builtin id)) (ha : PA X (e :: es) (tDA G E y)) (hn : n ≠ "__name__" := by decide) (hdb : (n == ("__debug__" : Str)) = false := by decide)
    (he : starEach (e :: es) X.env = (false, eval e X.env) :: starEach es X.env := by rfl) (hpl : (backTo pos (starEach es X.env)).any (·.1) = false := by rfl) : PE X (.Call (.Name n p) (e :: es) [] pos) (tD G E (xB f y)) :=
  (pe_callB hc hg hm hv ha hn hdb he hpl).imp (tD_cb hf)
theorem ed_ct {r : List V → Hp → VK → Prop} {f : List D → Option D} {id : String} {n : Str} {p : Pos} (hc : CallR X (.type id) r) (hf : OpN G r f) (hg : Gl X n) (hm : X.mg n = none) (hv : bootBuiltins n = some (.type id)) (ha : PA X (e :: es) (tDA G E y)) (hn : n ≠ "__name__" := by decide) (hdb : (n == ("__debug__" : Str)) = false := by decide)
    (he : starEach (e :: es) X.env = (false, eval e X.env) :: starEach es X.env := by rfl) (hpl : (backTo pos (starEach es X.env)).any (·.1) = false := by rfl) : PE X (.Call (.Name n p) (e :: es) [] pos) (tD G E (xB f y)) :=
  (pe_callTy hc hg hm hv ha hn hdb he hpl).imp (tD_cb hf)
def dLen : List D → Option D
  | [.tup l] => some (.int l.length)
  | [.lst l] => some (.int l.length)
  | _ => none
theorem sp_dLen {K : PySem.W.Frag} : OpN G (fun xs H Q => ∃ p ys, xs = [.ref p] ∧ (SqL K H p ys ∨ SqT K H p ys) ∧ Q (.int ys.length) H) dLen := by
  intro w vs ds d e r Q q
  unfold dLen at e
  split at e
  · cases e
    cases r with
    | cons r rr =>
      cases rr
      cases r with
      | tup e1 r1 => exact ⟨_, _, rfl, .inr (.of e1), by rw [r1.length]; exact q _ w [] (.refl w) (.sh (.int _))⟩
  · cases e
    cases r with
    | cons r rr =>
      cases rr
      cases r with
      | lst m e1 r1 => exact ⟨_, _, rfl, .inl (.of e1), by rw [r1.length]; exact q _ w [] (.refl w) (.sh (.int _))⟩
  · cases e
def dAbs : List D → Option D
  | [.int i] => some (.int (if i < 0 then -i else i))
  | _ => none
theorem sp_dAbs : OpN G (fun xs H Q => ∃ i, xs = [.int i] ∧ Q (.int (if i < 0 then -i else i)) H) dAbs := by
  intro w vs ds d e r Q q
  unfold dAbs at e
  split at e
  · cases e
    cases r with
    | cons r rr =>
      cases rr
      cases r
      exact ⟨_, rfl, q _ w [] (.refl w) (.sh (.int _))⟩
  · cases e
def dInt : List D → Option D
  | [.int i] => some (.int i)
  | [.bl k] => some (.int (if k then 1 else 0))
  | _ => none
theorem sp_dInt : OpN G (fun xs H Q => (∃ i, xs = [.int i] ∧ Q (.int i) H) ∨ ∃ k, xs = [.bl k] ∧ Q (.int (if k then 1 else 0)) H) dInt := by
  intro w vs ds d e r Q q
  unfold dInt at e
  split at e
  · cases e
    cases r with
    | cons r rr =>
      cases rr
      cases r
      exact .inl ⟨_, rfl, q _ w [] (.refl w) (.sh (.int _))⟩
  · cases e
    cases r with
    | cons r rr =>
      cases rr
      cases r
      exact .inr ⟨_, rfl, q _ w [] (.refl w) (.sh (.int _))⟩
  · cases e
def blsL : List D → Option (List Bool)
  | [] => some []
  | .bl b :: r => (blsL r).map (b :: ·)
  | _ => none
theorem reps_bls : ∀ {vs : List V} {ds : List D} {bs : List Bool}, Reps G M H vs ds → blsL ds = some bs → vs = bs.map V.bl
  | _, _, _, .nil, e => by simp only [blsL, Option.some.injEq] at e; subst e; rfl
  | _, _, _, .cons r t, e => by
    cases r with
    | bl b =>
      simp only [blsL, Option.map_eq_some_iff] at e
      obtain ⟨bs, e, rfl⟩ := e
      rw [reps_bls t e]
      rfl
    | _ => simp only [blsL] at e <;> cases e
def dAll : List D → Option D
  | [.lst l] => (blsL l).map fun bs => .bl (bs.all id)
  | _ => none
theorem sp_dAll {K : PySem.W.Frag} : OpN G (rAll K) dAll := by
  intro w vs ds d e r Q q
  unfold dAll at e
  split at e
  · rename_i l
    cases h : blsL l with
    | none => rw [h] at e; cases e
    | some bs =>
      rw [h] at e
      cases e
      cases r with
      | cons r rr =>
        cases rr
        cases r with
        | lst m e1 r1 =>
          rw [reps_bls r1 h] at e1
          exact ⟨_, bs, rfl, .of e1, q _ w [] (.refl w) (.sh (.bl _))⟩
  · cases e
def dAny : List D → Option D
  | [.lst l] => (blsL l).map fun bs => .bl (bs.any id)
  | _ => none
theorem sp_dAny {K : PySem.W.Frag} : OpN G (rAny K) dAny := by
  intro w vs ds d e r Q q
  unfold dAny at e
  split at e
  · rename_i l
    cases h : blsL l with
    | none => rw [h] at e; cases e
    | some bs =>
      rw [h] at e
      cases e
      cases r with
      | cons r rr =>
        cases rr
        cases r with
        | lst m e1 r1 =>
          rw [reps_bls r1 h] at e1
          exact ⟨_, bs, rfl, .of e1, q _ w [] (.refl w) (.sh (.bl _))⟩
  · cases e
def dTuple : List D → Option D
  | [.tup l] => some (.tup l)
  | [.lst l] => some (.tup l)
  | _ => none
theorem sp_dTuple {K : PySem.W.Frag} : OpN G (fun xs H Q => ∃ p ys, xs = [.ref p] ∧ ((SqL K H p ys ∧ ∀ l, H l = none → Q (.ref l) (upd H l (.tup ys))) ∨ (SqT K H p ys ∧ Q (.ref p) H))) dTuple := by
  intro w vs ds d e r Q q
  unfold dTuple at e
  split at e
  · cases e
    cases r with
    | cons r rr =>
      cases rr
      cases r with
      | tup e1 r1 => exact ⟨_, _, rfl, .inr ⟨.of e1, q _ w [] (.refl w) (.sh (.tup e1 r1))⟩⟩
  · cases e
    cases r with
    | cons r rr =>
      cases rr
      cases r with
      | lst m e1 r1 =>
        refine ⟨_, _, rfl, .inl ⟨.of e1, fun p hp => ?_⟩⟩
        rename_i a xs
        have P := Prim.new (w := w) (o := .tup xs) hp
        exact q _ _ [] P (.sh (.tup upd_same (r1.kp P.kp)))
  · cases e
def dList : List D → Option D
  | [.tup l] => some (.ol l)
  | [.lst l] => some (.ol l)
  | _ => none
theorem sp_dList {K : PySem.W.Frag} : OpN G (fun xs H Q => ∃ p ys, xs = [.ref p] ∧ (SqL K H p ys ∨ SqT K H p ys) ∧ ∀ l, H l = none → Q (.ref l) (upd H l (.lst ys))) dList := by
  intro w vs ds d e r Q q
  unfold dList at e
  split at e
  · cases e
    cases r with
    | cons r rr =>
      cases rr
      cases r with
      | tup e1 r1 =>
        rename_i a xs
        refine ⟨_, _, rfl, .inr (.of e1), fun p hp => ?_⟩
        have P := Prim.newO (w := w) (o := .lst xs) hp noTbl_lst
        exact q _ _ [p] P (.ol upd_same (.of (r1.kp P.kp)))
  · cases e
    cases r with
    | cons r rr =>
      cases rr
      cases r with
      | lst m e1 r1 =>
        rename_i a xs
        refine ⟨_, _, rfl, .inl (.of e1), fun p hp => ?_⟩
        have P := Prim.newO (w := w) (o := .lst xs) hp noTbl_lst
        exact q _ _ [p] P (.ol upd_same (.of (r1.kp P.kp)))
  · cases e

/-! ### cuts -/
def cutD (xs : List D) (lo hi : Option Int) : List D := (xs.drop (HT.sIx xs.length 0 lo)).take (HT.sIx xs.length xs.length hi - HT.sIx xs.length 0 lo)
theorem Reps.cut {vs : List V} {ds : List D} (r : Reps G M H vs ds) (lo hi : Option Int) : Reps G M H (cutV vs lo hi) (cutD ds lo hi) := by
  unfold cutV cutD
  rw [r.length]
  exact (r.drop _).take _
/-- an end of a cut -/
def xPart (x : Option Xx) : Rho → Option (Option Int × Rho) := fun ρ => match x with
  | none => some (none, ρ)
  | some x => match x ρ with
    | .ok (.int i) ρ1 => some (some i, ρ1)
    | _ => none
def tDO (G : Gs) (x : Option Xx) : TO := fun σ H Q => ∃ w ρ T, w.H = H ∧ EnvR G w σ ρ T ∧ match xPart x ρ with
  | some (o, ρ') => ∀ w', Go G T w w' → EnvR G w' σ ρ' T → Q o w'.H
  | none => False
theorem eo_none : PO X none (tDO G none) := ⟨fun pins s σ H Q I q => by
  obtain ⟨w, ρ, T, rfl, er, q⟩ := q
  exact (po_none (X := X)).run pins s σ w.H Q I (q w (.refl T w) er)⟩
theorem eo_some (h : PE X e (tD G E x)) : PO X (some e) (tDO G (some x)) := ⟨fun pins s σ H Q I q => by
  refine (po_some h).run pins s σ H Q I ?_
  obtain ⟨w, ρ, T, rfl, er, q⟩ := q
  refine ⟨w, ρ, T, rfl, er, ?_⟩
  unfold xPart at q
  cases h1 : x ρ with
  | ex c ρ1 => simp only [h1] at q
  | no => simp only [h1] at q
  | ok d ρ1 =>
    simp only [h1] at q
    intro v w1 as g1 er1 o1
    cases d with
    | int i =>
      simp only at q
      obtain ⟨rfl, r⟩ := o1.rep rfl
      cases r
      exact ⟨i, rfl, q w1 g1 er1⟩
    | _ => simp only at q⟩
def xCut (f : D → Option Int → Option Int → Option D) (x : Xx) (lo hi : Option Xx) : Xx := fun ρ => match x ρ with
  | .ok d ρ1 => if d.sh = true then (match xPart lo ρ1 with
    | some (l, ρ2) => (match xPart hi ρ2 with
      | some (u, ρ3) => (match f d l u with
        | some r => .ok r ρ3
        | none => .no)
      | none => .no)
    | none => .no) else .no
  | .ex c ρ1 => .ex c ρ1
  | .no => .no
def OpS (G : Gs) (r : V → Option Int → Option Int → Hp → VK → Prop) (f : D → Option Int → Option Int → Option D) : Prop := ∀ (w : Wd) (x : V) (d1 d : D) (lo hi : Option Int), f d1 lo hi = some d → Rep G w.M w.H x d1 → ∀ Q : VK, (∀ v w' as, Prim w w' as → Own G w'.M w'.H as v d → Q v w'.H) → r x lo hi w.H Q
theorem ed_cut {r : V → Option Int → Option Int → Hp → VK → Prop} {f : D → Option Int → Option Int → Option D} {lo hi : Option Expr} {xl xh : Option Xx} {p2 : Pos} (hr : SlR X r) (hf : OpS G r f) (he : PE X e (tD G E x)) (hl : PO X lo (tDO G xl)) (hh : PO X hi (tDO G xh)) : PE X (.Subscript e (.Slice lo hi none p2) pos) (tD G E (xCut f x xl xh)) := by
  refine (pe_slice hr he hl hh).imp fun σ H Q q => ?_
  obtain ⟨w, ρ, T, rfl, er, q⟩ := q
  refine ⟨w, ρ, T, rfl, er, ?_⟩
  unfold xCut at q
  cases h1 : x ρ with
  | ex c ρ1 => simp only [h1] at q; exact q
  | no => simp only [h1] at q
  | ok d ρ1 =>
    simp only [h1] at q
    intro v w1 as g1 er1 o1
    by_cases hs : d.sh = true
    · rw [if_pos hs] at q
      obtain ⟨rfl, r1⟩ := o1.rep hs
      refine ⟨w1, ρ1, T, rfl, er1, ?_⟩
      cases h2 : xPart xl ρ1 with
      | none => simp only [h2] at q
      | some z =>
        obtain ⟨l, ρ2⟩ := z
        simp only [h2] at q
        intro w2 g2 er2
        refine ⟨w2, ρ2, T, rfl, er2, ?_⟩
        cases h3 : xPart xh ρ2 with
        | none => simp only [h3] at q
        | some z =>
          obtain ⟨u, ρ3⟩ := z
          simp only [h3] at q
          intro w3 g3 er3
          cases h4 : f d l u with
          | none => simp only [h4] at q
          | some d' =>
            simp only [h4] at q
            exact hf w3 v d d' l u h4 ((r1.kp (g2.le.kp er1.sub)).kp (g3.le.kp er2.sub)) Q fun v w4 as p o => q v w4 as (((g1.trans g2).trans g3).trans (p.go er3)) (er3.prim p) o
    · rw [if_neg hs] at q
      exact q.elim
def rCutD (K : PySem.W.Frag) : V → Option Int → Option Int → Hp → VK → Prop := fun x lo hi H Q => rSlT K x lo hi H Q ∨ rSlL K x lo hi H Q
theorem sl_dCut : SlR X (rCutD X.K) := sl_tup.or sl_list
/-- a cut of a list; of a tuple, not the whole of it -/
def dCut : D → Option Int → Option Int → Option D
  | .tup l, lo, hi => if HT.sIx l.length 0 lo = 0 ∧ HT.sIx l.length l.length hi = l.length then none else some (.tup (cutD l lo hi))
  | .lst l, lo, hi => some (.ol (cutD l lo hi))
  | _, _, _ => none
theorem sp_dCut {K : PySem.W.Frag} : OpS G (rCutD K) dCut := by
  intro w x d1 d lo hi e r1 Q q
  unfold dCut at e
  split at e
  · split at e
    · cases e
    · rename_i hn
      cases e
      cases r1 with
      | tup e1 r1 =>
        rename_i a xs
        have hl := r1.length
        refine .inl ⟨_, xs, rfl, .of e1, by rw [hl]; exact hn, fun p hp => ?_⟩
        have P := Prim.new (w := w) (o := .tup (cutV xs lo hi)) hp
        exact q _ _ [] P (.sh (.tup upd_same ((r1.kp P.kp).cut _ _)))
  · cases e
    cases r1 with
    | lst m1 e1 r1 =>
      rename_i a xs
      refine .inr ⟨_, xs, rfl, .of e1, fun p hp => ?_⟩
      have P := Prim.newO (w := w) (o := .lst (cutV xs lo hi)) hp noTbl_lst
      exact q _ _ [p] P (.ol upd_same (.of ((r1.kp P.kp).cut _ _)))
  · cases e

/-! ### in: flat items -/
def D.fla : D → Option V
  | .non => some .non
  | .bl b => some (.bl b)
  | .int i => some (.int i)
  | .str x => some (.str x)
  | _ => none
def flL : List D → Option (List V)
  | [] => some []
  | d :: r => match d.fla, flL r with
    | some v, some vs => some (v :: vs)
    | _, _ => none
theorem rep_fl {v : V} {d : D} {u : V} (r : Rep G M H v d) (h : d.fla = some u) : v = u ∧ flatV v = true := by
  cases r <;> simp only [D.fla, Option.some.injEq] at h <;> first | (subst h; exact ⟨rfl, rfl⟩) | cases h
theorem reps_fl : ∀ {vs : List V} {ds : List D} {us : List V}, Reps G M H vs ds → flL ds = some us → vs = us ∧ vs.all flatV = true
  | _, _, _, .nil, h => by simp only [flL, Option.some.injEq] at h; subst h; exact ⟨rfl, rfl⟩
  | _, _, _, .cons (d := d) (ds := ds) r t, h => by
    simp only [flL] at h
    cases h1 : d.fla with
    | none => simp only [h1] at h; cases h
    | some u =>
      cases h2 : flL ds with
      | none => simp only [h1, h2] at h; cases h
      | some us =>
        simp only [h1, h2, Option.some.injEq] at h
        subst h
        obtain ⟨e1, f1⟩ := rep_fl r h1
        obtain ⟨e2, f2⟩ := reps_fl t h2
        exact ⟨by rw [e1, e2], by rw [List.all_cons, f1, f2] <;> rfl⟩
def inD (a b : D) : Option Bool := match a.fla, b.seq with
  | some u, some l => (flL l).map fun us => inV u us
  | _, _ => none
def dIn (a b : D) : Option D := (inD a b).map .bl
def dNotIn (a b : D) : Option D := (inD a b).map fun k => .bl (!k)
theorem inD_val {K : PySem.W.Frag} {w : Wd} {x y : V} {d1 d2 : D} {b : Bool} (e : inD d1 d2 = some b) (r1 : Rep G w.M w.H x d1) (r2 : Rep G w.M w.H y d2) : ∃ p xs, y = .ref p ∧ (SqL K w.H p xs ∨ SqT K w.H p xs) ∧ flatV x = true ∧ xs.all flatV = true ∧ inV x xs = b := by
  unfold inD at e
  cases h1 : d1.fla with
  | none => simp only [h1] at e; cases e
  | some u =>
    cases h2 : d2.seq with
    | none => simp only [h1, h2] at e; cases e
    | some l =>
      simp only [h1, h2, Option.map_eq_some_iff] at e
      obtain ⟨us, h3, rfl⟩ := e
      obtain ⟨rfl, f1⟩ := rep_fl r1 h1
      obtain ⟨k, a, xs, rfl, s⟩ := rep_seq h2 r2
      obtain ⟨rfl, f2⟩ := reps_fl s.reps h3
      refine ⟨a, xs, rfl, ?_, f1, f2, rfl⟩
      have sq := SqR.sq (K := K) s
      cases k with
      | l => exact .inl sq
      | t => exact .inr sq
theorem sp_dIn {K : PySem.W.Frag} : Op2 G (rIn K false) dIn := by
  intro w x y d1 d2 d e r1 r2 Q q
  unfold dIn at e
  cases h : inD d1 d2 with
  | none => rw [h] at e; cases e
  | some b =>
    rw [h] at e
    cases e
    obtain ⟨p, xs, rfl, hs, f1, f2, rfl⟩ := inD_val (K := K) h r1 r2
    exact ⟨p, xs, rfl, hs, f1, f2, q _ w [] (.refl w) (.sh (.bl _))⟩
theorem sp_dNotIn {K : PySem.W.Frag} : Op2 G (rIn K true) dNotIn := by
  intro w x y d1 d2 d e r1 r2 Q q
  unfold dNotIn at e
  cases h : inD d1 d2 with
  | none => rw [h] at e; cases e
  | some b =>
    rw [h] at e
    cases e
    obtain ⟨p, xs, rfl, hs, f1, f2, rfl⟩ := inD_val (K := K) h r1 r2
    exact ⟨p, xs, rfl, hs, f1, f2, q _ w [] (.refl w) (.sh (.bl _))⟩

/-! ### chains -/
def xChain (f g : D → D → Option D) (xa xb xc : Xx) : Xx := fun ρ => match xa ρ with
  | .ok d1 ρ1 => (match xb ρ1 with
    | .ok d2 ρ2 => if d1.sh = true ∧ d2.sh = true then (match f d1 d2 with
      | some (.bl false) => .ok (.bl false) ρ2
      | some (.bl true) => (match xc ρ2 with
        | .ok d3 ρ3 => if d3.sh = true then (match g d2 d3 with
          | some d => .ok d ρ3
          | none => .no) else .no
        | .ex c ρ3 => .ex c ρ3
        | .no => .no)
      | _ => .no) else .no
    | .ex c ρ2 => .ex c ρ2
    | .no => .no)
  | .ex c ρ1 => .ex c ρ1
  | .no => .no
theorem tD_chain {r r' : R2} {f g : D → D → Option D} (hf : Op2 G r f) (hg : Op2 G r' g) (σ : Sl) (H : Hp) (Q : VK) (q : tD G E (xChain f g xa xb xc) σ H Q) : tChain r r' (tD G E xa) (tD G E xb) (tD G E xc) σ H Q := by
  obtain ⟨w, ρ, T, rfl, er, q⟩ := q
  refine ⟨w, ρ, T, rfl, er, ?_⟩
  unfold xChain at q
  cases h1 : xa ρ with
  | ex c ρ1 => simp only [h1] at q; exact q
  | no => simp only [h1] at q
  | ok d1 ρ1 =>
    simp only [h1] at q
    intro v1 w1 as1 g1 er1 o1
    refine ⟨w1, ρ1, as1 ++ T, rfl, er1, ?_⟩
    cases h2 : xb ρ1 with
    | ex c ρ2 => simp only [h2] at q; exact fun w2 g2 er2 => q w2 (g1.trans g2.less) er2.less
    | no => simp only [h2] at q
    | ok d2 ρ2 =>
      simp only [h2] at q
      intro v2 w2 as2 g2 er2 o2
      by_cases hs : d1.sh = true ∧ d2.sh = true
      · rw [if_pos hs] at q
        obtain ⟨e1, r1⟩ := o1.rep hs.1
        obtain ⟨e2, r2⟩ := o2.rep hs.2
        subst e1 e2
        have r1' := r1.kp (g2.le.kp er1.sub)
        cases h3 : f d1 d2 with
        | none => simp only [h3] at q
        | some d =>
          cases d with
          | bl k =>
            refine hf w2 v1 v2 d1 d2 _ h3 r1' r2 _ fun z w3 as p o => ?_
            obtain ⟨rfl, rz⟩ := o.rep rfl
            cases rz
            have er3 := er2.prim0 p
            have g3 := (g1.trans g2).trans (p.go er2)
            refine ⟨k, rfl, ?_⟩
            cases k with
            | false =>
              simp only [h3] at q
              rw [if_neg (by decide)]
              exact q _ w3 [] g3 er3 (.sh (.bl _))
            | true =>
              simp only [h3] at q
              rw [if_pos rfl]
              refine ⟨w3, ρ2, T, rfl, er3, ?_⟩
              cases h4 : xc ρ2 with
              | ex c ρ3 => simp only [h4] at q; exact fun w4 g4 er4 => q w4 (g3.trans g4) er4
              | no => simp only [h4] at q
              | ok d3 ρ3 =>
                simp only [h4] at q
                intro v3 w4 as4 g4 er4 o3
                by_cases hs3 : d3.sh = true
                · rw [if_pos hs3] at q
                  obtain ⟨rfl, r3⟩ := o3.rep hs3
                  cases h5 : g d2 d3 with
                  | none => simp only [h5] at q
                  | some d =>
                    simp only [h5] at q
                    refine hg w4 v2 v3 d2 d3 d h5 ((r2.kp p.kp).kp (g4.le.kp er3.sub)) r3 Q fun v w5 as p5 o5 => ?_
                    exact q v w5 as ((g3.trans g4).trans (p5.go er4)) (er4.prim p5) o5
                · rw [if_neg hs3] at q
                  exact q.elim
          | _ => simp only [h3] at q
      · rw [if_neg hs] at q
        exact q.elim
theorem ed_chain {op op' : CmpOp} {r r' : R2} {f g : D → D → Option D} (ho : OpR X (compareOp op) r) (ho' : OpR X (compareOp op') r') (hf : Op2 G r f) (hg : Op2 G r' g) (ha : PE X a (tD G E xa)) (hb : PE X b (tD G E xb)) (hc : PE X c (tD G E xc))
    (hm : lastMarks [op, op'] [b, c] = false := by with_unfolding_all rfl) : PE X (.Compare a [op, op'] [b, c] pos) (tD G E (xChain f g xa xb xc)) := (pe_chain ho ho' ha hb hc hm).imp (tD_chain hf hg)
theorem et_chain {op op' : CmpOp} {r r' : R2} {f g : D → D → Option D} (ho : OpR X (compareOp op) r) (ho' : OpR X (compareOp op') r') (hf : Op2 G r f) (hg : Op2 G r' g) (ha : PE X a (tD G E xa)) (hb : PE X b (tD G E xb)) (hc : PE X c (tD G E xc))
    (hm : lastMarks [op, op'] [b, c] = false := by with_unfolding_all rfl) : PT X (.Compare a [op, op'] [b, c] pos) (tDB G E (toB (xChain f g xa xb xc))) :=
  et_tB (t := tChain r r' (tD G E xa) (tD G E xb) (tD G E xc)) (pt_chain ho ho' ha hb hc hm) (tD_chain hf hg)

/-! ### stars in displays -/
def aStar (x : Xx) (y : Ax) : Ax := fun ρ => match x ρ with
  | .ok d ρ1 => (match d.seq with
    | some l => (match y ρ1 with
      | .ok ds ρ2 => .ok (l ++ ds) ρ2
      | .ex c ρ2 => .ex c ρ2
      | .no => .no)
    | none => .no)
  | .ex c ρ1 => .ex c ρ1
  | .no => .no
theorem OwnL.pre {vs us : List V} {ds es : List D} {as : List Addr} : ∀ {vs : List V} {ds : List D}, Reps G M H vs ds → OwnL G M H as us es → OwnL G M H as (vs ++ us) (ds ++ es)
  | _, _, .nil, o => o
  | _, _, .cons r t, o => .cons (as := []) (.sh r) (OwnL.pre (vs := us) (ds := es) t o)
theorem ea_star {p : Pos} (he : PE X e (tD G E x)) (hr : PA X es (tDA G E y)) (hs : starEach (.Starred e p :: es) X.env = (true, eval e X.env) :: starEach es X.env := by rfl) : PA X (.Starred e p :: es) (tDA G E (aStar x y)) := by
  refine (StX.pa_star he hr hs).imp fun σ H Q q => ?_
  obtain ⟨w, ρ, T, rfl, er, q⟩ := q
  refine ⟨w, ρ, T, rfl, er, ?_⟩
  unfold aStar at q
  cases h1 : x ρ with
  | ex c ρ1 => simp only [h1] at q; exact q
  | no => simp only [h1] at q
  | ok d ρ1 =>
    simp only [h1] at q
    intro v1 w1 as1 g1 er1 o1
    cases h2 : d.seq with
    | none => simp only [h2] at q
    | some l =>
      simp only [h2] at q
      obtain ⟨rfl, r1⟩ := o1.rep (seq_sh h2)
      obtain ⟨k, a, xs, rfl, s⟩ := rep_seq h2 r1
      refine ⟨a, xs, rfl, ?_, w1, ρ1, T, rfl, er1, ?_⟩
      · have sq := SqR.sq (K := X.K) s
        cases k with
        | l => exact .inr sq
        | t => exact .inl sq
      · cases h3 : y ρ1 with
        | ex c ρ2 => simp only [h3] at q; exact fun w2 g2 er2 => q w2 (g1.trans g2) er2
        | no => simp only [h3] at q
        | ok ds ρ2 =>
          simp only [h3] at q
          intro vs w2 as2 g2 er2 o2
          exact q _ w2 as2 (g1.trans g2) er2 (OwnL.pre (vs := vs) (ds := ds) (s.reps.kp (g2.le.kp er1.sub)) o2)
end
end On

set_option Elab.async false
set_option linter.all false
set_option maxRecDepth 100000
set_option maxHeartbeats 4000000
/-! On13: reads of names, fields, dict displays, get, isinstance. -/
namespace On
open PySem PySem.Spec PyProof.Rows L2

section
variable {G : Gs} {w : Wd} {σ : Sl} {ρ : Rho} {T as : List Addr} {v : V} {d : D}
/-- what is owned by no name is shared from now on -/
theorem EnvR.fz (er : EnvR G w σ ρ (as ++ T)) (o : Own G w.M w.H as v d) : ∃ w', w'.H = w.H ∧ Go G T w w' ∧ EnvR G w' σ ρ T ∧ Rep G w'.M w'.H v d.fz := by
  obtain ⟨bs, e1, e2, e3⟩ := er.ex
  have hC : ∀ a ∈ as, w.C a := fun a ha => (e3 a (List.mem_append_right _ (List.mem_append_left _ ha))).1
  have le : Le G w ⟨w.H, fun a => w.M a ∧ a ∉ as, fun a => w.C a ∧ a ∉ as⟩ :=
    ⟨fun _ _ _ _ e => .inl e, fun _ _ e => e, fun _ _ e => e, fun a h => .inl h.1, fun a h _ => by
      by_cases z : a ∈ as
      · exact .inr (hC a z)
      · exact .inl ⟨h, z⟩, fun a h => .inl h.1, fun _ h => h, fun h => h⟩
  have dj : ∀ a ∈ bs ++ T, a ∉ as := fun a ha z => by
    rcases List.mem_append.mp ha with y | y
    · exact (List.nodup_append.mp e2).2.2 a y a (List.mem_append_left _ z) rfl
    · exact (List.nodup_append.mp (List.nodup_append.mp e2).2.1).2.2 a z a y rfl
  refine ⟨⟨w.H, fun a => w.M a ∧ a ∉ as, fun a => w.C a ∧ a ∉ as⟩, rfl, ⟨le, fun _ _ => rfl⟩, ⟨⟨bs, e1.kp (kp_less fun a h => h.1) (fun _ _ => rfl), ?_, fun a ha => ?_⟩, fun a h => ⟨er.sub a h.1, h.2⟩, er.tb⟩, o.fz (fun a h => h.1) fun a ha z => z.2 ha⟩
  · exact (List.Sublist.append_left (List.sublist_append_right _ _) bs).nodup e2
  · have ha' : a ∈ bs ++ (as ++ T) := (List.Sublist.append_left (List.sublist_append_right as T) bs).subset ha
    exact ⟨⟨(e3 a ha').1, dj a ha⟩, (e3 a ha').2⟩
end

section
variable {X : Cx} {G : Gs} {E : WX} {k : Nat} {M : Addr → Prop} {H : Hp} {a b c e e2 : Expr} {es : List Expr} {pos : Pos} {x xa xb xc : Xx} {y : Ax}
/-- the name's datum is taken; the name is not used again -/
def xMv (i : Nat) : Xx := fun ρ => match ρ[i]? with
  | some (some d) => .ok d (ρ.set i none)
  | _ => .no
theorem ed_mv {i : Nat} {n : Str} (hN : X.N[i]? = some n) (hv : Vis X.env.scope n) (hd : (n == ("__debug__" : Str)) = false := by decide) (hcd : (n == ("__classdict__" : Str)) = false := by decide) : PE X (.Name n pos) (tD G E (xMv i)) := by
  refine (pe_var hN hv hd hcd).imp fun σ H Q q => ?_
  obtain ⟨w, ρ, T, rfl, er, q⟩ := q
  unfold xMv at q
  cases h1 : ρ[i]? with
  | none => simp only [h1] at q
  | some o =>
    cases o with
    | none => simp only [h1] at q
    | some d =>
      simp only [h1] at q
      obtain ⟨v, bs, hs, ov, er2⟩ := er.out h1
      exact ⟨v, hs, q v w bs (.refl T w) er2 ov⟩
/-- the name's datum is shared from now on -/
def xVz (i : Nat) : Xx := fun ρ => match ρ[i]? with
  | some (some d) => .ok d.fz (ρ.set i (some d.fz))
  | _ => .no
theorem ed_vz {i : Nat} {n : Str} (hN : X.N[i]? = some n) (hv : Vis X.env.scope n) (hd : (n == ("__debug__" : Str)) = false := by decide) (hcd : (n == ("__classdict__" : Str)) = false := by decide) : PE X (.Name n pos) (tD G E (xVz i)) := by
  refine (pe_var hN hv hd hcd).imp fun σ H Q q => ?_
  obtain ⟨w, ρ, T, rfl, er, q⟩ := q
  unfold xVz at q
  cases h1 : ρ[i]? with
  | none => simp only [h1] at q
  | some o =>
    cases o with
    | none => simp only [h1] at q
    | some d =>
      simp only [h1] at q
      obtain ⟨v, bs, hs, ov, er2⟩ := er.out h1
      obtain ⟨w', eH, g, er3, r⟩ := er2.fz ov
      refine ⟨v, hs, ?_⟩
      have er4 : EnvR G w' σ ((ρ.set i none).set i (some d.fz)) T := EnvR.in_ (bs := []) er3 hs (.sh r)
      rw [List.set_set] at er4
      have := q v w' [] g er4 (.sh r)
      rw [eH] at this
      exact this

/-! ### fields -/
def dFld (C f : Str) : D → Option D
  | .ins c l => if c = C then l.lookup f else none
  | _ => none
theorem RepF.get {f : Str} : ∀ {vs : List (Str × V)} {ds : List (Str × D)} {d : D}, RepF G M H vs ds → ds.lookup f = some d → ∃ v, vs.lookup f = some v ∧ Rep G M H v d
  | _, _, _, .nil, h => by simp at h
  | _, _, d, .cons (k := k0) (v := v0) (d := d0) r t, h => by
    by_cases e : f = k0
    · subst e
      rw [List.lookup_cons_self] at h
      cases h
      exact ⟨v0, List.lookup_cons_self, r⟩
    · have e' : (f == k0) = false := beq_eq_false_iff_ne.mpr e
      rw [List.lookup_cons, e'] at h
      obtain ⟨v, h1, h2⟩ := RepF.get (f := f) (d := d) t h
      exact ⟨v, by rw [List.lookup_cons, e']; exact h1, h2⟩
theorem ed_fld {C f : Str} (c : Cls X.K (G C)) (n : NoAttr X.K (G C) f) (he : PE X e (tD G E x)) (hb : attributeBase e f X.env (eval e X.env) = eval e X.env := by rfl) : PE X (.Attribute e f pos) (tD G E (xUn (dFld C f) x)) := by
  refine (pe_fld he hb).imp fun σ H Q q => ?_
  refine tD_un (r := fun x1 H1 Q => ∃ a C dx fs v, x1 = .ref a ∧ H1 a = some (.ins C dx fs) ∧ Cls X.K C ∧ NoAttr X.K C f ∧ fs.lookup f = some v ∧ Q v H1) (fun w x1 d1 d hd r Q' q' => ?_) σ H Q q
  unfold dFld at hd
  split at hd
  · split at hd
    · rename_i hc
      subst hc
      cases r with
      | ins m e1 r1 =>
        obtain ⟨v, h1, h2⟩ := r1.get hd
        exact ⟨_, _, _, _, v, rfl, e1, c, n, h1, q' v w [] (.refl w) (.sh h2)⟩
    · cases hd
  · cases hd

/-! ### {k: v, ..} -/
inductive KR where
  | ok (l : List (Key × D)) (ρ : Rho)
  | ex (c : Str) (ρ : Rho)
  | no
def kPairs : List (Xx × Xx) → Rho → KR
  | [], ρ => .ok [] ρ
  | (xk, xv) :: r, ρ => match xk ρ with
    | .ok dk ρ1 => (match dk.key with
      | some k => (match xv ρ1 with
        | .ok d ρ2 => (match kPairs r ρ2 with
          | .ok l ρ3 => .ok ((k, d) :: l) ρ3
          | q => q)
        | .ex c ρ2 => .ex c ρ2
        | .no => .no)
      | none => .no)
    | .ex c ρ1 => .ex c ρ1
    | .no => .no
def trsOf (G : Gs) (E : WX) (ps : List (Xx × Xx)) : List (TE × TE) := ps.map fun p => (tD G E p.1, tD G E p.2)
theorem key_sh {d : D} {k : Key} (h : d.key = some k) : d.sh = true := by cases d <;> first | rfl | (simp only [D.key] at h; cases h)
theorem pairs_run : ∀ (ps : List (Xx × Xx)) {σ : Sl} {w : Wd} {ρ : Rho} {T : List Addr} {Q : List (V × V) → Hp → Prop}, EnvR G w σ ρ T → (match kPairs ps ρ with
    | .ok l ρ' => ∀ kvs w' as, Go G T w w' → EnvR G w' σ ρ' (as ++ T) → OwnK G w'.M w'.H as kvs l → Q (kvs.map fun kv => (kV kv.1, kv.2)) w'.H
    | .ex c ρ' => ∀ w', Go G T w w' → EnvR G w' σ ρ' T → E (.ref (G c)) none σ w'.H
    | .no => False) → tPairs (trsOf G E ps) σ w.H Q
  | [], σ, w, ρ, T, Q, er, q => q [] w [] (.refl T w) er .nil
  | (xk, xv) :: r, σ, w, ρ, T, Q, er, q => by
    simp only [kPairs] at q
    show tD G E xk σ w.H fun x H1 => tD G E xv σ H1 fun y H2 => tPairs (trsOf G E r) σ H2 fun ps H3 => Q ((x, y) :: ps) H3
    refine ⟨w, ρ, T, rfl, er, ?_⟩
    cases h1 : xk ρ with
    | ex c ρ1 => simp only [h1] at q; exact q
    | no => simp only [h1] at q
    | ok dk ρ1 =>
      simp only [h1] at q
      intro v1 w1 as1 g1 er1 o1
      cases h2 : dk.key with
      | none => simp only [h2] at q
      | some k =>
        simp only [h2] at q
        obtain ⟨rfl, r1⟩ := o1.rep (key_sh h2)
        obtain rfl := rep_key r1 h2
        refine ⟨w1, ρ1, T, rfl, er1, ?_⟩
        cases h3 : xv ρ1 with
        | ex c ρ2 => simp only [h3] at q; exact fun w2 g2 er2 => q w2 (g1.trans g2) er2
        | no => simp only [h3] at q
        | ok d ρ2 =>
          simp only [h3] at q
          intro v2 w2 as2 g2 er2 o2
          refine pairs_run r er2 ?_
          cases h4 : kPairs r ρ2 with
          | ex c ρ3 => simp only [h4] at q; exact fun w3 g3 er3 => q w3 ((g1.trans g2).trans g3.less) er3.less
          | no => simp only [h4] at q
          | ok l ρ3 =>
            simp only [h4] at q
            intro kvs w3 as3 g3 er3 o3
            refine q ((k, v2) :: kvs) w3 (as2 ++ as3) ((g1.trans g2).trans g3.less) ?_ (.cons (g3.own er2.sub o2) o3)
            obtain ⟨bs, e1, e2, e3⟩ := er3.ex
            have pm : (bs ++ (as3 ++ (as2 ++ T))).Perm (bs ++ ((as2 ++ as3) ++ T)) := List.Perm.append_left bs (by
              rw [← List.append_assoc]
              exact List.Perm.append_right T List.perm_append_comm)
            exact ⟨⟨bs, e1, pm.nodup e2, fun a ha => e3 a (pm.mem_iff.mpr ha)⟩, er3.sub, er3.tb⟩
def shK : List (Key × D) → Bool
  | [] => true
  | p :: r => p.2.sh && shK r
theorem OwnK.reps : ∀ {as : List Addr} {vs : List (Key × V)} {ds : List (Key × D)}, OwnK G M H as vs ds → shK ds = true → as = [] ∧ RepK G M H vs ds
  | _, _, _, .nil, _ => ⟨rfl, .nil⟩
  | _, _, _, .cons a b, h => by
    obtain ⟨h1, h2⟩ := Bool.and_eq_true_iff.mp h
    obtain ⟨e1, r1⟩ := a.rep h1
    obtain ⟨e2, r2⟩ := OwnK.reps b h2
    subst e1 e2
    exact ⟨rfl, .cons r1 r2⟩
theorem OwnK.keys : ∀ {as : List Addr} {v : List (Key × V)} {d : List (Key × D)}, OwnK G M H as v d → v.map (·.1) = d.map (·.1)
  | _, _, _, .nil => rfl
  | _, _, _, .cons _ b => by simp [OwnK.keys b]
theorem OwnK.length : ∀ {as : List Addr} {v : List (Key × V)} {d : List (Key × D)}, OwnK G M H as v d → v.length = d.length
  | _, _, _, .nil => rfl
  | _, _, _, .cons _ b => congrArg (· + 1) (OwnK.length b)
def mergeD (l m : List (Key × D)) : List (Key × D) := m.foldl (fun acc kv => putD acc kv.1 kv.2) l
theorem RepK.any (k : Key) : ∀ {vs : List (Key × V)} {ds : List (Key × D)}, RepK G M H vs ds → (vs.any fun kv => decide (kv.1 = k)) = ds.any fun kv => decide (kv.1 = k)
  | _, _, .nil => rfl
  | _, _, .cons r t => by rw [List.any_cons, List.any_cons, RepK.any k t]
theorem RepK.app : ∀ {vs us : List (Key × V)} {ds es : List (Key × D)}, RepK G M H vs ds → RepK G M H us es → RepK G M H (vs ++ us) (ds ++ es)
  | _, _, _, _, .nil, s => s
  | _, _, _, _, .cons r t, s => .cons r (RepK.app t s)
theorem RepK.repl {k : Key} {y : V} {z : D} (ry : Rep G M H y z) : ∀ {vs : List (Key × V)} {ds : List (Key × D)}, RepK G M H vs ds → RepK G M H (vs.map fun kv => if kv.1 = k then (kv.1, y) else kv) (ds.map fun kv => if kv.1 = k then (kv.1, z) else kv)
  | _, _, .nil => .nil
  | _, _, .cons (k := k0) r t => by
    rw [List.map_cons, List.map_cons]
    by_cases e : k0 = k
    · rw [if_pos e, if_pos e]; exact .cons ry (RepK.repl ry t)
    · rw [if_neg e, if_neg e]; exact .cons r (RepK.repl ry t)
theorem RepK.put {k : Key} {y : V} {z : D} (ry : Rep G M H y z) {vs : List (Key × V)} {ds : List (Key × D)} (r : RepK G M H vs ds) : RepK G M H (putK vs k y) (putD ds k z) := by
  unfold putK putD
  rw [r.any k]
  split
  · exact r.repl ry
  · exact r.app (.cons ry .nil)
theorem RepK.merge : ∀ {us : List (Key × V)} {es : List (Key × D)}, RepK G M H us es → ∀ {vs : List (Key × V)} {ds : List (Key × D)}, RepK G M H vs ds → RepK G M H (mergeK vs us) (mergeD ds es)
  | _, _, .nil, _, _, r => r
  | _, _, .cons (k := k) ry t, _, _, r => RepK.merge t (r.put (k := k) ry)
theorem merge_nodup : ∀ (us vs : List (Key × V)), ((vs ++ us).map (·.1)).Nodup → mergeK vs us = vs ++ us
  | [], vs, _ => by simp [mergeK]
  | (k, v) :: us, vs, h => by
    have hn : (vs.any fun kv => decide (kv.1 = k)) = false := by
      rw [List.any_eq_false]
      intro p hp
      simp only [decide_eq_true_eq]
      intro e
      rw [List.map_append, List.map_cons] at h
      exact (List.nodup_append.mp h).2.2 p.1 (List.mem_map_of_mem hp) k List.mem_cons_self e
    show mergeK (putK vs k v) us = _
    have e1 : putK vs k v = vs ++ [(k, v)] := by unfold putK; rw [if_neg (by rw [hn]; decide)]
    rw [e1, merge_nodup us (vs ++ [(k, v)]) (by simpa using h)]
    simp
def kNodup (l : List (Key × D)) : Bool := decide (l.map (·.1)).Nodup
def xDisp (ps : List (Xx × Xx)) : Xx := fun ρ => match kPairs ps ρ with
  | .ok l ρ1 => if l.length ≤ 15 then (if shK l = true then .ok (.od (mergeD [] l)) ρ1 else if kNodup l = true then .ok (.od l) ρ1 else .no) else .no
  | .ex c ρ1 => .ex c ρ1
  | .no => .no
theorem OwnK.of2 {v : List (Key × V)} {d : List (Key × D)} (r : RepK G M H v d) : OwnK G M H [] v d := OwnK.of r
theorem ed_disp {ps : List (Xx × Xx)} {keys : List (Option Expr)} {values : List Expr} (h : PPs X pos keys values (trsOf G E ps)) (hall : keys.all (·.isSome) = true := by rfl) (hl : keys.length = values.length := by rfl) (h0 : keys ≠ [] := by exact fun z => nomatch z)
    (h15 : keys.length ≤ 15 := by decide) : PE X (.Dict keys values pos) (tD G E (xDisp ps)) := by
  refine (pe_disp h hall hl h0 h15).imp fun σ H Q q => ?_
  obtain ⟨w, ρ, T, rfl, er, q⟩ := q
  intro p hp
  have P := Prim.newO (w := w) (o := .dK []) hp noTbl_dK
  have er0 : EnvR G _ σ ρ ([p] ++ T) := er.prim P
  refine pairs_run (w := ⟨upd w.H p (.dK []), fun a => w.M a ∨ a ∈ [p], fun a => w.C a ∨ a ∈ [p]⟩) ps er0 ?_
  unfold xDisp at q
  cases h1 : kPairs ps ρ with
  | ex c ρ1 => simp only [h1] at q; exact fun w' g er1 => q w' ((P.go er).trans g.less) er1.less
  | no => simp only [h1] at q
  | ok l ρ1 =>
    simp only [h1] at q
    intro kvs w1 as g1 er1 o1
    by_cases h15 : l.length ≤ 15
    · rw [if_pos h15] at q
      have at1 : w1.H p = some (.dK []) := (g1.ts p (by simp)).trans upd_same
      have Cp : w1.C p := by
        obtain ⟨bs, e1, e2, e3⟩ := er1.ex
        exact (e3 p (by simp)).1
      have g01 : Go G T w w1 := (P.go er).trans g1.less
      -- the parts apart from p
      have npas : p ∉ as := by
        obtain ⟨bs, e1, e2, e3⟩ := er1.ex
        intro z
        exact (List.nodup_append.mp (List.nodup_append.mp e2).2.1).2.2 p z p (by simp) rfl
      have npT : p ∉ T := by
        obtain ⟨bs, e1, e2, e3⟩ := er1.ex
        have := (List.nodup_append.mp (List.nodup_append.mp e2).2.1).2.1
        exact (List.nodup_cons.mp this).1
      have er1' : EnvR G w1 σ ρ1 (p :: (as ++ T)) := by
        obtain ⟨bs, e1, e2, e3⟩ := er1.ex
        have pm : (bs ++ (as ++ ([p] ++ T))).Perm (bs ++ (p :: (as ++ T))) := List.Perm.append_left bs (by
          show (as ++ (p :: T)).Perm _
          exact List.perm_middle)
        exact ⟨⟨bs, e1, pm.nodup e2, fun a ha => e3 a (pm.mem_iff.mpr ha)⟩, er1.sub, er1.tb⟩
      have nt : ∀ xs, w1.H p ≠ some (.tup xs) := fun xs z => by rw [at1] at z; cases z
      have ne : ∀ φ, w1.H p ≠ some (.ext φ) := fun xs z => by rw [at1] at z; cases z
      have ntb : ∀ ps, w1.H p ≠ some (.tbl ps) := fun xs z => by rw [at1] at z; cases z
      have fin : ∀ (kvs' : List (Key × V)) (l' : List (Key × D)), OwnK G w1.M w1.H as kvs' l' → OwnK G w1.M (upd w1.H p (.dK kvs')) as kvs' l' ∧ Go G T w ⟨upd w1.H p (.dK kvs'), w1.M, w1.C⟩ ∧ EnvR G ⟨upd w1.H p (.dK kvs'), w1.M, w1.C⟩ σ ρ1 ((p :: as) ++ T) := fun kvs' l' o => by
        refine ⟨o.kp (kp_upd (er1.sub p Cp) nt ne) fun a ha => upd_ne fun z => npas (by rw [← z]; exact ha), ?_, er1'.upd noTbl_dK nt ne⟩
        have gT : Go G T w1 ⟨upd w1.H p (.dK kvs'), w1.M, w1.C⟩ := Go.updC noTbl_dK (.refl T w1) Cp npT nt ne ntb ne
        exact g01.trans gT
      refine ⟨at1, kvs, rfl, by rw [o1.length]; exact h15, ?_⟩
      by_cases hs : shK l = true
      · rw [if_pos hs] at q
        obtain ⟨rfl, r⟩ := o1.reps hs
        have om : OwnK G w1.M w1.H [] (mergeK [] kvs) (mergeD [] l) := OwnK.of (RepK.merge r .nil)
        obtain ⟨f1, f2, f3⟩ := fin _ _ om
        exact q (.ref p) _ [p] f2 f3 (.od upd_same f1)
      · rw [if_neg hs] at q
        by_cases hk : kNodup l = true
        · rw [if_pos hk] at q
          have em : mergeK [] kvs = kvs := merge_nodup kvs [] (by
            rw [List.nil_append, o1.keys]
            exact of_decide_eq_true hk)
          rw [em]
          obtain ⟨f1, f2, f3⟩ := fin _ _ o1
          exact q (.ref p) _ (p :: as) f2 f3 (.od upd_same f1)
        · rw [if_neg hk] at q
          exact q.elim
    · rw [if_neg h15] at q
      exact q.elim
def xNewK : Xx := fun ρ => .ok (.od []) ρ
def xNewT : Xx := fun ρ => .ok (.ot []) ρ
theorem ed_newK : PE X (.Dict [] [] pos) (tD G E xNewK) := pe_dnewK.imp fun σ H Q q => by
  obtain ⟨w, ρ, T, rfl, er, q⟩ := q
  intro p hp
  have P := Prim.newO (w := w) (o := .dK []) hp noTbl_dK
  exact q (.ref p) _ [p] (P.go er) (er.prim P) (.od upd_same .nil)
theorem ed_newT : PE X (.Dict [] [] pos) (tD G E xNewT) := pe_dnewT.imp fun σ H Q q => by
  obtain ⟨w, ρ, T, rfl, er, q⟩ := q
  intro p hp
  have P := Prim.newO (w := w) (o := .dT []) hp noTbl_dT
  exact q (.ref p) _ [p] (P.go er) (er.prim P) (.ot upd_same .nil)

end
end On

set_option Elab.async false
set_option linter.all false
set_option maxRecDepth 100000
set_option maxHeartbeats 4000000
/-! On14: get, isinstance. -/
namespace On
open PySem PySem.Spec PyProof.Rows L2

section
variable {X : Cx} {G : Gs} {E : WX} {k : Nat} {M : Addr → Prop} {H : Hp} {a b c e e2 : Expr} {es : List Expr} {pos : Pos} {x xa xb xc : Xx} {y : Ax}
theorem getD_rep {w : Wd} {a : Addr} {y z : V} {o : Option D} {d3 : D} (g : GetOk G w a y o) (r3 : Rep G w.M w.H z d3) : ∃ o', DGet w.H a y o' ∧ Rep G w.M w.H (o'.getD z) (o.getD d3) := by
  cases o with
  | none => exact ⟨none, g, r3⟩
  | some d =>
    obtain ⟨v, g, r⟩ := g
    exact ⟨some v, g, r⟩
def D.isD : D → Bool
  | .dk _ => true
  | .dt _ => true
  | _ => false
theorem rep_isD {w : Wd} {v : V} {d : D} (h : d.isD = true) (r : Rep G w.M w.H v d) : ∃ a, v = .ref a ∧ L2.IsD w.H a := by
  cases r with
  | dk m e r => exact ⟨_, rfl, .inl ⟨_, e⟩⟩
  | dt m e r => exact ⟨_, rfl, .inr ⟨_, e⟩⟩
  | _ => cases h
theorem isD_sh {d : D} (h : d.isD = true) : d.sh = true := by cases d <;> first | rfl | cases h
/-- d.get(k, x) -/
def xGet2 (xa xb xc : Xx) : Xx := fun ρ => match xa ρ with
  | .ok d1 ρ1 => if d1.isD = true then (match xb ρ1 with
    | .ok d2 ρ2 => (match xc ρ2 with
      | .ok d3 ρ3 => if d2.sh = true ∧ d3.sh = true then (match d1.get_ d2 with
        | some o => .ok (o.getD d3) ρ3
        | none => .no) else .no
      | .ex c ρ3 => .ex c ρ3
      | .no => .no)
    | .ex c ρ2 => .ex c ρ2
    | .no => .no) else .no
  | .ex c ρ1 => .ex c ρ1
  | .no => .no
theorem get_isD {d1 d2 : D} {o : Option D} (h : d1.get_ d2 = some o) : d1.isD = true := by cases d1 <;> first | rfl | (simp only [D.get_] at h; cases h)
theorem ed_get2 {o e f : Expr} {apos cpos : Pos} (hr : Room k X.A) (ho : PE X o (tD G E xa)) (he : PE X e (tD G E xb)) (hf : PE X f (tD G E xc)) (m : M2 X o "get" apos e f cpos) : PE X (.Call (.Attribute o "get" apos) [e, f] [] cpos) (tD G E (xGet2 xa xb xc)) := by
  refine (pe_dget2 (by have := hr.units; omega) ho he hf m).imp fun σ H Q q => ?_
  obtain ⟨w, ρ, T, rfl, er, q⟩ := q
  refine ⟨w, ρ, T, rfl, er, ?_⟩
  unfold xGet2 at q
  cases h1 : xa ρ with
  | ex c ρ1 => simp only [h1] at q; exact q
  | no => simp only [h1] at q
  | ok d1 ρ1 =>
    simp only [h1] at q
    intro v1 w1 as1 g1 er1 o1
    by_cases hd : d1.isD = true
    · rw [if_pos hd] at q
      obtain ⟨rfl, r1⟩ := o1.rep (isD_sh hd)
      obtain ⟨a, rfl, isd⟩ := rep_isD hd r1
      refine ⟨a, rfl, isd, w1, ρ1, T, rfl, er1, ?_⟩
      cases h2 : xb ρ1 with
      | no => simp only [h2] at q
      | ex c ρ2 => simp only [h2] at q; exact fun w2 g2 er2 => q w2 (g1.trans g2) er2
      | ok d2 ρ2 =>
        simp only [h2] at q
        intro v2 w2 as2 g2 er2 o2
        refine ⟨w2, ρ2, as2 ++ T, rfl, er2, ?_⟩
        cases h3 : xc ρ2 with
        | no => simp only [h3] at q
        | ex c ρ3 => simp only [h3] at q; exact fun w3 g3 er3 => q w3 ((g1.trans g2).trans g3.less) er3.less
        | ok d3 ρ3 =>
          simp only [h3] at q
          intro v3 w3 as3 g3 er3 o3
          by_cases hs : d2.sh = true ∧ d3.sh = true
          · rw [if_pos hs] at q
            cases h4 : d1.get_ d2 with
            | none => simp only [h4] at q
            | some od =>
              simp only [h4] at q
              obtain ⟨rfl, r2⟩ := o2.rep hs.1
              obtain ⟨rfl, r3⟩ := o3.rep hs.2
              have r1' := (r1.kp (g2.le.kp er1.sub)).kp (g3.le.kp er2.sub)
              have r2' := r2.kp (g3.le.kp er2.sub)
              obtain ⟨a', ea, _, g⟩ := rep_get h4 r1' r2'
              cases ea
              obtain ⟨o', g', rr⟩ := getD_rep g r3
              exact ⟨o', g', q _ w3 [] ((g1.trans g2).trans g3) er3 (.sh rr)⟩
          · rw [if_neg hs] at q
            exact q.elim
    · rw [if_neg hd] at q
      exact q.elim

/-! ### isinstance -/
/-- what a class must say of its instances -/
structure InsF (K : PySem.W.Frag) (C : Addr) : Prop where
  cl : Cls K C
  ha : PySem.W.findIn K (.ref C) "__class__" = some (some (.builtin "object.__class__"))
  hn : PySem.W.specialIn K (.builtin "object.__class__") "__get__" = some (some (.builtin "getset_descriptor.__get__"))
  htk : PySem.W.takesIn K (.builtin "object.__class__") = some true
  hm : PySem.W.mroIn K C (.type "object") = some true
/-- the types of data, and their answers: cs the own classes, es those of exceptions, tab kitOne's answers -/
structure Kit (K : PySem.W.Frag) (G : Gs) (cs es : List Str) (tab : List (TyN × TyN × Bool)) : Prop where
  ins : ∀ c ∈ cs, InsF K (G c)
  exc : ∀ c ∈ es, ExcC K (G c)
  one : ∀ p ∈ tab, PySem.W.kitOne K (p.1.val G) (p.2.1.val G) = some p.2.2
def D.ty (cs es : List Str) : D → Option TyN
  | .non => some (.b "NoneType")
  | .bl _ => some (.b "bool")
  | .int _ => some (.b "int")
  | .str _ => some (.b "str")
  | .tup _ => some (.b "tuple")
  | .lst _ => some (.b "list")
  | .dk _ => some (.b "dict")
  | .dt _ => some (.b "dict")
  | .ins c _ => if c ∈ cs then some (.o c) else none
  | .exc c => if c ∈ es then some (.o c) else none
  | _ => none
theorem kit_rep {pins : List (Addr × Obj)} {σ : Sl} {w : Wd} {s : Shared} {v : V} {u : Value} {d : D} {t : TyN} {cs es : List Str} {tab : List (TyN × TyN × Bool)} (Kt : Kit X.K G cs es tab) (I : Inv X pins σ w.H s) (rv : RelV v u) (r : Rep G w.M w.H v d) (h : d.ty cs es = some t) :
    ∃ P : Heap → Prop, PySem.W.KitX X.K u (t.val G) P ∧ P s.heap ∧ u ≠ .builtin "__main__.__loader__#opaque" := by
  cases r with
  | non => cases h; exact kit_of I rv (.base .non)
  | bl b => cases h; exact kit_of I rv (.base (.bl b))
  | int i => cases h; exact kit_of I rv (.base (.int i))
  | str x => cases h; exact kit_of I rv (.base (.str x))
  | gl x => cases h
  | cl e f => cases h
  | fl m e r => cases h
  | exc e =>
    rename_i a c
    simp only [D.ty] at h
    split at h
    · rename_i hc
      cases h
      cases rv
      have C := Kt.exc _ hc
      have q := I.hok a _ e
      obtain ⟨oe, vs, h1, h2, h3, h4⟩ := q.1
      have J : PySem.W.InstAt s.heap a oe (G c) none := by
        obtain ⟨oc, od, oda, osl⟩ := oe
        dsimp only at h2 h3 h4
        subst h2 h3 h4
        exact ⟨h1, rfl, rfl, trivial⟩
      exact ⟨_, PySem.W.handS_kitx_exc C.hg C.hk C.hs C.hd C.ha C.hn C.ht C.hm, J, fun z => nomatch z⟩
    · cases h
  | tup e r => cases h; exact kit_of I rv (.base (.tup e))
  | lst m e r => cases h; exact kit_of I rv (.base (.lst e))
  | dk m e r =>
    cases h
    rcases e with e | ⟨o, e⟩
    · exact kit_of I rv (.base (.dK e))
    · exact kit_of I rv (.fDict e)
  | dt m e r =>
    cases h
    rcases e with e | ⟨o, e⟩
    · exact kit_of I rv (.base (.dT e))
    · rename_i a xs ds
      cases rv
      obtain ⟨_, _, _, xs', _, o', es', ep, h1, h2, _⟩ := (show ObjOk X.prog X.w w.H s.heap a (.frz o (.dT xs)) from I.hok a _ e)
      exact ⟨_, PySem.W.kitx_dict, ⟨o', h1, h2.1⟩, fun z => nomatch z⟩
  | ins m e r =>
    rename_i a dx c xs ds
    simp only [D.ty] at h
    split at h
    · rename_i hc
      cases h
      have C := Kt.ins _ hc
      exact kit_of I rv (.base (.ins e C.cl C.ha C.hn C.htk C.hm))
    · cases h
/-- isinstance(x, c1 or c2 ..), by the table -/
def kitD (cs es : List Str) (tab : List (TyN × TyN × Bool)) (d : D) (T : TyN) : Option Bool := match d.ty cs es with
  | some t => (tab.find? fun p => decide (p.1 = t ∧ p.2.1 = T)).map (·.2.2)
  | none => none
theorem kitD_ok {cs es : List Str} {tab : List (TyN × TyN × Bool)} (Kt : Kit X.K G cs es tab) {d : D} {T : TyN} {b : Bool} (h : kitD cs es tab d T = some b) : ∃ t, d.ty cs es = some t ∧ PySem.W.kitOne X.K (t.val G) (T.val G) = some b := by
  unfold kitD at h
  cases h1 : d.ty cs es with
  | none => rw [h1] at h; cases h
  | some t =>
    rw [h1] at h
    simp only [Option.map_eq_some_iff] at h
    obtain ⟨p, hp, rfl⟩ := h
    have hm := List.mem_of_find?_eq_some hp
    have hq := List.find?_some hp
    simp only [decide_eq_true_eq] at hq
    have := Kt.one p hm
    rw [hq.1, hq.2] at this
    exact ⟨t, rfl, this⟩
/-- a class named in the text: its value -/
structure ClsN (X : Cx) (G : Gs) (n : Str) (T : TyN) : Prop where
  gl : Gl X n
  db : (n == ("__debug__" : Str)) = false
  at_ : match T with
    | .b t => X.mg n = none ∧ bootBuiltins n = some (.type t) ∧ n ≠ "__name__"
    | .o c => X.mg n = some (.ref (G c))
def TyN.v (G : Gs) : TyN → V
  | .b t => .ty t
  | .o c => .ref (G c)
theorem pe_cls {n : Str} {T : TyN} (h : ClsN X G n T) : PE X (.Name n pos) (fun _ H Q => Q (T.v G) H) := by
  obtain ⟨hg, hd, ha⟩ := h
  cases T with
  | b t => exact ⟨fun pins s σ H Q I q => ld_blt I hg ha.1 ha.2.1 ⟨.ty t, H, I, rfl, q⟩ ha.2.2 hd⟩
  | o c => exact ⟨fun pins s σ H Q I q => ld_glob I hg ha ⟨.ref (G c), H, I, rfl, q⟩ hd⟩
theorem TyN.rel {T : TyN} {u : Value} (r : RelV (T.v G) u) : u = T.val G := by
  cases T with
  | b t => exact r
  | o c => exact r
def xIsi (cs es : List Str) (tab : List (TyN × TyN × Bool)) (T : TyN) (x : Xx) : Xx := fun ρ => match x ρ with
  | .ok d ρ1 => if d.sh = true then (match kitD cs es tab d T with
    | some b => .ok (.bl b) ρ1
    | none => .no) else .no
  | .ex c ρ1 => .ex c ρ1
  | .no => .no
theorem ed_isi {n : Str} {p p2 : Pos} {cs es : List Str} {tab : List (TyN × TyN × Bool)} {T : TyN} (Kt : Kit X.K G cs es tab) (hg : Gl X "isinstance") (hm : X.mg "isinstance" = none) (he : PE X e (tD G E x)) (hc : ClsN X G n T)
    (hs : starEach [e, .Name n p2] X.env = (false, eval e X.env) :: starEach [.Name n p2] X.env := by rfl) (hs2 : starEach [.Name n p2] X.env = (false, eval (.Name n p2) X.env) :: starEach [] X.env := by rfl) (hpl : (backTo pos (starEach [.Name n p2] X.env)).any (·.1) = false := by rfl) :
    PE X (.Call (.Name "isinstance" p) [e, .Name n p2] [] pos) (tD G E (xIsi cs es tab T x)) := by
  refine ⟨fun pins s σ H Q I q => ?_⟩
  have ha : PA X [e, .Name n p2] (tCons (tD G E x) (tCons (fun _ H Q => Q (T.v G) H) tNil)) := pa_cons he (pa_cons (pe_cls hc) pa_nil hs2) hs
  refine wpAny_Call_Name_kw (ld_blt I hg hm PyProof.Rows.boot_isinstance ?_ (by decide) (by decide))
  refine PyProof.Rows.callWith_builtin1 (thn (ha.run pos pins s σ H (fun vs H1 => ∃ (v : V) (w : Wd) (d : D) (b : Bool), vs = [v, T.v G] ∧ w.H = H1 ∧ Rep G w.M w.H v d ∧ kitD cs es tab d T = some b ∧ Q (.bl b) H1) I ?_) fun us s1 ⟨vs, H1, I1, r1, q1⟩ => ?_) hs hpl
  · obtain ⟨w, ρ, T', rfl, er, q⟩ := q
    refine ⟨w, ρ, T', rfl, er, ?_⟩
    unfold xIsi at q
    cases h1 : x ρ with
    | ex c ρ1 => simp only [h1] at q; exact q
    | no => simp only [h1] at q
    | ok d ρ1 =>
      simp only [h1] at q
      intro v1 w1 as1 g1 er1 o1
      by_cases hsh : d.sh = true
      · rw [if_pos hsh] at q
        obtain ⟨rfl, r⟩ := o1.rep hsh
        cases h2 : kitD cs es tab d T with
        | none => simp only [h2] at q
        | some b =>
          simp only [h2] at q
          exact ⟨v1, w1, d, b, rfl, rfl, r, h2, q _ w1 [] g1 er1 (.sh (.bl _))⟩
      · rw [if_neg hsh] at q
        exact q.elim
  · obtain ⟨v, w, d, b, rfl, rfl, r, hb, q⟩ := q1
    obtain ⟨u1, u2, rfl, r1, r2⟩ := vals2 r1
    obtain ⟨t, ht, ho⟩ := kitD_ok Kt hb
    obtain ⟨P, Z, pp, hx⟩ := kit_rep Kt I1 r1 r ht
    rw [TyN.rel r2]
    exact PySem.W.kia_one Z I1.kIn pp ho hx fun tk => ⟨.bl b, w.H, I1.tok tk, rfl, q⟩
/-- isinstance(x, (T1, T2)) -/
def kitD2 (cs es : List Str) (tab : List (TyN × TyN × Bool)) (d : D) (T U : TyN) : Option Bool := match kitD cs es tab d T with
  | some true => some true
  | some false => kitD cs es tab d U
  | none => none
def xIsi2 (cs es : List Str) (tab : List (TyN × TyN × Bool)) (T U : TyN) (x : Xx) : Xx := fun ρ => match x ρ with
  | .ok d ρ1 => if d.sh = true then (match kitD2 cs es tab d T U with
    | some b => .ok (.bl b) ρ1
    | none => .no) else .no
  | .ex c ρ1 => .ex c ρ1
  | .no => .no
theorem kitAny2 {K : PySem.W.Frag} {cs es : List Str} {tab : List (TyN × TyN × Bool)} (Kt : Kit K G cs es tab) (hX : X.K = K) {d : D} {T U : TyN} {b : Bool} (h : kitD2 cs es tab d T U = some b) : ∃ t, d.ty cs es = some t ∧ PySem.W.kitAny K (t.val G) [T.val G, U.val G] = some b := by
  subst hX
  unfold kitD2 at h
  cases h1 : kitD cs es tab d T with
  | none => rw [h1] at h; cases h
  | some b1 =>
    obtain ⟨t, ht, ho⟩ := kitD_ok Kt h1
    refine ⟨t, ht, kitAny_cons ho (fun e => ?_) fun e => ?_⟩
    · subst e
      rw [h1] at h
      obtain ⟨t', ht', ho'⟩ := kitD_ok Kt h
      rw [ht] at ht'
      cases ht'
      exact kitAny_cons ho' (fun e => by rw [e]; exact kitAny_nil) fun e => e
    · subst e
      rw [h1] at h
      exact (Option.some.inj h).symm
end
end On

set_option Elab.async false
set_option linter.all false
set_option maxRecDepth 100000
set_option maxHeartbeats 4000000
/-! On15: places within what a name owns, changes there. -/
namespace On
open PySem PySem.Spec PyProof.Rows L2

/-- isinstance(x, (T, U)) -/
theorem ed_isi2 {X : Cx} {G : Gs} {E : WX} {e : Expr} {x : Xx} {pos : Pos} {n n2 : Str} {p p2 p3 p4 : Pos} {kk : Nat} {cs es : List Str} {tab : List (TyN × TyN × Bool)} {T U : TyN} (Kt : Kit X.K G cs es tab) (hg : Gl X "isinstance") (hm : X.mg "isinstance" = none) (he : PE X e (tD G E x)) (hc : ClsN X G n T) (hc2 : ClsN X G n2 U)
    (hs : starEach [e, .Tuple [.Name n p2, .Name n2 p3] kk p4] X.env = (false, eval e X.env) :: starEach [.Tuple [.Name n p2, .Name n2 p3] kk p4] X.env := by rfl) (hs2 : starEach [.Tuple [.Name n p2, .Name n2 p3] kk p4] X.env = (false, eval (.Tuple [.Name n p2, .Name n2 p3] kk p4) X.env) :: starEach [] X.env := by rfl)
    (hs3 : starEach [.Name n p2, .Name n2 p3] X.env = (false, eval (.Name n p2) X.env) :: starEach [.Name n2 p3] X.env := by rfl) (hs4 : starEach [.Name n2 p3] X.env = (false, eval (.Name n2 p3) X.env) :: starEach [] X.env := by rfl)
    (hpl : (backTo pos (starEach [.Tuple [.Name n p2, .Name n2 p3] kk p4] X.env)).any (·.1) = false := by rfl) :
    PE X (.Call (.Name "isinstance" p) [e, .Tuple [.Name n p2, .Name n2 p3] kk p4] [] pos) (tD G E (xIsi2 cs es tab T U x)) := by
  refine ⟨fun pins s σ H Q I q => ?_⟩
  have hT : PE X (.Tuple [.Name n p2, .Name n2 p3] kk p4) (tTup (tCons (fun _ H Q => Q (T.v G) H) (tCons (fun _ H Q => Q (U.v G) H) tNil))) := pe_tup (pa_cons (pe_cls hc) (pa_cons (pe_cls hc2) pa_nil hs4) hs3)
  have ha := pa_cons he (pa_cons hT pa_nil hs2) hs
  refine wpAny_Call_Name_kw (ld_blt I hg hm PyProof.Rows.boot_isinstance ?_ (by decide) (by decide))
  refine PyProof.Rows.callWith_builtin1 (thn (ha.run pos pins s σ H (fun vs H1 => ∃ (v : V) (w : Wd) (d : D) (b : Bool) (tp : Addr), vs = [v, .ref tp] ∧ w.H = H1 ∧ w.H tp = some (.tup [T.v G, U.v G]) ∧ Rep G w.M w.H v d ∧ kitD2 cs es tab d T U = some b ∧ Q (.bl b) H1) I ?_) fun us s1 ⟨vs, H1, I1, r1, q1⟩ => ?_) hs hpl
  · obtain ⟨w, ρ, T', rfl, er, q⟩ := q
    refine ⟨w, ρ, T', rfl, er, ?_⟩
    unfold xIsi2 at q
    cases h1 : x ρ with
    | ex c ρ1 => simp only [h1] at q; exact q
    | no => simp only [h1] at q
    | ok d ρ1 =>
      simp only [h1] at q
      intro v1 w1 as1 g1 er1 o1
      by_cases hsh : d.sh = true
      · rw [if_pos hsh] at q
        obtain ⟨rfl, r⟩ := o1.rep hsh
        cases h2 : kitD2 cs es tab d T U with
        | none => simp only [h2] at q
        | some b =>
          simp only [h2] at q
          refine ⟨by show 2 ≤ sizeLine; rw [sizeLine_eq]; decide, fun tp htp => ?_⟩
          have P := Prim.new (w := w1) (o := .tup [T.v G, U.v G]) htp
          exact ⟨v1, _, d, b, tp, rfl, rfl, upd_same, r.kp P.kp, h2, q _ _ [] (g1.trans (P.go er1)) (er1.prim0 P) (.sh (.bl _))⟩
      · rw [if_neg hsh] at q
        exact q.elim
  · obtain ⟨v, w, d, b, tp, rfl, rfl, hT, r, hb, q⟩ := q1
    obtain ⟨u1, u2, rfl, r1, r2⟩ := vals2 r1
    obtain ⟨t, ht, ho⟩ := kitAny2 Kt rfl hb
    obtain ⟨P, Z, pp, hx⟩ := kit_rep Kt I1 r1 r ht
    cases (show u2 = Value.ref tp from r2)
    obtain ⟨_, its, rv, o, h1, h2, n', h3⟩ := (show ObjOk X.prog X.w w.H s1.heap tp (.tup [T.v G, U.v G]) from I1.hok tp _ hT)
    have e3 : its = [T.val G, U.val G] := by
      cases rv with
      | cons ra rv =>
        cases rv with
        | cons rb rv =>
          cases rv
          rw [TyN.rel ra, TyN.rel rb]
    subst e3
    obtain ⟨oc, od, dt, sl⟩ := o
    simp only at h2 h3
    subst h2 h3
    exact PySem.W.kia_tup Z I1.kIn pp h1 ho hx fun tk => ⟨.bl b, w.H, I1.tok tk, rfl, q⟩

inductive Stp where
  | k (k : Key)
  | f (x : Str)
def StepV (H : Hp) (u : V) : Stp → V → Prop
  | .k key, v => ∃ a kvs, u = .ref a ∧ H a = some (.dK kvs) ∧ valV kvs key = some v
  | .f x, v => ∃ a C dx fs, u = .ref a ∧ H a = some (.ins C dx fs) ∧ fs.lookup x = some v
/-- the path, its last step first -/
def PathV (H : Hp) (u0 : V) : List Stp → V → Prop
  | [], v => v = u0
  | s :: p, v => ∃ u, PathV H u0 p u ∧ StepV H u s v
def D.step : D → Stp → Option D
  | .od l, .k key => valD l key
  | .oi _ l, .f x => l.lookup x
  | _, _ => none
def D.at_ (d : D) : List Stp → Option D
  | [] => some d
  | s :: p => (d.at_ p).bind fun e => e.step s
section
variable {κ : Type} [DecidableEq κ]
/-- the first entry at the key -/
def setD1 : List (κ × D) → κ → D → List (κ × D)
  | [], _, _ => []
  | (k0, d) :: r, k, x => if k0 = k then (k0, x) :: r else (k0, d) :: setD1 r k x
end
def D.stepSet : D → Stp → D → D
  | .od l, .k key, x => .od (setD1 l key x)
  | .oi c l, .f y, x => .oi c (setD1 l y x)
  | d, _, _ => d
def D.setAt (d : D) : List Stp → D → D
  | [], x => x
  | s :: p, x => match d.at_ p with
    | some e => d.setAt p (e.stepSet s x)
    | none => d

section
variable {G : Gs} {M : Addr → Prop} {H : Hp}
theorem OwnK.foc {key : Key} {d : D} : ∀ {as : List Addr} {vs : List (Key × V)} {ds : List (Key × D)}, OwnK G M H as vs ds → valD ds key = some d → ∃ v bs cs, valV vs key = some v ∧ Own G M H bs v d ∧ as.Perm (bs ++ cs) ∧
    ∀ (M' : Addr → Prop) (H' : Hp) (bs' : List Addr) (d' : D), Kp M M' H H' → (∀ a ∈ cs, H' a = H a) → Own G M' H' bs' v d' → ∃ as', OwnK G M' H' as' vs (setD1 ds key d') ∧ as'.Perm (bs' ++ cs)
  | _, _, _, .nil, h => by simp [valD] at h
  | _, _, _, .cons (as := as) (bs := bs) (k := k0) (v := v0) (d := d0) (xs := xs) (ds := ds) o e, h => by
    by_cases z : k0 = key
    · subst z
      have h1 : valD ((k0, d0) :: ds) k0 = some d0 := by simp [valD, List.find?_cons]
      rw [h1] at h
      cases h
      refine ⟨v0, as, bs, valV_pos rfl, o, .refl _, fun M' H' bs' d' k hc o' => ⟨bs' ++ bs, ?_, .refl _⟩⟩
      simp only [setD1, if_pos rfl]
      exact .cons o' (e.kp k hc)
    · have h1 : valD ((k0, d0) :: ds) key = valD ds key := by simp [valD, List.find?_cons, z]
      rw [h1] at h
      obtain ⟨v, b1, c1, q1, q2, q3, q4⟩ := OwnK.foc e h
      refine ⟨v, b1, as ++ c1, by rw [valV_neg (p := (k0, v0)) (r := xs) z]; exact q1, q2, ?_, fun M' H' bs' d' k hc o' => ?_⟩
      · exact (List.Perm.append_left as q3).trans (by rw [← List.append_assoc, ← List.append_assoc]; exact List.Perm.append_right c1 List.perm_append_comm)
      · obtain ⟨as', e', p⟩ := q4 M' H' bs' d' k (fun a ha => hc a (List.mem_append_right _ ha)) o'
        refine ⟨as ++ as', ?_, (List.Perm.append_left as p).trans (by rw [← List.append_assoc, ← List.append_assoc]; exact List.Perm.append_right c1 List.perm_append_comm)⟩
        simp only [setD1, if_neg z]
        exact .cons (o.kp k fun a ha => hc a (List.mem_append_left _ ha)) e'
theorem OwnF.foc {key : Str} {d : D} : ∀ {as : List Addr} {vs : List (Str × V)} {ds : List (Str × D)}, OwnF G M H as vs ds → ds.lookup key = some d → ∃ v bs cs, vs.lookup key = some v ∧ Own G M H bs v d ∧ as.Perm (bs ++ cs) ∧
    ∀ (M' : Addr → Prop) (H' : Hp) (bs' : List Addr) (d' : D), Kp M M' H H' → (∀ a ∈ cs, H' a = H a) → Own G M' H' bs' v d' → ∃ as', OwnF G M' H' as' vs (setD1 ds key d') ∧ as'.Perm (bs' ++ cs)
  | _, _, _, .nil, h => by simp at h
  | _, _, _, .cons (as := as) (bs := bs) (k := k0) (v := v0) (d := d0) (xs := xs) (ds := ds) o e, h => by
    by_cases z : k0 = key
    · subst z
      rw [List.lookup_cons_self] at h
      cases h
      refine ⟨v0, as, bs, List.lookup_cons_self, o, .refl _, fun M' H' bs' d' k hc o' => ⟨bs' ++ bs, ?_, .refl _⟩⟩
      simp only [setD1, if_pos rfl]
      exact .cons o' (e.kp k hc)
    · have z' : (key == k0) = false := beq_eq_false_iff_ne.mpr (fun y => z y.symm)
      rw [List.lookup_cons, z'] at h
      obtain ⟨v, b1, c1, q1, q2, q3, q4⟩ := OwnF.foc e h
      refine ⟨v, b1, as ++ c1, by rw [List.lookup_cons, z']; exact q1, q2, ?_, fun M' H' bs' d' k hc o' => ?_⟩
      · exact (List.Perm.append_left as q3).trans (by rw [← List.append_assoc, ← List.append_assoc]; exact List.Perm.append_right c1 List.perm_append_comm)
      · obtain ⟨as', e', p⟩ := q4 M' H' bs' d' k (fun a ha => hc a (List.mem_append_right _ ha)) o'
        refine ⟨as ++ as', ?_, (List.Perm.append_left as p).trans (by rw [← List.append_assoc, ← List.append_assoc]; exact List.Perm.append_right c1 List.perm_append_comm)⟩
        simp only [setD1, if_neg z]
        exact .cons (o.kp k fun a ha => hc a (List.mem_append_left _ ha)) e'
theorem Own.foc {as : List Addr} {u : V} {d0 : D} (o : Own G M H as u d0) : ∀ (p : List Stp) {d : D}, d0.at_ p = some d → ∃ v bs cs, PathV H u p v ∧ Own G M H bs v d ∧ as.Perm (bs ++ cs) ∧
    ∀ (M' : Addr → Prop) (H' : Hp) (bs' : List Addr) (d' : D), Kp M M' H H' → (∀ a ∈ cs, H' a = H a) → Own G M' H' bs' v d' → ∃ as', Own G M' H' as' u (d0.setAt p d') ∧ as'.Perm (bs' ++ cs)
  | [], d, h => by
    cases h
    exact ⟨u, as, [], rfl, o, by rw [List.append_nil], fun M' H' bs' d' k hc o' => ⟨bs', o', by rw [List.append_nil]⟩⟩
  | s :: p, d, h => by
    simp only [D.at_, Option.bind_eq_some_iff] at h
    obtain ⟨e, he, hs⟩ := h
    obtain ⟨v1, b1, c1, q1, q2, q3, q4⟩ := Own.foc o p he
    have eset : ∀ x, d0.setAt (s :: p) x = d0.setAt p (e.stepSet s x) := fun x => by simp only [D.setAt, he]
    cases q2 with
    | od ha r =>
      rename_i a b2 xs l
      cases s with
      | k key =>
        simp only [D.step] at hs
        obtain ⟨v, b3, c3, r1, r2, r3, r4⟩ := OwnK.foc r hs
        refine ⟨v, b3, a :: (c3 ++ c1), ⟨.ref a, q1, a, xs, rfl, ha, r1⟩, r2, ?_, fun M' H' bs' d' k hc o' => ?_⟩
        · refine q3.trans ?_
          have : (a :: b2 ++ c1).Perm (a :: (b3 ++ c3) ++ c1) := List.Perm.append_right c1 (List.Perm.cons a r3)
          refine this.trans ?_
          rw [List.cons_append, List.append_assoc]
          exact List.perm_middle.symm
        · obtain ⟨a3, o3, p3⟩ := r4 M' H' bs' d' k (fun x hx => hc x (List.mem_cons_of_mem _ (List.mem_append_left _ hx))) o'
          obtain ⟨a4, o4, p4⟩ := q4 M' H' (a :: a3) (.od (setD1 l key d')) k (fun x hx => hc x (List.mem_cons_of_mem _ (List.mem_append_right _ hx))) (.od ((hc a List.mem_cons_self).trans ha) o3)
          refine ⟨a4, by rw [eset]; exact o4, p4.trans ?_⟩
          have : (a :: a3 ++ c1).Perm (a :: (bs' ++ c3) ++ c1) := List.Perm.append_right c1 (List.Perm.cons a p3)
          refine this.trans ?_
          rw [List.cons_append, List.append_assoc]
          exact List.perm_middle.symm
      | f y => simp only [D.step] at hs; cases hs
    | oi ha r =>
      rename_i a dx c b2 xs l
      cases s with
      | f key =>
        simp only [D.step] at hs
        obtain ⟨v, b3, c3, r1, r2, r3, r4⟩ := OwnF.foc r hs
        refine ⟨v, b3, a :: (c3 ++ c1), ⟨.ref a, q1, a, _, _, xs, rfl, ha, r1⟩, r2, ?_, fun M' H' bs' d' k hc o' => ?_⟩
        · refine q3.trans ?_
          have : (a :: b2 ++ c1).Perm (a :: (b3 ++ c3) ++ c1) := List.Perm.append_right c1 (List.Perm.cons a r3)
          refine this.trans ?_
          rw [List.cons_append, List.append_assoc]
          exact List.perm_middle.symm
        · obtain ⟨a3, o3, p3⟩ := r4 M' H' bs' d' k (fun x hx => hc x (List.mem_cons_of_mem _ (List.mem_append_left _ hx))) o'
          obtain ⟨a4, o4, p4⟩ := q4 M' H' (a :: a3) (.oi c (setD1 l key d')) k (fun x hx => hc x (List.mem_cons_of_mem _ (List.mem_append_right _ hx))) (.oi ((hc a List.mem_cons_self).trans ha) o3)
          refine ⟨a4, by rw [eset]; exact o4, p4.trans ?_⟩
          have : (a :: a3 ++ c1).Perm (a :: (bs' ++ c3) ++ c1) := List.Perm.append_right c1 (List.Perm.cons a p3)
          refine this.trans ?_
          rw [List.cons_append, List.append_assoc]
          exact List.perm_middle.symm
      | k y => simp only [D.step] at hs; cases hs
    | sh r =>
      cases r <;> (cases s <;> simp only [D.step] at hs <;> cases hs)
    | ol ha r => cases s <;> (simp only [D.step] at hs; cases hs)
    | ot ha r => cases s <;> (simp only [D.step] at hs; cases hs)
end
end On

set_option Elab.async false
set_option linter.all false
set_option maxRecDepth 100000
set_option maxHeartbeats 4000000
/-! On16: changes at places: rules. -/
namespace On
open PySem PySem.Spec PyProof.Rows L2

section
variable {G : Gs} {w : Wd} {σ : Sl} {ρ : Rho} {t T as : List Addr} {i : Nat} {p : List Stp} {d0 d : D}
theorem perm3 (A r T : List Addr) : (A ++ (r ++ T)).Perm (r ++ (A ++ T)) := by
  rw [← List.append_assoc, ← List.append_assoc]
  exact List.Perm.append_right T List.perm_append_comm
theorem EnvR.upd_at (er : EnvR G w σ ρ (t ++ T)) (h : ρ[i]? = some (some d0)) (hp : d0.at_ p = some d) : ∃ u v bs, σ[i]? = some (some u) ∧ PathV w.H u p v ∧ Own G w.M w.H bs v d ∧ bs.Nodup ∧ (∀ a ∈ bs, a ∉ t) ∧ (∀ a ∈ bs, w.M a) ∧
    ∀ (a : Addr) (o' : HO) (d' : D) (bs' r : List Addr), a ∈ bs → NoTbl o' → (∀ xs, w.H a ≠ some (.tup xs)) → (∀ φ, w.H a ≠ some (.ext φ)) → (r ++ bs').Nodup → (∀ x ∈ r ++ bs', x ∈ bs ++ t) → Own G w.M (L2.upd w.H a o') bs' v d' →
      Go G T w ⟨L2.upd w.H a o', w.M, w.C⟩ ∧ EnvR G ⟨L2.upd w.H a o', w.M, w.C⟩ σ (ρ.set i (some (d0.setAt p d'))) (r ++ T) := by
  obtain ⟨xs, h1, h2, h3⟩ := er.ex
  obtain ⟨u, bs0, cs0, q1, q2, q3, q4⟩ := h1.at_ h
  obtain ⟨v, bs, cs1, p1, p2, p3, p4⟩ := q2.foc p hp
  have big : (xs ++ (t ++ T)).Perm ((bs ++ t) ++ ((cs1 ++ cs0) ++ T)) := by
    have e1 : xs.Perm (bs ++ (cs1 ++ cs0)) := q3.trans (by rw [← List.append_assoc]; exact List.Perm.append_right cs0 p3)
    refine (List.Perm.append_right (t ++ T) e1).trans ?_
    rw [List.append_assoc bs, List.append_assoc bs]
    refine List.Perm.append_left bs ?_
    rw [← List.append_assoc, ← List.append_assoc]
    exact List.Perm.append_right T List.perm_append_comm
  have nd := big.nodup h2
  have ndA := (List.nodup_append.mp nd).1
  have ndB := (List.nodup_append.mp nd).2.1
  have dj : ∀ x ∈ bs ++ t, x ∉ (cs1 ++ cs0) ++ T := fun x hx hy => (List.nodup_append.mp nd).2.2 x hx x hy rfl
  have all : ∀ x ∈ (bs ++ t) ++ ((cs1 ++ cs0) ++ T), w.C x ∧ IsO w.H x := fun x hx => h3 x (big.mem_iff.mpr hx)
  refine ⟨u, v, bs, q1, p1, p2, (List.nodup_append.mp ndA).1, fun a ha hb => (List.nodup_append.mp ndA).2.2 a ha a hb rfl, fun a ha => er.sub a (all a (List.mem_append_left _ (List.mem_append_left _ ha))).1, fun a o' d' bs' r ha no nt ne ndr sub o => ?_⟩
  have Ca := all a (List.mem_append_left _ (List.mem_append_left _ ha))
  have na := dj a (List.mem_append_left _ ha)
  have k : Kp w.M w.M w.H (L2.upd w.H a o') := kp_upd (er.sub a Ca.1) nt ne
  have same : ∀ x, x ∈ (cs1 ++ cs0) ++ T → L2.upd w.H a o' x = w.H x := fun x hx => upd_ne fun z => na (by rw [← z]; exact hx)
  obtain ⟨as1, f1, f2⟩ := p4 w.M (L2.upd w.H a o') bs' d' k (fun x hx => same x (List.mem_append_left _ (List.mem_append_left _ hx))) o
  obtain ⟨as', e1, e2⟩ := q4 w.M (L2.upd w.H a o') as1 (d0.setAt p d') k (fun x hx => same x (List.mem_append_left _ (List.mem_append_right _ hx))) f1
  have tb : ∀ ps, w.H a ≠ some (.tbl ps) := fun ps z => by
    obtain ⟨o, ho, n⟩ := Ca.2
    rw [ho] at z
    exact n ps (Option.some.inj z)
  refine ⟨Go.updC no (.refl T w) Ca.1 (fun z => na (List.mem_append_right _ z)) nt ne tb ne, ⟨as', e1, ?_, fun x hx => ?_⟩, er.sub, tabs_set tb ne er.tb⟩
  · have pm : (as' ++ (r ++ T)).Perm ((r ++ bs') ++ ((cs1 ++ cs0) ++ T)) := by
      have s1 : as'.Perm (bs' ++ (cs1 ++ cs0)) := e2.trans (by rw [← List.append_assoc]; exact List.Perm.append_right cs0 f2)
      refine (List.Perm.append_right (r ++ T) s1).trans ?_
      refine (perm3 _ r T).trans ?_
      rw [List.append_assoc bs', List.append_assoc r]
    refine pm.symm.nodup (List.nodup_append.mpr ⟨ndr, ndB, fun x hx y hy z => ?_⟩)
    subst z
    exact dj x (sub x hx) hy
  · have hx' : x ∈ (bs ++ t) ++ ((cs1 ++ cs0) ++ T) := by
      rcases List.mem_append.mp hx with y | y
      · have s1 : as'.Perm (bs' ++ (cs1 ++ cs0)) := e2.trans (by rw [← List.append_assoc]; exact List.Perm.append_right cs0 f2)
        rcases List.mem_append.mp (s1.mem_iff.mp y) with z | z
        · exact List.mem_append_left _ (sub x (List.mem_append_right _ z))
        · exact List.mem_append_right _ (List.mem_append_left _ z)
      · rcases List.mem_append.mp y with z | z
        · exact List.mem_append_left _ (sub x (List.mem_append_left _ z))
        · exact List.mem_append_right _ (List.mem_append_right _ z)
    have hh := all x hx'
    refine ⟨hh.1, ?_⟩
    by_cases z : x = a
    · subst z; exact ⟨o', upd_same, no⟩
    · obtain ⟨o, ho, n⟩ := hh.2
      exact ⟨o, (upd_ne z).trans ho, n⟩
end

/-! ### expressions for places -/
/-- the place: the name i, the path p -/
def tPl (i : Nat) (p : List Stp) : TE := fun σ H Q => ∃ u v, σ[i]? = some (some u) ∧ PathV H u p v ∧ Q v H
section
variable {X : Cx} {G : Gs} {E : WX} {P : Nat → Bool} {k : Nat} {e o : Expr} {es : List Expr} {pos : Pos} {x : Xx} {y : Ax} {i : Nat} {p : List Stp}
theorem pl_name {n : Str} (hN : X.N[i]? = some n) (hv : Vis X.env.scope n) (hd : (n == ("__debug__" : Str)) = false := by decide) (hcd : (n == ("__classdict__" : Str)) = false := by decide) : PE X (.Name n pos) (tPl i []) :=
  (pe_var hN hv hd hcd).imp fun σ H Q q => by
    obtain ⟨u, v, h1, h2, q⟩ := q
    cases h2
    exact ⟨u, h1, q⟩
theorem pl_key {z : Str} {j : Nat} {p2 : Pos} (hr : Room k X.A) (h : PE X e (tPl i p)) (hs : PlainIx (.Constant (.str z) j p2) := by intro _ _; rfl) : PE X (.Subscript e (.Constant (.str z) j p2) pos) (tPl i (.k (.inr z) :: p)) := by
  refine (pe_ix (ix_dict (by have := hr.units; omega)) h pe_str hs).imp fun σ H Q q => ?_
  obtain ⟨u, v, h1, ⟨v1, h2, a, kvs, rfl, ha, hk⟩, q⟩ := q
  exact ⟨u, .ref a, h1, h2, a, v, rfl, .inl ⟨kvs, .inr z, .inl ha, rfl, hk.symm⟩, q⟩
theorem pl_fld {C f : Str} (c : Cls X.K (G C)) (n : NoAttr X.K (G C) f) (h : PE X e (tPl i p)) (hb : attributeBase e f X.env (eval e X.env) = eval e X.env := by rfl) : PE X (.Attribute e f pos) (fun σ H Q => ∃ u v, σ[i]? = some (some u) ∧ PathV H u (.f f :: p) v ∧ (∀ a C' dx fs, PathV H u p (.ref a) → H a = some (.ins C' dx fs) → C' = G C) ∧ Q v H) := by
  refine (pe_fld h hb).imp fun σ H Q q => ?_
  obtain ⟨u, v, h1, ⟨v1, h2, a, C', dx, fs, rfl, ha, hk⟩, hC, q⟩ := q
  obtain rfl := hC a C' dx fs h2 ha
  exact ⟨u, .ref a, h1, h2, a, _, dx, fs, v, rfl, ha, c, n, hk, q⟩

/-! ### what a method does to a thing: arguments and results shared -/
def OpM (G : Gs) (r : V → List V → Hp → VK → Prop) (f : D → List D → Option (D × D)) : Prop := ∀ (w : Wd) (v : V) (bs : List Addr) (d : D) (vs : List V) (ds : List D) (d' res : D), f d ds = some (d', res) → Own G w.M w.H bs v d → Reps G w.M w.H vs ds → bs.Nodup → (∀ a ∈ bs, w.M a) →
  ∀ Q : VK, (∀ a o' v', a ∈ bs → NoTbl o' → (∀ xs, w.H a ≠ some (.tup xs)) → (∀ φ, w.H a ≠ some (.ext φ)) → Own G w.M (upd w.H a o') bs v d' → Rep G w.M (upd w.H a o') v' res → Q v' (upd w.H a o')) → r v vs w.H Q
/-- the receiver's type, of what is there -/
def Tof : D → Option String
  | .ol _ => some "list"
  | .od _ => some "dict"
  | .ot _ => some "dict"
  | _ => none
theorem tof_ok {K : PySem.W.Frag} {M : Addr → Prop} {H : Hp} {bs : List Addr} {v : V} {d : D} {T : String} (h : Tof d = some T) (o : Own G M H bs v d) : tyV K T v H := by
  cases o with
  | ol e r => cases h; exact .inl ⟨rfl, _, .of e⟩
  | od e r => cases h; exact .inr (.inr (.inl ⟨rfl, .inl ⟨_, e⟩⟩))
  | ot e r => cases h; exact .inr (.inr (.inl ⟨rfl, .inr ⟨_, e⟩⟩))
  | oi e r => cases h
  | sh r => cases r <;> cases h
/-- name.m(..), the name's own thing -/
def xMeth (T : String) (i : Nat) (f : D → List D → Option (D × D)) (y : Ax) : Xx := fun ρ => match ρ[i]? with
  | some (some d0) => if Tof d0 = some T then (match y ρ with
    | .ok ds ρ1 => if shL ds = true then (match ρ1[i]? with
      | some (some d) => (match f d ds with
        | some (d', res) => .ok res (ρ1.set i (some d'))
        | none => .no)
      | _ => .no) else .no
    | .ex c ρ1 => .ex c ρ1
    | .no => .no) else .no
  | _ => .no
/-- the last step -/
theorem meth_end {r : V → List V → Hp → VK → Prop} {f : D → List D → Option (D × D)} (hf : OpM G r f) {w w0 : Wd} {σ : Sl} {ρ : Rho} {T : List Addr} {d0 d d' res : D} {u v : V} {vs : List V} {ds : List D} {Q : VK} (er : EnvR G w σ ρ T) (g : Go G T w0 w) (h : ρ[i]? = some (some d0)) (hp : d0.at_ p = some d)
    (hs : σ[i]? = some (some u)) (hv : ∀ v', PathV w.H u p v' → v' = v) (rs : Reps G w.M w.H vs ds) (e : f d ds = some (d', res)) (q : ∀ v' w', Go G T w0 w' → EnvR G w' σ (ρ.set i (some (d0.setAt p d'))) T → Rep G w'.M w'.H v' res → Q v' w'.H) : r v vs w.H Q := by
  obtain ⟨u', v', bs, q1, q2, q3, q4, q5, q6, up⟩ := EnvR.upd_at (t := []) er h hp
  rw [hs] at q1
  cases q1
  obtain rfl := hv v' q2
  refine hf w v' bs d vs ds d' res e q3 rs q4 q6 Q fun a o' z ha no nt ne o rz => ?_
  obtain ⟨g1, er1⟩ := up a o' d' bs [] ha no nt ne q4 (fun x hx => List.mem_append_left _ hx) o
  exact q z ⟨upd w.H a o', w.M, w.C⟩ (g.trans g1) er1 rz
theorem ed_meth {r : V → List V → Hp → VK → Prop} {f : D → List D → Option (D × D)} {T id : String} {n name : Str} {p1 apos cpos : Pos} (pa : PlainAttrs T) (slot : Slot T name id) (hty : typeOf (.builtin id) = pure (.type "method_descriptor")) (hm : MtR X id r) (hf : OpM G r f) (hN : X.N[i]? = some n) (hvi : Vis X.env.scope n) (ha : PA X (e :: es) (tDA G E y))
    (hd : (n == ("__debug__" : Str)) = false := by decide) (hcd : (n == ("__classdict__" : Str)) = false := by decide) (hbase : attributeBase (.Name n p1) name X.env (eval (.Name n p1) X.env) = eval (.Name n p1) X.env := by rfl)
    (hfew : ((backTo cpos (starEach (e :: es) X.env)).all (fun x => !x.1) && (backToKw cpos (keywordEach [] X.env)).all (fun x => x.1.isSome)
      && decide ((e :: es).length + ([] : List Keyword).length + (if ([] : List Keyword).isEmpty then 0 else 1) < 30)) = true := by rfl)
    (hline : (apos.endLine == cpos.line) = true := by rfl) (hs : starEach (e :: es) X.env = (false, eval e X.env) :: starEach es X.env := by rfl) (hplain : (backTo cpos (starEach es X.env)).any (·.1) = false := by rfl) :
    PE X (.Call (.Attribute (.Name n p1) name apos) (e :: es) [] cpos) (tD G E (xMeth T i f y)) := by
  refine (pe_bm pa slot hty hm (pl_name hN hvi hd hcd) ha hbase hfew hline hs hplain).imp fun σ H Q q => ?_
  obtain ⟨w, ρ, T0, rfl, er, q⟩ := q
  unfold xMeth at q
  cases h0 : ρ[i]? with
  | none => simp only [h0] at q
  | some o0 =>
    cases o0 with
    | none => simp only [h0] at q
    | some d0 =>
      simp only [h0] at q
      by_cases ht : Tof d0 = some T
      · rw [if_pos ht] at q
        obtain ⟨u, bs, hs0, o, _⟩ := er.get h0
        refine ⟨u, u, hs0, rfl, tof_ok ht o, w, ρ, T0, rfl, er, ?_⟩
        cases h1 : y ρ with
        | ex c ρ1 => simp only [h1] at q; exact q
        | no => simp only [h1] at q
        | ok ds ρ1 =>
          simp only [h1] at q
          intro vs w1 as g1 er1 o1
          by_cases hsh : shL ds = true
          · rw [if_pos hsh] at q
            obtain ⟨rfl, rs⟩ := o1.reps hsh
            cases h2 : ρ1[i]? with
            | none => simp only [h2] at q
            | some o2 =>
              cases o2 with
              | none => simp only [h2] at q
              | some d =>
                simp only [h2] at q
                cases h3 : f d ds with
                | none => simp only [h3] at q
                | some z =>
                  obtain ⟨d', res⟩ := z
                  simp only [h3] at q
                  exact meth_end (p := []) hf er1 g1 h2 rfl hs0 (fun v' h => h) rs h3 fun v' w' g er' rz => q v' w' [] g er' (.sh rz)
          · rw [if_neg hsh] at q
            exact q.elim
      · rw [if_neg ht] at q
        exact q.elim

/-! ### paths are kept where what is owned is -/
theorem PathV.det {H : Hp} {u : V} : ∀ (p : List Stp) {v v' : V}, PathV H u p v → PathV H u p v' → v' = v
  | [], _, _, h, h' => h'.trans h.symm
  | s :: p, v, v', ⟨x, h1, h2⟩, ⟨x', h1', h2'⟩ => by
    obtain rfl := PathV.det p h1 h1'
    cases s with
    | k key =>
      obtain ⟨a, kvs, rfl, e, l⟩ := h2
      obtain ⟨a', kvs', ea, e', l'⟩ := h2'
      cases ea
      rw [e] at e'
      cases e'
      rw [l] at l'
      exact (Option.some.inj l').symm
    | f y =>
      obtain ⟨a, C, dx, fs, rfl, e, l⟩ := h2
      obtain ⟨a', C', dx', fs', ea, e', l'⟩ := h2'
      cases ea
      rw [e] at e'
      cases e'
      rw [l] at l'
      exact (Option.some.inj l').symm
theorem PathV.keep {M : Addr → Prop} {H H' : Hp} {u : V} {bs : List Addr} {d0 : D} (o : Own G M H bs u d0) (h : ∀ a ∈ bs, H' a = H a) : ∀ (p : List Stp) {v : V} {d : D}, d0.at_ p = some d → PathV H u p v → PathV H' u p v
  | [], _, _, _, e => e
  | s :: p, v, d, hd, ⟨x, h1, h2⟩ => by
    simp only [D.at_, Option.bind_eq_some_iff] at hd
    obtain ⟨e, he, hs⟩ := hd
    refine ⟨x, PathV.keep o h p he h1, ?_⟩
    obtain ⟨v1, b1, c1, q1, q2, q3, -⟩ := o.foc p he
    obtain rfl := PathV.det p q1 h1
    cases q2 with
    | od ha r =>
      rename_i a b2 xs l
      have hm : H' a = H a := h a (q3.mem_iff.mpr (List.mem_append_left _ List.mem_cons_self))
      cases s with
      | k key =>
        obtain ⟨a', kvs, ea, e', l'⟩ := h2
        cases ea
        exact ⟨a, kvs, rfl, hm.trans e', l'⟩
      | f y => simp only [D.step] at hs; cases hs
    | oi ha r =>
      rename_i a dx c b2 xs l
      have hm : H' a = H a := h a (q3.mem_iff.mpr (List.mem_append_left _ List.mem_cons_self))
      cases s with
      | f key =>
        obtain ⟨a', C, dx', fs, ea, e', l'⟩ := h2
        cases ea
        exact ⟨a, C, dx', fs, rfl, hm.trans e', l'⟩
      | k y => simp only [D.step] at hs; cases hs
    | sh r => cases r <;> (cases s <;> simp only [D.step] at hs <;> cases hs)
    | ol ha r => cases s <;> (simp only [D.step] at hs; cases hs)
    | ot ha r => cases s <;> (simp only [D.step] at hs; cases hs)
/-- place.m(..): the arguments while the name's thing is aside -/
def xMethP (T : String) (i : Nat) (p : List Stp) (f : D → List D → Option (D × D)) (y : Ax) : Xx := fun ρ => match ρ[i]? with
  | some (some d0) => (match d0.at_ p with
    | some d => if Tof d = some T then (match y (ρ.set i none) with
      | .ok ds ρ1 => if shL ds = true then (match f d ds with
        | some (d', res) => .ok res (ρ1.set i (some (d0.setAt p d')))
        | none => .no) else .no
      | .ex c ρ1 => .ex c (ρ1.set i (some d0))
      | .no => .no) else .no
    | none => .no)
  | _ => .no
theorem ed_methP {r : V → List V → Hp → VK → Prop} {f : D → List D → Option (D × D)} {T id : String} {name : Str} {apos cpos : Pos} (pa : PlainAttrs T) (slot : Slot T name id) (hty : typeOf (.builtin id) = pure (.type "method_descriptor")) (hm : MtR X id r) (hf : OpM G r f) (ho : PE X o (tPl i p)) (ha : PA X (e :: es) (tDA G E y))
    (hbase : attributeBase o name X.env (eval o X.env) = eval o X.env := by rfl)
    (hfew : ((backTo cpos (starEach (e :: es) X.env)).all (fun x => !x.1) && (backToKw cpos (keywordEach [] X.env)).all (fun x => x.1.isSome)
      && decide ((e :: es).length + ([] : List Keyword).length + (if ([] : List Keyword).isEmpty then 0 else 1) < 30)) = true := by rfl)
    (hline : (apos.endLine == cpos.line) = true := by rfl) (hs : starEach (e :: es) X.env = (false, eval e X.env) :: starEach es X.env := by rfl) (hplain : (backTo cpos (starEach es X.env)).any (·.1) = false := by rfl) :
    PE X (.Call (.Attribute o name apos) (e :: es) [] cpos) (tD G E (xMethP T i p f y)) := by
  refine (pe_bm pa slot hty hm ho ha hbase hfew hline hs hplain).imp fun σ H Q q => ?_
  obtain ⟨w, ρ, T0, rfl, er, q⟩ := q
  unfold xMethP at q
  cases h0 : ρ[i]? with
  | none => simp only [h0] at q
  | some o0 =>
    cases o0 with
    | none => simp only [h0] at q
    | some d0 =>
      simp only [h0] at q
      cases hp : d0.at_ p with
      | none => simp only [hp] at q
      | some d =>
        simp only [hp] at q
        by_cases ht : Tof d = some T
        · rw [if_pos ht] at q
          obtain ⟨u, bs, hs0, ob, er0⟩ := er.out h0
          obtain ⟨v, b1, c1, q1, q2, q3, _⟩ := ob.foc p hp
          refine ⟨u, v, hs0, q1, tof_ok ht q2, w, ρ.set i none, bs ++ T0, rfl, er0, ?_⟩
          cases h1 : y (ρ.set i none) with
          | ex c ρ1 =>
            simp only [h1] at q
            exact fun w1 g1 er1 => q w1 g1.less (er1.in_ hs0 (g1.own er0.sub ob))
          | no => simp only [h1] at q
          | ok ds ρ1 =>
            simp only [h1] at q
            intro vs w1 as g1 er1 o1
            by_cases hsh : shL ds = true
            · rw [if_pos hsh] at q
              obtain ⟨rfl, rs⟩ := o1.reps hsh
              have ob1 := g1.own er0.sub ob
              have er2 : EnvR G w1 σ (ρ1.set i (some d0)) T0 := EnvR.in_ (bs := bs) er1 hs0 ob1
              have hi : (ρ1.set i (some d0))[i]? = some (some d0) := by
                rw [List.getElem?_set_self]
                rw [← er1.len]
                exact (List.getElem?_eq_some_iff.mp hs0).1
              have pk : PathV w1.H u p v := PathV.keep ob (fun a ha => g1.ts a (List.mem_append_left _ ha)) p hp q1
              cases h3 : f d ds with
              | none => simp only [h3] at q
              | some z =>
                obtain ⟨d', res⟩ := z
                simp only [h3] at q
                refine meth_end hf er2 g1.less hi hp hs0 (fun v' h => PathV.det p pk h) rs h3 fun v' w' g er' rz => ?_
                rw [List.set_set] at er'
                exact q v' w' [] g er' (.sh rz)
            · rw [if_neg hsh] at q
              exact q.elim
        · rw [if_neg ht] at q
          exact q.elim
/-- a shared thing at a place -/
def xPl (i : Nat) (p : List Stp) : Xx := fun ρ => match ρ[i]? with
  | some (some d0) => (match d0.at_ p with
    | some d => if d.sh = true then .ok d ρ else .no
    | none => .no)
  | _ => .no
theorem ed_pl (ho : PE X o (tPl i p)) : PE X o (tD G E (xPl i p)) := ho.imp fun σ H Q q => by
  obtain ⟨w, ρ, T0, rfl, er, q⟩ := q
  unfold xPl at q
  cases h0 : ρ[i]? with
  | none => simp only [h0] at q
  | some o0 =>
    cases o0 with
    | none => simp only [h0] at q
    | some d0 =>
      simp only [h0] at q
      cases hp : d0.at_ p with
      | none => simp only [hp] at q
      | some d =>
        simp only [hp] at q
        by_cases hs : d.sh = true
        · rw [if_pos hs] at q
          obtain ⟨u, bs, hs0, ob, _⟩ := er.get h0
          obtain ⟨v, b1, c1, q1, q2, q3, _⟩ := ob.foc p hp
          obtain ⟨rfl, r⟩ := q2.rep hs
          exact ⟨u, v, hs0, q1, q v w [] (.refl T0 w) er (.sh r)⟩
        · rw [if_neg hs] at q
          exact q.elim
end
end On

set_option Elab.async false
set_option linter.all false
set_option maxRecDepth 100000
set_option maxHeartbeats 4000000
/-! On17: methods of lists, stores, reads at places. -/
namespace On
open PySem PySem.Spec PyProof.Rows L2

section
variable {X : Cx} {G : Gs} {E : WX} {P : Nat → Bool} {k : Nat} {M : Addr → Prop} {H : Hp} {e o : Expr} {es : List Expr} {pos : Pos} {x xb : Xx} {y : Ax} {i : Nat} {p : List Stp}
theorem OwnL.app : ∀ {as bs : List Addr} {vs us : List V} {ds es : List D}, OwnL G M H as vs ds → OwnL G M H bs us es → OwnL G M H (as ++ bs) (vs ++ us) (ds ++ es)
  | _, _, _, _, _, _, .nil, o => o
  | _, _, _, _, _, _, .cons a b, o => by
    rw [List.append_assoc]
    exact .cons a (OwnL.app b o)
theorem Reps.erase : ∀ {vs : List V} {ds : List D} (n : Nat), Reps G M H vs ds → Reps G M H (vs.eraseIdx n) (ds.eraseIdx n)
  | _, _, _, .nil => by simp; exact .nil
  | _, _, 0, .cons r t => t
  | _, _, n + 1, .cons r t => by
    simp only [List.eraseIdx_cons_succ]
    exact .cons r (Reps.erase n t)
theorem ol_inv {bs : List Addr} {v : V} {l : List D} (o : Own G M H bs v (.ol l)) : ∃ a b0 xs, bs = a :: b0 ∧ v = .ref a ∧ H a = some (.lst xs) ∧ OwnL G M H b0 xs l := by
  cases o with
  | ol e r => exact ⟨_, _, _, rfl, rfl, e, r⟩
  | sh r => cases r
/-- what stands at a changeable address is no fixed thing -/
theorem lst_nt {a : Addr} {xs : List V} (e : H a = some (.lst xs)) : (∀ ys, H a ≠ some (.tup ys)) ∧ ∀ φ, H a ≠ some (.ext φ) := ⟨fun ys z => (by rw [e] at z; cases z), fun φ z => (by rw [e] at z; cases z)⟩
theorem dK_nt {a : Addr} {xs : List (Key × V)} (e : H a = some (.dK xs)) : (∀ ys, H a ≠ some (.tup ys)) ∧ ∀ φ, H a ≠ some (.ext φ) := ⟨fun ys z => (by rw [e] at z; cases z), fun φ z => (by rw [e] at z; cases z)⟩
theorem dT_nt {a : Addr} {xs : List (List Key × V)} (e : H a = some (.dT xs)) : (∀ ys, H a ≠ some (.tup ys)) ∧ ∀ φ, H a ≠ some (.ext φ) := ⟨fun ys z => (by rw [e] at z; cases z), fun φ z => (by rw [e] at z; cases z)⟩
theorem ins_nt {a C dx : Addr} {xs : List (Str × V)} (e : H a = some (.ins C dx xs)) : (∀ ys, H a ≠ some (.tup ys)) ∧ ∀ φ, H a ≠ some (.ext φ) := ⟨fun ys z => (by rw [e] at z; cases z), fun φ z => (by rw [e] at z; cases z)⟩
def mApp : D → List D → Option (D × D)
  | .ol l, [d] => if l.length < most then some (.ol (l ++ [d]), .non) else none
  | _, _ => none
theorem sp_mApp : OpM G rAppend mApp := by
  intro w v bs d vs ds d' res e o rs nd mm Q q
  unfold mApp at e
  split at e
  · rename_i l x
    split at e
    · rename_i hl
      cases e
      obtain ⟨a, b0, xs, rfl, rfl, ha, r⟩ := ol_inv o
      cases rs with
      | cons rx rs =>
        cases rs
        rename_i vx
        obtain ⟨nt, ne⟩ := lst_nt ha
        have hz : xs.length < sizeLine := by rw [r.length]; exact Nat.lt_of_lt_of_le hl most_line
        refine ⟨a, xs, vx, rfl, rfl, ha, hz, ?_⟩
        have k := kp_upd (M := w.M) (o := .lst (xs ++ [vx])) (mm a List.mem_cons_self) nt ne
        refine q a (.lst (xs ++ [vx])) .non List.mem_cons_self noTbl_lst nt ne (.ol upd_same ?_) .non
        have r1 := OwnL.kp k r fun x hx => upd_ne fun z => (List.nodup_cons.mp nd).1 (by rw [← z]; exact hx)
        have := OwnL.app r1 (.cons (as := []) (.sh (rx.kp k)) .nil)
        simpa using this
    · cases e
  · cases e
def mExt : D → List D → Option (D × D)
  | .ol l, [.lst m] => if l.length + m.length ≤ most then some (.ol (l ++ m), .non) else none
  | _, _ => none
theorem sp_mExt : OpM G rExtend mExt := by
  intro w v bs d vs ds d' res e o rs nd mm Q q
  unfold mExt at e
  split at e
  · rename_i l m
    split at e
    · rename_i hl
      cases e
      obtain ⟨a, b0, xs, rfl, rfl, ha, r⟩ := ol_inv o
      cases rs with
      | cons rx rs =>
        cases rs
        cases rx with
        | lst m1 e1 r1 =>
          rename_i b zs
          obtain ⟨nt, ne⟩ := lst_nt ha
          refine ⟨a, b, xs, zs, rfl, rfl, ha, e1, by rw [r.length, r1.length]; exact Nat.le_trans hl most_line, ?_⟩
          have k := kp_upd (M := w.M) (o := .lst (xs ++ zs)) (mm a List.mem_cons_self) nt ne
          refine q a (.lst (xs ++ zs)) .non List.mem_cons_self noTbl_lst nt ne (.ol upd_same ?_) .non
          have r2 := OwnL.kp k r fun x hx => upd_ne fun z => (List.nodup_cons.mp nd).1 (by rw [← z]; exact hx)
          have := OwnL.app r2 (.of (r1.kp k))
          simpa using this
    · cases e
  · cases e
def mPopAt : D → List D → Option (D × D)
  | .ol l, [.int i] => if -(2 ^ 63) ≤ i ∧ i < 2 ^ 63 ∧ shL l = true then (match seqIndex? i l.length with
    | some k => (match l[k]? with
      | some d => some (.ol (l.eraseIdx k), d)
      | none => none)
    | none => none) else none
  | _, _ => none
theorem sp_mPopAt : OpM G rPopAt mPopAt := by
  intro w v bs d vs ds d' res e o rs nd mm Q q
  unfold mPopAt at e
  split at e
  · rename_i l i
    split at e
    · rename_i hl
      obtain ⟨a, b0, xs, rfl, rfl, ha, r⟩ := ol_inv o
      obtain ⟨rfl, r2⟩ := r.reps hl.2.2
      clear r
      cases h1 : seqIndex? i l.length with
      | none => simp only [h1] at e; cases e
      | some k =>
        simp only [h1] at e
        cases h2 : l[k]? with
        | none => simp only [h2] at e; cases e
        | some x =>
          simp only [h2] at e
          cases e
          cases rs with
          | cons rx rs =>
            cases rs
            cases rx
            obtain ⟨nt, ne⟩ := lst_nt ha
            obtain ⟨y, hy, ry⟩ := r2.get h2
            refine ⟨a, xs, i, k, y, rfl, rfl, ha, hl.1, hl.2.1, by rw [r2.length]; exact h1, hy, ?_⟩
            have kk := kp_upd (M := w.M) (o := .lst (xs.eraseIdx k)) (mm a List.mem_cons_self) nt ne
            exact q a (.lst (xs.eraseIdx k)) y List.mem_cons_self noTbl_lst nt ne (.ol upd_same (.of ((r2.erase k).kp kk))) (ry.kp kk)
    · cases e
  · cases e

/-! ### place[k] = v -/
theorem OwnT.length : ∀ {as : List Addr} {v : List (List Key × V)} {d : List (List Key × D)}, OwnT G M H as v d → v.length = d.length
  | _, _, _, .nil => rfl
  | _, _, _, .cons _ b => congrArg (· + 1) (OwnT.length b)
theorem _root_.L2.PSet.or {t t' : TSet} (h : PSet X t) (h' : PSet X t') : PSet X (fun o i v H Q => t o i v H Q ∨ t' o i v H Q) := by
  intro pins s σ H o i v ov iv u Q I ro ri rv q
  rcases q with q | q
  · exact h pins s σ H o i v ov iv u Q I ro ri rv q
  · exact h' pins s σ H o i v ov iv u Q I ro ri rv q
def rSetX : TSet := fun o i v H Q => rSetD o i v H Q ∨ rSetL o i v H Q
theorem set_x (hr : Room k X.A) : PSet X rSetX := PSet.or (set_dict (by have := hr.units; omega)) set_list
theorem OwnK.app : ∀ {as bs : List Addr} {vs us : List (Key × V)} {ds es : List (Key × D)}, OwnK G M H as vs ds → OwnK G M H bs us es → OwnK G M H (as ++ bs) (vs ++ us) (ds ++ es)
  | _, _, _, _, _, _, .nil, o => o
  | _, _, _, _, _, _, .cons a b, o => by
    rw [List.append_assoc]
    exact .cons a (OwnK.app b o)
theorem OwnT.app : ∀ {as bs : List Addr} {vs us : List (List Key × V)} {ds es : List (List Key × D)}, OwnT G M H as vs ds → OwnT G M H bs us es → OwnT G M H (as ++ bs) (vs ++ us) (ds ++ es)
  | _, _, _, _, _, _, .nil, o => o
  | _, _, _, _, _, _, .cons a b, o => by
    rw [List.append_assoc]
    exact .cons a (OwnT.app b o)
theorem OwnK.any (key : Key) : ∀ {as : List Addr} {vs : List (Key × V)} {ds : List (Key × D)}, OwnK G M H as vs ds → (vs.any fun kv => decide (kv.1 = key)) = ds.any fun kv => decide (kv.1 = key)
  | _, _, _, .nil => rfl
  | _, _, _, .cons r t => by rw [List.any_cons, List.any_cons, OwnK.any key t]
theorem OwnT.any (key : List Key) : ∀ {as : List Addr} {vs : List (List Key × V)} {ds : List (List Key × D)}, OwnT G M H as vs ds → (vs.any fun kv => decide (kv.1 = key)) = ds.any fun kv => decide (kv.1 = key)
  | _, _, _, .nil => rfl
  | _, _, _, .cons r t => by rw [List.any_cons, List.any_cons, OwnT.any key t]
theorem OwnK.repl {key : Key} {y : V} {z : D} (ry : Rep G M H y z) : ∀ {as : List Addr} {vs : List (Key × V)} {ds : List (Key × D)}, OwnK G M H as vs ds → ∃ bs, bs.Sublist as ∧ OwnK G M H bs (vs.map fun kv => if kv.1 = key then (kv.1, y) else kv) (ds.map fun kv => if kv.1 = key then (kv.1, z) else kv)
  | _, _, _, .nil => ⟨[], .refl _, .nil⟩
  | _, _, _, .cons (as := as) (bs := bs) (k := k0) r t => by
    obtain ⟨b, s, h⟩ := OwnK.repl (key := key) ry t
    rw [List.map_cons, List.map_cons]
    by_cases e : k0 = key
    · rw [if_pos e, if_pos e]
      exact ⟨b, s.trans (List.sublist_append_right as bs), .cons (as := []) (.sh ry) h⟩
    · rw [if_neg e, if_neg e]
      exact ⟨as ++ b, List.Sublist.append_left s as, .cons r h⟩
theorem OwnT.repl {key : List Key} {y : V} {z : D} (ry : Rep G M H y z) : ∀ {as : List Addr} {vs : List (List Key × V)} {ds : List (List Key × D)}, OwnT G M H as vs ds → ∃ bs, bs.Sublist as ∧ OwnT G M H bs (vs.map fun kv => if kv.1 = key then (kv.1, y) else kv) (ds.map fun kv => if kv.1 = key then (kv.1, z) else kv)
  | _, _, _, .nil => ⟨[], .refl _, .nil⟩
  | _, _, _, .cons (as := as) (bs := bs) (k := k0) r t => by
    obtain ⟨b, s, h⟩ := OwnT.repl (key := key) ry t
    rw [List.map_cons, List.map_cons]
    by_cases e : k0 = key
    · rw [if_pos e, if_pos e]
      exact ⟨b, s.trans (List.sublist_append_right as bs), .cons (as := []) (.sh ry) h⟩
    · rw [if_neg e, if_neg e]
      exact ⟨as ++ b, List.Sublist.append_left s as, .cons r h⟩
/-- the thing behind [key] = val; val owned only where the key is new -/
def dPut (d key val : D) : Option D := match d with
  | .od l => (match key.key with
    | some k => if l.length < most ∧ (val.sh = true ∨ (l.any fun kv => decide (kv.1 = k)) = false) then some (.od (putD l k val)) else none
    | none => none)
  | .ot l => (match key.keyT with
    | some k => if l.length < most ∧ (val.sh = true ∨ (l.any fun kv => decide (kv.1 = k)) = false) then some (.ot (putD l k val)) else none
    | none => none)
  | .ol l => (match key with
    | .int j => if shL l = true ∧ val.sh = true then (ixN l.length j).map fun n => .ol (l.set n val) else none
    | _ => none)
  | _ => none
theorem Reps.set {y : V} {z : D} (ry : Rep G M H y z) : ∀ {vs : List V} {ds : List D} (n : Nat), Reps G M H vs ds → Reps G M H (vs.set n y) (ds.set n z)
  | _, _, _, .nil => .nil
  | _, _, 0, .cons r t => .cons ry t
  | _, _, n + 1, .cons r t => .cons r (Reps.set ry n t)
/-- the store by values -/
theorem put_ok {w : Wd} {v kv nv : V} {bs as : List Addr} {d key val d' : D} {Q : Hp → Prop} (h : dPut d key val = some d') (o : Own G w.M w.H bs v d) (rk : Rep G w.M w.H kv key) (ov : Own G w.M w.H as nv val) (nd : (bs ++ as).Nodup) (mm : ∀ a ∈ bs, w.M a)
    (q : ∀ a o' bs', a ∈ bs → NoTbl o' → (∀ xs, w.H a ≠ some (.tup xs)) → (∀ φ, w.H a ≠ some (.ext φ)) → bs'.Nodup → (∀ x ∈ bs', x ∈ bs ++ as) → Own G w.M (upd w.H a o') bs' v d' → Q (upd w.H a o')) : rSetX v kv nv w.H Q := by
  unfold dPut at h
  cases o with
  | od ha r =>
    rename_i a b0 xs l
    simp only at h
    cases h1 : key.key with
    | none => simp only [h1] at h; cases h
    | some kk =>
      simp only [h1] at h
      split at h
      · rename_i hc
        cases h
        obtain rfl := rep_key rk h1
        obtain ⟨nt, ne⟩ := dK_nt ha
        have hl : xs.length < sizeLine := by rw [r.length]; exact Nat.lt_of_lt_of_le hc.1 most_line
        refine .inl ⟨a, _, rfl, .k ha hl, ?_⟩
        have k := kp_upd (M := w.M) (o := .dK (putK xs kk nv)) (mm a List.mem_cons_self) nt ne
        have nd1 : (b0 ++ as).Nodup := (List.nodup_cons.mp nd).2
        have na : ∀ x ∈ b0 ++ as, x ≠ a := fun x hx z => (List.nodup_cons.mp nd).1 (by rw [← z]; exact hx)
        have r1 := OwnK.kp k r fun x hx => upd_ne (na x (List.mem_append_left _ hx))
        have ov1 := Own.kp k ov fun x hx => upd_ne (na x (List.mem_append_right _ hx))
        by_cases hn : (l.any fun kv => decide (kv.1 = kk)) = true
        · have hs : val.sh = true := hc.2.resolve_right (by rw [hn]; decide)
          obtain ⟨rfl, rv⟩ := ov1.rep hs
          obtain ⟨b', sb, ob⟩ := OwnK.repl (key := kk) rv r1
          refine q a _ (a :: b') List.mem_cons_self noTbl_dK nt ne ?_ (fun x hx => ?_) (.od upd_same ?_)
          · rw [List.append_nil] at nd na
            exact List.nodup_cons.mpr ⟨fun z => na a (sb.subset z) rfl, sb.nodup (List.nodup_cons.mp nd).2⟩
          · rw [List.append_nil]
            rcases List.mem_cons.mp hx with z | z
            · rw [z]; exact List.mem_cons_self
            · exact List.mem_cons_of_mem _ (sb.subset z)
          · generalize upd w.H a (.dK (putK xs kk nv)) = H1 at ob ⊢
            unfold putK putD
            rw [if_pos (by rw [r.any kk]; exact hn), if_pos hn]
            exact ob
        · refine q a _ (a :: (b0 ++ as)) List.mem_cons_self noTbl_dK nt ne nd (fun x hx => hx) (.od upd_same ?_)
          have this := OwnK.app r1 (.cons (k := kk) ov1 .nil)
          rw [List.append_nil] at this
          generalize upd w.H a (.dK (putK xs kk nv)) = H1 at this ⊢
          unfold putK putD
          rw [if_neg (by rw [r.any kk]; exact hn), if_neg hn]
          exact this
      · cases h
  | ot ha r =>
    rename_i a b0 xs l
    simp only at h
    cases h1 : key.keyT with
    | none => simp only [h1] at h; cases h
    | some kk =>
      simp only [h1] at h
      split at h
      · rename_i hc
        cases h
        obtain ⟨b, rfl, hb⟩ := rep_keyT rk h1
        obtain ⟨nt, ne⟩ := dT_nt ha
        have hl : xs.length < sizeLine := by rw [r.length]; exact Nat.lt_of_lt_of_le hc.1 most_line
        refine .inl ⟨a, _, rfl, .t ha hb hl, ?_⟩
        have k := kp_upd (M := w.M) (o := .dT (putK xs kk nv)) (mm a List.mem_cons_self) nt ne
        have nd1 : (b0 ++ as).Nodup := (List.nodup_cons.mp nd).2
        have na : ∀ x ∈ b0 ++ as, x ≠ a := fun x hx z => (List.nodup_cons.mp nd).1 (by rw [← z]; exact hx)
        have r1 := OwnT.kp k r fun x hx => upd_ne (na x (List.mem_append_left _ hx))
        have ov1 := Own.kp k ov fun x hx => upd_ne (na x (List.mem_append_right _ hx))
        by_cases hn : (l.any fun kv => decide (kv.1 = kk)) = true
        · have hs : val.sh = true := hc.2.resolve_right (by rw [hn]; decide)
          obtain ⟨rfl, rv⟩ := ov1.rep hs
          obtain ⟨b', sb, ob⟩ := OwnT.repl (key := kk) rv r1
          refine q a _ (a :: b') List.mem_cons_self noTbl_dT nt ne ?_ (fun x hx => ?_) (.ot upd_same ?_)
          · rw [List.append_nil] at nd na
            exact List.nodup_cons.mpr ⟨fun z => na a (sb.subset z) rfl, sb.nodup (List.nodup_cons.mp nd).2⟩
          · rw [List.append_nil]
            rcases List.mem_cons.mp hx with z | z
            · rw [z]; exact List.mem_cons_self
            · exact List.mem_cons_of_mem _ (sb.subset z)
          · generalize upd w.H a (.dT (putK xs kk nv)) = H1 at ob ⊢
            unfold putK putD
            rw [if_pos (by rw [r.any kk]; exact hn), if_pos hn]
            exact ob
        · refine q a _ (a :: (b0 ++ as)) List.mem_cons_self noTbl_dT nt ne nd (fun x hx => hx) (.ot upd_same ?_)
          have this := OwnT.app r1 (.cons (k := kk) ov1 .nil)
          rw [List.append_nil] at this
          generalize upd w.H a (.dT (putK xs kk nv)) = H1 at this ⊢
          unfold putK putD
          rw [if_neg (by rw [r.any kk]; exact hn), if_neg hn]
          exact this
      · cases h
  | ol ha r =>
    rename_i a b0 xs l
    simp only at h
    cases rk with
    | int j =>
      simp only at h
      split at h
      · rename_i hc
        simp only [Option.map_eq_some_iff] at h
        obtain ⟨n, hn, rfl⟩ := h
        obtain ⟨rfl, r2⟩ := r.reps hc.1
        obtain ⟨rfl, rv⟩ := ov.rep hc.2
        obtain ⟨nt, ne⟩ := lst_nt ha
        refine .inr ⟨a, xs, j, n, rfl, rfl, ha, by rw [r2.length]; exact hn, ?_⟩
        have k := kp_upd (M := w.M) (o := .lst (xs.set n nv)) (mm a List.mem_cons_self) nt ne
        exact q a _ [a] List.mem_cons_self noTbl_lst nt ne (by simp) (fun x hx => by simpa using hx) (.ol upd_same (.of ((Reps.set rv n r2).kp k)))
      · cases h
    | _ => simp only at h <;> cases h
  | oi ha r => simp only at h; cases h
  | sh r => cases r <;> simp only at h <;> cases h
end
end On

set_option Elab.async false
set_option linter.all false
set_option maxRecDepth 100000
set_option maxHeartbeats 4000000
/-! On18: targets at places, reads at places. -/
namespace On
open PySem PySem.Spec PyProof.Rows L2

mutual
/-- data that leans on nothing that may change -/
def D.im : D → Bool
  | .non => true
  | .bl _ => true
  | .int _ => true
  | .str _ => true
  | .gl _ => true
  | .exc _ => true
  | .cl _ => true
  | .tup l => imL l
  | _ => false
def imL : List D → Bool
  | [] => true
  | d :: r => d.im && imL r
end
section
variable {G : Gs} {M M' : Addr → Prop} {H : Hp}
mutual
theorem Rep.im : ∀ {v : V} {d : D}, Rep G M H v d → d.im = true → Rep G M' H v d
  | _, _, .non, _ => .non
  | _, _, .bl b, _ => .bl b
  | _, _, .int i, _ => .int i
  | _, _, .str x, _ => .str x
  | _, _, .gl x, _ => .gl x
  | _, _, .exc e, _ => .exc e
  | _, _, .cl e f, _ => .cl e f
  | _, _, .tup e r, h => .tup e (Reps.im r (by simpa only [D.im] using h))
  | _, _, .lst _ _ _, h => by simp only [D.im] at h; cases h
  | _, _, .fl _ _ _, h => by simp only [D.im] at h; cases h
  | _, _, .dk _ _ _, h => by simp only [D.im] at h; cases h
  | _, _, .dt _ _ _, h => by simp only [D.im] at h; cases h
  | _, _, .ins _ _ _, h => by simp only [D.im] at h; cases h
theorem Reps.im : ∀ {v : List V} {d : List D}, Reps G M H v d → imL d = true → Reps G M' H v d
  | _, _, .nil, _ => .nil
  | _, _, .cons r t, h => by
    simp only [imL, Bool.and_eq_true] at h
    exact .cons (Rep.im r h.1) (Reps.im t h.2)
end
theorem im_sh {d : D} (h : d.im = true) : d.sh = true := by cases d <;> first | rfl | (simp only [D.im] at h; cases h)
end

section
variable {X : Cx} {G : Gs} {E : WX} {P : Nat → Bool} {k : Nat} {e o : Expr} {es : List Expr} {pos : Pos} {x xb xk : Xx} {y : Ax} {i : Nat} {p : List Stp}
/-! ### targets -/
def gxPut (i : Nat) (p : List Stp) (xk : Xx) : Gx := fun d ρ => match ρ[i]? with
  | some (some d0) => (match d0.at_ p with
    | some dp => (match xk (ρ.set i none) with
      | .ok dk ρ1 => if dk.sh = true then (match dPut dp dk d with
        | some d' => some (ρ1.set i (some (d0.setAt p d')))
        | none => none) else none
      | _ => none)
    | none => none)
  | _ => none
theorem eg_put {ie : Expr} (hr : Room k X.A) (ho : PE X o (tPl i p)) (hi : PE X ie (tD G E xk)) (ha : ∀ v, assign (.Subscript o ie pos) X.env v = (do
      let ov ← holding [v] (eval o X.env)
      let iv ← holding [v, ov] (eval ie X.env)
      standAt pos
      holding [v, ov, iv] (setItem ov iv v)
      release [v, ov, iv] []) := by intro _; rfl) : PG X (.Subscript o ie pos) (tG G P (gxPut i p xk)) := by
  refine (pg_sub ho hi (set_x hr) ha).imp fun nv σ H Q q => ?_
  obtain ⟨w, ρ, T, as, d, rfl, er, ov, q⟩ := q
  unfold gxPut at q
  cases h0 : ρ[i]? with
  | none => simp only [h0] at q
  | some o0 =>
    cases o0 with
    | none => simp only [h0] at q
    | some d0 =>
      simp only [h0] at q
      cases hp : d0.at_ p with
      | none => simp only [hp] at q
      | some dp =>
        simp only [hp] at q
        obtain ⟨u, bs, hs0, ob, er0⟩ := er.out h0
        obtain ⟨v, b1, c1, q1, q2, q3, _⟩ := ob.foc p hp
        refine ⟨u, v, hs0, q1, w, ρ.set i none, bs ++ (as ++ T), rfl, er0, ?_⟩
        cases h1 : xk (ρ.set i none) with
        | ex c ρ1 => simp only [h1] at q
        | no => simp only [h1] at q
        | ok dk ρ1 =>
          simp only [h1] at q
          intro kv w1 as1 g1 er1 o1
          by_cases hsh : dk.sh = true
          · rw [if_pos hsh] at q
            obtain ⟨rfl, rk⟩ := o1.rep hsh
            have ob1 := g1.own er0.sub ob
            have ov1 : Own G w1.M w1.H as nv d := ov.kp (g1.le.kp er0.sub) fun a ha => g1.ts a (List.mem_append_right _ (List.mem_append_left _ ha))
            have er2 : EnvR G w1 σ (ρ1.set i (some d0)) (as ++ T) := EnvR.in_ (bs := bs) er1 hs0 ob1
            have hi : (ρ1.set i (some d0))[i]? = some (some d0) := by
              rw [List.getElem?_set_self]
              rw [← er1.len]
              exact (List.getElem?_eq_some_iff.mp hs0).1
            have pk : PathV w1.H u p v := PathV.keep ob (fun a ha => g1.ts a (List.mem_append_left _ ha)) p hp q1
            cases h3 : dPut dp dk d with
            | none => simp only [h3] at q
            | some d' =>
              simp only [h3] at q
              obtain ⟨u', v', b2, z1, z2, z3, z4, z5, z6, up⟩ := EnvR.upd_at (t := as) er2 hi hp
              rw [hs0] at z1
              cases z1
              obtain rfl := PathV.det p pk z2
              have ndas : as.Nodup := by
                obtain ⟨_, _, n, _⟩ := er2.ex
                exact (List.nodup_append.mp (List.nodup_append.mp n).2.1).1
              have nd : (b2 ++ as).Nodup := List.nodup_append.mpr ⟨z4, ndas, fun a ha b hb z => z5 a ha (by rw [z]; exact hb)⟩
              refine put_ok h3 z3 rk ov1 nd z6 fun a o' bs' ha no nt ne ndb sub o => ?_
              obtain ⟨g2, er3⟩ := up a o' d' bs' [] ha no nt ne ndb sub o
              rw [List.set_set] at er3
              exact q σ ⟨upd w1.H a o', w1.M, w1.C⟩ ((g1.less.less).trans g2) er3 Pin.refl
          · rw [if_neg hsh] at q
            exact q.elim
def gFldV (K : PySem.W.Frag) (to : TE) (f : Str) : TG := fun v σ H Q => to σ H fun x H2 => ∃ a C dx fs, x = .ref a ∧ H2 a = some (.ins C dx fs) ∧ Cls K C ∧ NoAttr K C f ∧ fs.length < 1000 ∧ Q σ (upd H2 a (.ins C dx (putF f v fs)))
theorem pg_fld {f : Str} {to : TE} (ho : PE X o to) : PG X (.Attribute o f pos) (gFldV X.K to f) := by
  refine ⟨fun pins s σ H v u Q I r h => ?_⟩
  rw [assign_Attribute]
  refine wpAny_bind (wpAny_holding (thn (ho.run pins s σ H _ I h) fun ov s1 ⟨x, H1, I1, r1, a, C, dx, fs, ex, ea, c, n, l, q⟩ => ?_))
  subst ex
  obtain rfl : ov = Value.ref a := r1
  refine wpAny_bind (wpAny_standAt (wpAny_bind (wpAny_holding (setattr_ok I1 ea c n l r fun s3 I3 => wpAny_release ⟨σ, _, I3, q⟩))))
end
section
variable {G : Gs} {M : Addr → Prop} {H : Hp}
theorem OwnF.app : ∀ {as bs : List Addr} {vs us : List (Str × V)} {ds es : List (Str × D)}, OwnF G M H as vs ds → OwnF G M H bs us es → OwnF G M H (as ++ bs) (vs ++ us) (ds ++ es)
  | _, _, _, _, _, _, .nil, o => o
  | _, _, _, _, _, _, .cons a b, o => by
    rw [List.append_assoc]
    exact .cons a (OwnF.app b o)
theorem OwnF.length : ∀ {as : List Addr} {v : List (Str × V)} {d : List (Str × D)}, OwnF G M H as v d → v.length = d.length
  | _, _, _, .nil => rfl
  | _, _, _, .cons _ b => congrArg (· + 1) (OwnF.length b)
def putFD (f : Str) (d : D) : List (Str × D) → List (Str × D)
  | [] => [(f, d)]
  | (g, x) :: r => if g = f then (g, d) :: r else (g, x) :: putFD f d r
theorem OwnF.put {f : Str} {as : List Addr} {y : V} {z : D} (oy : Own G M H as y z) : ∀ {bs : List Addr} {vs : List (Str × V)} {ds : List (Str × D)}, OwnF G M H bs vs ds → ∃ b' dr, OwnF G M H b' (putF f y vs) (putFD f z ds) ∧ (bs ++ as).Perm (b' ++ dr)
  | _, _, _, .nil => ⟨as ++ [], [], .cons oy .nil, by simp⟩
  | _, _, _, .cons (as := a1) (bs := bs) (k := k0) r t => by
    by_cases e : k0 = f
    · refine ⟨as ++ bs, a1, ?_, ?_⟩
      · unfold putF putFD
        rw [if_pos e, if_pos e]
        exact .cons oy t
      · rw [List.append_assoc]
        refine List.perm_append_comm.trans ?_
        exact List.Perm.append_right a1 List.perm_append_comm
    · obtain ⟨b', dr, h1, h2⟩ := OwnF.put (f := f) oy t
      refine ⟨a1 ++ b', dr, ?_, ?_⟩
      · unfold putF putFD
        rw [if_neg e, if_neg e]
        exact .cons r h1
      · rw [List.append_assoc, List.append_assoc]
        exact List.Perm.append_left a1 h2
end
section
variable {X : Cx} {G : Gs} {E : WX} {P : Nat → Bool} {k : Nat} {e o : Expr} {es : List Expr} {pos : Pos} {x xb xk : Xx} {y : Ax} {i : Nat} {p : List Stp}
/-- place.f = v, of an instance of the class C -/
def dPutF (C f : Str) : D → D → Option D
  | .oi c l, d => if c = C ∧ l.length < 900 then some (.oi c (putFD f d l)) else none
  | _, _ => none
def gxFld (i : Nat) (p : List Stp) (C f : Str) : Gx := fun d ρ => match ρ[i]? with
  | some (some d0) => (match d0.at_ p with
    | some dp => (match dPutF C f dp d with
      | some d' => some (ρ.set i (some (d0.setAt p d')))
      | none => none)
    | none => none)
  | _ => none
theorem eg_fld {C f : Str} (c : Cls X.K (G C)) (n : NoAttr X.K (G C) f) (ho : PE X o (tPl i p)) : PG X (.Attribute o f pos) (tG G P (gxFld i p C f)) := by
  refine (pg_fld ho).imp fun nv σ H Q q => ?_
  obtain ⟨w, ρ, T, as, d, rfl, er, ov, q⟩ := q
  unfold gxFld at q
  cases h0 : ρ[i]? with
  | none => simp only [h0] at q
  | some o0 =>
    cases o0 with
    | none => simp only [h0] at q
    | some d0 =>
      simp only [h0] at q
      cases hp : d0.at_ p with
      | none => simp only [hp] at q
      | some dp =>
        simp only [hp] at q
        cases h3 : dPutF C f dp d with
        | none => simp only [h3] at q
        | some d' =>
          simp only [h3] at q
          obtain ⟨u, v, b2, z1, z2, z3, z4, z5, z6, up⟩ := EnvR.upd_at (t := as) er h0 hp
          unfold dPutF at h3
          split at h3
          · rename_i cc l
            split at h3
            · rename_i hc
              obtain ⟨rfl, hlen⟩ := hc
              cases h3
              cases z3 with
              | sh r => cases r
              | oi ha r =>
                rename_i a dx b0 xs
                obtain ⟨nt, ne⟩ := ins_nt ha
                refine ⟨u, .ref a, z1, z2, a, _, dx, xs, rfl, ha, c, n, by rw [r.length]; omega, ?_⟩
                have ndas : as.Nodup := by
                  obtain ⟨_, _, m, _⟩ := er.ex
                  exact (List.nodup_append.mp (List.nodup_append.mp m).2.1).1
                have nd : (a :: b0 ++ as).Nodup := List.nodup_append.mpr ⟨z4, ndas, fun x hx y hy z => z5 x hx (by rw [z]; exact hy)⟩
                have k := kp_upd (M := w.M) (o := .ins (G cc) dx (putF f nv xs)) (z6 a List.mem_cons_self) nt ne
                have na : ∀ x ∈ b0 ++ as, x ≠ a := fun x hx z => (List.nodup_cons.mp nd).1 (by rw [← z]; exact hx)
                have r1 := OwnF.kp k r fun x hx => upd_ne (na x (List.mem_append_left _ hx))
                have ov1 := Own.kp k ov fun x hx => upd_ne (na x (List.mem_append_right _ hx))
                obtain ⟨b', dr, ob, pm⟩ := OwnF.put (f := f) ov1 r1
                have sub : ∀ x ∈ b', x ∈ b0 ++ as := fun x hx => pm.mem_iff.mpr (List.mem_append_left _ hx)
                have ndb : (a :: b').Nodup := List.nodup_cons.mpr ⟨fun z => na a (sub a z) rfl, (List.nodup_append.mp (pm.nodup (List.nodup_cons.mp nd).2)).1⟩
                obtain ⟨g2, er3⟩ := up a _ _ (a :: b') [] List.mem_cons_self noTbl_ins nt ne ndb (fun x hx => by
                  rcases List.mem_cons.mp hx with z | z
                  · rw [z]; exact List.mem_cons_self
                  · exact List.mem_cons_of_mem _ (sub x z)) (.oi upd_same ob)
                exact q σ _ g2 er3 Pin.refl
            · cases h3
          · cases h3

/-! ### reads -/
theorem bor_prim {w w' : Wd} {bs : List Addr} (p : Prim ⟨w.H, fun a => w.M a ∧ a ∉ bs, fun a => w.C a ∧ a ∉ bs⟩ w' []) : Prim w ⟨w'.H, w.M, w.C⟩ [] := ⟨p.dir, p.tbl, by funext a; simp, by funext a; simp, fun _ h => (nomatch h), fun _ h => (nomatch h), .nil⟩
/-- an operation on a place (read alone) and a value; what comes leans on nothing that may change -/
def xOpP (f : D → D → Option D) (i : Nat) (p : List Stp) (xb : Xx) : Xx := fun ρ => match ρ[i]? with
  | some (some d0) => (match d0.at_ p with
    | some d1 => (match xb (ρ.set i none) with
      | .ok d2 ρ1 => if d2.sh = true then (match f d1.fz d2 with
        | some d => if d.im = true then .ok d (ρ1.set i (some d0)) else .no
        | none => .no) else .no
      | .ex c ρ1 => .ex c (ρ1.set i (some d0))
      | .no => .no)
    | none => .no)
  | _ => .no
theorem tD_opP {r : R2} {f : D → D → Option D} (hf : Op2 G r f) (σ : Sl) (H : Hp) (Q : VK) (q : tD G E (xOpP f i p xb) σ H Q) : tOp r (tPl i p) (tD G E xb) σ H Q := by
  obtain ⟨w, ρ, T, rfl, er, q⟩ := q
  unfold xOpP at q
  cases h0 : ρ[i]? with
  | none => simp only [h0] at q
  | some o0 =>
    cases o0 with
    | none => simp only [h0] at q
    | some d0 =>
      simp only [h0] at q
      cases hp : d0.at_ p with
      | none => simp only [hp] at q
      | some d1 =>
        simp only [hp] at q
        obtain ⟨u, bs, hs0, ob, er0⟩ := er.out h0
        obtain ⟨v, b1, c1, q1, q2, q3, _⟩ := ob.foc p hp
        refine ⟨u, v, hs0, q1, w, ρ.set i none, bs ++ T, rfl, er0, ?_⟩
        cases h1 : xb (ρ.set i none) with
        | ex c ρ1 =>
          simp only [h1] at q
          exact fun w1 g1 er1 => q w1 g1.less (er1.in_ hs0 (g1.own er0.sub ob))
        | no => simp only [h1] at q
        | ok d2 ρ1 =>
          simp only [h1] at q
          intro v2 w1 as1 g1 er1 o1
          by_cases hsh : d2.sh = true
          · rw [if_pos hsh] at q
            obtain ⟨rfl, r2⟩ := o1.rep hsh
            cases h3 : f d1.fz d2 with
            | none => simp only [h3] at q
            | some d =>
              simp only [h3] at q
              by_cases him : d.im = true
              · rw [if_pos him] at q
                have ob1 := g1.own er0.sub ob
                have er2 : EnvR G w1 σ (ρ1.set i (some d0)) T := EnvR.in_ (bs := bs) er1 hs0 ob1
                have q2' : Own G w1.M w1.H b1 v d1 := q2.kp (g1.le.kp er0.sub) fun a ha => g1.ts a (List.mem_append_left _ (q3.mem_iff.mpr (List.mem_append_left _ ha)))
                have rf := q2'.fz (N := fun a => w1.M a ∧ a ∉ b1) (fun a h => h.1) fun a ha z => z.2 ha
                refine hf ⟨w1.H, fun a => w1.M a ∧ a ∉ b1, fun a => w1.C a ∧ a ∉ b1⟩ v v2 d1.fz d2 d h3 rf (r2.kp (kp_less fun a h => h.1)) Q fun z w' as pr oz => ?_
                obtain ⟨rfl, rz⟩ := oz.rep (im_sh him)
                have P := bor_prim pr
                exact q z ⟨w'.H, w1.M, w1.C⟩ [] ((g1.less).trans (P.go er2)) (er2.prim0 P) (.sh (rz.im him))
              · rw [if_neg him] at q
                exact q.elim
          · rw [if_neg hsh] at q
            exact q.elim
theorem ed_ixP {r : R2} {f : D → D → Option D} (ho : IxR X r) (hf : Op2 G r f) (ha : PE X o (tPl i p)) (hb : PE X e (tD G E xb)) (hs : PlainIx e) : PE X (.Subscript o e pos) (tD G E (xOpP f i p xb)) := (pe_ix ho ha hb hs).imp (tD_opP hf)
theorem ed_cmpP {op : CmpOp} {r : R2} {f : D → D → Option D} (ho : OpR X (compareOp op) r) (hf : Op2 G r f) (ha : PE X o (tPl i p)) (hb : PE X e (tD G E xb)) (hm : behindInMarks op e = false) : PE X (.Compare o [op] [e] pos) (tD G E (xOpP f i p xb)) := (pe_cmpR ho ha hb hm).imp (tD_opP hf)
theorem et_cmpP {op : CmpOp} {r : R2} {f : D → D → Option D} (ho : OpR X (compareOp op) r) (hf : Op2 G r f) (ha : PE X o (tPl i p)) (hb : PE X e (tD G E xb)) (hm : behindInMarks op e = false) : PT X (.Compare o [op] [e] pos) (tDB G E (toB (xOpP f i p xb))) :=
  et_tB (t := tOp r (tPl i p) (tD G E xb)) (pt_cmpR ho ha hb hm) (tD_opP hf)
/-- a built-in of a place -/
def xOnP (f : List D → Option D) (i : Nat) (p : List Stp) : Xx := fun ρ => match ρ[i]? with
  | some (some d0) => (match d0.at_ p with
    | some d1 => (match f [d1.fz] with
      | some d => if d.im = true then .ok d ρ else .no
      | none => .no)
    | none => .no)
  | _ => .no
theorem ed_cbP {r : List V → Hp → VK → Prop} {f : List D → Option D} {id : String} {n : Str} {p1 : Pos} (hc : CallR X (.builtin id) r) (hf : OpN G r f) (hg : Gl X n) (hm : X.mg n = none) (hv : bootBuiltins n = some (.builtin id)) (ha : PE X o (tPl i p)) (hn : n ≠ "__name__" := by decide) (hdb : (n == ("__debug__" : Str)) = false := by decide)
    (he : starEach [o] X.env = (false, eval o X.env) :: starEach [] X.env := by rfl) (hpl : (backTo pos (starEach [] X.env)).any (·.1) = false := by rfl) : PE X (.Call (.Name n p1) [o] [] pos) (tD G E (xOnP f i p)) := by
  refine (pe_callB hc hg hm hv (pa_cons ha pa_nil he) hn hdb he hpl).imp fun σ H Q q => ?_
  obtain ⟨w, ρ, T, rfl, er, q⟩ := q
  unfold xOnP at q
  cases h0 : ρ[i]? with
  | none => simp only [h0] at q
  | some o0 =>
    cases o0 with
    | none => simp only [h0] at q
    | some d0 =>
      simp only [h0] at q
      cases hp : d0.at_ p with
      | none => simp only [hp] at q
      | some d1 =>
        simp only [hp] at q
        cases h3 : f [d1.fz] with
        | none => simp only [h3] at q
        | some d =>
          simp only [h3] at q
          by_cases him : d.im = true
          · rw [if_pos him] at q
            obtain ⟨u, bs, hs0, ob, _⟩ := er.get h0
            obtain ⟨v, b1, c1, q1, q2, q3, _⟩ := ob.foc p hp
            have rf := q2.fz (N := fun a => w.M a ∧ a ∉ b1) (fun a h => h.1) fun a ha z => z.2 ha
            refine ⟨u, v, hs0, q1, hf ⟨w.H, fun a => w.M a ∧ a ∉ b1, fun a => w.C a ∧ a ∉ b1⟩ [v] [d1.fz] d h3 (.cons rf .nil) Q fun z w' as pr oz => ?_⟩
            obtain ⟨rfl, rz⟩ := oz.rep (im_sh him)
            have P := bor_prim pr
            exact q z ⟨w'.H, w.M, w.C⟩ [] (P.go er) (er.prim0 P) (.sh (rz.im him))
          · rw [if_neg him] at q
            exact q.elim
end
end On

set_option Elab.async false
set_option linter.all false
set_option maxRecDepth 100000
set_option maxHeartbeats 4000000
/-! On19: raise, new instances. -/
namespace On
open PySem PySem.Spec PyProof.Rows L2

section
variable {X : Cx} {G : Gs} {E : WX} {P : Nat → Bool} {k : Nat} {e : Expr} {es : List Expr} {pos : Pos} {y : Ax} {pat : List (Option Nat)}
/-- an own exception class under ValueError -/
structure ExF (K : PySem.W.Frag) (C : Addr) : Prop where
  is : PySem.W.excIn K C He.veBase "ValueError.__new__" = true
  kp : PySem.W.keepIn K (.ref C) = true
  sub : PySem.W.subIn K (.ref C) (.type "BaseException") = some true
  ty : PySem.W.typeIn K (.ref C) = some (.type "type")
def yRaise (c : Str) : Sx := fun ρ => .ex c ρ
theorem es_raise {c m : Str} {j : Nat} {p p2 p3 : Pos} (F : ExF X.K (G c)) (hg : Gl X c) (hm : X.mg c = some (.ref (G c))) (hc : X.calm = true) (tk : Takes X E) (hdb : (c == ("__debug__" : Str)) = false := by decide) :
    PS X (.Raise (some (.Call (.Name c p) [.Constant (.str m) j p2] [] p3)) none pos) (tS G E P (yRaise c)) := by
  refine (ps_raise hc tk (pmk_own PySem.F.excBase_ValueError F.is hm F.kp (raises_own F.sub F.ty) hg hdb)).imp fun D σ H q => ?_
  obtain ⟨w, ρ, T, rfl, er, q⟩ := q
  exact q σ w (.refl T w) er Pin.refl
/-- the callee runs: what the caller finds -/
theorem call_core {w1 : Wd} {σ : Sl} {ρ1 : Rho} {T as : List Addr} {vs : List V} {ds : List D} {mask : List Bool} {m : Fx} {Q : VK} {E' : XK} (er1 : EnvR G w1 σ ρ1 (as ++ T)) (o1 : OwnL G w1.M w1.H as vs ds) (hl : vs.length = mask.length)
    (q : match m ds with
      | .ok d ms => ∀ v w' bs cs, Go G T w1 w' → EnvR G w' σ ρ1 (bs ++ (cs ++ T)) → OwnL G w'.M w'.H cs (pick mask vs) ms → Own G w'.M w'.H bs v d → Q v w'.H
      | .ex c ms => ∀ w' cs, Go G T w1 w' → EnvR G w' σ ρ1 (cs ++ T) → OwnL G w'.M w'.H cs (pick mask vs) ms → E' (.ref (G c)) none w'.H
      | .no => False) : spF G m mask vs w1.H Q E' := by
  obtain ⟨cs0, e1, e2, e3⟩ := er1.ex
  have hC : ∀ a ∈ as, w1.C a := fun a ha => (e3 a (List.mem_append_right _ (List.mem_append_left _ ha))).1
  refine ⟨hl, ⟨w1.H, w1.M, fun a => a ∈ as⟩, ds, as, rfl, o1, ⟨(List.nodup_append.mp (List.nodup_append.mp e2).2.1).1, fun a ha => ⟨ha, (e3 a (List.mem_append_right _ (List.mem_append_left _ ha))).2⟩⟩, fun a ha => er1.sub a (hC a ha), er1.tb, ?_⟩
  cases hm : m ds with
  | no => simp only [hm] at q
  | ok d ms =>
    simp only [hm] at q
    intro v w' bs cs l om ov fr sub
    obtain ⟨g2, er2⟩ := call_env er1 l fr sub
    exact q v ⟨w'.H, w'.M, fun a => w'.C a ∨ (w1.C a ∧ a ∉ as ∧ IsO w1.H a)⟩ bs cs g2 (by rw [← List.append_assoc]; exact er2) om ov
  | ex c ms =>
    simp only [hm] at q
    intro w' cs l om fr sub
    obtain ⟨g2, er2⟩ := call_env er1 l fr sub
    exact q ⟨w'.H, w'.M, fun a => w'.C a ∨ (w1.C a ∧ a ∉ as ∧ IsO w1.H a)⟩ cs g2 er2 om
/-- C(..): the new instance, then __init__ -/
def tMakeS (C : Addr) (sp : Sp) (E : L2.St → XK) (t : TA) : TE := fun σ H Q => t σ H fun vs H1 => ∀ x dx, H1 x = none → H1 dx = none → dx ≠ x → sp (.ref x :: vs) (upd (upd H1 dx (.own x)) x (.ins C dx [])) (fun v H2 => v = .non ∧ Q (.ref x) H2) (E σ)
theorem pe_makeS {CX : CXT} {C f : Addr} {fd : FuncData} {ps : List Str} {sp : Sp} {E : L2.St → XK} {x : Str} {p : Pos} {t : TA} (M : Mk X.K C f) (F : FnOk X.prog X.w X.K X.mg X.base CX k f fd ps sp) (hr : Room (k + 1) X.A) (hg : Gl X x) (hm : X.mg x = some (.ref C)) (hb : Binds X.K fd ps []) (hx : ∀ σ, PassesAt CX X σ (E σ))
    (ha : PA X (e :: es) t) (hdb : (x == ("__debug__" : Str)) = false := by decide) (he : starEach (e :: es) X.env = (false, eval e X.env) :: starEach es X.env := by rfl) (hpl : (backTo pos (starEach es X.env)).any (·.1) = false := by rfl) :
    PE X (.Call (.Name x p) (e :: es) [] pos) (tMakeS C sp E t) := by
  constructor
  intro pins s σ H Q I h
  apply wpAny_Call_Name_kw
  apply ld_glob I hg hm _ hdb
  apply PySem.W.callWith_K (h₀ := X.base) I.ok.mod.kin M.kp _ he hpl
  refine thn (ha.run pos pins s σ H _ I h) fun us s1 ⟨vs, H1, I1, r, q⟩ => ⟨I1.kIn, ?_⟩
  have z := q (s1.heap.objs.size + 1) s1.heap.objs.size (I1.hok.fresh (Nat.le_succ _)) (I1.hok.fresh (Nat.le_refl _)) (Nat.ne_of_lt (Nat.lt_succ_self _))
  have J := Inv.made (C := C) I1
  have rr : Vals (V.ref (s1.heap.objs.size + 1) :: vs) (Value.ref (s1.heap.objs.size + 1) :: us) := .cons rfl r
  have hn : (Value.ref (s1.heap.objs.size + 1) :: us).length = ps.length := by rw [← rr.length, F.len _ _ _ _ z]
  have bnd := hb _ (Value.ref (s1.heap.objs.size + 1) :: us) J.kIn (by rw [List.append_nil]; exact hn)
  rw [List.append_nil] at bnd
  have run := F.run _ X.stack _ _ ⟨Value.ref (s1.heap.objs.size + 1) :: us, []⟩ _ _ _ (E σ) (hr.make C us []) (J.env0.make C us []) bnd rr z
  apply wpAny_call
  apply make_map (f := f) I1.kIn M.makes M.init (beq_iff_eq.mp M.fn)
  refine codeAny_mono run fun fl s' h' => ?_
  match fl, h' with
  | .error er, h' => exact hx σ pins _ _ er s' J h'
  | .ok (.ret u), h' =>
    obtain ⟨v, H', I3, rv, ev, q3⟩ := J.after h'
    cases ev
    exact ⟨rv, .ref (s1.heap.objs.size + 1), H', I3, rfl, q3⟩
  | .ok .next, h' => exact h'.elim
  | .ok .brk, h' => exact h'.elim
  | .ok .cont, h' => exact h'.elim
def xMake (c : Str) (m : Fx) (pat : List (Option Nat)) (y : Ax) : Xx := fun ρ => match y ρ with
  | .ok ds ρ1 => (match m (.oi c [] :: ds) with
    | .ok .non (d :: ms) => (match putBack pat ms ρ1 with
      | some ρ2 => .ok d ρ2
      | none => .no)
    | .ex c (_ :: ms) => (match putBack pat ms ρ1 with
      | some ρ2 => .ex c ρ2
      | none => .no)
    | _ => .no)
  | .ex c ρ1 => .ex c ρ1
  | .no => .no
theorem ed_make {c : Str} {f : Addr} {fd : FuncData} {ps : List Str} {m : Fx} {p : Pos} {mask : List Bool} (M : Mk X.K (G c) f) (F : FnOk X.prog X.w X.K X.mg X.base (L2.CX X.prog X.w) k f fd ps (spF G m mask)) (hk : mask = true :: maskOf pat) (hr : Room (k + 1) X.A) (hg : Gl X c) (hm : X.mg c = some (.ref (G c))) (hb : Binds X.K fd ps []) (tk : Takes X E)
    (ha : PA X (e :: es) (tDM G E pat y)) (hdb : (c == ("__debug__" : Str)) = false := by decide) (he : starEach (e :: es) X.env = (false, eval e X.env) :: starEach es X.env := by rfl) (hpl : (backTo pos (starEach es X.env)).any (·.1) = false := by rfl) :
    PE X (.Call (.Name c p) (e :: es) [] pos) (tD G E (xMake c m pat y)) := by
  subst hk
  refine (pe_makeS M F hr hg hm hb (fun σ => passAt tk σ) ha hdb he hpl).imp fun σ H Q q => ?_
  obtain ⟨w, ρ, T, rfl, er, q⟩ := q
  refine ⟨w, ρ, T, rfl, er, ?_⟩
  unfold xMake at q
  cases h1 : y ρ with
  | ex c ρ1 => simp only [h1] at q; exact q
  | no => simp only [h1] at q
  | ok ds ρ1 =>
    simp only [h1] at q
    intro vs w1 as g1 er1 o1 pv x dx hx hdx hne
    have P1 := Prim.new (w := w1) (o := .own x) hdx
    have hx' : upd w1.H dx (.own x) x = none := (upd_ne (Ne.symm hne)).trans hx
    have P2 := Prim.newO (w := ⟨upd w1.H dx (.own x), w1.M, w1.C⟩) (o := .ins (G c) dx []) hx' noTbl_ins
    have er2 : EnvR G _ σ ρ1 ([x] ++ (as ++ T)) := (er1.prim0 P1).prim P2
    have g2 := (P1.go er1).trans (P2.go (er1.prim0 P1))
    have o2 := (o1.kp P1.kp (fun a ha => by
      obtain ⟨bs, e1, e2, e3⟩ := er1.ex
      obtain ⟨o, ho, n⟩ := (e3 a (List.mem_append_right _ (List.mem_append_left _ ha))).2
      rw [ho]
      exact P1.dir a o n ho))
    have o3 := (o2.kp P2.kp (fun a ha => by
      obtain ⟨bs, e1, e2, e3⟩ := (er1.prim0 P1).ex
      obtain ⟨o, ho, n⟩ := (e3 a (List.mem_append_right _ (List.mem_append_left _ ha))).2
      rw [ho]
      exact P2.dir a o n ho))
    refine call_core (as := x :: as) (ds := .oi c [] :: ds) (w1 := ⟨upd (upd w1.H dx (.own x)) x (.ins (G c) dx []), fun a => w1.M a ∨ a ∈ [x], fun a => w1.C a ∨ a ∈ [x]⟩) er2 (.cons (as := [x]) (.oi (as := []) upd_same .nil) o3) (by simp [pv.len, maskOf]) ?_
    cases hm : m (.oi c [] :: ds) with
    | no => simp only [hm] at q
    | ok d ms =>
      simp only [hm] at q
      intro v w' bs cs g3 er3 om ov
      cases d with
      | non =>
        cases ms with
        | nil => simp only at q
        | cons ds' ms =>
          simp only at q
          obtain ⟨rfl, rv⟩ := ov.rep rfl
          cases rv
          refine ⟨rfl, ?_⟩
          replace om : OwnL G w'.M w'.H cs (.ref x :: pick (maskOf pat) vs) (ds' :: ms) := om
          cases om with
          | cons oa ob =>
            rename_i a1 b1
            cases hp : putBack pat ms ρ1 with
            | none => simp only [hp] at q
            | some ρ2 =>
              simp only [hp] at q
              have er4 : EnvR G w' σ ρ1 (b1 ++ (a1 ++ T)) := by
                obtain ⟨xs, f1, f2, f3⟩ := er3.ex
                have pm : (xs ++ ([] ++ (a1 ++ b1 ++ T))).Perm (xs ++ (b1 ++ (a1 ++ T))) := List.Perm.append_left xs (by
                  rw [List.nil_append, ← List.append_assoc]
                  exact List.Perm.append_right T List.perm_append_comm)
                exact ⟨⟨xs, f1, pm.nodup f2, fun a ha => f3 a (pm.mem_iff.mpr ha)⟩, er3.sub, er3.tb⟩
              exact q (.ref x) w' a1 ((g1.trans (g2.less)).trans g3) (put_back pv ob er4 hp) oa
      | _ => simp only at q
    | ex c' ms =>
      simp only [hm] at q
      intro w' cs g3 er3 om
      cases ms with
      | nil => simp only at q
      | cons ds' ms =>
        simp only at q
        replace om : OwnL G w'.M w'.H cs (.ref x :: pick (maskOf pat) vs) (ds' :: ms) := om
        cases om with
        | cons oa ob =>
          rename_i a1 b1
          cases hp : putBack pat ms ρ1 with
          | none => simp only [hp] at q
          | some ρ2 =>
            simp only [hp] at q
            have er4 : EnvR G w' σ ρ1 (b1 ++ T) := by
              have : EnvR G w' σ ρ1 (a1 ++ (b1 ++ T)) := by rw [← List.append_assoc]; exact er3
              exact this.less
            exact q w' ((g1.trans g2.less).trans g3) (put_back pv ob er4 hp)
end
end On

set_option Elab.async false
set_option linter.all false
set_option maxRecDepth 100000
set_option maxHeartbeats 4000000
/-! On20: a caught exception that is kept as a value. -/
namespace On
open PySem PySem.Spec PyProof.Rows L2

section
variable {X : Cx} {pins : List (Addr × Obj)} {σ : L2.St} {H : Hp} {s : Shared}
/-- an object that stands there is tracked from now on -/
theorem inv_track {a : Addr} {o : HO} (I : Inv X pins σ H s) (na : H a = none) (h0 : ∀ ob, X.s_0.heap.get? a ≠ some ob) (hl : a ≠ X.env.locals) (hc : ∀ y c, X.env.cells.lookup y = some c → c ≠ a) (hp : ∀ q ∈ X.pn ++ pins, q.1 ≠ a) (ok : ObjOk X.prog X.w (upd H a o) s.heap a o) :
    Inv X pins σ (upd H a o) s where
  ok := I.ok
  os := I.os
  bare := I.bare
  base :=
    { keep := I.base.keep
      slot := I.base.slot
      free := fun b ob e n hx => by
        rw [upd_ne (fun z => h0 ob (by rw [← z]; exact e))]
        exact I.base.free b ob e n hx
      there := I.base.there
      tups := fun b xs e => by
        have t := I.base.tups b xs e
        rw [upd_ne (ne_of_none t na)]
        exact t
      frzs := fun b ob u e => by
        have t := I.base.frzs b ob u e
        rw [upd_ne (ne_of_none t na)]
        exact t
      tbls := fun b ps e => by
        obtain ⟨m, t⟩ := I.base.tbls b ps e
        exact ⟨m, by rw [upd_ne (ne_of_none t na)]; exact t⟩ }
  loc := I.loc
  cell := I.cell
  free := by rw [upd_ne (Ne.symm hl)]; exact I.free
  freeC := fun y c e => by rw [upd_ne (hc y c e)]; exact I.freeC y c e
  pin := fun q hq => by
    obtain ⟨h1, h2, h3⟩ := I.pin q hq
    exact ⟨h1, by rw [upd_ne (hp q hq)]; exact h2, h3⟩
  hok := fun b ob e => by
    by_cases z : b = a
    · subst z
      rw [upd_same] at e
      cases e
      exact ok
    · rw [upd_ne z] at e
      exact (I.hok b ob e).stay (fun _ _ _ t => t) (fun c t => by rw [upd_ne (ne_of_none t na)]; exact t) fun c xs t => by rw [upd_ne (ne_of_none t na)]; exact t
  len := I.len
theorem in_suite {a : Addr} (I : Inv X pins σ H s) : Inv (X.suite a (X.pn ++ pins)) [] σ H s where
  ok := I.ok.suite _ _
  os := I.os
  bare := I.bare
  base := I.base
  loc := I.loc
  cell := I.cell
  free := I.free
  freeC := I.freeC
  pin := fun q hq => I.pin q (by rw [List.append_nil] at hq; exact hq)
  hok := I.hok
  len := I.len
theorem out_suite {a : Addr} {pn' : List (Addr × Obj)} (I : Inv (X.suite a (X.pn ++ pins)) pn' σ H s) (ok : X.Ok) : Inv X pins σ H s where
  ok := ok
  os := I.os
  bare := I.bare
  base := I.base
  loc := I.loc
  cell := I.cell
  free := I.free
  freeC := I.freeC
  pin := fun q hq => I.pin q (List.mem_append_left _ hq)
  hok := I.hok
  len := I.len
end
theorem excO_ok {P : Program} {w : World} {H : Hp} {h : Heap} {a k : Addr} {oe : Obj} {vs : Array Value} (e : h.get? a = some oe) (h1 : oe.cls = .ref k) (h2 : oe.dict = none) (h3 : oe.data = .fields vs) : ObjOk P w H h a (ExcO a k) :=
  ⟨⟨oe, vs, e, h1, h2, h3⟩, ⟨oe, e⟩, fun h1 h2 ⟨oe, vs, b1, b2, b3, b4⟩ st => ⟨oe, vs, st _ b1, b2, b3, b4⟩⟩
/-- what the clause wishes: the exception is a value from then on -/
def wAsV (K : PySem.W.Frag) (c : Value) (i : Nat) (ts : TS) (Wout : WX) (D : Ends) : WX := fun cls d σ H =>
  ∃ b, PySem.W.exmOne K cls c = some b ∧ (b = true → ∃ k, cls = .ref k ∧ d = none ∧ ∀ a, H a = none → ts { nx := fun σ' H' => D.nx (σ'.set i none) H', rt := D.rt, bk := fun σ' H' => D.bk (σ'.set i none) H', ct := fun σ' H' => D.ct (σ'.set i none) H' } (σ.set i (some (.ref a))) (upd H a (ExcO a k))) ∧
    (b = false → Wout cls d σ H)
section
variable {X : Cx} {x n : Str} {c : Value} {i : Nat} {body suite : List Stmt} {b0 : Stmt} {np pos pos' : Pos} {tb : WX → TS} {ts : TS} {Wout : WX}
theorem ps_try_keep (hex : X.ex = []) (hs : X.stack = X.env :: X.outer) (hf : X.env.frame = some X.env.locals) (hN : X.N.Nodup) (hi : X.N[i]? = some n) (hln : X.env.kindOf n = some .local) (hc : Names X x c) (tk : Takes X Wout)
    (hb : ∀ (W : WX) (pn : List (Addr × Obj)) (xe : Value → Shared → Prop), Takes (X.tr pn xe) W → PassesOwn (model X.prog X.w) X.A X.env xe → PSs (X.tr pn xe) body (tb W))
    (hsu : ∀ (a : Addr) (pn : List (Addr × Obj)), PSs (X.suite a pn) (b0 :: suite) ts) :
    PS X (.Try body [.ExceptHandler (some (.Name x np)) (some n) (b0 :: suite) pos'] [] [] pos) (fun D σ H => tb (wAsV X.K c i ts Wout D) D σ H) := by
  constructor
  intro pins s σ H D I h
  have ok := I.ok
  have hfr : X.A.frames = some (X.env :: X.outer) := by rw [ok.frames, hs]
  apply wpAny_Try_except
  let xe' : Value → Shared → Prop := fun e s₁ => wpAny (model X.prog X.w) X.A (noteFrame e X.env) (fun _ s₂ => wpAny (model X.prog X.w) X.A (setFlight e none) (fun _ s₃ =>
    wpAny (model X.prog X.w) X.A (handleBy e X.env [.ExceptHandler (some (.Name x np)) (some n) (b0 :: suite) pos']) (SP X pins D) X.xe s₃) X.xe s₂) X.xe s₁
  have T : Takes (X.tr (X.pn ++ pins) xe') (wAsV X.K c i ts Wout D) := by
    intro u s' xx
    obtain ⟨a, B, sI, pins', σ', H', cls, d, rfl, J', nb, up, sky, na, os, ag, b, hb1, hyes, hno⟩ := xx
    have J : Inv X pins σ' H' sI := J'.ofTry ok
    have sky1 : Sky B (X.env :: X.outer) a (Zc cls d) X.env.locals s'.heap := by rw [← hs]; exact sky
    show wpAny (model X.prog X.w) X.A (noteFrame (.ref a) X.env) _ _ _
    apply Sky.land Zc.steady hfr hf sky1
    intro h3 fl3 up3
    have J3 : Inv X pins σ' H' { s' with heap := h3 } := J.landed nb fl3.1 (up.trans up3) os ag
    obtain ⟨oe3, vs3, he3, hz3, hd3⟩ := fl3.there
    have Ba : B.get? a = none := fl3.2.1
    have notFr : a ∉ frs (X.env :: X.outer) := fun hm => by
      obtain ⟨_, o', e', hnf⟩ := fl3.2.2.1.mem hm
      rw [he3] at e'
      cases e'
      exact hnf _ hd3
    have notFr' : a ∉ frs X.stack := by rw [hs]; exact notFr
    have old : ∀ ob, sI.heap.get? a ≠ some ob := fun ob e => by
      have := nb a ob e notFr'
      rw [Ba] at this
      cases this
    have nL : a ≠ X.env.locals := fun z => notFr (List.mem_filterMap.mpr ⟨X.env, List.mem_cons_self, by rw [hf, z]⟩)
    have LT : PySem.W.Looks (model X.prog X.w) h3 (typeOf (.ref a)) cls := fun A Q E s k q => wpAny_typeOf_ref (k _ _ he3) (by rw [hz3.1]; exact q)
    have LM := PySem.W.exm_one (M := model X.prog X.w) J3.kIn LT hb1
    refine wpAny_handleBy_cons (codeAny_handlers_test ?_) (by intro q; cases q)
    have nm : ∀ {Q E : Value → Shared → Prop}, Q c { s' with heap := h3 } → wpAny (model X.prog X.w) (X.A.mark (some (.ref a))) (eval (.Name x np) X.env) Q E { s' with heap := h3 } := fun {Q E} q => by
      obtain ⟨g1, g2, g3 | ⟨g3, g4, g5⟩⟩ := hc
      · exact ld_glob (X := X.suite a (X.pn ++ pins)) (in_suite J3) g1 g3 q g2
      · exact ld_blt (X := X.suite a (X.pn ++ pins)) (in_suite J3) g1 g3 g4 q g5 g2
    apply nm
    apply LM.here
    cases b with
    | true =>
      apply codeAny_handlers_suite_as
      apply HandSPX.lands_againZ fl3
      intro h4 fl4 up4
      have J4 : Inv X pins σ' H' { s' with heap := h4 } := J.landed nb fl4.1 ((up.trans up3).trans up4) os ag
      obtain ⟨oe4, vs4, he4, hz4, hd4⟩ := fl4.there
      obtain ⟨k, rfl, rfl, run⟩ := hyes rfl
      have J5 : Inv X pins σ' (upd H' a (ExcO a k)) { s' with heap := h4 } := by
        refine inv_track J4 na (fun ob e => ?_) nL (fun y cc e z => ?_) (fun q hq z => ?_) (excO_ok he4 hz4.1 hz4.2 hd4)
        · obtain ⟨o', e1⟩ := J.base.there a ob e (by rw [hex]; simp)
          exact old o' e1
        · obtain ⟨v, o, ho, _⟩ := J.cell y cc e
          exact old o (by rw [← z]; exact ho)
        · exact old q.2 (by rw [← z]; exact (J.pin q hq).1)
      refine store_ok (X := X.suite a (X.pn ++ pins)) (v := .ref a) (in_suite J5) hN hi (.inl hln) rfl (fun s5 S5 => ?_) (.inr hln)
      refine wpAny_mono ((hsu a (X.pn ++ pins)).run [] s5 _ _ _ S5 (run a na)) (fun f s6 hsp => ?_) (fun _ _ z => z.elim)
      have fin : ∀ {σ6 : L2.St} {H6 : Hp} {Q : Shared → Prop}, Inv (X.suite a (X.pn ++ pins)) [] σ6 H6 s6 → (∀ s7, Inv X pins (σ6.set i none) H6 s7 → Q s7) →
          wpAny (model X.prog X.w) X.A (do bindName X.env n .none; unbindBehindTheSuite X.env n pos') (fun _ s7 => Q s7) X.xe s6 := fun {σ6 H6 Q} S6 hq => gone_ok (out_suite S6 ok) hN hi hln hq
      match f, hsp with
      | .next, ⟨σ6, H6, S6, q6⟩ => exact fin S6 fun s7 J7 => ⟨_, _, J7, q6⟩
      | .brk, ⟨σ6, H6, S6, q6⟩ => exact fin S6 fun s7 J7 => ⟨_, _, J7, q6⟩
      | .cont, ⟨σ6, H6, S6, q6⟩ => exact fin S6 fun s7 J7 => ⟨_, _, J7, q6⟩
      | .ret u, ⟨v6, σ6, H6, S6, r6, q6⟩ => exact fin S6 fun s7 J7 => ⟨_, _, _, J7, r6, q6⟩
    | false =>
      show wpAny _ X.A (handleBy (.ref a) X.env []) _ _ _
      apply wpAny_handleBy_nil
      obtain ⟨k1, k2, k3, oe, vs, T, oT, ts', he, hz, hd, h1, hr⟩ := id fl3
      unfold PySem.passOn
      refine wpAny_bind (wpAny_field he hd h1 ?_)
      rw [if_neg (show ¬ ((Value.ref T == Value.none) = true) from by simp)]
      have on_ : wpAny (model X.prog X.w) X.A (setFlight (.ref a) X.env.frame) (fun _ s4 => wpAny (model X.prog X.w) X.A (throw (.ref a) : Sem Flow) (SP X pins D) X.xe s4) X.xe { s' with heap := h3 } := by
        rw [hf]
        apply HandSPX.setFlight_upZ fl3
        intro h4 hh4 up4
        apply wpAny_throw
        exact tk _ _ ⟨a, B, sI, pins, σ', H', cls, d, rfl, J, nb, (up.trans up3).trans up4, .inr (.inr (by rw [hs]; exact hh4)), na, os, ag, hno rfl⟩
      first
        | exact wpAny_bind (wpAny_pure (wpAny_bind on_))
        | exact wpAny_bind on_
  refine wpAny_mono ((hb _ (X.pn ++ pins) xe' T PassesOwn.looking).run [] s σ H D (I.toTry _) h) (fun f s1 hsp => ?_) fun e s1 he => he
  match f, hsp with
  | .next, ⟨σ', H', J', q⟩ => exact wpAny_execs_nil ⟨σ', H', J'.ofTry ok, q⟩
  | .brk, ⟨σ', H', J', q⟩ => exact ⟨σ', H', J'.ofTry ok, q⟩
  | .cont, ⟨σ', H', J', q⟩ => exact ⟨σ', H', J'.ofTry ok, q⟩
  | .ret v, ⟨y, σ', H', J', r, q⟩ => exact ⟨y, σ', H', J'.ofTry ok, r, q⟩
end
end On

set_option Elab.async false
set_option linter.all false
set_option maxRecDepth 100000
set_option maxHeartbeats 4000000
/-! On21: caught(lambda: ..). -/
namespace On
open PySem PySem.Spec PyProof.Rows L2

/-- the slots are as many as the names -/
theorem takes_len {X : Cx} {W : WX} (tk : Takes X W) : Takes X (fun c d σ H => σ.length = X.N.length → W c d σ H) := fun u s' ⟨a, B, sI, pins, σ, H, cls, d, e, I, nb, up, sky, na, os, ag, w⟩ =>
  tk u s' ⟨a, B, sI, pins, σ, H, cls, d, e, I, nb, up, sky, na, os, ag, w I.len⟩
/-- told: r = None / try: a() / except x as n: r = n / return r -/
def TTc (K : PySem.W.Frag) (CS : Addr) : (XK → Hp → VK → Prop) → Hp → VK → Prop := fun tl H Q =>
  tl (fun cls d H' => ∃ k, cls = .ref k ∧ d = none ∧ PySem.W.exmOne K cls (.ref CS) = some true ∧ ∀ a, H' a = none → Q (.ref a) (upd H' a (ExcO a k))) H (fun _ H' => Q .non H')
theorem caught_gives {X : Cx} {x a e r n q : Str} {sg : Scope} {g CS : Addr} {cdg : Value} {j : Nat} {p0 p1 p2 p3 p4 p5 p6 p7 p8 p9 p10 p11 p12 p13 p14 : Pos} (S : FnScope [a, r, n] [a] sg) (hge : sg.names.lookup e = some .globalImplicit) (hme : X.mg e = some (.ref CS)) (hde : (e == ("__debug__" : Str)) = false)
    (hr : sg.names.lookup r = some .local) (hn : sg.names.lookup n = some .local) (hdr : (r == ("__debug__" : Str)) = false) (hcr : (r == ("__classdict__" : Str)) = false) (hdn : (n == ("__debug__" : Str)) = false) (hcn : (n == ("__classdict__" : Str)) = false) :
    LamX.GivesTo X [a, r, n] x sg g cdg [.Assign [.Name r p0] (.Constant .none j p1) p2, .Try [.Expr (.Call (.Name a p3) [] [] p4) p5] [.ExceptHandler (some (.Name e p6)) (some n) [.Assign [.Name r p7] (.Name n p8) p9] p10] [] [] p11, .Return (some (.Name r p12)) p13] a q (TTc X.K CS) := by
  intro f c' s H Q tl act hc h
  have hgl : Gl (cxOf C8.CX0 X.prog X.w X.K X.mg X.base [a, r, n] x sg g cdg X.A X.stack s H C8.E0).nox e := hge
  have nd : ([a, r, n] : List Str).Nodup := S.nd
  refine ⟨_, pss_cons (ps_set (X := (cxOf C8.CX0 X.prog X.w X.K X.mg X.base [a, r, n] x sg g cdg X.A X.stack s H C8.E0).nox) (i := 1) (te := fun _ H Q => Q .non H) nd rfl (.inl hr) pe_non rfl (.inl rfl))
    (pss_cons (ps_try_keep (X := (cxOf C8.CX0 X.prog X.w X.K X.mg X.base [a, r, n] x sg g cdg X.A X.stack s H C8.E0).nox) (i := 2) (c := .ref CS) (Wout := fun _ _ _ _ => False)
      (tb := fun W D σ H => ∃ Ech : XK, (∀ cls d σ' H', Ech cls d H' → σ'.length = 3 → W cls d σ' H') ∧ σ[0]? = some (some (.ref f)) ∧ H c' = some (LamX.CodeO c' q) ∧ tl Ech H fun _ H' => D.nx σ H')
      (ts := fun D σ H => ∃ v, σ[2]? = some (some v) ∧ D.nx (σ.set 1 (some v)) H)
      rfl rfl rfl nd rfl hn ⟨hgl, hde, .inl hme⟩ LamX.takes0 (fun W pn xe tk _ => ?_) (fun b pn => ?_)) (pss_one (ps_ret (pe_var (i := 1) rfl (.inl hr) hdr hcr)))), ?_⟩
  · refine ⟨fun pins s' σ H' D I h' => ?_⟩
    obtain ⟨Ech, hW, h1, h2, h3⟩ := h'
    have hp := act (fun c d σ H => σ.length = 3 → W c d σ H) pn xe Ech p3 p4 (takes_len tk) (fun cls d σ' H' h => hW cls d σ' H' h)
    have hq := pss_one (ps_expr (pos := p5) hp)
    exact hq.run pins s' σ H' D I ⟨h1, h2, h3⟩
  · exact pss_one ((ps_set (i := 1) nd rfl (.inl hr) (pe_var (i := 2) rfl (.inl hn) hdn hcn) rfl (.inr hr)).imp fun D σ H q => q)
  · refine ⟨fun cls d H' => ∃ k, cls = .ref k ∧ d = none ∧ PySem.W.exmOne X.K cls (.ref CS) = some true ∧ ∀ a, H' a = none → Q (.ref a) (upd H' a (ExcO a k)), fun cls d σ' H' ⟨k, e1, e2, e3, e4⟩ hl => ⟨true, e3, fun _ => ⟨k, e1, e2, fun b hb => ?_⟩, fun z => by cases z⟩, rfl, hc, ?_⟩
    · refine ⟨.ref b, by rw [List.getElem?_set_self (by rw [hl]; decide)], .ref b, ?_, e4 b hb⟩
      rw [List.getElem?_set_ne (by decide), List.getElem?_set_self (by rw [List.length_set, hl]; decide)]
    · have eq : (fun (_ : V) (H' : Hp) => Q .non H') = fun (_ : V) (H' : Hp) => tRet (tVar 1) { nx := fun (_ : L2.St) H' => Q V.non H', rt := Q, bk := fun _ _ => False, ct := fun _ _ => False } (List.set (L2.start [a, r, n] [V.ref f]) 1 (some V.non)) H' := by
        funext _ H'
        exact propext ⟨fun z => ⟨.non, rfl, z⟩, fun ⟨v, e, z⟩ => by cases e; exact z⟩
      unfold TTc at h
      rw [eq] at h
      exact h
end On

set_option Elab.async false
set_option linter.all false
set_option maxRecDepth 100000
set_option maxHeartbeats 4000000
/-! On22: caught(lambda: ..) as a mirror; defs by their contexts. -/
namespace On
open PySem PySem.Spec PyProof.Rows L2

section
variable {G : Gs} {w : Wd} {σ : Sl} {ρ : Rho} {T : List Addr}
theorem ext_env {H1 : Hp} (e : LamX.ExtN w.H H1) (t : LamX.Tabs G.T H1) (er : EnvR G w σ ρ T) : Go G T w ⟨H1, w.M, w.C⟩ ∧ EnvR G ⟨H1, w.M, w.C⟩ σ ρ T := by
  have le : Le G w ⟨H1, w.M, w.C⟩ := ⟨fun a o _ n h => .inl (e a o h n), fun a xs h => e a _ h noTbl_tup, fun a φ h => e a _ h noTbl_ext, fun _ h => .inl h, fun _ h _ => .inl h, fun _ h => .inl h, fun a ⟨o, h, n⟩ => ⟨o, e a o h n, n⟩, fun _ => t⟩
  obtain ⟨as, h1, h2, h3⟩ := er.ex
  have same : ∀ a ∈ as ++ T, H1 a = w.H a := fun a ha => by
    obtain ⟨o, ho, n⟩ := (h3 a ha).2
    rw [ho]
    exact e a o ho n
  exact ⟨⟨le, fun a ha => same a (List.mem_append_right _ ha)⟩, ⟨as, h1.kp (le.kp er.sub) fun a ha => same a (List.mem_append_left _ ha), h2, fun a ha => ⟨(h3 a ha).1, le.dom a (h3 a ha).2⟩⟩, er.sub, t⟩
end
/-- a lambda's value as an exception's class, or None -/
def xCaught (es : List Str) (x : Xx) : Xx := fun ρ => match x ρ with
  | .ok _ ρ1 => .ok .non ρ1
  | .ex c ρ1 => if c ∈ es then .ok (.exc c) ρ1 else .no
  | .no => .no
section
variable {X : Cx} {G : Gs} {E : WX} {k : Nat}
theorem ed_caught {es : List Str} {xb : Xx} {x a : Str} {g c P CS : Addr} {pg : Arguments} {bg : List Stmt} {sg : Scope} {dV kV doc pm cdv ct oc : Value} {an od : Option Addr} {osl : Array (Option Value)} {Ng : List Str}
    {params : Arguments} {body : Expr} {scope : Scope} {p lpos pos : Pos} (hE : ∀ e ∈ es, PySem.W.exmOne X.K (.ref (G e)) (.ref CS) = some true) (hg : Gl X x) (hm : X.mg x = some (.ref g)) (hk : PySem.W.keepIn X.K (.ref g) = true)
    (lk : X.K.lookup g = some ⟨oc, od, .func (PySem.W.fnOf x x pg bg sg dV kV doc pm an cdv ct), osl⟩) (hcg : PySem.W.codeIn X.K cdv x = true) (hb : L2.Binds X.K (PySem.W.fnOf x x pg bg sg dV kV doc pm an cdv ct) [a] []) (Sg : FnScope Ng [a] sg) (hNg : Ng[0]? = some a) (hva : Vis sg a)
    (hG : LamX.GivesTo X Ng x sg g cdv bg a (X.env.qual ++ "<lambda>") (TTc X.K CS))
    (TB : LamX.TabB X.base X.mg c P) (hcode : X.env.code = .ref c) (hmT : (P, X.env.qual ++ "<lambda>") ∈ G.T) (hu : ∀ p ∈ G.T, p.1 = P → p.2 = X.env.qual ++ "<lambda>") (hr : Room (k + 2) X.A) (L : LamX.LamS X.env.scope scope) (hdef : defaultsOf params X.env = ([], []))
    (hbind : ∀ (q : Str) (cl : List (Str × Addr)) (pm cv ctv : Value), bindArgs (PySem.W.kla_fn "<lambda>" q params body scope cl pm cv ctv) ⟨[], []⟩ = pure [])
    (hbody : ∀ (A : Around) (outer : List Env) (s : Shared) (H : Hp) (E' : XK) (f c' : Addr), Room k (A.deeper (LamX.lamEnv X scope s.heap.objs.size f c')) → PE (LamX.lamCx X A outer s H E' scope f c') body (tD G (WD E') xb))
    (hdb : (x == ("__debug__" : Str)) = false := by decide) (hd : (a == ("__debug__" : Str)) = false := by decide) (hcd : (a == ("__classdict__" : Str)) = false := by decide) :
    PE X (.Call (.Name x p) [.Lambda params body scope lpos] [] pos) (tD G E (xCaught es xb)) := by
  refine (LamX.pe_lamcall (t := fun E' => tD G (WD E') xb) hg hm hk lk hcg hb Sg hNg hva hG TB hcode hmT hu hr L hdef hbind hbody hdb hd hcd).imp fun σ H Q q => ?_
  obtain ⟨w, ρ, T, rfl, er, q⟩ := q
  refine ⟨er.tb, fun H1 eN t1 => ?_⟩
  obtain ⟨g1, er1⟩ := ext_env eN t1 er
  show tD G _ xb σ H1 _
  refine ⟨⟨H1, w.M, w.C⟩, ρ, T, rfl, er1, ?_⟩
  unfold xCaught at q
  cases h1 : xb ρ with
  | no => simp only [h1] at q
  | ok d ρ1 =>
    simp only [h1] at q
    exact fun v w2 as g2 er2 o => q .non w2 [] (g1.trans g2) er2.less (.sh .non)
  | ex e ρ1 =>
    simp only [h1] at q
    by_cases hm : e ∈ es
    · rw [if_pos hm] at q
      intro w2 g2 er2
      refine ⟨G e, rfl, rfl, hE e hm, fun a ha => ?_⟩
      have Pr := Prim.new (w := w2) (o := ExcO a (G e)) ha
      exact q (.ref a) _ [] ((g1.trans g2).trans (Pr.go er2)) (er2.prim0 Pr) (.sh (.exc upd_same))
    · rw [if_neg hm] at q
      exact q.elim
end
section
variable {P : Program} {w : World} {K : PySem.W.Frag} {mg : Str → Option Value} {base : Heap} {x qual : Str} {params : Arguments} {body : List Stmt} {scope : Scope} {dvs : List V} {kws : List (Str × V)} {f : Addr} {fd : FuncData} {G : Gs}
/-- a def's context -/
abbrev cxD (P : Program) (w : World) (K : PySem.W.Frag) (mg : Str → Option Value) (base : Heap) (N : List Str) (qual : Str) (scope : Scope) (f : Addr) (cdv : Value) (A : Around) (outer : List Env) (s : Shared) (H : Hp) (E : XK) : Cx := cxOf (L2.CX P w) P w K mg base N qual scope f cdv A outer s H E
theorem takes_def {N : List Str} {cdv : Value} {A : Around} {outer : List Env} {s : Shared} {H : Hp} {E : XK} : Takes (cxD P w K mg base N qual scope f cdv A outer s H E) (WD E) := takes_of rfl rfl rfl rfl
theorem own_def {N : List Str} {cdv : Value} {A : Around} {outer : List Env} {s : Shared} {H : Hp} {E : XK} : PassesOwn (model P w) (cxD P w K mg base N qual scope f cdv A outer s H E).A (cxD P w K mg base N qual scope f cdv A outer s H E).env (cxD P w K mg base N qual scope f cdv A outer s H E).xe := passes_of rfl
/-- a def from its body, in its context -/
theorem ok_defC {N ps : List Str} {k : Nat} {mask : List Bool} {y : Sx} (F : FunD K x qual params body scope dvs kws f fd) (S : FnScope N ps scope) (hm : mask.length = ps.length)
    (hb : ∀ (cdv : Value) (A : Around) (outer : List Env) (s : Shared) (H : Hp) (E : XK), fd.code = cdv → Room k (A.deeper (envOfC qual scope s.heap.objs.size f cdv)) → PSs (cxD P w K mg base N qual scope f cdv A outer s H E) body (tS G (WD E) (pinOf mask) y)) :
    FnOk P w K mg base (L2.CX P w) (k + 1) f fd ps (spF G (runF mask N.length y) mask) := by
  obtain ⟨oc, od, dV, kV, doc, pm, an, cdv, ct, osl, rfl, lk, hcd, _, _⟩ := F.ex
  refine fn_of lk hcd S (fun vs H Q E h => h.1.trans hm) fun A outer s H vs Q E hr h => ?_
  refine ⟨_, hb cdv A outer s H E rfl hr, ?_⟩
  obtain ⟨hl, w0, ds, as, rfl, o, fr, sub, tb, q⟩ := h
  have hlen := o.length
  refine tS_def.mpr ⟨w0, ds.map some ++ List.replicate (N.length - ds.length) none, [], rfl, ⟨⟨as, ?_, by rw [List.append_nil]; exact fr.1, fun a ha => fr.2 a (by rw [List.append_nil] at ha; exact ha)⟩, sub, tb⟩, ?_⟩
  · have := envL_start (N.length - ds.length) o
    unfold L2.start
    rw [hlen]
    exact this
  · have vsat : ∀ {σ' : Sl}, Pin (pinOf mask) (L2.start N vs) σ' → ∀ (i : Nat) (v : V), mask[i]? = some true → vs[i]? = some v → σ'[i]? = some (some v) := fun {σ'} p i v h1 h2 => by
      rw [p.2 i (by unfold pinOf; rw [List.getD_eq_getElem?_getD, h1]; rfl)]
      unfold L2.start
      have hi : i < vs.length := (List.getElem?_eq_some_iff.mp h2).1
      rw [List.getElem?_append_left (by simpa using hi), List.getElem?_map, h2]
      rfl
    unfold runF at q
    cases hy : y (ds.map some ++ List.replicate (N.length - ds.length) none) with
    | no => simp only [hy] at q
    | bk ρ => simp only [hy] at q
    | ct ρ => simp only [hy] at q
    | nx ρ =>
      simp only [hy] at q
      cases hmu : muts mask ρ with
      | none => simp only [hmu] at q
      | some ms =>
        simp only [hmu] at q
        intro σ' w' g er p
        obtain ⟨as', e1, e2, e3⟩ := er.ex
        obtain ⟨cs, ds', h1, h2⟩ := envL_pick e1 hmu hl (vsat p)
        exact q .non w' [] cs g.le h1 (.sh .non) (fre_of (T := []) h2 e2 e3) er.sub
    | rt d ρ =>
      simp only [hy] at q
      cases hmu : muts mask ρ with
      | none => simp only [hmu] at q
      | some ms =>
        simp only [hmu] at q
        intro v σ' w' bs g er p ov
        obtain ⟨as', e1, e2, e3⟩ := er.ex
        obtain ⟨cs, ds', h1, h2⟩ := envL_pick e1 hmu hl (vsat p)
        rw [List.append_nil] at e2 e3
        exact q v w' bs cs g.le h1 ov (fre_of (T := []) h2 e2 e3) er.sub
    | ex c ρ =>
      simp only [hy] at q
      cases hmu : muts mask ρ with
      | none => simp only [hmu] at q
      | some ms =>
        simp only [hmu] at q
        intro σ' w' g er p
        obtain ⟨as', e1, e2, e3⟩ := er.ex
        obtain ⟨cs, ds', h1, h2⟩ := envL_pick e1 hmu hl (vsat p)
        exact q w' cs g.le h1 (fre_of (T := []) (bs := []) h2 e2 e3) er.sub
end
end On

set_option Elab.async false
set_option linter.all false
set_option maxRecDepth 100000
set_option maxHeartbeats 4000000
/-! On23: what a generated walk names. -/
namespace On
open PySem PySem.Spec PyProof.Rows L2

/-- a def as it may be called -/
structure Cal (P : Program) (w : World) (K : PySem.W.Frag) (mg : Str → Option Value) (base : Heap) (G : Gs) (x : Str) (k : Nat) (m : Fx) (ps : List Str) (mask : List Bool) : Prop where
  ex : ∃ fd : FuncData, FnOk P w K mg base (L2.CX P w) k (G x) fd ps (spF G m mask) ∧ Binds K fd ps [] ∧ KB K fd ps
  mg : mg x = some (.ref (G x))
  kp : PySem.W.keepIn K (.ref (G x)) = true
section
variable {P : Program} {w : World} {K : PySem.W.Frag} {mg : Str → Option Value} {base : Heap} {G : Gs} {x qual : Str} {params : Arguments} {body : List Stmt} {scope : Scope}
theorem Cal.of {N ps : List Str} {k : Nat} {mask : List Bool} {y : Sx} (F : ∃ fd, FunD K x qual params body scope [] [] (G x) fd) (hmg : mg x = some (.ref (G x))) (S : FnScope N ps scope) (hm : mask.length = ps.length)
    (hb1 : ∀ (kV doc pm : Value) (an : Option Addr) (cdv ct : Value) (us : List Value), us.length = ps.length → bindArgs (PySem.W.fnOf x qual params body scope .none kV doc pm an cdv ct) ⟨us, []⟩ = pure (ps.zip us))
    (hb2 : ∀ (kV doc pm : Value) (an : Option Addr) (cdv ct : Value) (us : List Value), us.length = ps.length → bindArgs (PySem.W.fnOf x qual params body scope .none kV doc pm an cdv ct) ⟨[], ps.zip us⟩ = pure (ps.zip us))
    (hb : ∀ (fd : FuncData) (cdv : Value) (A : Around) (outer : List Env) (s : Shared) (H : Hp) (E : XK), FunD K x qual params body scope [] [] (G x) fd → fd.code = cdv → Room k (A.deeper (envOfC qual scope s.heap.objs.size (G x) cdv)) → PSs (cxD P w K mg base N qual scope (G x) cdv A outer s H E) body (tS G (WD E) (pinOf mask) y)) :
    Cal P w K mg base G x (k + 1) (runF mask N.length y) ps mask := by
  obtain ⟨fd, F⟩ := F
  refine ⟨⟨fd, ok_defC F S hm fun cdv A outer s H E hc hr => hb fd cdv A outer s H E F hc hr, F.bindsN hb1, fun s us X hl => ?_⟩, hmg, F.kp⟩
  obtain ⟨oc, od, dV, kV, doc, pm, an, cdv, ct, osl, rfl, lk, hcd, hD, hK⟩ := F.ex
  rcases hD with ⟨_, rfl⟩ | ⟨e, _⟩
  · exact .of_eq (hb2 kV doc pm an cdv ct us hl)
  · exact absurd rfl e
end
section
variable {X : Cx} {G : Gs} {E : WX} {k j : Nat} {e : Expr} {es : List Expr} {pos : Pos} {y : Ax} {pat : List (Option Nat)} {n : Str} {ps : List Str} {m : Fx} {p : Pos} {mask : List Bool}
theorem takes_blk {s : Shared} {H : Hp} {scope : Scope} {env : Env} {fp : List Addr} : Takes (X.blk s H scope env fp) W0 := LamX.takes0
theorem ed_cl (C : Cal X.prog X.w X.K X.mg X.base G n j m ps mask) (hr : Room k X.A) (tk : Takes X E) (ha : PA X (e :: es) (tDM G E pat y)) (hj : j ≤ k := by decide) (hk : mask = maskOf pat := by rfl) (hg : Gl X n := by rfl)
    (hdb : (n == ("__debug__" : Str)) = false := by decide) (he : starEach (e :: es) X.env = (false, eval e X.env) :: starEach es X.env := by rfl) (hpl : (backTo pos (starEach es X.env)).any (·.1) = false := by rfl) :
    PE X (.Call (.Name n p) (e :: es) [] pos) (tD G E (xCall m pat y)) := by
  obtain ⟨fd, F, b, _⟩ := C.ex
  exact ed_call (F.mono hj) hk hr hg C.mg C.kp b tk ha hdb he hpl
theorem ed_cl0 (C : Cal X.prog X.w X.K X.mg X.base G n j m ps mask) (hr : Room k X.A) (tk : Takes X E) (hj : j ≤ k := by decide) (hk : mask = [] := by rfl) (hg : Gl X n := by rfl) (hdb : (n == ("__debug__" : Str)) = false := by decide) :
    PE X (.Call (.Name n p) [] [] pos) (tD G E (xCall m [] aNil)) := by
  obtain ⟨fd, F, b, _⟩ := C.ex
  exact ed_call0 (F.mono hj) hk hr hg C.mg C.kp b tk hdb
theorem ed_clK {kws : List Keyword} (C : Cal X.prog X.w X.K X.mg X.base G n j m ps mask) (hr : Room k X.A) (tk : Takes X E) (ha : PK X kws (tDM G E pat y)) (hj : j ≤ k := by decide) (hk : mask = maskOf pat := by rfl) (hg : Gl X n := by rfl)
    (hdb : (n == ("__debug__" : Str)) = false := by decide) (hall : (backToKw pos (keywordEach kws X.env)).all (·.1.isSome) = true := by rfl) (hks : (backToKw pos (keywordEach kws X.env)).filterMap (·.1) = ps := by rfl)
    (hpl : ((backTo pos (starEach [] X.env)).any (·.1) || (backToKw pos (keywordEach kws X.env)).any (·.1.isNone)) = false := by rfl) : PE X (.Call (.Name n p) [] kws pos) (tD G E (xCall m pat y)) := by
  obtain ⟨fd, F, _, b⟩ := C.ex
  exact ed_callK (F.mono hj) hk hr hg C.mg C.kp b tk ha hdb hall hks hpl
/-- a class as it may be called -/
structure Mak (P : Program) (w : World) (K : PySem.W.Frag) (mg : Str → Option Value) (base : Heap) (G : Gs) (x : Str) (k : Nat) (m : Fx) (ps : List Str) (mask : List Bool) : Prop where
  ex : ∃ (f : Addr) (fd : FuncData), FnOk P w K mg base (L2.CX P w) k f fd ps (spF G m mask) ∧ Binds K fd ps [] ∧ Mk K (G x) f
  mg : mg x = some (.ref (G x))
theorem ed_mk (C : Mak X.prog X.w X.K X.mg X.base G n j m ps mask) (hr : Room k X.A) (tk : Takes X E) (ha : PA X (e :: es) (tDM G E pat y)) (hj : j + 1 ≤ k := by decide) (hk : mask = true :: maskOf pat := by rfl) (hg : Gl X n := by rfl)
    (hdb : (n == ("__debug__" : Str)) = false := by decide) (he : starEach (e :: es) X.env = (false, eval e X.env) :: starEach es X.env := by rfl) (hpl : (backTo pos (starEach es X.env)).any (·.1) = false := by rfl) :
    PE X (.Call (.Name n p) (e :: es) [] pos) (tD G E (xMake n m pat y)) := by
  obtain ⟨f, fd, F, b, M⟩ := C.ex
  exact ed_make (k := j) M F hk (hr.mono hj) hg C.mg b tk ha hdb he hpl
/-- an expression that is never reached -/
def xNo : Xx := fun _ => .no
def aNo : Ax := fun _ => .no
def yNo : Sx := fun _ => .no
def gxNo : Gx := fun _ _ => none
theorem ed_no : PE X e (tD G E xNo) := ⟨fun _ _ _ _ _ _ ⟨_, _, _, _, _, q⟩ => q.elim⟩
theorem et_no : PT X e (tDB G E (toB xNo)) := ⟨fun _ _ _ _ _ _ ⟨_, _, _, _, _, q⟩ => q.elim⟩
theorem es_no {P : Nat → Bool} {st : Stmt} : PS X st (tS G E P yNo) := ⟨fun _ _ _ _ _ _ ⟨_, _, _, _, _, q⟩ => q.elim⟩
theorem ei_no {tg : Expr} : PI X tg e (tI G E aNo) := ⟨fun _ _ _ _ _ _ ⟨_, _, _, _, _, q⟩ => q.elim⟩
end
end On

set_option Elab.async false
set_option linter.all false
set_option maxRecDepth 100000
set_option maxHeartbeats 4000000
/-! On24a: copies of dicts, lists of ranges. -/
namespace On
open PySem PySem.Spec PyProof.Rows L2

section
variable {prog : Program} {w : World} {Ky : Type} [DecidableEq Ky] {knd : HeapKind prog w Ky} {A : Around} {E : Value → Shared → Prop} {s : Shared}
theorem copy_dictH {o : Addr} {more : List (Ky × Addr × Value)} {Q : Value → Shared → Prop} (hu : knd.room A.in1.in1) (hoS : (o == sysModules) = false) (ho : s.heap.DictOfH knd o more) (hsz : more.length ≤ sizeLine)
    (hty : ∀ x ∈ more, s.TypeIs (.ref x.2.1) "tuple") (hap : (more.map fun x => knd.hash x.1).Nodup) (hst : ∀ x ∈ more, knd.is (s.heap.push { cls := .type "dict", data := .dict #[] }) x.1 x.2.1)
    (h : ∀ h', h'.DictOfH knd s.heap.objs.size more → Heap.SameBut s.heap.objs.size (s.heap.push { cls := .type "dict", data := .dict #[] }) h' → Q (.ref s.heap.objs.size) { s with heap := h' }) :
    wpAny (model prog w) A (call (.type "dict") [.ref o]) Q E s := by
  refine callType_codes (Q₁ := fun obj s₁ => obj = .ref s.heap.objs.size ∧ s₁ = { s with heap := s.heap.push { cls := .type "dict", data := .dict #[] } }) PySem.F.kt_called_dict (PySem.F.kt_typeCall_dict_1 _) PySem.F.entry_dict_init (kt_code_dict_new _ ⟨rfl, rfl⟩) ?_
  rintro obj s₁ ⟨rfl, rfl⟩
  have hnew : (s.heap.push { cls := .type "dict", data := .dict #[] }).DictOfH knd s.heap.objs.size [] := Heap.DictOfH.new s.heap
  have hdo : s.heap.objs.size ≠ o := by
    obtain ⟨_, _, _, hg, _⟩ := ho
    exact fun e => absurd (Heap.lt_size hg) (by rw [e]; exact Nat.lt_irrefl _)
  have ho' : (s.heap.push { cls := .type "dict", data := .dict #[] }).DictOfH knd o more := by
    obtain ⟨oo, es, ep, h1, h2, h3, h4, h5, h6⟩ := ho
    exact ⟨oo, es, ep, Heap.get?_push_of_some _ h1, h2, h3, h4, hst, h6⟩
  have hty' : ∀ x ∈ more, ({ s with heap := s.heap.push { cls := .type "dict", data := .dict #[] } } : Shared).TypeIs (.ref x.2.1) "tuple" := fun x hx => let ⟨u, h1, h2⟩ := hty x hx; ⟨u, Heap.get?_push_of_some _ h1, h2⟩
  refine ⟨hnew.typeIs, PySem.F.args_dict_init_2 _ _, ?_⟩
  unfold Builtin.«dict.__init__»
  refine wpAny_bind ?_
  unfold Builtin.Dict.selfAndRest
  refine wpAny_bind (wpAny_notOrdered_dict hnew.typeIs ?_)
  show wpAny _ _ (pure (s.heap.objs.size, [Value.ref o])) _ _ _
  refine wpAny_pure ?_
  show wpAny _ _ (Builtin.Dict.updateFrom "dict.__init__" s.heap.objs.size (.ref o) [] .none) _ _ _
  unfold Builtin.Dict.updateFrom
  refine wpAny_bind (wpAny_typeOf ho'.typeIs ?_)
  rw [if_neg (by decide)]
  refine wpAny_bind ?_
  unfold Builtin.Dict.merge
  refine wpAny_bind ?_
  unfold Builtin.Dict.readDirectly
  refine wpAny_bind (wpAny_isInstance ho'.typeIs isSubtype_dict_dict ?_)
  simp only [Bool.not_true, Bool.false_eq_true, if_false]
  refine wpAny_bind (wpAny_specialOf ho'.typeIs PySem.F.slot_dict_iter.lookup (wpAny_pure ?_))
  simp only [beq_self_eq_true, if_true]
  refine wpAny_bind (wpAny_pure ?_)
  refine wpAny_mergeDict_heap (hsz := by simpa using hsz) hu hdo hoS hnew ho' (.inr ⟨hty', hap⟩) fun h' hd' _ hs' => ?_
  show wpAny _ _ (Builtin.Dict.addKeywords s.heap.objs.size [] >>= _) _ _ _
  rw [storedAllH_nil_of_nodup more ho.nodup] at hd'
  exact wpAny_bind (wpAny_pure (wpAny_pure ⟨rfl, h h' hd' hs'⟩))
end

/-- the hash of a tuple of ints -/
def hashK (ks : List Key) : Option Int := (ks.mapM fun (k : Key) => match k with
  | .inl i => some (hashInt i)
  | .inr _ => none).map fun l => reduceHash (Builtin.Tuple.tupleHashOf l)
theorem mapM_hash {w : World} : ∀ {ks : List Key} {l : List Int}, (ks.mapM fun (k : Key) => match k with
  | .inl i => some (hashInt i)
  | .inr _ => none) = some l → ks.map (keyH w) = l
  | [], l, h => by
    rw [List.mapM_nil] at h
    cases h
    rfl
  | .inl i :: r, l, h => by
    rw [List.mapM_cons] at h
    cases h1 : (r.mapM fun (k : Key) => match k with
      | .inl i => some (hashInt i)
      | .inr _ => none) with
    | none =>
      rw [h1] at h
      cases h
    | some l' =>
      rw [h1] at h
      cases h
      rw [List.map_cons, mapM_hash h1]
      rfl
  | .inr x :: r, l, h => by
    rw [List.mapM_cons] at h
    cases h
theorem hashK_is {P : Program} {w : World} {ks : List Key} {i : Int} (h : hashK ks = some i) : (tupleKind (mixKind P w)).hash ks = i := by
  unfold hashK at h
  rw [Option.map_eq_some_iff] at h
  obtain ⟨l, h1, h2⟩ := h
  have e := mapM_hash (w := w) h1
  show reduceHash (Builtin.Tuple.tupleHashOf (ks.map (keyH w))) = i
  rw [e, h2]
/-- the keys' hashes, where all are apart -/
def apartK (l : List (List Key × D)) : Bool := match l.mapM (fun kv => hashK kv.1) with
  | some hs => decide hs.Nodup
  | none => false
theorem mapM_hashes {P : Program} {w : World} {H : Hp} : ∀ {l : List (List Key × D)} {hs : List Int} {vs : List (List Key × V)} {xs : List (List Key × Addr × Value)}, l.mapM (fun kv => hashK kv.1) = some hs → l.map (·.1) = vs.map (·.1) → KT H vs xs → (xs.map fun x => (tupleKind (mixKind P w)).hash x.1) = hs
  | [], hs, vs, xs, h, e, r => by
    rw [List.mapM_nil] at h
    cases h
    cases vs with
    | nil =>
      cases r
      rfl
    | cons _ _ => cases e
  | kv :: l, hs, vs, xs, h, e, r => by
    cases vs with
    | nil => cases e
    | cons v vs =>
      cases r with
      | cons r0 r =>
        rw [List.map_cons, List.map_cons, List.cons.injEq] at e
        rw [List.mapM_cons] at h
        cases h1 : hashK kv.1 with
        | none =>
          rw [h1] at h
          cases h
        | some i =>
          cases h2 : l.mapM (fun kv => hashK kv.1) with
          | none =>
            rw [h1, h2] at h
            cases h
          | some hs' =>
            rw [h1, h2] at h
            cases h
            rw [List.map_cons, mapM_hashes h2 e.2 r, ← r0.1, ← e.1, hashK_is h1]
section
variable {X : Cx} {G : Gs} {E : WX} {k : Nat} {M : Addr → Prop} {H : Hp}
def rDict : List V → Hp → VK → Prop := fun xs H Q => ∃ a, xs = [.ref a] ∧ ((∃ kvs : List (Key × V), Rd H a (.dK kvs) ∧ ∀ p, H p = none → Q (.ref p) (upd H p (.dK kvs))) ∨
  ∃ (kvs : List (List Key × V)) (l : List (List Key × D)), Rd H a (.dT kvs) ∧ l.map (·.1) = kvs.map (·.1) ∧ apartK l = true ∧ ∀ p, H p = none → Q (.ref p) (upd H p (.dT kvs)))
theorem call_dictX (hr : Room k X.A) : CallR X (.type "dict") rDict := by
  intro pins s σ H xs us Q I r q
  obtain ⟨a, ex, q⟩ := q
  rcases q with ⟨kvs, hd, q⟩ | ⟨kvs, l, hd, e, ap, q⟩
  · exact call_dictD pins s σ H xs us Q I r ⟨a, kvs, ex, hd, q⟩
  subst ex
  obtain ⟨u, eu, rx⟩ := vals1 r
  subst eu
  cases rx
  obtain ⟨z, lo, xs, rel, dd⟩ := dt_rd I.hok hd
  unfold apartK at ap
  cases hm : l.mapM (fun kv => hashK kv.1) with
  | none =>
    rw [hm] at ap
    cases ap
  | some hs =>
    rw [hm] at ap
    have nd : hs.Nodup := of_decide_eq_true ap
    have hh := mapM_hashes (P := X.prog) (w := X.w) hm e rel
    refine copy_dictH (knd := tupleKind (mixKind X.prog X.w)) (by have := hr.units; show X.A.units + 1 + 1 < cLine; omega) lo dd (by rw [← rel.length]; exact z) (fun x hx => ?_) (by rw [hh]; exact nd) (fun x hx => ?_) fun h' dd' hsm => ?_
    · have : ∀ {l : List (List Key × V)} {m : List (List Key × Addr × Value)}, KT H l m → ∀ x ∈ m, s.TypeIs (.ref x.2.1) "tuple" := by
        intro l m q
        induction q with
        | nil => intro x hx; exact nomatch hx
        | @cons p q ps qs hq t ih =>
          intro x hx
          rcases List.mem_cons.mp hx with e | hx
          · subst e
            exact (key_of (P := X.prog) (w := X.w) I.hok (ks := p.1) hq.2.1).typeIs
          · exact ih x hx
      exact this rel x hx
    · obtain ⟨oo, es, ep, h1, h2, h3, h4, h5, h6⟩ := dd
      obtain ⟨o, items, n, g1, g2, g3, g4⟩ := h5 x hx
      exact ⟨o, items, n, Heap.get?_push_of_some _ g1, g2, g3, g4⟩
    · have hz : (s.heap.objs.size == sysModules) = false := beq_eq_false_iff_ne.mpr (Nat.ne_of_gt I.big)
      obtain ⟨oo, es, ep, h1, h2, h3, h4, h5, h6⟩ := dd'
      have hn := I.hok.fresh (Nat.le_refl _)
      refine ⟨.ref s.heap.objs.size, upd H s.heap.objs.size (.dT kvs), I.laid (t' := s.toks) (fun b u e => (hsm.2 b (Nat.ne_of_lt (Heap.lt_size e))).trans (Heap.get?_push_of_some _ e)) (Nat.le_refl _)
        (show ObjOk X.prog X.w _ _ _ (.dT kvs) from ⟨z, hz, xs, ?_, oo, es, ep, h1, h2, h3, h4, h6⟩), rfl, q _ hn⟩
      exact rel.keeps fun b ys e => by rw [upd_ne fun z => by rw [z, hn] at e; cases e]; exact e
def dDict : List D → Option D
  | [.dk l] => some (.od l)
  | [.dt l] => if apartK l = true then some (.ot l) else none
  | _ => none
theorem sp_dDict : OpN G rDict dDict := by
  intro w vs ds d e r Q q
  unfold dDict at e
  split at e
  · cases e
    cases r with
    | cons r rr =>
      cases rr
      cases r with
      | dk m e1 r1 =>
        refine ⟨_, rfl, .inl ⟨_, e1, fun p hp => ?_⟩⟩
        rename_i a xs
        have P := Prim.newO (w := w) (o := .dK xs) hp noTbl_dK
        exact q _ _ [p] P (.od upd_same (.of (r1.kp P.kp)))
  · split at e
    · rename_i hc
      cases e
      cases r with
      | cons r rr =>
        cases rr
        cases r with
        | dt m e1 r1 =>
          refine ⟨_, rfl, .inr ⟨_, _, e1, (RepT.keys r1).symm, hc, fun p hp => ?_⟩⟩
          rename_i a xs
          have P := Prim.newO (w := w) (o := .dT xs) hp noTbl_dT
          exact q _ _ [p] P (.ot upd_same (.of (r1.kp P.kp)))
    · cases e
  · cases e
/-! ### list(range(n)) -/
def xLstR (xa : Xx) : Xx := fun ρ => (xa ρ).bind fun d ρ1 => match d with
  | .int n => if -(2 ^ 62) ≤ n ∧ n ≤ 16777216 then .ok (.ol (rngD 0 n.toNat)) ρ1 else .no
  | _ => .no
theorem reps_rng {n : Int} : Reps G M H (rgV 0 n) (rngD 0 n.toNat) := by
  unfold rgV rngD
  rw [Int.sub_zero]
  generalize List.range n.toNat = l
  induction l with
  | nil => exact .nil
  | cons a l ih => exact .cons (.int _) ih
theorem ed_listR {e : Expr} {p p2 pos pos2 : Pos} {xa : Xx} (hc : X.calm = true) (hg : Gl X "list") (hm : X.mg "list" = none) (hg2 : Gl X "range") (hm2 : X.mg "range" = none) (ha : PE X e (tD G E xa)) (na : starEach [e] X.env = (false, eval e X.env) :: starEach [] X.env := by rfl)
    (nb : starEach [.Call (.Name "range" p2) [e] [] pos2] X.env = (false, eval (.Call (.Name "range" p2) [e] [] pos2) X.env) :: starEach [] X.env := by rfl) :
    PE X (.Call (.Name "list" p) [.Call (.Name "range" p2) [e] [] pos2] [] pos) (tD G E (xLstR xa)) := by
  refine (pe_listRg hc hg hm (prg_1 hg2 hm2 ha na) nb).imp fun σ H Q q => ?_
  obtain ⟨w, ρ, T, rfl, er, q⟩ := q
  refine ⟨w, ρ, T, rfl, er, ?_⟩
  unfold xLstR XR.bind at q
  cases h1 : xa ρ with
  | ex c ρ1 =>
    simp only [h1] at q
    exact q
  | no => simp only [h1] at q
  | ok d ρ1 =>
    simp only [h1] at q
    intro v w1 as g1 er1 o1
    cases d with
    | int n =>
      obtain ⟨rfl, r⟩ := o1.rep rfl
      cases r
      simp only at q
      by_cases hn : -(2 ^ 62) ≤ n ∧ n ≤ 16777216
      · rw [if_pos hn] at q
        refine ⟨n, rfl, ⟨by omega, by omega, by omega, by omega, by omega⟩, fun p hp => ?_⟩
        have P := Prim.newO (w := w1) (o := .lst (rgV 0 n)) hp noTbl_lst
        exact q _ _ [p] (g1.trans (P.go er1)) (er1.prim P) (.ol upd_same (.of reps_rng))
      · rw [if_neg hn] at q
        exact q.elim
    | _ => exact q.elim
end
end On

set_option Elab.async false
set_option linter.all false
set_option maxRecDepth 100000
set_option maxHeartbeats 4000000
/-! On24b: enumerate over zip: a zip whose own pair is handed out and may live on. -/
namespace On
open PySem PySem.Spec PyProof.Rows L2

/-- a zip's cell: c lists the iterators, v keeps the last pair -/
def Zc (h : Heap) (q c v : Addr) (f g : Value) : Prop :=
  h.get? q = some { cls := .type "zip", dict := none, data := .fields #[f, g, .bool false, .ref c, .ref v], slots := #[] }
def Zs (h : Heap) (q c v : Addr) : Prop := ∃ f g, Zc h q c v f g ∧ (f = .none ∨ ∃ a : Addr, f = rawInt a)
section
variable {pg : Program} {wd : World} {A : Around} {E : Value → Shared → Prop} {s : Shared} {q c v j1 j2 : Addr} {r1 r2 : List Addr} {n1 n2 i : Nat} {P1 P2 : Nat → Value → Prop} {S1 S2 : Nat → Heap → Prop} {y1 y2 : Value}
theorem ask_alive {M : Model} {a : Addr} {Q : Option Obj → Shared → Prop} (h : Q (s.heap.get? a) s) : wpAny M A (loadIfAlive a) Q E s := fun Γ p hΓ => by
  unfold loadIfAlive
  rw [Sem.wp_loadIfAlive]
  exact wpAny_pure (M := M) (A := A) (E := E) h Γ p hΓ
theorem zc_free {Q : Bool → Shared → Prop} (hz : Zs s.heap q c v) (h : ∀ b h', (∃ f g, Zc h' q c v f g ∧ (b = false → ∃ a : Addr, f = rawInt a)) → Heap.SameBut q s.heap h' → Q b { s with heap := h' }) :
    wpAny (model pg wd) A (Builtin.SmallTypes.ownedTupleIsFree (.ref q)) Q E s := by
  obtain ⟨f, g, z, hf⟩ := hz
  unfold Builtin.SmallTypes.ownedTupleIsFree
  rcases hf with rfl | ⟨a, rfl⟩
  · exact wpAny_bind (wpAny_field z rfl (x := .none) rfl (wpAny_pure (h true s.heap ⟨_, _, z, fun e => nomatch e⟩ (Heap.SameBut.refl _ _))))
  · refine wpAny_bind (wpAny_field z rfl (x := rawInt a) rfl ?_)
    show wpAny _ _ (loadIfAlive a >>= _) _ _ _
    refine wpAny_bind (ask_alive ?_)
    cases hb : s.heap.get? a with
    | none => exact wpAny_pure (h true s.heap ⟨_, _, z, fun e => nomatch e⟩ (Heap.SameBut.refl _ _))
    | some o =>
      show wpAny _ _ (field (.ref q) 1 >>= _) _ _ _
      refine wpAny_bind (wpAny_field z rfl (x := g) rfl ?_)
      split
      · exact wpAny_bind (wpAny_setField_rec z (by simp) fun h' z' hs => wpAny_pure (h false h' ⟨_, _, z', fun _ => ⟨a, rfl⟩⟩ hs))
      · exact wpAny_pure (h false s.heap ⟨_, _, z, fun _ => ⟨a, rfl⟩⟩ (Heap.SameBut.refl _ _))
/-- the pair that a zip gives, its own pair free or not -/
theorem zn_item {Q : Value → Shared → Prop} (S : ZipSep2 q c v j1 j2 r1 r2) (D1 : Draws pg wd A j1 r1 n1 P1 S1) (D2 : Draws pg wd A j2 r2 n2 P2 S2) (hz : Zs s.heap q c v) (hc : IsTupOf2 s.heap c (.ref j1) (.ref j2)) (hv : IsTupOf2 s.heap v y1 y2) (t1 : S1 i s.heap) (t2 : S2 i s.heap)
    (l1 : i < n1) (l2 : i < n2)
    (hQ : ∀ x1 x2 h' tk, P1 i x1 → P2 i x2 → Zs h' q c v → (∃ z1 z2, IsTupOf2 h' v z1 z2) → S1 (i + 1) h' → S2 (i + 1) h' → IsTupOf2 h' s.heap.objs.size x1 x2 → h'.objs.size = s.heap.objs.size + 1 →
      (∀ b o, b ∉ [q, v, j1, j2] → s.heap.get? b = some o → h'.get? b = some o) → Q (.ref s.heap.objs.size) { s with heap := h', toks := tk }) :
    wpAny (model pg wd) A (Builtin.«zip.__next__» ⟨[.ref q], []⟩) (fun fin s' => ∃ r, fin = .done (.ret r) ∧ Q r s') E s := by
  obtain ⟨hp, gg, dd, tk0, os⟩ := s
  obtain ⟨f, g, z, hf⟩ := id hz
  show wpAny _ _ (field (.ref q) 2 >>= _) _ _ _
  refine wpAny_bind (wpAny_field z rfl (x := .bool false) rfl ?_)
  show wpAny _ _ (field (.ref q) 3 >>= _) _ _ _
  refine wpAny_bind (wpAny_field z rfl (x := .ref c) rfl (wpAny_bind (wpAny_seqItems hc rfl ?_)))
  show wpAny _ _ (Builtin.SmallTypes.ownedTupleIsFree (.ref q) >>= _) _ _ _
  refine wpAny_bind (zc_free hz fun b h1 ⟨f1, g1, z1, hf1⟩ sb1 => ?_)
  replace sb1 : Heap.SameBut q hp h1 := sb1
  have hv1 : IsTupOf2 h1 v y1 y2 := sb1.extBut _ _ S.TOz hv
  have u1 := D1.over t1 sb1 S.zf1
  have u2 := D2.over t2 sb1 S.zf2
  cases b with
  | true =>
    simp only [if_true]
    refine wpAny_bind (wpAny_rule (wpAny_bind (wpAny_field z1 rfl (x := .ref v) rfl (wpAny_bind (wpAny_setField_rec z1 (by simp) fun h2 z2 sb2 => ?_)))))
    replace sb2 : Heap.SameBut q h1 h2 := sb2
    replace z2 : Zc h2 q c v .ellipsis g1 := z2
    refine wpAny_bind ?_
    simp only [List.zipIdx_cons, List.zipIdx_nil, List.forIn_cons, List.forIn_nil]
    refine wpAny_bind (wpAny_bind (wpAny_onRaise ?_))
    show wpAny _ _ (Builtin.SmallTypes.nextOf (.ref j1) >>= _) _ _ ⟨h2, gg, dd, tk0, os⟩
    refine wpAny_bind (D1.item i _ _ _ l1 (D1.over u1 sb2 S.zf1) fun x1 h3 tk3 p1 w1 sb3 => wpAny_pure ?_)
    replace sb3 : Heap.SameBut j1 h2 h3 := sb3
    have v3 : IsTupOf2 h3 v y1 y2 := sb3.extBut _ _ S.Ti1 (sb2.extBut _ _ S.TOz hv1)
    refine wpAny_bind (wpAny_seqItems (s := ⟨h3, gg, dd, tk3, os⟩) v3 rfl (wpAny_bind (updateSeq_IsTupOf2 (s := ⟨h3, gg, dd, tk3, os⟩) v3 fun h4 v4 sb4 => ?_)))
    replace sb4 : Heap.SameBut v h3 h4 := sb4
    replace v4 : IsTupOf2 h4 v x1 y2 := v4
    refine wpAny_bind (wpAny_letGo (wpAny_pure (wpAny_bind (wpAny_bind (wpAny_onRaise ?_)))))
    show wpAny _ _ (Builtin.SmallTypes.nextOf (.ref j2) >>= _) _ _ ⟨h4, gg, dd, tk3, os⟩
    refine wpAny_bind (D2.item i _ _ _ l2 (D2.over (D2.over (D2.over u2 sb2 S.zf2) sb3 S.sep1_2) sb4 S.Tf2) fun x2 h5 tk5 p2 w2 sb5 => wpAny_pure ?_)
    replace sb5 : Heap.SameBut j2 h4 h5 := sb5
    have v5 : IsTupOf2 h5 v x1 y2 := sb5.extBut _ _ S.Ti2 v4
    refine wpAny_bind (wpAny_seqItems (s := ⟨h5, gg, dd, tk5, os⟩) v5 rfl (wpAny_bind (updateSeq_IsTupOf2 (s := ⟨h5, gg, dd, tk5, os⟩) v5 fun h6 v6 sb6 => ?_)))
    replace sb6 : Heap.SameBut v h5 h6 := sb6
    replace v6 : IsTupOf2 h6 v x1 x2 := v6
    refine wpAny_bind (wpAny_letGo (wpAny_pure (wpAny_pure (wpAny_bind (wpAny_seqItems (s := ⟨h6, gg, dd, tk5, os⟩) v6 rfl (wpAny_bind (wpAny_newTuple ?_)))))))
    have hsz : h6.objs.size = hp.objs.size := by rw [sb6.1, sb5.1, sb4.1, sb3.1, sb2.1, sb1.1]
    have z6 : Zc h6 q c v .ellipsis g1 := sb6.extBut _ _ S.TOz.symm (sb5.extBut _ _ S.zi2 (sb4.extBut _ _ S.TOz.symm (sb3.extBut _ _ S.zi1 z2)))
    have up : ∀ b o, b ∉ [q, v, j1, j2] → hp.get? b = some o → h6.get? b = some o := fun b o hb e =>
      have nq : b ≠ q := fun x => hb (by simp [x])
      have nv : b ≠ v := fun x => hb (by simp [x])
      sb6.extBut _ _ nv (sb5.extBut _ _ (fun x => hb (by simp [x])) (sb4.extBut _ _ nv (sb3.extBut _ _ (fun x => hb (by simp [x])) (sb2.extBut _ _ nq (sb1.extBut _ _ nq e)))))
    have w1' : S1 (i + 1) h6 := D1.over (D1.over (D1.over w1 sb4 S.Tf1) sb5 S.sep2_1) sb6 S.Tf1
    have w2' : S2 (i + 1) h6 := D2.over w2 sb6 S.Tf2
    have zlt : q < h6.objs.size := Heap.lt_size z6
    show wpAny _ _ (Builtin.SmallTypes.ownedTupleHandOut (.ref q) (.ref h6.objs.size) >>= _) _ _ ⟨h6.push { cls := .type "tuple", data := .seq #[x1, x2] }, gg, dd, tk5, os⟩
    refine wpAny_bind ?_
    unfold Builtin.SmallTypes.ownedTupleHandOut
    refine wpAny_bind (wpAny_setField_rec (show Zc _ q c v .ellipsis g1 from Heap.get?_push_of_some _ z6) (by simp) fun h7 z7 sb7 => wpAny_setField_rec z7 (by simp) fun h8 z8 sb8 => wpAny_pure ⟨_, rfl, ?_⟩)
    replace z8 : Zc h8 q c v (rawInt (h6.objs.size : Nat)) (.bool false) := z8
    replace sb7 : Heap.SameBut q (h6.push { cls := .type "tuple", data := .seq #[x1, x2] }) h7 := sb7
    replace sb8 : Heap.SameBut q h7 h8 := sb8
    have on : ∀ b o, b ≠ q → (h6.push { cls := .type "tuple", data := .seq #[x1, x2] }).get? b = some o → h8.get? b = some o := fun b o n e => sb8.extBut _ _ n (sb7.extBut _ _ n e)
    have zn : q ≠ h6.objs.size := Nat.ne_of_lt zlt
    show Q (.ref h6.objs.size) ⟨h8, gg, dd, tk5, os⟩
    have e8 : h8.objs.size = h6.objs.size + 1 := by rw [sb8.1, sb7.1, Heap.size_push]
    have t8 : IsTupOf2 h8 h6.objs.size x1 x2 := on _ _ zn.symm (Heap.get?_push_size _ rfl)
    rw [hsz] at e8 t8 ⊢
    exact hQ x1 x2 h8 tk5 p1 p2 ⟨_, _, z8, .inr ⟨_, rfl⟩⟩ ⟨_, _, on _ _ S.TOz (Heap.get?_push_of_some _ v6)⟩ (D1.frame _ _ _ w1' fun b hb o e => on b o (fun x => S.zf1 (x ▸ hb)) (Heap.get?_push_of_some _ e))
      (D2.frame _ _ _ w2' fun b hb o e => on b o (fun x => S.zf2 (x ▸ hb)) (Heap.get?_push_of_some _ e)) t8 e8 fun b o hb e => on b o (fun x => hb (by simp [x])) (Heap.get?_push_of_some _ (up b o hb e))
  | false =>
    obtain ⟨a, rfl⟩ := hf1 rfl
    simp only [Bool.false_eq_true, if_false]
    refine wpAny_bind ?_
    simp only [← Array.forIn_toList, List.forIn_cons, List.forIn_nil]
    refine wpAny_bind (wpAny_bind (wpAny_holding ?_))
    show wpAny _ _ (Builtin.SmallTypes.nextOf (.ref j1) >>= _) _ _ ⟨h1, gg, dd, tk0, os⟩
    refine wpAny_bind (D1.item i _ _ _ l1 u1 fun x1 h2 tk2 p1 w1 sb2 => wpAny_pure (wpAny_pure ?_))
    replace sb2 : Heap.SameBut j1 h1 h2 := sb2
    refine wpAny_bind (wpAny_bind (wpAny_holding ?_))
    show wpAny _ _ (Builtin.SmallTypes.nextOf (.ref j2) >>= _) _ _ ⟨h2, gg, dd, tk2, os⟩
    refine wpAny_bind (D2.item i _ _ _ l2 (D2.over u2 sb2 S.sep1_2) fun x2 h3 tk3 p2 w2 sb3 => wpAny_pure (wpAny_pure (wpAny_pure ?_)))
    replace sb3 : Heap.SameBut j2 h2 h3 := sb3
    show wpAny _ _ (newTuple [x1, x2] >>= _) _ _ ⟨h3, gg, dd, tk3, os⟩
    refine wpAny_bind (wpAny_newTuple (wpAny_pure ⟨_, rfl, ?_⟩))
    have hsz : h3.objs.size = hp.objs.size := by rw [sb3.1, sb2.1, sb1.1]
    have up : ∀ b o, b ∉ [q, v, j1, j2] → hp.get? b = some o → h3.get? b = some o := fun b o hb e =>
      sb3.extBut _ _ (fun x => hb (by simp [x])) (sb2.extBut _ _ (fun x => hb (by simp [x])) (sb1.extBut _ _ (fun x => hb (by simp [x])) e))
    have z3 : Zc h3 q c v (rawInt a) g1 := sb3.extBut _ _ S.zi2 (sb2.extBut _ _ S.zi1 z1)
    have v3 : IsTupOf2 h3 v y1 y2 := sb3.extBut _ _ S.Ti2 (sb2.extBut _ _ S.Ti1 hv1)
    have w1' : S1 (i + 1) h3 := D1.over w1 sb3 S.sep2_1
    show Q (.ref h3.objs.size) ⟨h3.push { cls := .type "tuple", data := .seq #[x1, x2] }, gg, dd, tk3, os⟩
    rw [hsz]
    refine hQ x1 x2 (h3.push { cls := .type "tuple", data := .seq #[x1, x2] }) tk3 p1 p2 ⟨_, _, Heap.get?_push_of_some _ z3, .inr ⟨a, rfl⟩⟩ ⟨_, _, Heap.get?_push_of_some _ v3⟩ (D1.frame _ _ _ w1' fun b hb o e => Heap.get?_push_of_some _ e)
      (D2.frame _ _ _ w2 fun b hb o e => Heap.get?_push_of_some _ e) ?_ (by rw [Heap.size_push, hsz]) fun b o hb e => Heap.get?_push_of_some _ (up b o hb e)
    show _ = _
    rw [← hsz]
    exact Heap.get?_push_size _ rfl
/-- a zip at its end -/
theorem zn_end {Q : Fin → Shared → Prop} (S : ZipSep2 q c v j1 j2 r1 r2) (D1 : Draws pg wd A j1 r1 n1 P1 S1) (D2 : Draws pg wd A j2 r2 n2 P2 S2) (hz : Zs s.heap q c v) (hc : IsTupOf2 s.heap c (.ref j1) (.ref j2)) (hv : IsTupOf2 s.heap v y1 y2) (t1 : S1 i s.heap) (t2 : S2 i s.heap)
    (l1 : i ≤ n1) (l2 : i ≤ n2) (le : i = n1 ∨ i = n2)
    (hE : ∀ h' tk e, (∀ b o, b ∉ [q, v, j1, j2] → s.heap.get? b = some o → h'.get? b = some o) → (∃ o, h'.get? e = some o ∧ o.cls = .type "StopIteration") → E (.ref e) { s with heap := h', toks := tk }) :
    wpAny (model pg wd) A (Builtin.«zip.__next__» ⟨[.ref q], []⟩) Q E s := by
  obtain ⟨hp, gg, dd, tk0, os⟩ := s
  obtain ⟨f, g, z, hf⟩ := id hz
  show wpAny _ _ (field (.ref q) 2 >>= _) _ _ _
  refine wpAny_bind (wpAny_field z rfl (x := .bool false) rfl ?_)
  show wpAny _ _ (field (.ref q) 3 >>= _) _ _ _
  refine wpAny_bind (wpAny_field z rfl (x := .ref c) rfl (wpAny_bind (wpAny_seqItems hc rfl ?_)))
  show wpAny _ _ (Builtin.SmallTypes.ownedTupleIsFree (.ref q) >>= _) _ _ _
  refine wpAny_bind (zc_free hz fun b h1 ⟨f1, g1, z1, hf1⟩ sb1 => ?_)
  replace sb1 : Heap.SameBut q hp h1 := sb1
  have hv1 : IsTupOf2 h1 v y1 y2 := sb1.extBut _ _ S.TOz hv
  have u1 := D1.over t1 sb1 S.zf1
  have u2 := D2.over t2 sb1 S.zf2
  cases b with
  | true =>
    simp only [if_true]
    refine wpAny_bind (wpAny_rule (wpAny_bind (wpAny_field z1 rfl (x := .ref v) rfl (wpAny_bind (wpAny_setField_rec z1 (by simp) fun h2 z2 sb2 => ?_)))))
    replace sb2 : Heap.SameBut q h1 h2 := sb2
    replace z2 : Zc h2 q c v .ellipsis g1 := z2
    have fin : ∀ (hq hx : Heap) (e : Addr) (tk : Nat), Zc hq q c v .ellipsis g1 → (∀ b o, b ∉ [q, v, j1, j2] → hp.get? b = some o → hq.get? b = some o) → (∃ o, hq.get? e = some o ∧ o.cls = .type "StopIteration") →
        wpAny (model pg wd) A (setField (.ref q) 0 .none) (fun _ s' => E (.ref e) s') E ⟨hq, gg, dd, tk, os⟩ := fun hq hx e tk zq kq ⟨oe, he, hce⟩ => by
      have hne : e ≠ q := fun x => by
        subst x
        have z' : hq.get? e = _ := zq
        rw [z'] at he
        cases he
        simp at hce
      refine wpAny_setField_rec (s := ⟨hq, gg, dd, tk, os⟩) zq (by simp) fun h' _ sb => ?_
      replace sb : Heap.SameBut q hq h' := sb
      exact hE h' tk e (fun b o hb x => sb.extBut _ _ (fun y => hb (by simp [y])) (kq b o hb x)) ⟨oe, sb.extBut _ _ hne he, hce⟩
    refine wpAny_bind ?_
    simp only [List.zipIdx_cons, List.zipIdx_nil, List.forIn_cons, List.forIn_nil]
    refine wpAny_bind (wpAny_bind (wpAny_onRaise ?_))
    show wpAny _ _ (Builtin.SmallTypes.nextOf (.ref j1) >>= _) _ _ ⟨h2, gg, dd, tk0, os⟩
    by_cases hl : i < n1
    · refine wpAny_bind (D1.item i _ _ _ hl (D1.over u1 sb2 S.zf1) fun x1 h3 tk3 p1 w1 sb3 => wpAny_pure ?_)
      replace sb3 : Heap.SameBut j1 h2 h3 := sb3
      have v3 : IsTupOf2 h3 v y1 y2 := sb3.extBut _ _ S.Ti1 (sb2.extBut _ _ S.TOz hv1)
      refine wpAny_bind (wpAny_seqItems (s := ⟨h3, gg, dd, tk3, os⟩) v3 rfl (wpAny_bind (updateSeq_IsTupOf2 (s := ⟨h3, gg, dd, tk3, os⟩) v3 fun h4 v4 sb4 => ?_)))
      replace sb4 : Heap.SameBut v h3 h4 := sb4
      refine wpAny_bind (wpAny_letGo (wpAny_pure (wpAny_bind (wpAny_bind (wpAny_onRaise ?_)))))
      have ei : i = n2 := by omega
      show wpAny _ _ (Builtin.SmallTypes.nextOf (.ref j2) >>= _) _ _ ⟨h4, gg, dd, tk3, os⟩
      refine wpAny_bind (D2.done ⟨h4, gg, dd, tk3, os⟩ _ _ (by rw [← ei]; exact D2.over (D2.over (D2.over u2 sb2 S.zf2) sb3 S.sep1_2) sb4 S.Tf2) fun hq e kq he => ?_)
      replace kq : Heap.ExtBut j2 h4 hq := kq
      exact fin hq hq e tk3 (kq _ _ S.zi2 (sb4.extBut _ _ S.TOz.symm (sb3.extBut _ _ S.zi1 z2))) (fun b o hb e =>
        have nq : b ≠ q := fun x => hb (by simp [x])
        kq _ _ (fun x => hb (by simp [x])) (sb4.extBut _ _ (fun x => hb (by simp [x])) (sb3.extBut _ _ (fun x => hb (by simp [x])) (sb2.extBut _ _ nq (sb1.extBut _ _ nq e))))) he
    · have ei : i = n1 := by omega
      refine wpAny_bind (D1.done ⟨h2, gg, dd, tk0, os⟩ _ _ (by rw [← ei]; exact D1.over u1 sb2 S.zf1) fun hq e kq he => ?_)
      replace kq : Heap.ExtBut j1 h2 hq := kq
      exact fin hq hq e tk0 (kq _ _ S.zi1 z2) (fun b o hb e =>
        have nq : b ≠ q := fun x => hb (by simp [x])
        kq _ _ (fun x => hb (by simp [x])) (sb2.extBut _ _ nq (sb1.extBut _ _ nq e))) he
  | false =>
    simp only [Bool.false_eq_true, if_false]
    refine wpAny_bind ?_
    simp only [← Array.forIn_toList, List.forIn_cons, List.forIn_nil]
    refine wpAny_bind (wpAny_bind (wpAny_holding ?_))
    show wpAny _ _ (Builtin.SmallTypes.nextOf (.ref j1) >>= _) _ _ ⟨h1, gg, dd, tk0, os⟩
    by_cases hl : i < n1
    · refine wpAny_bind (D1.item i _ _ _ hl u1 fun x1 h2 tk2 p1 w1 sb2 => wpAny_pure (wpAny_pure ?_))
      replace sb2 : Heap.SameBut j1 h1 h2 := sb2
      refine wpAny_bind (wpAny_bind (wpAny_holding ?_))
      have ei : i = n2 := by omega
      show wpAny _ _ (Builtin.SmallTypes.nextOf (.ref j2) >>= _) _ _ ⟨h2, gg, dd, tk2, os⟩
      refine wpAny_bind (D2.done ⟨h2, gg, dd, tk2, os⟩ _ _ (by rw [← ei]; exact D2.over u2 sb2 S.sep1_2) fun hq e kq he => ?_)
      replace kq : Heap.ExtBut j2 h2 hq := kq
      exact hE hq tk2 e (fun b o hb e => kq _ _ (fun x => hb (by simp [x])) (sb2.extBut _ _ (fun x => hb (by simp [x])) (sb1.extBut _ _ (fun x => hb (by simp [x])) e))) he
    · have ei : i = n1 := by omega
      refine wpAny_bind (D1.done ⟨h1, gg, dd, tk0, os⟩ _ _ (by rw [← ei]; exact u1) fun hq e kq he => ?_)
      replace kq : Heap.ExtBut j1 h1 hq := kq
      exact hE hq tk0 e (fun b o hb e => kq _ _ (fun x => hb (by simp [x])) (sb1.extBut _ _ (fun x => hb (by simp [x])) e)) he
/-! ### enumerate over it -/
theorem ez_item {e : Addr} {m : Int} {old : Value} {Q : Option Value → Shared → Prop} (S : ZipSep2 q c v j1 j2 r1 r2) (D1 : Draws pg wd A.in1.in1 j1 r1 n1 P1 S1) (D2 : Draws pg wd A.in1.in1 j2 r2 n2 P2 S2) (he : IsEnum s.heap e q m old) (hz : Zs s.heap q c v) (hc : IsTupOf2 s.heap c (.ref j1) (.ref j2))
    (hv : IsTupOf2 s.heap v y1 y2) (t1 : S1 i s.heap) (t2 : S2 i s.heap) (l1 : i < n1) (l2 : i < n2) (ne : e ∉ [q, c, v, j1, j2]) (ne1 : e ∉ r1) (ne2 : e ∉ r2) (nc : c ∉ [q, v, j1, j2])
    (hQ : ∀ x1 x2 h' t tk, P1 i x1 → P2 i x2 → IsEnumOut h' e q (m + 1) (.ref s.heap.objs.size) (s.heap.objs.size + 1) → Zs h' q c v → IsTupOf2 h' c (.ref j1) (.ref j2) → (∃ z1 z2, IsTupOf2 h' v z1 z2) → S1 (i + 1) h' → S2 (i + 1) h' → IsTupOf2 h' s.heap.objs.size x1 x2 →
      IsTupOf2 h' (s.heap.objs.size + 1) (.int m t) (.ref s.heap.objs.size) → h'.objs.size = s.heap.objs.size + 2 →
      (∀ b o, b ∉ [e, q, v, j1, j2] → s.heap.get? b = some o → h'.get? b = some o) → Q (some (.ref (s.heap.objs.size + 1))) { s with heap := h', toks := tk }) :
    wpAny (model pg wd) A (pyNext (.ref e)) Q E s := by
  have hT : s.TypeIs (.ref e) "enumerate" := ⟨_, he, rfl⟩
  unfold pyNext
  refine wpAny_bind (wpAny_attempt (wpAny_callSpecial?_slot (name := Str.ofString "__next__") hT PySem.F.slot_enumerate_next (wpAny_call_entry PySem.F.slot_enumerate_next hT PySem.F.entry_enumerate_next ?_ (PySem.F.args_enumerate_next_1 _))))
  obtain ⟨hp, gg, dd, tk0, os⟩ := s
  show wpAny _ _ (field (.ref e) 2 >>= _) _ _ _
  refine wpAny_bind (wpAny_field he rfl (x := .ref q) rfl ?_)
  have hT2 : (⟨hp, gg, dd, tk0, os⟩ : Shared).TypeIs (.ref q) "zip" := by
    obtain ⟨f, g, z, _⟩ := hz
    exact ⟨_, z, rfl⟩
  unfold Builtin.SmallTypes.nextOf
  refine wpAny_bind (wpAny_bind (wpAny_callSpecial?_slot (name := Str.ofString "__next__") hT2 PySem.F.slot_zip_next (wpAny_call_entry PySem.F.slot_zip_next hT2 PySem.F.entry_zip_next (zn_item S D1 D2 hz hc hv t1 t2 l1 l2
    fun x1 x2 h1 tk1 p1 p2 z1 v1 w1 w2 k1 sz1 up1 => wpAny_pure ?_) (PySem.F.args_zip_next_1 _))))
  replace k1 : IsTupOf2 h1 hp.objs.size x1 x2 := k1
  replace sz1 : h1.objs.size = hp.objs.size + 1 := sz1
  replace up1 : ∀ b o, b ∉ [q, v, j1, j2] → hp.get? b = some o → h1.get? b = some o := up1
  have ne' : e ≠ q ∧ e ≠ c ∧ e ≠ v ∧ e ≠ j1 ∧ e ≠ j2 := by simpa using ne
  have e1 : IsEnum h1 e q m old := up1 e _ (by simp [ne']) he
  show wpAny _ _ (field (.ref e) 3 >>= _) _ _ ⟨h1, gg, dd, tk1, os⟩
  refine wpAny_bind (wpAny_field e1 rfl (x := rawInt m) rfl ?_)
  show wpAny _ _ (field (.ref e) 4 >>= _) _ _ ⟨h1, gg, dd, tk1, os⟩
  refine wpAny_bind (wpAny_field e1 rfl (x := .none) rfl ?_)
  show wpAny _ _ (mkInt m >>= _) _ _ ⟨h1, gg, dd, tk1, os⟩
  refine wpAny_bind (wpAny_mkInt (wpAny_bind (wpAny_setField_rec (s := ⟨h1, gg, dd, tk1 + 1, os⟩) e1 (by simp) fun h2 e2 sb2 => wpAny_bind (wpAny_setField_rec (s := ⟨h2, gg, dd, tk1 + 1, os⟩) e2 (by simp) fun h3 e3 sb3 => ?_))))
  replace sb2 : Heap.SameBut e h1 h2 := sb2
  replace sb3 : Heap.SameBut e h2 h3 := sb3
  replace e3 : IsEnum h3 e q (m + 1) old := e3
  show wpAny _ _ (newTuple [.int m tk1, .ref hp.objs.size] >>= _) _ _ ⟨h3, gg, dd, tk1 + 1, os⟩
  have sz3 : h3.objs.size = hp.objs.size + 1 := by rw [sb3.1, sb2.1, sz1]
  refine wpAny_bind (wpAny_newTuple ?_)
  have e4 : IsEnum (h3.push { cls := .type "tuple", data := .seq #[.int m tk1, .ref hp.objs.size] }) e q (m + 1) old := Heap.get?_push_of_some _ e3
  have on4 : ∀ b o, b ≠ e → h1.get? b = some o → (h3.push { cls := .type "tuple", data := .seq #[.int m tk1, .ref hp.objs.size] }).get? b = some o := fun b o n x => Heap.get?_push_of_some _ (sb3.extBut _ _ n (sb2.extBut _ _ n x))
  have t4 : IsTupOf2 (h3.push { cls := .type "tuple", data := .seq #[.int m tk1, .ref hp.objs.size] }) (hp.objs.size + 1) (.int m tk1) (.ref hp.objs.size) := by
    show _ = _
    rw [← sz3]
    exact Heap.get?_push_size _ rfl
  have sz4 : (h3.push { cls := .type "tuple", data := .seq #[.int m tk1, .ref hp.objs.size] }).objs.size = hp.objs.size + 2 := by rw [Heap.size_push, sz3]
  show wpAny _ _ (Builtin.SmallTypes.ownedTupleIsFree (.ref e) >>= _) _ _ ⟨h3.push { cls := .type "tuple", data := .seq #[.int m tk1, .ref hp.objs.size] }, gg, dd, tk1 + 1, os⟩
  rw [show h3.objs.size = hp.objs.size + 1 from sz3]
  generalize h3.push { cls := .type "tuple", data := .seq #[.int m tk1, .ref hp.objs.size] } = h4 at e4 on4 t4 sz4 ⊢
  unfold Builtin.SmallTypes.ownedTupleIsFree
  refine wpAny_bind (wpAny_bind (wpAny_field e4 rfl (x := .none) rfl (wpAny_pure ?_)))
  simp only [if_true]
  refine wpAny_bind (wpAny_rule (wpAny_bind (wpAny_field e4 rfl (x := old) rfl (wpAny_bind (wpAny_setField_rec e4 (by simp) fun h5 e5 sb5 => ?_)))))
  replace sb5 : Heap.SameBut e h4 h5 := sb5
  show wpAny _ _ (Builtin.SmallTypes.ownedTupleHandOut (.ref e) (.ref (hp.objs.size + 1)) >>= _) _ _ ⟨h5, gg, dd, tk1 + 1, os⟩
  unfold Builtin.SmallTypes.ownedTupleHandOut
  refine wpAny_bind (wpAny_bind (wpAny_setField_rec e5 (by simp) fun h6 e6 sb6 => wpAny_setField_rec e6 (by simp) fun h7 e7 sb7 => wpAny_bind (wpAny_letGo (wpAny_pure ⟨_, rfl, wpAny_pure ?_⟩))))
  replace sb6 : Heap.SameBut e h5 h6 := sb6
  replace sb7 : Heap.SameBut e h6 h7 := sb7
  have on : ∀ b o, b ≠ e → h4.get? b = some o → h7.get? b = some o := fun b o n x => sb7.extBut _ _ n (sb6.extBut _ _ n (sb5.extBut _ _ n x))
  have elt : e < hp.objs.size := Heap.lt_size he
  obtain ⟨z1', z2', v1⟩ := v1
  obtain ⟨f, g, zz, hf⟩ := z1
  exact hQ x1 x2 h7 tk1 (tk1 + 1) p1 p2 e7 ⟨f, g, on _ _ ne'.1.symm (on4 _ _ ne'.1.symm zz), hf⟩ (on _ _ ne'.2.1.symm (on4 _ _ ne'.2.1.symm (up1 _ _ nc hc))) ⟨z1', z2', on _ _ ne'.2.2.1.symm (on4 _ _ ne'.2.2.1.symm v1)⟩
    (D1.frame _ _ _ w1 fun b hb o x => on _ _ (fun y => ne1 (y ▸ hb)) (on4 _ _ (fun y => ne1 (y ▸ hb)) x)) (D2.frame _ _ _ w2 fun b hb o x => on _ _ (fun y => ne2 (y ▸ hb)) (on4 _ _ (fun y => ne2 (y ▸ hb)) x))
    (on _ _ (Nat.ne_of_gt elt) (on4 _ _ (Nat.ne_of_gt elt) k1)) (on _ _ (Nat.ne_of_gt (Nat.lt_succ_of_lt elt)) t4) (by rw [sb7.1, sb6.1, sb5.1, sz4])
    fun b o hb x => on _ _ (fun y => hb (by simp [y])) (on4 _ _ (fun y => hb (by simp [y])) (up1 _ _ (fun y => hb (List.mem_cons_of_mem _ y)) x))
theorem ez_end {e : Addr} {m : Int} {old : Value} {Q : Option Value → Shared → Prop} (S : ZipSep2 q c v j1 j2 r1 r2) (D1 : Draws pg wd A.in1.in1 j1 r1 n1 P1 S1) (D2 : Draws pg wd A.in1.in1 j2 r2 n2 P2 S2) (he : IsEnum s.heap e q m old) (hz : Zs s.heap q c v) (hc : IsTupOf2 s.heap c (.ref j1) (.ref j2))
    (hv : IsTupOf2 s.heap v y1 y2) (t1 : S1 i s.heap) (t2 : S2 i s.heap) (l1 : i ≤ n1) (l2 : i ≤ n2) (le : i = n1 ∨ i = n2)
    (hQ : ∀ h' tk, (∀ b o, b ∉ [e, q, v, j1, j2] → s.heap.get? b = some o → h'.get? b = some o) → Q none { s with heap := h', toks := tk }) :
    wpAny (model pg wd) A (pyNext (.ref e)) Q E s := by
  have hT : s.TypeIs (.ref e) "enumerate" := ⟨_, he, rfl⟩
  unfold pyNext
  refine wpAny_bind (wpAny_attempt (wpAny_callSpecial?_slot (name := Str.ofString "__next__") hT PySem.F.slot_enumerate_next (wpAny_call_entry PySem.F.slot_enumerate_next hT PySem.F.entry_enumerate_next ?_ (PySem.F.args_enumerate_next_1 _))))
  show wpAny _ _ (field (.ref e) 2 >>= _) _ _ _
  refine wpAny_bind (wpAny_field he rfl (x := .ref q) rfl ?_)
  have hT2 : s.TypeIs (.ref q) "zip" := by
    obtain ⟨f, g, z, _⟩ := hz
    exact ⟨_, z, rfl⟩
  unfold Builtin.SmallTypes.nextOf
  refine wpAny_bind (wpAny_bind (wpAny_callSpecial?_slot (name := Str.ofString "__next__") hT2 PySem.F.slot_zip_next (wpAny_call_entry PySem.F.slot_zip_next hT2 PySem.F.entry_zip_next (zn_end S D1 D2 hz hc hv t1 t2 l1 l2 le
    fun h' tk x kk hx => ?_) (PySem.F.args_zip_next_1 _))))
  obtain ⟨o, ho, hc⟩ := hx
  exact wpAny_bind (wpAny_isInstance (T := "StopIteration") (b := true) ⟨o, ho, hc⟩ isSubtype_stop (wpAny_pure (hQ h' tk fun b o hb x => kk b o (fun y => hb (List.mem_cons_of_mem _ y)) x)))
end
end On

set_option Elab.async false
set_option linter.all false
set_option maxRecDepth 100000
set_option maxHeartbeats 4000000
/-! On24c: for at, (x, y) in enumerate(zip(..)). -/
namespace On
open PySem PySem.Spec PyProof.Rows L2
section
variable {X : Cx} {pins : List (Addr × Obj)} {σ : Sl} {H : Hp} {s : Shared} {h' : Heap}
/-- records of ours have turned, two new objects are laid -/
theorem turnedTwo {t' : Nat} {ch : List Addr} {T U : Addr} {o1 o2 : HO} (I : Inv X pins σ H s) (k : ∀ b o, b ∉ ch → s.heap.get? b = some o → h'.get? b = some o) (hf : ∀ b ∈ ch, FpOk X pins H b) (hT : s.heap.objs.size ≤ T) (hU : s.heap.objs.size ≤ U) (hTU : U ≠ T)
    (n1 : ObjOk X.prog X.w (upd (upd H T o1) U o2) h' T o1) (n2 : ObjOk X.prog X.w (upd (upd H T o1) U o2) h' U o2) : Inv X pins σ (upd (upd H T o1) U o2) { s with heap := h', toks := t' } := by
  have a1 : H T = none := I.hok.fresh hT
  have a2 : H U = none := I.hok.fresh hU
  have st : ∀ {b u}, H b = some u → upd (upd H T o1) U o2 b = some u := fun {b u} e => by rw [upd_ne (ne_of_none e a2), upd_ne (ne_of_none e a1)]; exact e
  have out : ∀ b u, H b = some u → b ∉ ch := fun b u e z => by
    have q := (hf b z).1
    rw [q] at e
    cases e
  refine I.step (g' := s.gens) (d' := s.drawn) (ch := ch) (fun b hb => have f := hf b hb; ⟨f.2.2.2.1, f.2.1, f.2.2.2.2.1, f.2.2.2.2.2⟩) (fun b o _ _ hc e _ => k b o hc e) (fun b o _ _ hc e _ => ⟨_, k b o hc e⟩)
    (fun b o _ e n => ?_) (fun b o hc e => ⟨o, k b o hc e⟩) (fun b xs e => st e) (fun b o u e => st e) (fun b ps e => ⟨#[], by rw [st e]; simp⟩) (fun m hm => ?_) (fun b u e => ?_) I.bare
  · have lt := Heap.lt_size e
    rw [upd_ne (Nat.ne_of_lt (Nat.lt_of_lt_of_le lt hU)), upd_ne (Nat.ne_of_lt (Nat.lt_of_lt_of_le lt hT))]
    exact n
  · obtain ⟨o, es, ep, ho, r⟩ := hm
    exact ⟨o, es, ep, k _ o (fun z => (hf _ z).2.1 rfl) ho, r⟩
  · by_cases hb : b = U
    · subst hb
      rw [upd_same] at e
      cases e
      exact n2
    · rw [upd_ne hb] at e
      by_cases hb : b = T
      · subst hb
        rw [upd_same] at e
        cases e
        exact n1
      · rw [upd_ne hb] at e
        refine (I.hok b u e).stay (fun c v hc q => k c v ?_ q) (fun c q => st q) fun c xs q => st q
        rcases hc with z | z
        · exact z ▸ out b u e
        · exact out c _ z
end
/-- the things at a and b as they stand at each turn, a place and the items in new pairs -/
def ItEZ (k1 k2 : Sk) (K : PySem.W.Frag) (a b : Addr) : It :=
  ⟨fun i H => ∃ (xs ys : List V) (x y : V), k1.Sq K H a xs ∧ k2.Sq K H b ys ∧ xs[i]? = some x ∧ ys[i]? = some y,
    fun i H v H' => ∃ T U x y, v = .ref U ∧ H T = none ∧ H U = none ∧ U ≠ T ∧ H' = upd (upd H T (.tup [x, y])) U (.tup [.int (i : Nat), .ref T]) ∧ (∀ xs, k1.Sq K H a xs → xs[i]? = some x) ∧ ∀ ys, k2.Sq K H b ys → ys[i]? = some y,
    fun i H => ∃ xs ys : List V, k1.Sq K H a xs ∧ k2.Sq K H b ys ∧ i = min xs.length ys.length⟩
def EZs (e q c v j1 j2 a b : Addr) (k1 k2 : Sk) (i : Nat) (h : Heap) : Prop := (∃ old, IsEnum h e q (i : Int) old) ∧ Zs h q c v ∧ IsTupOf2 h c (.ref j1) (.ref j2) ∧ (∃ x y, IsTupOf2 h v x y) ∧ k1.It h j1 a i ∧ k2.It h j2 b i
theorem turn_ez {P : Program} {w : World} {K : PySem.W.Frag} {elts : List Expr} {kk : Nat} {tpos : Pos} {k1 k2 : Sk} {a b e q c v j1 j2 : Addr} (S : ZipSep2 q c v j1 j2 [j1, a] [j2, b]) (m1 : a ≠ j1) (m2 : b ≠ j2) (ne : e ∉ [q, c, v, j1, j2]) (ea : e ≠ a) (eb : e ≠ b) (nc : c ∉ [q, v, j1, j2]) :
    Turn P w K (.Tuple elts kk tpos) (ItEZ k1 k2 K a b) [e, q, c, v, j1, j2] e (EZs e q c v j1 j2 a b k1 k2) where
  mem := List.mem_cons_self
  obj := fun i h st d hd => by
    obtain ⟨⟨old, he⟩, ⟨f, g, hz, _⟩, hc, ⟨x, y, hv⟩, h1, h2⟩ := st
    have e' : d = e ∨ d = q ∨ d = c ∨ d = v ∨ d = j1 ∨ d = j2 := by simpa using hd
    rcases e' with z | z | z | z | z | z
    · rw [z]
      exact ⟨_, he, fun v q => nomatch q⟩
    · rw [z]
      exact ⟨_, hz, fun v q => nomatch q⟩
    · rw [z]
      exact ⟨_, hc, fun v q => nomatch q⟩
    · rw [z]
      exact ⟨_, hv, fun v q => nomatch q⟩
    · exact z ▸ Sk.obj h1
    · exact z ▸ Sk.obj h2
  keep := fun i h h' st k => by
    obtain ⟨⟨old, he⟩, ⟨f, g, hz, hf⟩, hc, ⟨x, y, hv⟩, h1, h2⟩ := st
    exact ⟨⟨old, k e (by simp) _ he⟩, ⟨f, g, k q (by simp) _ hz, hf⟩, k c (by simp) _ hc, ⟨x, y, k v (by simp) _ hv⟩, Sk.at_ h1 fun o z => k j1 (by simp) o z, Sk.at_ h2 fun o z => k j2 (by simp) o z⟩
  item := by
    intro X hP hw hK hc i pins s σ H E I hf st hg
    subst hP hw hK
    obtain ⟨⟨old, he⟩, hz, hcc, ⟨y1, y2, hv⟩, h1, h2⟩ := st
    obtain ⟨xs, ys, x, y, hqx, hqy, hx, hy⟩ := hg
    obtain ⟨its, rv, p, la⟩ := Sk.items I hqx
    obtain ⟨its2, rv2, p2, lb⟩ := Sk.items I hqy
    obtain ⟨u, hu, ru⟩ := rv.get hx
    obtain ⟨u2, hu2, ru2⟩ := rv2.get hy
    have D1 := k1.draws (prog := X.prog) (w := X.w) (A := X.A.in1.in1) (I.ok.hd hc) j1 a m1 its.toArray
    have D2 := k2.draws (prog := X.prog) (w := X.w) (A := X.A.in1.in1) (I.ok.hd hc) j2 b m2 its2.toArray
    have hi1 : i < its.toArray.size := by simpa using (List.getElem?_eq_some_iff.mp hu).1
    have hi2 : i < its2.toArray.size := by simpa using (List.getElem?_eq_some_iff.mp hu2).1
    have ne' : e ≠ q ∧ e ≠ c ∧ e ≠ v ∧ e ≠ j1 ∧ e ≠ j2 := by simpa using ne
    refine ez_item S D1 D2 he hz hcc hv ⟨h1, p⟩ ⟨h2, p2⟩ hi1 hi2 ne (by simp [ne', ea]) (by simp [ne', eb]) nc fun x1 x2 hh t tk q1 q2 he' hz' hc' hv' w1 w2 g1 g2 sz up => ⟨.ref (s.heap.objs.size + 1), rfl, ?_⟩
    have e1 : x1 = u := by
      have : its.toArray[i]? = some u := by simpa using hu
      rw [this] at q1
      exact (Option.some.inj q1).symm
    have e2 : x2 = u2 := by
      have : its2.toArray[i]? = some u2 := by simpa using hu2
      rw [this] at q2
      exact (Option.some.inj q2).symm
    subst e1 e2
    refine wpAny_letOwnedTupleGo_enum (s := { s with heap := hh, toks := tk }) he' fun h'' he'' sb => ?_
    replace sb : Heap.SameBut e hh h'' := sb
    have elt : e < s.heap.objs.size := Heap.lt_size he
    have n1 : s.heap.objs.size ≠ e := Nat.ne_of_gt elt
    have n2 : s.heap.objs.size + 1 ≠ e := Nat.ne_of_gt (Nat.lt_succ_of_lt elt)
    have g1' : IsTupOf2 h'' s.heap.objs.size x1 x2 := sb.extBut _ _ n1 g1
    have g2' : IsTupOf2 h'' (s.heap.objs.size + 1) (.int (i : Int) t) (.ref s.heap.objs.size) := sb.extBut _ _ n2 g2
    have o1 : ObjOk X.prog X.w (upd (upd H s.heap.objs.size (.tup [x, y])) (s.heap.objs.size + 1) (.tup [.int (i : Nat), .ref s.heap.objs.size])) h'' s.heap.objs.size (.tup [x, y]) :=
      ⟨by show 2 ≤ sizeLine; rw [sizeLine_eq]; decide, [x1, x2], .cons ru (.cons ru2 .nil), ⟨_, g1', rfl, _, rfl⟩⟩
    have o2 : ObjOk X.prog X.w (upd (upd H s.heap.objs.size (.tup [x, y])) (s.heap.objs.size + 1) (.tup [.int (i : Nat), .ref s.heap.objs.size])) h'' (s.heap.objs.size + 1) (.tup [.int (i : Nat), .ref s.heap.objs.size]) :=
      ⟨by show 2 ≤ sizeLine; rw [sizeLine_eq]; decide, [.int (i : Int) t, .ref s.heap.objs.size], .cons ⟨t, rfl⟩ (.cons rfl .nil), ⟨_, g2', rfl, _, rfl⟩⟩
    have wr : ∀ d, d ∉ [e, q, c, v, j1, j2] → d ∉ [e, q, v, j1, j2] ∧ d ≠ e := fun d hd => by
      have hd' : d ≠ e ∧ d ≠ q ∧ d ≠ c ∧ d ≠ v ∧ d ≠ j1 ∧ d ≠ j2 := by simpa using hd
      exact ⟨by simp [hd'], hd'.1⟩
    have I1 := turnedTwo (t' := tk) (ch := [e, q, c, v, j1, j2]) I (fun d o hd z => sb.extBut _ _ (wr d hd).2 (up d o (wr d hd).1 z)) hf (Nat.le_refl _) (Nat.le_succ _) (Nat.succ_ne_self _) o1 o2
    obtain ⟨f, g, zz, hff⟩ := hz'
    obtain ⟨z1, z2, hvv⟩ := hv'
    have over : ∀ {d o}, d ≠ e → hh.get? d = some o → h''.get? d = some o := fun n z => sb.extBut _ _ n z
    refine ⟨.ref (s.heap.objs.size + 1), _, I1, rfl, ⟨s.heap.objs.size, s.heap.objs.size + 1, x, y, rfl, I.hok.fresh (Nat.le_refl _), I.hok.fresh (Nat.le_succ _), Nat.succ_ne_self _, rfl, fun l hl => by rw [Sk.inj I hl hqx]; exact hx, fun l hl => by rw [Sk.inj I hl hqy]; exact hy⟩,
      ⟨⟨_, he''⟩, ⟨f, g, over ne'.1.symm zz, hff⟩, over ne'.2.1.symm hc', ⟨z1, z2, over ne'.2.2.1.symm hvv⟩, Sk.at_ w1.1 fun o z => over ne'.2.2.2.1.symm z, Sk.at_ w2.1 fun o z => over ne'.2.2.2.2.symm z⟩, fun d hd => ?_⟩
    have hlt : d < s.heap.objs.size := by
      have e' : d = e ∨ d = q ∨ d = c ∨ d = v ∨ d = j1 ∨ d = j2 := by simpa using hd
      obtain ⟨f, g, zz, hff⟩ := hz
      rcases e' with z | z | z | z | z | z
      · exact z ▸ elt
      · exact z ▸ Heap.lt_size zz
      · exact z ▸ Heap.lt_size hcc
      · exact z ▸ Heap.lt_size hv
      · obtain ⟨_, e1, _⟩ := Sk.obj h1
        exact z ▸ Heap.lt_size e1
      · obtain ⟨_, e2, _⟩ := Sk.obj h2
        exact z ▸ Heap.lt_size e2
    rw [upd_ne (Nat.ne_of_lt (Nat.lt_succ_of_lt hlt)), upd_ne (Nat.ne_of_lt hlt)]
    exact (hf d hd).1
  done := by
    intro X hP hw hK hc i pins s σ H E I hf st hg
    subst hP hw hK
    obtain ⟨⟨old, he⟩, hz, hcc, ⟨y1, y2, hv⟩, h1, h2⟩ := st
    obtain ⟨xs, ys, hqx, hqy, hend⟩ := hg
    obtain ⟨its, rv, p, la⟩ := Sk.items I hqx
    obtain ⟨its2, rv2, p2, lb⟩ := Sk.items I hqy
    have l1 : xs.length = its.toArray.size := by simpa using rv.length
    have l2 : ys.length = its2.toArray.size := by simpa using rv2.length
    have D1 := k1.draws (prog := X.prog) (w := X.w) (A := X.A.in1.in1) (I.ok.hd hc) j1 a m1 its.toArray
    have D2 := k2.draws (prog := X.prog) (w := X.w) (A := X.A.in1.in1) (I.ok.hd hc) j2 b m2 its2.toArray
    refine ez_end S D1 D2 he hz hcc hv ⟨h1, p⟩ ⟨h2, p2⟩ (by omega) (by omega) (by omega) fun h' tk up => ⟨rfl, I.turnedL (ch := [e, q, c, v, j1, j2]) (fun d o hd z => up d o (fun y => hd ?_) z) hf⟩
    have y' : d = e ∨ d = q ∨ d = v ∨ d = j1 ∨ d = j2 := by simpa using y
    rcases y' with z | z | z | z | z <;> simp [z]
  self := fun A i s Q E st h => let ⟨_, he⟩ := st.1; wpAny_pyIter_enum he h
/-- enumerate over what is its own iterator -/
theorem meets_enumZ {z q c v : Addr} :
    Meets (Builtin.«enumerate.__new__» ⟨[.type "enumerate", .ref q], []⟩) (fun _ R s => IsZip s.heap q c v .none ∧
      R (.ok (.ret (.ref s.heap.objs.size))) { s with heap := s.heap.push { cls := .type "enumerate", data := .fields #[.none, .bool false, .ref q, rawInt 0, .none, .none] } }) :=
  .of_wp fun prog w A R s h => by
    obtain ⟨hp, g, d, tk, os⟩ := s
    obtain ⟨h1, h⟩ := h
    have hsub := sub_enumerate
    have q1 : ∀ {A' : Around} {E : Value → Shared → Prop} {Q : Value → Shared → Prop}, Q (.ref q) ⟨hp, g, d, tk, os⟩ → wpAny (model prog w) A' (pyIter (.ref q)) Q E ⟨hp, g, d, tk, os⟩ := fun x => wpAny_pyIter_zip h1 x
    wp_walk using q1
    refine wpAny_stack_any fun st => wpAny_pure ?_
    split
    · rename_i c _ _ _ _ _
      cases (c == Value.type "enumerate") <;> (wp_walk using q1; exact ⟨_, rfl, h⟩)
    · wp_walk using q1
      exact ⟨_, rfl, h⟩
theorem enumZ_begins {prog : Program} {w : World} {A : Around} {E : Value → Shared → Prop} {s : Shared} {q c v : Addr} {Q : Value → Shared → Prop} (h1 : IsZip s.heap q c v .none)
    (h : IsEnum (s.heap.push { cls := .type "enumerate", data := .fields #[.none, .bool false, .ref q, rawInt 0, .none, .none] }) s.heap.objs.size q 0 .none →
      Q (.ref s.heap.objs.size) { s with heap := s.heap.push { cls := .type "enumerate", data := .fields #[.none, .bool false, .ref q, rawInt 0, .none, .none] } }) :
    wpAny (model prog w) A (call (.type "enumerate") [.ref q]) Q E s := by
  have he := Heap.get?_push_size s.heap (o := { cls := .type "enumerate", data := .fields #[.none, .bool false, .ref q, rawInt 0, .none, .none] }) rfl
  exact callType_new F.called_enumerate (by decide) (F.typeCall_enumerate_1 _) (F.newCall_enumerate_1 _) (fun obj => F.args_object_init_2 obj _) F.entry_enumerate_new (meets_enumZ (z := q) (q := q) (c := c) (v := v)) ⟨h1, ⟨_, he, rfl⟩, h he⟩
section
variable {X : Cx} {e e2 : Expr} {ta : TA} {p pos p2 pos2 tpos : Pos} {elts : List Expr} {kk : Nat}
def iEZ (K : PySem.W.Frag) (ta : TA) : TI := fun σ H R => ta σ H fun vs H1 => ∃ (k1 k2 : Sk) (a b : Addr) (xs ys : List V), vs = [.ref a, .ref b] ∧ k1.Sq K H1 a xs ∧ k2.Sq K H1 b ys ∧ R (ItEZ k1 k2 K a b) H1
theorem pi_ez (hge : Gl X "enumerate") (hme : X.mg "enumerate" = none) (hg : Gl X "zip") (hm : X.mg "zip" = none) (ha : PA X [e, e2] ta)
    (hs : starEach [e, e2] X.env = (false, eval e X.env) :: starEach [e2] X.env := by rfl) (hpl : (backTo pos2 (starEach [e2] X.env)).any (·.1) = false := by rfl)
    (na : starEach [.Call (.Name "zip" p2) [e, e2] [] pos2] X.env = (false, eval (.Call (.Name "zip" p2) [e, e2] [] pos2) X.env) :: starEach [] X.env := by rfl) :
    PI X (.Tuple elts kk tpos) (.Call (.Name "enumerate" p) [.Call (.Name "zip" p2) [e, e2] [] pos2] [] pos) (iEZ X.K ta) := by
  refine ⟨fun pins s σ H R I h => ?_⟩
  refine Call_ (ld_blt I hge hme boot_enumerate (PyProof.Rows.callWith_type1 (args_cons (Call_ (ld_blt I hg hm PyProof.Rows.boot_zip (PyProof.Rows.callWith_type1 (thn (ha.run pos2 pins s σ H _ I h) fun us s1 ⟨vs, H1, I1, r1, q1⟩ => ?_) hs hpl))) na) na))
  obtain ⟨k1, k2, a, b, xs, ys, ex, hqx, hqy, q⟩ := q1
  subst ex
  cases r1 with
  | cons r rr =>
    cases rr with
    | cons r' rr =>
      cases rr
      cases r
      cases r'
      obtain ⟨its, rv, p1, la⟩ := Sk.items I1 hqx
      obtain ⟨its2, rv2, p2, lb⟩ := Sk.items I1 hqy
      refine zip_begins2 (k1.begins a its.toArray) (k2.begins b its2.toArray) p1 p2 fun h' hz hTI hTO g1 g2 hsz hk => args_nil (enumZ_begins hz fun he => wpAny_pyIter_enum he ?_)
      have I2 : Inv X pins σ H1 { s1 with heap := h'.push { cls := .type "enumerate", data := .fields #[.none, .bool false, .ref (s1.heap.objs.size + 4), rawInt 0, .none, .none] } } := I1.kept (t' := s1.toks) fun d o z => Heap.get?_push_of_some _ (hk d o z)
      have S := zip_sep2 (N := s1.heap.objs.size) (fp1 := [a]) (fp2 := [b]) (fun c hc => by rw [List.mem_singleton.mp hc]; exact la) (fun c hc => by rw [List.mem_singleton.mp hc]; exact lb)
      replace he : IsEnum (h'.push { cls := .type "enumerate", data := .fields #[.none, .bool false, .ref (s1.heap.objs.size + 4), rawInt 0, .none, .none] }) h'.objs.size (s1.heap.objs.size + 4) 0 .none := he
      show PIE X pins σ (.Tuple elts kk tpos) R (.ref h'.objs.size) { s1 with heap := h'.push { cls := .type "enumerate", data := .fields #[.none, .bool false, .ref (s1.heap.objs.size + 4), rawInt 0, .none, .none] } }
      have up : ∀ {d o}, h'.get? d = some o → (h'.push { cls := .type "enumerate", data := .fields #[.none, .bool false, .ref (s1.heap.objs.size + 4), rawInt 0, .none, .none] }).get? d = some o := fun z => Heap.get?_push_of_some _ z
      generalize h'.push { cls := .type "enumerate", data := .fields #[.none, .bool false, .ref (s1.heap.objs.size + 4), rawInt 0, .none, .none] } = h3 at I2 he up ⊢
      rw [hsz] at he ⊢
      have la' : (a : Nat) < s1.heap.objs.size := la
      have lb' : (b : Nat) < s1.heap.objs.size := lb
      have dif : ∀ m n : Nat, m ≠ n → (s1.heap.objs.size + m : Nat) ≠ s1.heap.objs.size + n := fun m n h z => h (Nat.add_left_cancel z)
      refine ⟨s1.heap.objs.size + 5, [s1.heap.objs.size + 5, s1.heap.objs.size + 4, s1.heap.objs.size + 2, s1.heap.objs.size + 3, s1.heap.objs.size, s1.heap.objs.size + 1], _, _, H1, rfl, I2,
        turn_ez (k1 := k1) (k2 := k2) S (Nat.ne_of_lt la) (Nat.ne_of_lt (Nat.lt_succ_of_lt lb)) (fun hm => ?_) (fun z => ?_) (fun z => ?_) (fun hm => ?_), ⟨⟨_, he⟩, ⟨_, _, up hz, .inl rfl⟩, up hTI, ⟨_, _, up hTO⟩, k1.new (up g1), k2.new (up g2)⟩, fun d hd => ?_, q⟩
      · have e' : (s1.heap.objs.size + 5 : Nat) = s1.heap.objs.size + 4 ∨ (s1.heap.objs.size + 5 : Nat) = s1.heap.objs.size + 2 ∨ (s1.heap.objs.size + 5 : Nat) = s1.heap.objs.size + 3 ∨ (s1.heap.objs.size + 5 : Nat) = s1.heap.objs.size + 0 ∨ (s1.heap.objs.size + 5 : Nat) = s1.heap.objs.size + 1 := by simpa using hm
        rcases e' with z | z | z | z | z <;> exact dif _ _ (by decide) z
      · exact Nat.ne_of_gt (Nat.lt_of_lt_of_le la' (Nat.le_add_right _ 5)) z
      · exact Nat.ne_of_gt (Nat.lt_of_lt_of_le lb' (Nat.le_add_right _ 5)) z
      · have e' : (s1.heap.objs.size + 2 : Nat) = s1.heap.objs.size + 4 ∨ (s1.heap.objs.size + 2 : Nat) = s1.heap.objs.size + 3 ∨ (s1.heap.objs.size + 2 : Nat) = s1.heap.objs.size + 0 ∨ (s1.heap.objs.size + 2 : Nat) = s1.heap.objs.size + 1 := by simpa using hm
        rcases e' with z | z | z | z <;> exact dif _ _ (by decide) z
      · have e' : d = s1.heap.objs.size + 5 ∨ d = s1.heap.objs.size + 4 ∨ d = s1.heap.objs.size + 2 ∨ d = s1.heap.objs.size + 3 ∨ d = s1.heap.objs.size ∨ d = s1.heap.objs.size + 1 := by simpa using hd
        have hle : s1.heap.objs.size ≤ d := by
          rcases e' with z | z | z | z | z | z <;> rw [z]
          · exact Nat.le_add_right _ _
          · exact Nat.le_add_right _ _
          · exact Nat.le_add_right _ _
          · exact Nat.le_add_right _ _
          · exact Nat.le_refl _
          · exact Nat.le_add_right _ _
        exact I1.fpOk hle (I1.hok.fresh hle)
end
section
variable {G : Gs} {K : PySem.W.Frag} {w : Wd} {a b : Addr} {xs ys : List V} {ds es : List D}
theorem Prim.two {w w1 w2 : Wd} (p : Prim w w1 []) (q : Prim w1 w2 []) : Prim w w2 [] :=
  ⟨fun a o n e => q.dir a o n (p.dir a o n e), fun a ps e => q.tbl a ps (p.tbl a ps e), by rw [q.m, p.m]; funext a; simp, by rw [q.c, p.c]; funext a; simp, fun _ h => (nomatch h), fun _ h => (nomatch h), .nil⟩
def pairE (p : (D × D) × Nat) : D := .tup [.int (p.2 : Nat), pair2 p.1]
theorem gives_ez {k1 k2 : Sk} (h1 : SqR G w k1 a xs ds) (h2 : SqR G w k2 b ys es) (s : ∀ a, w.C a → w.M a) : Gives G (ItEZ k1 k2 K a b) w ((ds.zip es).zipIdx.map pairE) := by
  intro w1 le s1
  have q1 := h1.le le s
  have q2 := h2.le le s
  have l1 := q1.reps.length
  have l2 := q2.reps.length
  refine ⟨⟨xs, ys, q1.sq, q2.sq, by simp [l1, l2]⟩, fun i d hd => ?_⟩
  have hi : i < ((ds.zip es).zipIdx.map pairE).length := (List.getElem?_eq_some_iff.mp hd).1
  rw [List.length_map, List.length_zipIdx, List.length_zip] at hi
  have a1 : ds[i]? = some ds[i] := List.getElem?_eq_getElem (by omega)
  have a2 : es[i]? = some es[i] := List.getElem?_eq_getElem (by omega)
  obtain ⟨x, hx, rx⟩ := q1.reps.get a1
  obtain ⟨y, hy, ry⟩ := q2.reps.get a2
  have ed : d = .tup [.int (i : Nat), .tup [ds[i], es[i]]] := by
    rw [List.getElem?_map, List.getElem?_zipIdx, show (ds.zip es)[i]? = some (ds[i], es[i]) from List.getElem?_zip_eq_some.mpr ⟨a1, a2⟩] at hd
    simp [pairE, pair2] at hd
    exact hd.symm
  subst ed
  refine ⟨⟨xs, ys, x, y, q1.sq, q2.sq, hx, hy⟩, fun v H' z => ?_⟩
  obtain ⟨t, u, x', y', rfl, hn, hu, hut, rfl, z1, z2⟩ := z
  have z1 := z1 xs q1.sq
  have z2 := z2 ys q2.sq
  rw [hx] at z1
  rw [hy] at z2
  cases z1
  cases z2
  have P := Prim.new (w := w1) (o := .tup [x, y]) hn
  have hu' : upd w1.H t (.tup [x, y]) u = none := by rw [upd_ne hut]; exact hu
  have P2 := Prim.new (w := ⟨upd w1.H t (.tup [x, y]), w1.M, w1.C⟩) (o := .tup [.int (i : Nat), .ref t]) hu'
  have e1 : upd (upd w1.H t (.tup [x, y])) u (.tup [.int (i : Nat), .ref t]) t = some (.tup [x, y]) := by rw [upd_ne hut.symm]; exact upd_same
  exact ⟨_, rfl, P.two P2, .tup upd_same (.cons (.int _) (.cons (.tup e1 (.cons ((rx.kp P.kp).kp P2.kp) (.cons ((ry.kp P.kp).kp P2.kp) .nil))) .nil))⟩
end
def fEnumZip : List D → Option (List D)
  | [a, b] => match a.seq, b.seq with
    | some x, some y => some ((x.zip y).zipIdx.map pairE)
    | _, _ => none
  | _ => none
section
variable {X : Cx} {G : Gs} {E : WX} {e e2 : Expr} {y : Ax} {p pos p2 pos2 tpos : Pos} {elts : List Expr} {kk : Nat}
theorem ei_enumzip (hge : Gl X "enumerate") (hme : X.mg "enumerate" = none) (hg : Gl X "zip") (hm : X.mg "zip" = none) (ha : PA X [e, e2] (tDA G E y))
    (hs : starEach [e, e2] X.env = (false, eval e X.env) :: starEach [e2] X.env := by rfl) (hpl : (backTo pos2 (starEach [e2] X.env)).any (·.1) = false := by rfl)
    (na : starEach [.Call (.Name "zip" p2) [e, e2] [] pos2] X.env = (false, eval (.Call (.Name "zip" p2) [e, e2] [] pos2) X.env) :: starEach [] X.env := by rfl) :
    PI X (.Tuple elts kk tpos) (.Call (.Name "enumerate" p) [.Call (.Name "zip" p2) [e, e2] [] pos2] [] pos) (tI G E (aOf fEnumZip y)) := by
  refine (pi_ez hge hme hg hm ha hs hpl na).imp fun σ H R q => ?_
  refine tI_of (R := R) (Z := fun vs H1 R => _) (fun w vs ds l hf sub r q => ?_) q
  unfold fEnumZip at hf
  split at hf
  · rename_i d1 d2
    cases h1 : d1.seq with
    | none => rw [h1] at hf; cases hf
    | some x =>
      cases h2 : d2.seq with
      | none => rw [h1, h2] at hf; cases hf
      | some y =>
        rw [h1, h2] at hf
        cases hf
        cases r with
        | cons r rr =>
          cases rr with
          | cons r2 rr =>
            cases rr
            obtain ⟨k1, a, xs, rfl, s1⟩ := rep_seq h1 r
            obtain ⟨k2, b, ys, rfl, s2⟩ := rep_seq h2 r2
            exact ⟨k1, k2, a, b, xs, ys, rfl, s1.sq, s2.sq, q _ (gives_ez s1 s2 sub)⟩
  · cases hf
end
end On

set_option Elab.async false
set_option linter.all false
set_option maxRecDepth 100000
set_option maxHeartbeats 4000000
/-! On24d: classes as they are called; defs that call themselves. -/
namespace On
open PySem PySem.Spec PyProof.Rows L2
section
variable {P : Program} {w : World} {K : PySem.W.Frag} {mg : Str → Option Value} {base : Heap} {G : Gs} {x nm qual : Str} {params : Arguments} {body : List Stmt} {scope : Scope}
theorem Mak.of {N ps : List Str} {k : Nat} {mask : List Bool} {y : Sx} (M : ∃ f, Mk K (G x) f ∧ ∃ fd, FunD K nm qual params body scope [] [] f fd) (hmg : mg x = some (.ref (G x))) (S : FnScope N ps scope) (hm : mask.length = ps.length)
    (hb1 : ∀ (kV doc pm : Value) (an : Option Addr) (cdv ct : Value) (us : List Value), us.length = ps.length → bindArgs (PySem.W.fnOf nm qual params body scope .none kV doc pm an cdv ct) ⟨us, []⟩ = pure (ps.zip us))
    (hb : ∀ (f : Addr) (fd : FuncData) (cdv : Value) (A : Around) (outer : List Env) (s : Shared) (H : Hp) (E : XK), FunD K nm qual params body scope [] [] f fd → fd.code = cdv → Room k (A.deeper (envOfC qual scope s.heap.objs.size f cdv)) →
      PSs (cxD P w K mg base N qual scope f cdv A outer s H E) body (tS G (WD E) (pinOf mask) y)) :
    Mak P w K mg base G x (k + 1) (runF mask N.length y) ps mask := by
  obtain ⟨f, M, fd, F⟩ := M
  exact ⟨⟨f, fd, ok_defC F S hm fun cdv A outer s H E hc hr => hb f fd cdv A outer s H E F hc hr, F.bindsN hb1, M⟩, hmg⟩
def mNo : Fx := fun _ => .no
/-- a def without a claim -/
theorem Cal.no {N ps : List Str} {k : Nat} {mask : List Bool} (F : ∃ fd, FunD K x qual params body scope [] [] (G x) fd) (hmg : mg x = some (.ref (G x))) (S : FnScope N ps scope) (hm : mask.length = ps.length)
    (hb1 : ∀ (kV doc pm : Value) (an : Option Addr) (cdv ct : Value) (us : List Value), us.length = ps.length → bindArgs (PySem.W.fnOf x qual params body scope .none kV doc pm an cdv ct) ⟨us, []⟩ = pure (ps.zip us))
    (hb2 : ∀ (kV doc pm : Value) (an : Option Addr) (cdv ct : Value) (us : List Value), us.length = ps.length → bindArgs (PySem.W.fnOf x qual params body scope .none kV doc pm an cdv ct) ⟨[], ps.zip us⟩ = pure (ps.zip us)) :
    Cal P w K mg base G x k mNo ps mask := by
  obtain ⟨fd, F⟩ := F
  refine ⟨⟨fd, ⟨fun vs H Q E h => ?_, fun A outer s H args us vs Q E hr he hb hv hs => ?_⟩, F.bindsN hb1, fun s us X hl => ?_⟩, hmg, F.kp⟩
  · obtain ⟨_, _, _, _, _, _, _, _, _, q⟩ := h
    exact q.elim
  · obtain ⟨_, _, _, _, _, _, _, _, _, q⟩ := hs
    exact q.elim
  · obtain ⟨oc, od, dV, kV, doc, pm, an, cdv, ct, osl, rfl, lk, hcd, hD, hK⟩ := F.ex
    rcases hD with ⟨_, rfl⟩ | ⟨e, _⟩
    · exact .of_eq (hb2 kV doc pm an cdv ct us hl)
    · exact absurd rfl e
end
end On

set_option Elab.async false
set_option linter.all false
set_option maxRecDepth 100000
set_option maxHeartbeats 4000000
/-! On25: lambdas that capture nothing, as values; calls of what a name holds. -/
namespace On
open PySem PySem.Spec PyProof.Rows L2
theorem clo_nil {cells : List (Str × Addr)} : ∀ {names : List (Str × NameKind)} {acc : List (Str × Addr)}, (∀ y ∈ names, y.2 ≠ .free) → cloFrom cells names acc = acc
  | [], acc, _ => rfl
  | (y, k) :: r, acc, h => by
    have hk := h (y, k) List.mem_cons_self
    have ih := clo_nil (cells := cells) (names := r) (acc := acc) fun z hz => h z (List.mem_cons_of_mem _ hz)
    cases k with
    | free => exact absurd rfl hk
    | _ => exact ih
section
variable {X : Cx} {pins : List (Addr × Obj)} {σ : Sl} {H : Hp} {s : Shared} {G : Gs} {E : WX}
theorem inv_lam {L : LamF} {c : Addr} {t' : Nat} {pm ctv : Value} (I : Inv X pins σ H s) :
    Inv X pins σ (upd H s.heap.objs.size (LamO L s.heap.objs.size c)) { s with heap := s.heap.push (PySem.W.kla_obj "<lambda>" L.qual L.params L.body L.scope [] pm c ctv), toks := t' } := by
  have e : (s.heap.push (PySem.W.kla_obj "<lambda>" L.qual L.params L.body L.scope [] pm c ctv)).get? s.heap.objs.size = some (PySem.W.kla_obj "<lambda>" L.qual L.params L.body L.scope [] pm c ctv) := Heap.get?_push_size _ rfl
  exact I.laid (a := s.heap.objs.size) (fun b u z => Heap.get?_push_of_some _ z) (Nat.le_refl _) ⟨⟨pm, ctv, e⟩, ⟨_, e⟩, fun h1 h2 ⟨p, t, z⟩ st => ⟨p, t, st _ z⟩⟩
theorem lam_made {T : List (Addr × Str)} {c P : Addr} {L : LamF} {pos : Pos} {B : Value → Shared → Prop} {Q : Value → Shared → Prop} (I : Inv X pins σ H s) (TB : LamX.TabB X.base X.mg c P) (hcode : X.env.code = .ref c) (hq : L.qual = X.env.qual ++ "<lambda>")
    (hm : (P, L.qual) ∈ T) (hu : ∀ p ∈ T, p.1 = P → p.2 = L.qual) (hT : LamX.Tabs T H) (hdef : defaultsOf L.params X.env = ([], [])) (hnf : ∀ y ∈ L.scope.names, y.2 ≠ .free)
    (h : ∀ (f c' : Addr) (H1 : Hp) (s' : Shared), Inv X pins σ H1 s' → LamX.ExtN H H1 → LamX.Tabs T H1 → H1 f = some (LamO L f c') → H1 c' = some (LamX.CodeO c' L.qual) → Q (.ref f) s') :
    wpAny (model X.prog X.w) X.A (eval (.Lambda L.params L.body L.scope pos) X.env) Q B s := by
  obtain ⟨ps, hP, ht, ha⟩ := hT _ hm
  refine PySem.W.kla_eval hdef ?_
  rw [← hq]
  have bP : s.heap.BuiltinsAt X.mg P := TB.bm.keeps I.bk
  have hP' : s.heap.get? P = some { cls := .none, data := .fields ps } := I.hok P _ hP
  have hcl : closureFor L.scope X.env = pure [] := by
    have e := closure_ok (env := X.env) (scope := L.scope) fun y hy z => absurd z (hnf y hy)
    rw [clo_nil hnf] at e
    exact e
  cases hc : codeAmong pos ps.toList with
  | none =>
    refine PySem.W.kla_makeFunction (mg := X.mg) (c := c) (P := P) (ps := ps) hcl I.ok.glob (I.mod.glob.keeps I.bk) hcode (TB.code.keeps I.bk) hP' ht hc TB.gP bP fun c' ctv h' tk hx hge hlt hrec htb => ?_
    obtain ⟨c2, oc, vs, t, e2, hoc, hd, hv⟩ := hrec
    cases e2
    have nC : H c' = none := I.hok.fresh hge
    have I1 := LamX.inv_table (t' := tk) (more := #[rawInt pos.line, rawInt pos.col, .ref c']) (h' := h') I hP hx htb hge ⟨oc, vs, t, hoc, hd, hv⟩
    have hE : LamX.ExtN H (upd (upd H P (.tbl (ps ++ #[rawInt pos.line, rawInt pos.col, .ref c']))) c' (LamX.CodeO c' L.qual)) := fun b o e n => by
      rw [upd_ne (ne_of_none e nC), upd_ne (fun z => n ps (Option.some.inj (e.symm.trans (by rw [z]; exact hP))))]
      exact e
    have eL : (ps ++ #[rawInt pos.line, rawInt pos.col, .ref c']).toList = ps.toList ++ [rawInt pos.line, rawInt pos.col, .ref c'] := by simp
    have T1 : LamX.Tabs T (upd (upd H P (.tbl (ps ++ #[rawInt pos.line, rawInt pos.col, .ref c']))) c' (LamX.CodeO c' L.qual)) := fun p hp => by
      by_cases hb : p.1 = P
      · rw [hu p hp hb, hb]
        refine ⟨_, by rw [upd_ne (ne_of_none hP nC), upd_same], by rw [eL]; exact PySem.TriplesOk_snoc _ _ _ _ ht, fun p' cv hcv => ?_⟩
        rw [eL] at hcv
        rcases LamX.among_app _ ht hcv with z | z
        · obtain ⟨c0, e1, e2⟩ := ha p' cv z
          exact ⟨c0, e1, hE _ _ e2 LamX.codeO_ne⟩
        · exact ⟨c', z, upd_same⟩
      · obtain ⟨ps', a1, a2, a3⟩ := hT p hp
        refine ⟨ps', by rw [upd_ne (ne_of_none a1 nC), upd_ne hb]; exact a1, a2, fun p' cv hcv => ?_⟩
        obtain ⟨c0, e1, e2⟩ := a3 p' cv hcv
        exact ⟨c0, e1, hE _ _ e2 LamX.codeO_ne⟩
    have nF := I1.hok.fresh (Nat.le_refl _)
    have I2 := inv_lam (L := L) (c := c') (t' := tk) (pm := (X.mg "__name__").getD .none) (ctv := ctv) I1
    exact h h'.objs.size c' _ _ I2 (fun b o e n => (upd_ne (ne_of_none (hE b o e n) nF)).trans (hE b o e n)) (T1.ext fun b o e => (upd_ne (ne_of_none e nF)).trans e) upd_same ((upd_ne (Nat.ne_of_lt hlt)).trans upd_same)
  | some cv =>
    obtain ⟨c', e, hco⟩ := ha pos cv hc
    subst e
    refine PySem.W.kla_makeFunctionHit (mg := X.mg) (c := c) (P := P) (ps := ps) hcl I.ok.glob (I.mod.glob.keeps I.bk) hcode (TB.code.keeps I.bk) hP' ht hc bP fun ctv h' tk hx hsz => ?_
    have I1 : Inv X pins σ H { s with heap := h', toks := tk } := I.kept hx
    have nF : H h'.objs.size = none := I1.hok.fresh (Nat.le_refl _)
    have I2 := inv_lam (L := L) (c := c') (t' := tk) (pm := (X.mg "__name__").getD .none) (ctv := ctv) I1
    exact h h'.objs.size c' _ _ I2 (fun b o e n => (upd_ne (ne_of_none e nF)).trans e) (hT.ext fun b o e => (upd_ne (ne_of_none e nF)).trans e) upd_same ((upd_ne (ne_of_none hco nF)).trans hco)
theorem ed_lam {n : Nat} {c P : Addr} {params : Arguments} {body : Expr} {scope : Scope} {pos : Pos} (TB : LamX.TabB X.base X.mg c P) (hcode : X.env.code = .ref c) (hf : G.fn n = ⟨X.env.qual ++ "<lambda>", params, body, scope⟩)
    (hm : (P, X.env.qual ++ "<lambda>") ∈ G.T) (hu : ∀ p ∈ G.T, p.1 = P → p.2 = X.env.qual ++ "<lambda>") (hdef : defaultsOf params X.env = ([], [])) (hnf : ∀ y ∈ scope.names, y.2 ≠ .free) : PE X (.Lambda params body scope pos) (tD G E (xC (.cl n))) := by
  refine ⟨fun pins s σ H Q I q => ?_⟩
  obtain ⟨w, ρ, T, rfl, er, q⟩ := q
  refine lam_made (L := ⟨X.env.qual ++ "<lambda>", params, body, scope⟩) I TB hcode rfl hm hu er.tb hdef hnf fun f c' H1 s' I1 eN t1 h1 h2 => ?_
  obtain ⟨g1, er1⟩ := ext_env eN t1 er
  exact ⟨.ref f, H1, I1, rfl, q _ ⟨H1, w.M, w.C⟩ [] g1 er1 (.sh (.cl (by rw [hf]; exact h1) (by rw [hf]; exact h2)))⟩
end
section
variable {P : Program} {w : World} {K : PySem.W.Frag} {mg : Str → Option Value} {base : Heap} {G : Gs} {L : LamF} {N ps : List Str} {k : Nat} {x : Xx} {mask : List Bool} {f c : Addr}
/-- a call of a lambda that captures nothing -/
theorem run_lam {A : Around} {outer : List Env} {s : Shared} {H : Hp} {us : List Value} {vs : List V} {Q : VK} {E : XK} (S : FnScope N ps L.scope) (hm : mask.length = ps.length) (hmf : ∀ b ∈ mask, b = false)
    (hb : ∀ (pm cv ctv : Value) (us : List Value), us.length = ps.length → bindArgs (PySem.W.kla_fn "<lambda>" L.qual L.params L.body L.scope [] pm cv ctv) ⟨us, []⟩ = pure (ps.zip us))
    (hbody : ∀ (f : Addr) (cdv : Value) (A : Around) (outer : List Env) (s : Shared) (H : Hp) (E : XK), Room k (A.deeper (envOfC L.qual L.scope s.heap.objs.size f cdv)) → PE (cxD P w K mg base N L.qual L.scope f cdv A outer s H E) L.body (tD G (WD E) x))
    (hr : Room (k + 1) A) (e0 : Env0 P w K mg base A outer s H) (h1 : H f = some (LamO L f c)) (h2 : H c = some (LamX.CodeO c L.qual)) (r : Vals vs us) (h : spF G (runF mask N.length (yRet x)) mask vs H Q E) :
    codeAny (model P w) A (.call (.ref f) ⟨us, []⟩) (CR (L2.CX P w) outer P w H s Q E) s := by
  have hl : vs.length = ps.length := h.1.trans hm
  have lim : s.heap.NoLimit := e0.mod.nolimit.keeps fun b o e => (e0.bs b o e).1
  obtain ⟨⟨pm, ctv, ho⟩, _, _⟩ := e0.hok f _ h1
  have hkind : ∀ y ∈ ps.zip us, L.scope.names.lookup y.1 = some .local ∨ (L.scope.names.lookup y.1 = some .cell ∧ ((cellsFrom (s.heap.objs.size + 1) L.scope.names []).lookup y.1).isSome = true) := fun ⟨n, v⟩ hy => by
    rcases S.par n (List.of_mem_zip hy).1 with q | q
    · exact .inl q
    · exact .inr ⟨q, PySem.W.cellsFrom_some _ _ _ (.inl q)⟩
  refine PySem.W.kla_callFunE hr.depth ho rfl S.co S.gen rfl (NdefX.codeO_at e0.hok h2) ?_
  rw [hb pm _ ctv us (by rw [← r.length]; exact hl)]
  refine wpAny_pure (wpAny_newFunctionEnv_cells S.kind hkind fun env he s1 xx => ?_)
  subst he
  refine ⟨lim.keeps xx.toInCall.keep, ?_⟩
  have I : Inv (cxD P w K mg base N L.qual L.scope f (.ref c) A outer s H E) [] (L2.start N vs) H s1 := inv_start S hr.hd e0 hl r xx
  refine PySem.W.kla_codeExpr (wpAny_mono ((hbody f (.ref c) A outer s H E (hr.deeper _)).run [] s1 (L2.start N vs) H (fun v H' => Q v H') I ?_) (fun v s' hq => ?_) fun e s' hq => hq)
  · obtain ⟨hl, w0, ds, as, rfl, o, fr, sub, tb, q⟩ := h
    have hlen := o.length
    refine ⟨w0, ds.map some ++ List.replicate (N.length - ds.length) none, [], rfl, ⟨⟨as, ?_, by rw [List.append_nil]; exact fr.1, fun a ha => fr.2 a (by rw [List.append_nil] at ha; exact ha)⟩, sub, tb⟩, ?_⟩
    · have := envL_start (N.length - ds.length) o
      unfold L2.start
      rw [hlen]
      exact this
    · have vsat : ∀ {σ' : Sl} (i : Nat) (v : V), mask[i]? = some true → vs[i]? = some v → σ'[i]? = some (some v) := fun i v z _ => by
        have := hmf true (List.mem_of_getElem? z)
        cases this
      unfold runF yRet at q
      cases hx : x (ds.map some ++ List.replicate (N.length - ds.length) none) with
      | no => simp only [hx] at q
      | ok d ρ =>
        simp only [hx] at q ⊢
        cases hmu : muts mask ρ with
        | none => simp only [hmu] at q
        | some ms =>
          simp only [hmu] at q
          intro v w' bs g er ov
          obtain ⟨as', e1, e2, e3⟩ := er.ex
          obtain ⟨cs, ds', h1, h2⟩ := envL_pick e1 hmu hl vsat
          rw [List.append_nil] at e2 e3
          exact q v w' bs cs g.le h1 ov (fre_of (T := []) h2 e2 e3) er.sub
      | ex c ρ =>
        simp only [hx] at q ⊢
        cases hmu : muts mask ρ with
        | none => simp only [hmu] at q
        | some ms =>
          simp only [hmu] at q
          intro w' g er
          obtain ⟨as', e1, e2, e3⟩ := er.ex
          obtain ⟨cs, ds', h1, h2⟩ := envL_pick e1 hmu hl vsat
          exact q w' cs g.le h1 (fre_of (T := []) (bs := []) h2 e2 e3) er.sub
  · obtain ⟨v', H', J, rv, q⟩ := hq
    exact ⟨v', H', J.os, J.bare, J.base, J.hok, rv, q⟩
end
/-! ### calls of what a name holds -/
def LamOk (P : Program) (w : World) (K : PySem.W.Frag) (mg : Str → Option Value) (base : Heap) (G : Gs) (k n : Nat) (m : Fx) (mask : List Bool) : Prop :=
  ∀ (f c : Addr) (A : Around) (outer : List Env) (s : Shared) (H : Hp) (us : List Value) (vs : List V) (Q : VK) (E : XK), Room k A → Env0 P w K mg base A outer s H → H f = some (LamO (G.fn n) f c) → H c = some (LamX.CodeO c (G.fn n).qual) → Vals vs us → spF G m mask vs H Q E →
    codeAny (model P w) A (.call (.ref f) ⟨us, []⟩) (CR (L2.CX P w) outer P w H s Q E) s
theorem LamOk.of {P : Program} {w : World} {K : PySem.W.Frag} {mg : Str → Option Value} {base : Heap} {G : Gs} {n k : Nat} {N ps : List Str} {x : Xx} {mask : List Bool} (S : FnScope N ps (G.fn n).scope) (hm : mask.length = ps.length) (hmf : ∀ b ∈ mask, b = false)
    (hb : ∀ (pm cv ctv : Value) (us : List Value), us.length = ps.length → bindArgs (PySem.W.kla_fn "<lambda>" (G.fn n).qual (G.fn n).params (G.fn n).body (G.fn n).scope [] pm cv ctv) ⟨us, []⟩ = pure (ps.zip us))
    (hbody : ∀ (f : Addr) (cdv : Value) (A : Around) (outer : List Env) (s : Shared) (H : Hp) (E : XK), Room k (A.deeper (envOfC (G.fn n).qual (G.fn n).scope s.heap.objs.size f cdv)) → PE (cxD P w K mg base N (G.fn n).qual (G.fn n).scope f cdv A outer s H E) (G.fn n).body (tD G (WD E) x)) :
    LamOk P w K mg base G (k + 1) n (runF mask N.length (yRet x)) mask :=
  fun f c A outer s H us vs Q E hr e0 h1 h2 r h => run_lam (L := G.fn n) S hm hmf hb hbody hr e0 h1 h2 r h
/-- what may be called: a def, a lambda that captures nothing -/
def Callee (P : Program) (w : World) (K : PySem.W.Frag) (mg : Str → Option Value) (base : Heap) (G : Gs) (k : Nat) (d : D) (m : Fx) (mask : List Bool) : Prop := match d with
  | .gl n => ∃ ps, Cal P w K mg base G n k m ps mask
  | .cl n => LamOk P w K mg base G k n m mask
  | _ => False
def xCallV (i : Nat) (f : D → Option Fx) (pat : List (Option Nat)) (y : Ax) : Xx := fun ρ => match ρ[i]? with
  | some (some d) => (match f d with
    | some m => xCall m pat y ρ
    | none => .no)
  | _ => .no
section
variable {X : Cx} {G : Gs} {E : WX} {k i : Nat} {e : Expr} {es : List Expr} {pos p : Pos} {y : Ax} {pat : List (Option Nat)} {x : Str} {f : D → Option Fx} {mask : List Bool}
theorem tDM_ext {σ : Sl} {H : Hp} {Q : List V → Hp → Prop} (q : tDM G E pat y σ H Q) : tDM G E pat y σ H fun vs H1 => Q vs H1 ∧ ∀ a φ, H a = some (.ext φ) → H1 a = some (.ext φ) := by
  obtain ⟨w, ρ, T, rfl, er, q⟩ := q
  refine ⟨w, ρ, T, rfl, er, ?_⟩
  cases h1 : y ρ with
  | no => simp only [h1] at q
  | ex c ρ1 =>
    simp only [h1] at q
    exact q
  | ok ds ρ1 =>
    simp only [h1] at q
    exact fun vs w1 as g1 er1 o1 pv => ⟨q vs w1 as g1 er1 o1 pv, g1.le.ext⟩
theorem ed_callV (hf : ∀ d m, f d = some m → Callee X.prog X.w X.K X.mg X.base G k d m mask) (hk : mask = maskOf pat) (hr : Room k X.A) (hN : X.N[i]? = some x) (hv : Vis X.env.scope x) (tk : Takes X E) (ha : PA X (e :: es) (tDM G E pat y))
    (hdb : (x == ("__debug__" : Str)) = false := by decide) (hcd : (x == ("__classdict__" : Str)) = false := by decide)
    (he : starEach (e :: es) X.env = (false, eval e X.env) :: starEach es X.env := by rfl) (hpl : (backTo pos (starEach es X.env)).any (·.1) = false := by rfl) :
    PE X (.Call (.Name x p) (e :: es) [] pos) (tD G E (xCallV i f pat y)) := by
  subst hk
  refine ⟨fun pins s σ H Q I q => ?_⟩
  obtain ⟨w, ρ, T, rfl, er, q⟩ := q
  unfold xCallV at q
  cases h1 : ρ[i]? with
  | none => simp only [h1] at q
  | some o =>
    cases o with
    | none => simp only [h1] at q
    | some d =>
      simp only [h1] at q
      cases h2 : f d with
      | none => simp only [h2] at q
      | some m =>
        simp only [h2] at q
        have q' := tD_call (E := E) ⟨w, ρ, T, rfl, er, q⟩
        obtain ⟨v, bs, hs, ho, _⟩ := er.get h1
        have C := hf d m h2
        cases d with
        | gl n =>
          obtain ⟨rfl, r⟩ := ho.rep rfl
          cases r
          obtain ⟨ps, C⟩ := C
          obtain ⟨fd, F, b, _⟩ := C.ex
          refine wpAny_Call_Name_kw (thn ((pe_var (pos := p) hN hv hdb hcd).run pins s σ w.H (fun v H1 => v = .ref (G n) ∧ H1 = w.H) I ⟨_, hs, rfl, rfl⟩) fun u s1 ⟨v, H1, I1, r1, q1⟩ => ?_)
          obtain ⟨rfl, rfl⟩ := q1
          cases r1
          exact PySem.W.callWith_K (h₀ := X.base) I1.ok.mod.kin C.kp (thn (ha.run pos pins s1 σ _ _ I1 q') fun us s2 ⟨vs, H2, I2, r, q⟩ => ⟨I2.kIn, run_fnS F hr b (passAt tk σ) I2 r q⟩) he hpl
        | cl n =>
          obtain ⟨rfl, r⟩ := ho.rep rfl
          cases r with
          | cl h3 h4 =>
            rename_i a c
            refine wpAny_Call_Name_kw (thn ((pe_var (pos := p) hN hv hdb hcd).run pins s σ w.H (fun v H1 => v = .ref a ∧ H1 = w.H) I ⟨_, hs, rfl, rfl⟩) fun u s1 ⟨v, H1, I1, r1, q1⟩ => ?_)
            obtain ⟨rfl, rfl⟩ := q1
            cases r1
            have fnAt : ∀ {s : Shared} {H : Hp}, Inv X pins σ H s → H a = some (LamO (G.fn n) a c) → PySem.W.FnAt a s.heap := fun J z => by
              obtain ⟨⟨pm, ctv, ho⟩, _, _⟩ := J.hok a _ z
              exact ⟨_, _, _, _, ho⟩
            refine PySem.W.callWith_F (first := []) (fnAt I1 h3) (thn (ha.run pos pins s1 σ _ _ I1 (tDM_ext q')) fun us s2 ⟨vs, H2, I2, r, q, kx⟩ => ⟨fnAt I2 (kx _ _ h3), ?_⟩) he hpl
            show wpAny _ _ (call (.ref a) us) _ _ _
            refine wpAny_call (codeAny_mono (C a c X.A X.stack s2 H2 us vs Q (WE E σ) hr I2.env0 (kx _ _ h3) (kx _ _ h4) r q) fun r s' hq => ?_)
            cases r with
            | error e => exact passAt tk σ pins H2 s2 e s' I2 hq
            | ok fl =>
              cases fl with
              | ret u => exact I2.after hq
              | next => exact False.elim hq
              | brk => exact False.elim hq
              | cont => exact False.elim hq
        | _ => exact C.elim
end
end On

set_option Elab.async false
set_option linter.all false
set_option maxRecDepth 100000
set_option maxHeartbeats 4000000
/-! On26: _law_caught(lambda: ..) as a generated walk names it. -/
namespace On
open PySem PySem.Spec PyProof.Rows L2
/-- a code object whose lambdas bear the name q -/
def LamTb (base : Heap) (mg : Str → Option Value) (G : Gs) (cd : Value) (q : Str) : Prop := ∃ c P, cd = .ref c ∧ LamX.TabB base mg c P ∧ (P, q) ∈ G.T ∧ ∀ p ∈ G.T, p.1 = P → p.2 = q
section
variable {X : Cx} {G : Gs} {E : WX} {k : Nat}
theorem ed_lamV {n : Nat} {q : Str} {params : Arguments} {body : Expr} {scope : Scope} {pos : Pos} (tb : LamTb X.base X.mg G X.env.code q) (hf : G.fn n = ⟨q, params, body, scope⟩) (hq : X.env.qual ++ "<lambda>" = q := by rfl)
    (hdef : defaultsOf params X.env = ([], []) := by rfl) (hnf : ∀ y ∈ scope.names, y.2 ≠ .free := by decide +kernel) : PE X (.Lambda params body scope pos) (tD G E (xC (.cl n))) := by
  subst hq
  obtain ⟨c, P, h1, h2, h3, h4⟩ := tb
  exact ed_lam h2 h1 hf h3 h4 hdef hnf
theorem takes_lam {A : Around} {outer : List Env} {s : Shared} {H : Hp} {E' : XK} {scope : Scope} {f c' : Addr} : Takes (LamX.lamCx X A outer s H E' scope f c') (WD E') := takes_of rfl rfl rfl rfl
theorem ed_lamC {es : List Str} {xb : Xx} {x a q : Str} {CS : Addr} {pg : Arguments} {bg : List Stmt} {sg : Scope} {Ng : List Str}
    {params : Arguments} {body : Expr} {scope : Scope} {p lpos pos : Pos} (hE : ∀ e ∈ es, PySem.W.exmOne X.K (.ref (G e)) (.ref CS) = some true) (F : ∃ fd, FunD X.K x x pg bg sg [] [] (G x) fd) (hm : X.mg x = some (.ref (G x))) (Sg : FnScope Ng [a] sg)
    (hG : ∀ g cdv q, LamX.GivesTo X Ng x sg g cdv bg a q (TTc X.K CS)) (tb : LamTb X.base X.mg G X.env.code q) (hr : Room (k + 2) X.A) (L : LamX.LamS X.env.scope scope)
    (hb1 : ∀ (kV doc pm : Value) (an : Option Addr) (cdv ct : Value) (us : List Value), us.length = [a].length → bindArgs (PySem.W.fnOf x x pg bg sg .none kV doc pm an cdv ct) ⟨us, []⟩ = pure ([a].zip us))
    (hbody : ∀ (A : Around) (outer : List Env) (s : Shared) (H : Hp) (E' : XK) (f c' : Addr), Room k (A.deeper (LamX.lamEnv X scope s.heap.objs.size f c')) → PE (LamX.lamCx X A outer s H E' scope f c') body (tD G (WD E') xb))
    (hbind : ∀ (q : Str) (cl : List (Str × Addr)) (pm cv ctv : Value), bindArgs (PySem.W.kla_fn "<lambda>" q params body scope cl pm cv ctv) ⟨[], []⟩ = pure [] := by intro _ _ _ _ _; rfl) (hq : X.env.qual ++ "<lambda>" = q := by rfl)
    (hg : Gl X x := by rfl) (hNg : Ng[0]? = some a := by rfl) (hva : Vis sg a := by exact .inl rfl) (hdef : defaultsOf params X.env = ([], []) := by rfl)
    (hdb : (x == ("__debug__" : Str)) = false := by decide) (hd : (a == ("__debug__" : Str)) = false := by decide) (hcd : (a == ("__classdict__" : Str)) = false := by decide) :
    PE X (.Call (.Name x p) [.Lambda params body scope lpos] [] pos) (tD G E (xCaught es xb)) := by
  subst hq
  obtain ⟨c, P, h1, h2, h3, h4⟩ := tb
  obtain ⟨fd, F⟩ := F
  have B := F.bindsN hb1
  have kp := F.kp
  obtain ⟨oc, od, dV, kV, doc, pm, an, cdv, ct, osl, rfl, lk, hcd', hD, hK⟩ := F.ex
  exact ed_caught hE hg hm kp lk hcd' B Sg hNg hva (hG _ _ _) h2 h1 h3 h4 hr L hdef hbind hbody hdb hd hcd
end
theorem Cal.mono {P : Program} {w : World} {K : PySem.W.Frag} {mg : Str → Option Value} {base : Heap} {G : Gs} {x : Str} {j k : Nat} {m : Fx} {ps : List Str} {mask : List Bool} (C : Cal P w K mg base G x j m ps mask) (h : j ≤ k) : Cal P w K mg base G x k m ps mask := by
  obtain ⟨⟨fd, F, b, c⟩, g, kp⟩ := C
  exact ⟨⟨fd, F.mono h, b, c⟩, g, kp⟩
theorem LamOk.mono {P : Program} {w : World} {K : PySem.W.Frag} {mg : Str → Option Value} {base : Heap} {G : Gs} {n j k : Nat} {m : Fx} {mask : List Bool} (C : LamOk P w K mg base G j n m mask) (h : j ≤ k) : LamOk P w K mg base G k n m mask :=
  fun f c A outer s H us vs Q E hr => C f c A outer s H us vs Q E (hr.mono h)
theorem LamOk.ofL {P : Program} {w : World} {K : PySem.W.Frag} {mg : Str → Option Value} {base : Heap} {G : Gs} {n k : Nat} {N ps : List Str} {x : Xx} {mask : List Bool} {L : LamF} (hL : G.fn n = L) (S : FnScope N ps L.scope) (hm : mask.length = ps.length) (hmf : ∀ b ∈ mask, b = false)
    (hb : ∀ (pm cv ctv : Value) (us : List Value), us.length = ps.length → bindArgs (PySem.W.kla_fn "<lambda>" L.qual L.params L.body L.scope [] pm cv ctv) ⟨us, []⟩ = pure (ps.zip us))
    (hbody : ∀ (f : Addr) (cdv : Value) (A : Around) (outer : List Env) (s : Shared) (H : Hp) (E : XK), Room k (A.deeper (envOfC L.qual L.scope s.heap.objs.size f cdv)) → PE (cxD P w K mg base N L.qual L.scope f cdv A outer s H E) L.body (tD G (WD E) x)) :
    LamOk P w K mg base G (k + 1) n (runF mask N.length (yRet x)) mask := by
  subst hL
  exact LamOk.of S hm hmf hb hbody
theorem ed_cv {X : Cx} {G : Gs} {E : WX} {j k i : Nat} {e : Expr} {es : List Expr} {pos p : Pos} {y : Ax} {pat : List (Option Nat)} {x : Str} {f : D → Option Fx} {mask : List Bool} (hf : ∀ d m, f d = some m → Callee X.prog X.w X.K X.mg X.base G j d m mask) (hr : Room k X.A) (hN : X.N[i]? = some x) (hv : Vis X.env.scope x) (tk : Takes X E) (ha : PA X (e :: es) (tDM G E pat y))
    (hj : j ≤ k := by decide) (hk : mask = maskOf pat := by rfl) (hdb : (x == ("__debug__" : Str)) = false := by decide) (hcd : (x == ("__classdict__" : Str)) = false := by decide)
    (he : starEach (e :: es) X.env = (false, eval e X.env) :: starEach es X.env := by rfl) (hpl : (backTo pos (starEach es X.env)).any (·.1) = false := by rfl) :
    PE X (.Call (.Name x p) (e :: es) [] pos) (tD G E (xCallV i f pat y)) := ed_callV hf hk (hr.mono hj) hN hv tk ha hdb hcd he hpl
/-! ### paths into a def -/
end On

set_option Elab.async false
set_option linter.all false
set_option maxRecDepth 100000
set_option maxHeartbeats 4000000
/-! On27: from the head's facts to a law. -/
namespace On
open PySem PySem.Spec PyProof.Rows L2
theorem nodup_fst {α β γ : Type} {f : α → β} {g : α → γ} : ∀ {l : List α}, (l.map f).Nodup → ∀ {a b : α}, a ∈ l → b ∈ l → f a = f b → g a = g b
  | c :: r, h, a, b, ha, hb, e => by
    rw [List.map_cons, List.nodup_cons] at h
    rcases List.mem_cons.mp ha with x | ha2 <;> rcases List.mem_cons.mp hb with y | hb2
    · rw [x, y]
    · subst x
      exact absurd (show f a ∈ r.map f from List.mem_map.mpr ⟨b, hb2, e.symm⟩) h.1
    · subst y
      exact absurd (show f b ∈ r.map f from List.mem_map.mpr ⟨a, ha2, e⟩) h.1
    · exact nodup_fst h.2 ha2 hb2 e
section
variable {P : Program} {w : World} {K : PySem.W.Frag} {mg : Str → Option Value} {base : Heap}
theorem lamTb_of {tf : List He.Defn} {fns : List LamF} (nd : (tf.map fun p => (He.cT K p).2).Nodup) (TB : ∀ p ∈ tf.map (He.cT K), LamX.TabB base mg p.1 p.2) {x qual : Str} {params : Arguments} {body : List Stmt} {scope : Scope} (hx : (x, none) ∈ tf) {fd : FuncData}
    (F : FunD K x qual params body scope [] [] (He.ga K x) fd) : LamTb base mg (gsOf K tf fns) fd.code (x ++ ".<locals>.<lambda>") := by
  obtain ⟨oc, od, dV, kV, doc, pm, an, cdv, ct, osl, rfl, lk, hcd, hD, hK⟩ := F.ex
  obtain ⟨c, hc⟩ := He.codeIn_ref hcd
  have e : He.codeOf K (x, none) = c := He.codeOf_eq lk hc
  have t := TB (He.cT K (x, none)) (List.mem_map.mpr ⟨_, hx, rfl⟩)
  refine ⟨c, (He.cT K (x, none)).2, hc, ?_, List.mem_map.mpr ⟨_, hx, rfl⟩, fun p hp hq => ?_⟩
  · rw [← e]
    exact t
  · obtain ⟨y, hy, rfl⟩ := List.mem_map.mp hp
    have e2 : y.1 = x := nodup_fst (f := fun p : He.Defn => (He.cT K p).2) (g := fun p : He.Defn => p.1) nd hy hx hq
    show y.1 ++ _ = x ++ _
    rw [e2]
end
/-! ### what the own Bool tells -/
theorem insB_ok {K : PySem.W.Frag} {c : Str} (C : Cls K (He.ga K c)) (h : insB K c = true) : InsF K (He.ga K c) := by
  obtain ⟨h1, h⟩ := He.ba h
  obtain ⟨h2, h⟩ := He.ba h
  obtain ⟨h3, h4⟩ := He.ba h
  exact ⟨C, He.eqO_ok h1, of_decide_eq_true h2, of_decide_eq_true h3, of_decide_eq_true h4⟩
theorem excB_ok {K : PySem.W.Frag} {c : Str} (hs : PySem.W.subIn K (.ref (He.ga K c)) (.type "BaseException") = some true) (h : excB K c = true) : ExcC K (He.ga K c) := by
  obtain ⟨h1, h⟩ := He.ba h
  obtain ⟨h2, h⟩ := He.ba h
  obtain ⟨h3, h⟩ := He.ba h
  obtain ⟨h4, h⟩ := He.ba h
  obtain ⟨h5, h⟩ := He.ba h
  obtain ⟨h6, h7⟩ := He.ba h
  exact ⟨He.eqO_ok h1, He.eqO_ok h2, hs, h3, He.eqO_ok h4, of_decide_eq_true h5, of_decide_eq_true h6, of_decide_eq_true h7⟩
theorem noLst_ok {K : PySem.W.Frag} (h : noLst K = true) {a : Addr} {o : Obj} (lk : K.lookup a = some o) : o.cls ≠ .type "list" := fun e => by
  have := List.all_eq_true.mp h (a, o) (He.lookup_mem lk)
  simp [e] at this
/-! ### the law -/
theorem cx_none {P : Program} {w : World} {H : Hp} {s : Shared} {e : Value} {s' : Shared} (h : L2.CX P w [] H s (fun _ _ _ => False) e s') : False := by
  obtain ⟨_, _, _, _, _, _, _, _, _, _, _, _, z⟩ := h
  exact z
theorem law_sp {K : PySem.W.Frag} {G : Gs} {m : Fx} {ns : List Int} {H : Hp} {a : Addr} (hn : noLst K = true) (hT : LamX.Tabs G.T H) (hS : SqL K H a (ns.map V.int))
    (hm : ∀ d, D.items d = some (ns.map .int) → d.sh = true → ∃ ms, m [d] = .ok (.bl true) ms) : spF G m [false] [.ref a] H (fun v _ => v = .bl true) fun _ _ _ => False := by
  have rp : ∀ {M : Addr → Prop} {l : List Int}, Reps G M H (l.map V.int) (l.map D.int) := fun {M l} => by
    induction l with
    | nil => exact .nil
    | cons i r ih => exact .cons (.int i) ih
  have key : ∃ d, D.items d = some (ns.map .int) ∧ d.sh = true ∧ Rep G (fun _ => False) H (.ref a) d := by
    rcases hS with (h | ⟨o, h⟩) | ⟨o, _, _, lk, hc, _⟩
    · exact ⟨.lst (ns.map .int), rfl, rfl, .lst id h rp⟩
    · exact ⟨.fl (ns.map .int), rfl, rfl, .fl id h rp⟩
    · exact absurd hc (noLst_ok hn lk)
  obtain ⟨d, h1, h2, h3⟩ := key
  obtain ⟨ms, h4⟩ := hm d h1 h2
  refine ⟨rfl, ⟨H, fun _ => False, fun _ => False⟩, [d], [], rfl, .cons (as := []) (.sh h3) .nil, ⟨.nil, fun x hx => nomatch hx⟩, fun x hx => hx, hT, ?_⟩
  rw [h4]
  intro v w' bs cs _ _ ov _ _
  obtain ⟨_, r⟩ := ov.rep rfl
  cases r
  rfl
end On

set_option Elab.async false
set_option linter.all false
set_option maxRecDepth 100000
set_option maxHeartbeats 4000000
namespace On
open PySem PySem.Spec PyProof.Rows L2
def y_is_number : Sx := (yRet (xAnd (xIsi csL esL tabL (.b "int") (xVar 0)) (xNot (xIsi csL esL tabL (.b "bool") (xVar 0)))))
def m_is_number : Fx := runF [false] 1 y_is_number
def y_product_of : Sx := (ySeq (yAsg (gxName 1) (xC (.int 1))) (ySeq (yFor (aSeq (xVar 0)) (gxName 2) (yAug 1 (dI2 CMul fun i j => .int (i * j)) (xVar 2))) (yRet (xVar 1))))
def m_product_of : Fx := runF [false] 3 y_product_of
def y_rows_of : Sx := (ySeq (yAsg (gxName 1) (xFz (xLst (aCons (xTup aNil) aNil)))) (ySeq (yFor (aSeq (xVar 0)) (gxName 2) (yAsg (gxName 1) (xFz (xLc2 [3, 4] [4] (aSeq (xVar 1)) (gxName 3) bYes (aOf fRng1 (aCons (xVar 2) aNil)) (gxName 4) bYes (xTup (aStar (xVar 3) (aCons (xVar 4) aNil))))))) (yRet (xVar 1))))
def m_rows_of : Fx := runF [false] 5 y_rows_of
def y_place_of : Sx := (ySeq (yAsg (gxName 2) (xC (.int 0))) (ySeq (yFor (aOf fZip (aCons (xVar 0) (aCons (xVar 1) aNil))) (gxTup 2 (glCons (gxName 3) (glCons (gxName 4) glNil))) (yAsg (gxName 2) (xFz (xOp dAdd (xFz (xOp dMul (xVar 2) (xVar 4))) (xVar 3))))) (yRet (xVar 2))))
def m_place_of : Fx := runF [false, false] 5 y_place_of
def y_part_of : Sx := (ySeq (yFor (aOf fRng1 (aCons (xB dLen (aCons (xVar 0) aNil)) aNil)) (gxName 4) (yIf (yAnd (toB (xOp dNe (xOp dIx (xVar 0) (xVar 4)) (xOp dIx (xVar 1) (xVar 4)))) (toB (xOp dEq (xOp dIx (xVar 2) (xVar 4)) (xOp dIx (xVar 3) (xVar 4))))) (yRet (xVar 4)) yNil)) (yRet (xC .non)))
def m_part_of : Fx := runF [false, false, false, false] 5 y_part_of
def y_rule_through : Sx := (ySeq (yAsg (gxName 3) (xFz (xDisp [((xOp dIx (xVar 2) (xC (.int 0))), (xOp dIx (xVar 2) (xC (.int 1)))), ((xOp dIx (xVar 1) (xC (.int 0))), (xOp dIx (xVar 1) (xC (.int 1))))]))) (yRet (xB dTuple (aCons (xFz (xLc [4] (aOf fRng1 (aCons (xVar 0) aNil)) (gxName 4) bYes (xGet2 (xVar 3) (xVar 4) (xC (.int 0))))) aNil))))
def m_rule_through : Fx := runF [false, false, false] 5 y_rule_through
def y_unlike_rooms : Sx := (yRet (xFz (xLc [2, 3, 4] (aOf fEnumZip (aCons (xVar 0) (aCons (xVar 1) aNil))) (gxTup 2 (glCons (gxName 2) (glCons (gxTup 2 (glCons (gxName 3) (glCons (gxName 4) glNil))) glNil))) (toB (xOp dNe (xVar 3) (xVar 4))) (xVar 2))))
def m_unlike_rooms : Fx := runF [false, false] 5 y_unlike_rooms
def y_law_begun : Sx := (ySeq (yAsg (gxName 1) (xFz (xLc [3] (aSeq (xVar 0)) (gxName 3) bYes (xB dAbs (aCons (xVar 3) aNil))))) (ySeq (yAsg (gxName 2) (xLc [3] (aSeq (xVar 1)) (gxName 3) (toB (xOp dGe (xVar 3) (xOp dPow (xC (.int 10)) (xC (.int 18))))) (xOp dSub (xVar 3) (xOp dPow (xC (.int 10)) (xC (.int 18)))))) (yRet (xDisp [((xC (.str "large")), (xMv 2)), ((xC (.str "cells")), (xVar 1)), ((xC (.str "left")), (xC (.int 0))), ((xC (.str "turn")), (xC (.int 0)))]))))
def m_law_begun : Fx := runF [false] 4 y_law_begun
def y_law_draw : Sx := (ySeq (whileL (yAnd (toB (xOp dEq (xPl 0 [.k (.inr "left")]) (xC (.int 0)))) (toB (xOpP dNe 0 [.k (.inr "large")] (xFz (xLst aNil))))) (yAsg (gxPut 0 [] (xC (.str "left"))) (xMethP "list" 0 [.k (.inr "large")] mPopAt (aCons (xC (.int 0)) aNil))) 200) (ySeq (yIf (toB (xOp dGt (xPl 0 [.k (.inr "left")]) (xC (.int 0)))) (ySeq (yAsg (gxName 5) (xOp dMod (xB dInt (aCons (xPl 0 [.k (.inr "left")]) aNil)) (xVar 1))) (ySeq (yAsg (gxPut 0 [] (xC (.str "left"))) (xOp dFdiv (xPl 0 [.k (.inr "left")]) (xVar 1))) (yRet (xVar 5)))) yNil) (ySeq (yAsg (gxName 2) (xFz (xOp dAdd (xPl 0 [.k (.inr "turn")]) (xC (.int 1))))) (ySeq (yAsg (gxPut 0 [] (xC (.str "turn"))) (xVar 2)) (ySeq (yAsg (gxName 3) (xIf (toB (xOp dNe (xPl 0 [.k (.inr "cells")]) (xFz (xLst aNil)))) (xOp dIx (xPl 0 [.k (.inr "cells")]) (xOp dMod (xB dInt (aCons (xVar 2) aNil)) (xB dLen (aCons (xPl 0 [.k (.inr "cells")]) aNil)))) (xC (.int 0)))) (ySeq (yAsg (gxName 4) (xOp dMod (xB dInt (aCons (xOp dPow (xFz (xOp dAdd (xFz (xOp dAdd (xOp dMod (xB dInt (aCons (xVar 3) aNil)) (xC (.int 2147483563))) (xFz (xOp dMul (xC (.int 40692)) (xVar 2))))) (xC (.int 24681)))) (xC (.int 3))) aNil)) (xC (.int 2147483629)))) (yRet (xOp dMod (xB dInt (aCons (xOp dFdiv (xOp dMod (xB dInt (aCons (xOp dPow (xFz (xOp dAdd (xVar 4) (xFz (xOp dMul (xC (.int 104917)) (xVar 2))))) (xC (.int 5))) aNil)) (xC (.int 2147483579))) (xC (.int 29))) aNil)) (xVar 1)))))))))
def m_law_draw : Fx := runF [true, false] 6 y_law_draw
def y_law_is_whole : Sx := (yRet (xAnd (xIsi csL esL tabL (.b "int") (xVar 0)) (xNot (xIsi csL esL tabL (.b "bool") (xVar 0)))))
def m_law_is_whole : Fx := runF [false] 1 y_law_is_whole
def y_law_rows : Sx := (ySeq (yAsg (gxName 1) (xFz (xLst (aCons (xTup aNil) aNil)))) (ySeq (yFor (aSeq (xVar 0)) (gxName 2) (ySeq (yAsg (gxName 3) (xFz (xLst aNil))) (ySeq (yFor (aSeq (xVar 1)) (gxName 4) (yAsg (gxName 3) (xFz (xOp dAdd (xVar 3) (xFz (xLc [5] (aOf fRng1 (aCons (xVar 2) aNil)) (gxName 5) bYes (xFz (xOp dAdd (xVar 4) (xTup (aCons (xVar 5) aNil)))))))))) (yAsg (gxName 1) (xVar 3))))) (yRet (xVar 1))))
def m_law_rows : Fx := runF [false] 6 y_law_rows
def y_law_beside : Sx := (ySeq (yAsg (gxName 2) (xDisp [((xC (.str "sends")), (xFz (xOp dAdd (xOp dIx (xVar 0) (xC (.str "sends"))) (xOp dIx (xVar 1) (xC (.str "sends")))))), ((xC (.str "takes")), (xFz (xOp dAdd (xOp dIx (xVar 0) (xC (.str "takes"))) (xOp dIx (xVar 1) (xC (.str "takes")))))), ((xC (.str "notes")), xNewT)])) (ySeq (yFor (aSeq (xOp dIx (xVar 0) (xC (.str "notes")))) (gxName 3) (yFor (aSeq (xOp dIx (xVar 1) (xC (.str "notes")))) (gxName 4) (yAsg (gxPut 2 [.k (.inr "notes")] (xFz (xOp dAdd (xVar 3) (xVar 4)))) (xFz (xOp dAdd (xOp dIx (xOp dIx (xVar 0) (xC (.str "notes"))) (xVar 3)) (xOp dIx (xOp dIx (xVar 1) (xC (.str "notes"))) (xVar 4))))))) (yRet (xVz 2))))
def m_law_beside : Fx := runF [false, false] 5 y_law_beside
def y_law_answer : Sx := (yRet (xB dTuple (aCons (xFz (xLc [3, 4] (aOf fZip (aCons (xVar 1) (aCons (xOp dIx (xOp dIx (xVar 0) (xC (.str "notes"))) (xVar 2)) aNil))) (gxTup 2 (glCons (gxName 3) (glCons (gxName 4) glNil))) bYes (xOp dIx (xVar 3) (xVar 4)))) aNil)))
def m_law_answer : Fx := runF [false, false, false] 5 y_law_answer
def y_law_parts : Sx := (ySeq (yAsg (gxTup 2 (glCons (gxName 3) (glCons (gxName 4) glNil))) (xTup (aCons (xOp dIx (xOp dIx (xVar 0) (xC (.str "notes"))) (xVar 1)) (aCons (xOp dIx (xOp dIx (xVar 0) (xC (.str "notes"))) (xVar 2)) aNil)))) (yRet (xFz (xLc [5] (aOf fRng1 (aCons (xB dLen (aCons (xVar 1) aNil)) aNil)) (gxName 5) (yAnd (toB (xOp dNe (xOp dIx (xVar 1) (xVar 5)) (xOp dIx (xVar 2) (xVar 5)))) (toB (xOp dEq (xOp dIx (xVar 3) (xVar 5)) (xOp dIx (xVar 4) (xVar 5))))) (xVar 5)))))
def m_law_parts : Fx := runF [false, false, false] 6 y_law_parts
def y_law_with : Sx := (yRet (xFz (xOp dAdd (xFz (xOp dAdd (xFz (xCut dCut (xVar 0) none (some (xVar 1)))) (xTup (aCons (xVar 2) aNil)))) (xFz (xCut dCut (xVar 0) (some (xFz (xOp dAdd (xVar 1) (xC (.int 1))))) none)))))
def m_law_with : Fx := runF [false, false, false] 3 y_law_with
def y_law_unlike_spots : Sx := (yRet (xFz (xLc [2, 3] (aOf fEnum (aCons (xVar 0) aNil)) (gxTup 2 (glCons (gxName 2) (glCons (gxName 3) glNil))) (toB (xOp dNe (xVar 3) (xOp dIx (xVar 1) (xVar 2)))) (xVar 2))))
def m_law_unlike_spots : Fx := runF [false, false] 4 y_law_unlike_spots
def y_is_between : Sx := (yRet (xAnd (xCall m_is_number [none] (aCons (xVar 0) aNil)) (xChain dLe dLe (xVar 1) (xVar 0) (xVar 2))))
def m_is_between : Fx := runF [false, false, false] 3 y_is_between
def y_delivery_of : Sx := (yRet (xOp dIx (xUn (dFld "Table" "notes") (xVar 0)) (xCall m_place_of [none, none] (aCons (xVar 1) (aCons (xUn (dFld "Table" "sends") (xVar 0)) aNil)))))
def m_delivery_of : Fx := runF [false, false] 2 y_delivery_of
def y_law_pick : Sx := (yRet (xOp dIx (xVar 1) (xCall m_law_draw [some 0, none] (aMut 0 (aCons (xB dLen (aCons (xVar 1) aNil)) aNil)))))
def m_law_pick : Fx := runF [true, false] 2 y_law_pick
def y_law_mixed : Sx := (ySeq (yPar 2 3 (aCons (xB dList (aCons (xVar 1) aNil)) (aCons (xLst aNil) aNil))) (ySeq (whileL (toB (xOpP dNe 2 [] (xFz (xLst aNil)))) (yExpr (xMeth "list" 3 mApp (aCons (xMeth "list" 2 mPopAt (aCons (xCall m_law_draw [some 0, none] (aMut 0 (aCons (xOnP dLen 2 []) aNil))) aNil)) aNil))) 200) (yRet (xVz 3))))
def m_law_mixed : Fx := runF [true, false] 4 y_law_mixed
def y_law_turning : Sx := (ySeq (yAsg (gxName 0) (xDisp [((xC (.str "sends")), (xTup (aCons (xC (.int 2)) (aCons (xC (.int 2)) (aCons (xC (.int 2)) aNil))))), ((xC (.str "takes")), (xTup (aCons (xC (.int 2)) (aCons (xC (.int 2)) (aCons (xC (.int 2)) aNil))))), ((xC (.str "notes")), xNewT)])) (ySeq (yFor (aSeq (xCall m_law_rows [none] (aCons (xTup (aCons (xC (.int 2)) (aCons (xC (.int 2)) (aCons (xC (.int 2)) aNil)))) aNil))) (gxName 1) (yAsg (gxPut 0 [.k (.inr "notes")] (xVar 1)) (xB dTuple (aCons (xFz (xLc [2] (aOf fRng1 (aCons (xC (.int 3)) aNil)) (gxName 2) bYes (xB dInt (aCons (xAnd (xOp dEq (xOp dIx (xVar 1) (xOp dSub (xVar 2) (xC (.int 1)))) (xC (.int 1))) (xOp dEq (xOp dIx (xVar 1) (xOp dMod (xB dInt (aCons (xFz (xOp dAdd (xVar 2) (xC (.int 1)))) aNil)) (xC (.int 3)))) (xC (.int 0)))) aNil)))) aNil)))) (yRet (xVz 0))))
def m_law_turning : Fx := runF [] 3 y_law_turning
def y_law_rules : Sx := (ySeq (yAsg (gxName 2) (xLst aNil)) (ySeq (yFor (aOf fZip (aCons (xOp dIx (xVar 1) (xC (.str "sends"))) (aCons (xOp dIx (xVar 1) (xC (.str "takes"))) aNil))) (gxTup 2 (glCons (gxName 3) (glCons (gxName 4) glNil))) (yExpr (xMeth "list" 2 mApp (aCons (xB dTuple (aCons (xFz (xLc [5] (aOf fRng1 (aCons (xVar 4) aNil)) (gxName 5) bYes (xCall m_law_draw [some 0, none] (aMut 0 (aCons (xVar 3) aNil))))) aNil)) aNil)))) (yRet (xB dTuple (aCons (xVz 2) aNil)))))
def m_law_rules : Fx := runF [true, false] 6 y_law_rules
def y_law_stories : Sx := (yRet (xFz (xLc [2] (aSeq (xCall m_law_rows [none] (aCons (xOp dIx (xVar 0) (xC (.str "sends"))) aNil))) (gxName 2) (toB (xOp dEq (xCall m_law_answer [none, none, none] (aCons (xVar 0) (aCons (xVar 1) (aCons (xVar 2) aNil)))) (xVar 2))) (xVar 2))))
def m_law_stories : Fx := runF [false, false] 3 y_law_stories
def y_law_pairs : Sx := (ySeq (yPar 1 2 (aCons (xCall m_law_rows [none] (aCons (xOp dIx (xVar 0) (xC (.str "sends"))) aNil)) (aCons (xFz (xLst aNil)) aNil))) (ySeq (yFor (aOf fEnum (aCons (xVar 1) aNil)) (gxTup 2 (glCons (gxName 3) (glCons (gxName 4) glNil))) (yAsg (gxName 2) (xFz (xOp dAdd (xVar 2) (xFz (xLc [5] (aSeq (xFz (xCut dCut (xVar 1) (some (xFz (xOp dAdd (xVar 3) (xC (.int 1))))) none))) (gxName 5) bYes (xTup (aCons (xVar 4) (aCons (xVar 5) aNil))))))))) (yRet (xVar 2))))
def m_law_pairs : Fx := runF [false] 6 y_law_pairs
def y_law_is_row : Sx := (ySeq (yIf (yOr (yNot (toB (xIsi csL esL tabL (.b "tuple") (xVar 0)))) (toB (xOp dNe (xB dLen (aCons (xVar 0) aNil)) (xB dLen (aCons (xVar 1) aNil))))) (yRet (xC (.bl false))) yNil) (yRet (xOp dEq (xFz (xLc [2, 3] (aOf fZip (aCons (xVar 0) (aCons (xVar 1) aNil))) (gxTup 2 (glCons (gxName 2) (glCons (gxName 3) glNil))) (yOr (yNot (toB (xCall m_law_is_whole [none] (aCons (xVar 2) aNil)))) (yNot (toB (xChain dLe dLt (xC (.int 0)) (xVar 2) (xVar 3))))) (xC (.int 1)))) (xFz (xLst aNil)))))
def m_law_is_row : Fx := runF [false, false] 4 y_law_is_row
def y_law_rule : Sx := (yRet (xB dTuple (aCons (xFz (xLc [3] (aOf fRng1 (aCons (xOp dIx (xOp dIx (xVar 1) (xC (.str "takes"))) (xVar 2)) aNil)) (gxName 3) bYes (xCall m_law_draw [some 0, none] (aMut 0 (aCons (xOp dIx (xOp dIx (xVar 1) (xC (.str "sends"))) (xVar 2)) aNil))))) aNil)))
def m_law_rule : Fx := runF [true, false, false] 4 y_law_rule
def y_is_row : Sx := (ySeq (yIf (yOr (yNot (toB (xIsi csL esL tabL (.b "tuple") (xVar 0)))) (toB (xOp dNe (xB dLen (aCons (xVar 0) aNil)) (xB dLen (aCons (xVar 1) aNil))))) (yRet (xC (.bl false))) yNil) (yRet (xB dAll (aCons (xFz (xLc [2, 3] (aOf fZip (aCons (xVar 0) (aCons (xVar 1) aNil))) (gxTup 2 (glCons (gxName 2) (glCons (gxName 3) glNil))) bYes (xCall m_is_between [none, none, none] (aCons (xVar 2) (aCons (xC (.int 0)) (aCons (xOp dSub (xVar 3) (xC (.int 1))) aNil)))))) aNil))))
def m_is_row : Fx := runF [false, false] 4 y_is_row
def y_are_sizes : Sx := (ySeq (yIf (yOr (yNot (toB (xIsi csL esL tabL (.b "tuple") (xVar 0)))) (yNot (toB (xChain dLe dLe (xC (.int 1)) (xB dLen (aCons (xVar 0) aNil)) (xC (.int 6)))))) (yRet (xC (.bl false))) yNil) (yRet (xB dAll (aCons (xFz (xLc [1] (aSeq (xVar 0)) (gxName 1) bYes (xCall m_is_between [none, none, none] (aCons (xVar 1) (aCons (xC (.int 1)) (aCons (xC (.int 64)) aNil)))))) aNil))))
def m_are_sizes : Fx := runF [false] 2 y_are_sizes
def y_parts_of : Sx := (ySeq (yPar 1 2 (aCons (xFz (xLc [6] (aSeq (xCall m_rows_of [none] (aCons (xUn (dFld "Table" "sends") (xVar 0)) aNil))) (gxName 6) bYes (xTup (aCons (xVar 6) (aCons (xCall m_delivery_of [none, none] (aCons (xVar 0) (aCons (xVar 6) aNil))) aNil))))) (aCons (xLst aNil) aNil))) (ySeq (yFor (aOf fEnum (aCons (xVar 1) aNil)) (gxTup 2 (glCons (gxName 3) (glCons (gxTup 2 (glCons (gxName 4) (glCons (gxName 5) glNil))) glNil))) (yExpr (xMeth "list" 2 mExt (aCons (xFz (xLc [7, 8] (aSeq (xFz (xCut dCut (xVar 1) (some (xFz (xOp dAdd (xVar 3) (xC (.int 1))))) none))) (gxTup 2 (glCons (gxName 7) (glCons (gxName 8) glNil))) bYes (xTup (aCons (xTup (aCons (xVar 4) (aCons (xVar 7) aNil))) (aCons (xCall m_part_of [none, none, none, none] (aCons (xVar 4) (aCons (xVar 7) (aCons (xVar 5) (aCons (xVar 8) aNil))))) aNil))))) aNil)))) (yRet (xVz 2))))
def m_parts_of : Fx := runF [false] 9 y_parts_of
def y_answer_of : Sx := (yRet (xB dTuple (aCons (xFz (xLc [3, 4] (aOf fZip (aCons (xVar 1) (aCons (xCall m_delivery_of [none, none] (aCons (xVar 0) (aCons (xVar 2) aNil))) aNil))) (gxTup 2 (glCons (gxName 3) (glCons (gxName 4) glNil))) bYes (xOp dIx (xVar 3) (xVar 4)))) aNil)))
def m_answer_of : Fx := runF [false, false, false] 5 y_answer_of
def y_rule_for : Sx := (ySeq (yPar 4 5 (aCons (xOp dIx (xCall m_delivery_of [none, none] (aCons (xVar 0) (aCons (xVar 2) aNil))) (xVar 1)) (aCons (xOp dIx (xCall m_delivery_of [none, none] (aCons (xVar 0) (aCons (xVar 3) aNil))) (xVar 1)) aNil))) (yRet (xCall m_rule_through [none, none, none] (aCons (xOp dIx (xUn (dFld "Table" "takes") (xVar 0)) (xVar 1)) (aCons (xTup (aCons (xVar 4) (aCons (xOp dIx (xVar 2) (xVar 1)) aNil))) (aCons (xTup (aCons (xVar 5) (aCons (xOp dIx (xVar 3) (xVar 1)) aNil))) aNil))))))
def m_rule_for : Fx := runF [false, false, false, false] 6 y_rule_for
def y_parting_of : Sx := (ySeq (yAsg (gxTup 2 (glCons (gxName 3) (glCons (gxName 4) glNil))) (xTup (aCons (xCall m_delivery_of [none, none] (aCons (xVar 0) (aCons (xVar 1) aNil))) (aCons (xCall m_delivery_of [none, none] (aCons (xVar 0) (aCons (xVar 2) aNil))) aNil)))) (yRet (xB dTuple (aCons (xFz (xLc [5] (aOf fRng1 (aCons (xB dLen (aCons (xVar 1) aNil)) aNil)) (gxName 5) (yAnd (toB (xOp dNe (xOp dIx (xVar 1) (xVar 5)) (xOp dIx (xVar 2) (xVar 5)))) (toB (xOp dEq (xOp dIx (xVar 3) (xVar 5)) (xOp dIx (xVar 4) (xVar 5))))) (xVar 5))) aNil))))
def m_parting_of : Fx := runF [false, false, false] 6 y_parting_of
def y_law_odd : Sx := (yRet (xCall m_law_pick [some 0, none] (aMut 0 (aCons (xFz (xLst (aCons (xC .non) (aCons (xC (.bl true)) (aCons (xC (.bl false)) (aCons (xC (.str "0")) (aCons (xC (.str "")) (aCons (xFz (xLst aNil)) (aCons (xFz xNewK) (aCons (xTup (aCons (xC .non) aNil)) (aCons (xTup (aCons (xC (.str "a")) (aCons (xC (.int 1)) aNil))) (aCons (xFz (xLst (aCons (xFz (xLst (aCons (xC (.int 0)) aNil))) aNil))) (aCons (xFz (xDisp [((xC (.int 0)), (xC (.int 0)))])) (aCons (xTup (aCons (xC (.bl true)) aNil)) aNil)))))))))))))) aNil))))
def m_law_odd : Fx := runF [true] 1 y_law_odd
def y_law_sizes : Sx := (yRet (xCall m_law_pick [some 0, none] (aMut 0 (aCons (xFz (xLst (aCons (xTup (aCons (xC (.int 2)) (aCons (xC (.int 2)) aNil))) (aCons (xTup (aCons (xC (.int 2)) (aCons (xC (.int 2)) (aCons (xC (.int 2)) aNil)))) (aCons (xTup (aCons (xC (.int 2)) (aCons (xC (.int 2)) (aCons (xC (.int 2)) aNil)))) (aCons (xTup (aCons (xC (.int 3)) (aCons (xC (.int 2)) aNil))) (aCons (xTup (aCons (xC (.int 3)) (aCons (xC (.int 2)) (aCons (xC (.int 2)) aNil)))) (aCons (xTup (aCons (xC (.int 2)) (aCons (xC (.int 1)) (aCons (xC (.int 3)) aNil)))) (aCons (xTup (aCons (xC (.int 4)) (aCons (xC (.int 3)) aNil))) (aCons (xTup (aCons (xC (.int 3)) aNil)) (aCons (xTup (aCons (xC (.int 2)) (aCons (xC (.int 2)) (aCons (xC (.int 2)) (aCons (xC (.int 2)) aNil))))) (aCons (xTup (aCons (xC (.int 2)) (aCons (xC (.int 3)) (aCons (xC (.int 2)) aNil)))) aNil)))))))))))) aNil))))
def m_law_sizes : Fx := runF [true] 1 y_law_sizes
def y_law_some_takes : Sx := (yRet (xB dTuple (aCons (xFz (xLc [2] (aSeq (xVar 1)) (gxName 2) bYes (xCall m_law_pick [some 0, none] (aMut 0 (aCons (xFz (xLst (aCons (xC (.int 2)) (aCons (xC (.int 2)) (aCons (xC (.int 2)) (aCons (xC (.int 3)) (aCons (xC (.int 1)) (aCons (xC (.int 4)) aNil)))))))) aNil))))) aNil)))
def m_law_some_takes : Fx := runF [true, false] 3 y_law_some_takes
def y_law_map : Sx := (ySeq (yIf (toB (xOp dEq (xCall m_law_draw [some 0, none] (aMut 0 (aCons (xC (.int 6)) aNil))) (xC (.int 0)))) (yRet (xFz (xLc [3] (aOf fRng1 (aCons (xVar 1) aNil)) (gxName 3) bYes (xCall m_law_draw [some 0, none] (aMut 0 (aCons (xVar 2) aNil)))))) yNil) (yRet (xCall m_law_mixed [some 0, none] (aMut 0 (aCons (xFz (xCut dCut (xFz (xOp dAdd (xCall m_law_mixed [some 0, none] (aMut 0 (aCons (xFz (xLstR (xVar 2))) aNil))) (xFz (xLc [3] (aOf fRng1 (aCons (xVar 1) aNil)) (gxName 3) bYes (xCall m_law_draw [some 0, none] (aMut 0 (aCons (xVar 2) aNil))))))) none (some (xVar 1)))) aNil)))))
def m_law_map : Fx := runF [true, false, false] 4 y_law_map
def y_law_rooms_mixed : Sx := (ySeq (yAsg (gxName 2) (xCall m_law_mixed [some 0, none] (aMut 0 (aCons (xFz (xLstR (xB dLen (aCons (xOp dIx (xVar 1) (xC (.str "sends"))) aNil)))) aNil)))) (ySeq (yAsg (gxName 3) (xDisp [((xC (.str "sends")), (xB dTuple (aCons (xFz (xLc [6] (aSeq (xVar 2)) (gxName 6) bYes (xOp dIx (xOp dIx (xVar 1) (xC (.str "sends"))) (xVar 6)))) aNil))), ((xC (.str "takes")), (xB dTuple (aCons (xFz (xLc [6] (aSeq (xVar 2)) (gxName 6) bYes (xOp dIx (xOp dIx (xVar 1) (xC (.str "takes"))) (xVar 6)))) aNil)))])) (ySeq (yAsg (gxPut 3 [] (xC (.str "notes"))) xNewT) (ySeq (yFor (aSeq (xOp dIx (xVar 1) (xC (.str "notes")))) (gxName 4) (ySeq (yAsg (gxName 5) (xOp dIx (xOp dIx (xVar 1) (xC (.str "notes"))) (xVar 4))) (yAsg (gxPut 3 [.k (.inr "notes")] (xB dTuple (aCons (xFz (xLc [6] (aSeq (xVar 2)) (gxName 6) bYes (xOp dIx (xVar 4) (xVar 6)))) aNil))) (xB dTuple (aCons (xFz (xLc [6] (aSeq (xVar 2)) (gxName 6) bYes (xOp dIx (xVar 5) (xVar 6)))) aNil))))) (yRet (xVz 3))))))
def m_law_rooms_mixed : Fx := runF [true, false] 7 y_law_rooms_mixed
def y_law_near : Sx := (ySeq (yAsg (gxName 2) (xDisp [((xC (.str "sends")), (xOp dIx (xVar 1) (xC (.str "sends")))), ((xC (.str "takes")), (xOp dIx (xVar 1) (xC (.str "takes")))), ((xC (.str "notes")), (xB dDict (aCons (xOp dIx (xVar 1) (xC (.str "notes"))) aNil)))])) (ySeq (yFor (aOf fRng1 (aCons (xFz (xOp dAdd (xC (.int 1)) (xCall m_law_draw [some 0, none] (aMut 0 (aCons (xC (.int 2)) aNil))))) aNil)) (gxName 3) (ySeq (yPar 5 6 (aCons (xCall m_law_pick [some 0, none] (aMut 0 (aCons (xCall m_law_rows [none] (aCons (xOp dIx (xVar 1) (xC (.str "sends"))) aNil)) aNil))) (aCons (xCall m_law_draw [some 0, none] (aMut 0 (aCons (xB dLen (aCons (xOp dIx (xVar 1) (xC (.str "sends"))) aNil)) aNil))) aNil))) (ySeq (yAsg (gxName 4) (xOpP dIx 2 [.k (.inr "notes")] (xVar 5))) (yAsg (gxPut 2 [.k (.inr "notes")] (xVar 5)) (xFz (xOp dAdd (xFz (xOp dAdd (xFz (xCut dCut (xVar 4) none (some (xVar 6)))) (xTup (aCons (xCall m_law_draw [some 0, none] (aMut 0 (aCons (xOp dIx (xOp dIx (xVar 1) (xC (.str "takes"))) (xVar 6)) aNil))) aNil)))) (xFz (xCut dCut (xVar 4) (some (xFz (xOp dAdd (xVar 6) (xC (.int 1))))) none)))))))) (yRet (xVz 2))))
def m_law_near : Fx := runF [true, false] 7 y_law_near
def y_law_unparted : Sx := (yRet (xFz (xLc [1] (aSeq (xCall m_law_pairs [none] (aCons (xVar 0) aNil))) (gxName 1) (toB (xOp dEq (xCall m_law_parts [none, none, none] (aCons (xVar 0) (aCons (xOp dIx (xVar 1) (xC (.int 0))) (aCons (xOp dIx (xVar 1) (xC (.int 1))) aNil)))) (xFz (xLst aNil)))) (xVar 1))))
def m_law_unparted : Fx := runF [false] 2 y_law_unparted
def y_law_bool_row : Sx := (ySeq (yAsg (gxName 2) (xFz (xLc [3, 4] (aOf fEnum (aCons (xVar 1) aNil)) (gxTup 2 (glCons (gxName 3) (glCons (gxName 4) glNil))) (toB (xOp dLt (xVar 4) (xC (.int 2)))) (xVar 3)))) (ySeq (yIf (toB (xOp dEq (xVar 2) (xFz (xLst aNil)))) (yRet (xFz (xCut dCut (xVar 1) none (some (xUn dNeg (xC (.int 1))))))) yNil) (ySeq (yAsg (gxName 3) (xCall m_law_pick [some 0, none] (aMut 0 (aCons (xVar 2) aNil)))) (yRet (xFz (xOp dAdd (xFz (xOp dAdd (xFz (xCut dCut (xVar 1) none (some (xVar 3)))) (xTup (aCons (xOp dEq (xOp dIx (xVar 1) (xVar 3)) (xC (.int 1))) aNil)))) (xFz (xCut dCut (xVar 1) (some (xFz (xOp dAdd (xVar 3) (xC (.int 1))))) none))))))))
def m_law_bool_row : Fx := runF [true, false] 5 y_law_bool_row
def y_law_are_rules : Sx := (ySeq (yIf (yOr (yNot (toB (xIsi csL esL tabL (.b "tuple") (xVar 1)))) (toB (xOp dNe (xB dLen (aCons (xVar 1) aNil)) (xB dLen (aCons (xOp dIx (xVar 0) (xC (.str "sends"))) aNil))))) (yRet (xC (.bl false))) yNil) (ySeq (yFor (aOf fEnum (aCons (xVar 1) aNil)) (gxTup 2 (glCons (gxName 2) (glCons (gxName 3) glNil))) (yIf (yNot (toB (xCall m_law_is_row [none, none] (aCons (xVar 3) (aCons (xFz (xOp dMul (xTup (aCons (xOp dIx (xOp dIx (xVar 0) (xC (.str "sends"))) (xVar 2)) aNil)) (xOp dIx (xOp dIx (xVar 0) (xC (.str "takes"))) (xVar 2)))) aNil))))) (yRet (xC (.bl false))) yNil)) (yRet (xC (.bl true)))))
def m_law_are_rules : Fx := runF [false, false] 4 y_law_are_rules
def y_law_through_row : Sx := (ySeq (yAsg (gxName 3) (xLst aNil)) (ySeq (yFor (aOf fEnum (aCons (xVar 2) aNil)) (gxTup 2 (glCons (gxName 4) (glCons (gxName 5) glNil))) (yExpr (xMeth "list" 3 mApp (aCons (xCall m_law_with [none, none, none] (aCons (xCall m_law_rule [some 0, none, none] (aMut 0 (aCons (xVar 1) (aCons (xVar 4) aNil)))) (aCons (xOp dIx (xOp dIx (xOp dIx (xVar 1) (xC (.str "notes"))) (xVar 2)) (xVar 4)) (aCons (xVar 5) aNil)))) aNil)))) (yRet (xB dTuple (aCons (xVz 3) aNil)))))
def m_law_through_row : Fx := runF [true, false, false] 6 y_law_through_row
def y_need_sends : Sx := (yIf (yOr (yNot (toB (xCall m_are_sizes [none] (aCons (xVar 0) aNil)))) (toB (xOp dGt (xCall m_product_of [none] (aCons (xVar 0) aNil)) (xC (.int 64))))) (yRaise "BadSends") yNil)
def m_need_sends : Fx := runF [false] 1 y_need_sends
def y_need_takes : Sx := (yIf (yOr (yNot (toB (xCall m_are_sizes [none] (aCons (xVar 0) aNil)))) (toB (xOp dNe (xB dLen (aCons (xVar 0) aNil)) (xVar 1)))) (yRaise "BadTakes") yNil)
def m_need_takes : Fx := runF [false, false] 2 y_need_takes
def y_need_sending : Sx := (yIf (yNot (toB (xCall m_is_row [none, none] (aCons (xVar 1) (aCons (xUn (dFld "Table" "sends") (xVar 0)) aNil))))) (yRaise "BadSending") yNil)
def m_need_sending : Fx := runF [false, false] 2 y_need_sending
def y_pairs_left : Sx := (yRet (xFz (xLc [1, 2] (aSeq (xCall m_parts_of [none] (aCons (xVar 0) aNil))) (gxTup 2 (glCons (gxName 1) (glCons (gxName 2) glNil))) (toB (xOp dIsN (xVar 2) (xC .non))) (xVar 1))))
def m_pairs_left : Fx := runF [false] 3 y_pairs_left
def y_is_rule_of : Sx := (yRet (xCall m_is_row [none, none] (aCons (xVar 2) (aCons (xFz (xOp dMul (xTup (aCons (xOp dIx (xUn (dFld "Table" "sends") (xVar 0)) (xVar 1)) aNil)) (xOp dIx (xUn (dFld "Table" "takes") (xVar 0)) (xVar 1)))) aNil))))
def m_is_rule_of : Fx := runF [false, false, false] 3 y_is_rule_of
def y_stories_of : Sx := (yRet (xFz (xLc [2] (aSeq (xCall m_rows_of [none] (aCons (xUn (dFld "Table" "sends") (xVar 0)) aNil))) (gxName 2) (toB (xOp dEq (xCall m_answer_of [none, none, none] (aCons (xVar 0) (aCons (xVar 1) (aCons (xVar 2) aNil)))) (xVar 2))) (xVar 2))))
def m_stories_of : Fx := runF [false, false] 3 y_stories_of
def y_ready_rules : Sx := (ySeq (yPar 3 4 (aCons (xCall m_parting_of [none, none, none] (aCons (xVar 0) (aCons (xVar 1) (aCons (xVar 2) aNil)))) (aCons (xLst aNil) aNil))) (ySeq (yFor (aOf fEnum (aCons (xVar 1) aNil)) (gxTup 2 (glCons (gxName 5) (glCons (gxName 6) glNil))) (yExpr (xMeth "list" 4 mApp (aCons (xIf (toB (xOp dIn (xVar 5) (xVar 3))) (xFz (xOp dMul (xTup (aCons (xVar 6) aNil)) (xOp dIx (xUn (dFld "Table" "takes") (xVar 0)) (xVar 5)))) (xCall m_rule_for [none, none, none, none] (aCons (xVar 0) (aCons (xVar 5) (aCons (xVar 1) (aCons (xVar 2) aNil)))))) aNil)))) (yRet (xB dTuple (aCons (xVz 4) aNil)))))
def m_ready_rules : Fx := runF [false, false, false] 7 y_ready_rules
def y_crossed_rules : Sx := (ySeq (yAsg (gxName 4) (xCall m_parting_of [none, none, none] (aCons (xVar 0) (aCons (xVar 2) (aCons (xVar 3) aNil))))) (ySeq (yAsg (gxName 5) (xFz (xLc [6, 7] (aOf fEnum (aCons (xVar 1) aNil)) (gxTup 2 (glCons (gxName 6) (glCons (gxName 7) glNil))) bYes (xIf (toB (xOp dIn (xVar 6) (xVar 4))) (xFz (xOp dMul (xTup (aCons (xOp dIx (xVar 3) (xVar 6)) aNil)) (xOp dIx (xUn (dFld "Table" "takes") (xVar 0)) (xVar 6)))) (xVar 7))))) (yRet (xB dTuple (aCons (xVar 5) aNil)))))
def m_crossed_rules : Fx := runF [false, false, false, false] 8 y_crossed_rules
def y_law_through : Sx := (ySeq (yAsg (gxName 4) (xLst aNil)) (ySeq (yFor (aOf fZip (aCons (xVar 2) (aCons (xOp dIx (xVar 1) (xC (.str "sends"))) aNil))) (gxTup 2 (glCons (gxName 8) (glCons (gxName 9) glNil))) (yExpr (xMeth "list" 4 mApp (aCons (xCall m_law_map [some 0, none, none] (aMut 0 (aCons (xVar 8) (aCons (xVar 9) aNil)))) aNil)))) (ySeq (yAsg (gxName 5) (xLst aNil)) (ySeq (yFor (aOf fZip (aCons (xVar 3) (aCons (xOp dIx (xVar 1) (xC (.str "takes"))) aNil))) (gxTup 2 (glCons (gxName 8) (glCons (gxName 9) glNil))) (yExpr (xMeth "list" 5 mApp (aCons (xCall m_law_map [some 0, none, none] (aMut 0 (aCons (xVar 9) (aCons (xVar 8) aNil)))) aNil)))) (ySeq (yAsg (gxName 6) (xDisp [((xC (.str "sends")), (xVar 2)), ((xC (.str "takes")), (xVar 3)), ((xC (.str "notes")), xNewT)])) (ySeq (yFor (aSeq (xCall m_law_rows [none] (aCons (xVar 2) aNil))) (gxName 7) (ySeq (yAsg (gxName 10) (xOp dIx (xOp dIx (xVar 1) (xC (.str "notes"))) (xB dTuple (aCons (xFz (xLc [11, 13] (aOf fZip (aCons (xVz 4) (aCons (xVar 7) aNil))) (gxTup 2 (glCons (gxName 11) (glCons (gxName 13) glNil))) bYes (xOp dIx (xVar 11) (xVar 13)))) aNil)))) (yAsg (gxPut 6 [.k (.inr "notes")] (xVar 7)) (xB dTuple (aCons (xFz (xLc [11, 12] (aOf fZip (aCons (xVz 5) (aCons (xVar 10) aNil))) (gxTup 2 (glCons (gxName 11) (glCons (gxName 12) glNil))) bYes (xOp dIx (xVar 11) (xVar 12)))) aNil))))) (yRet (xVz 6))))))))
def m_law_through : Fx := runF [true, false, false, false] 14 y_law_through
def y_law_bad_row : Sx := (ySeq (yAsg (gxName 3) (xCall m_law_draw [some 0, none] (aMut 0 (aCons (xB dLen (aCons (xVar 2) aNil)) aNil)))) (ySeq (yAsg (gxName 4) (xFz (xLc [5] (aSeq (xFz (xLst (aCons (xUn dNeg (xC (.int 1))) (aCons (xOp dIx (xVar 2) (xVar 3)) (aCons (xC .non) (aCons (xC (.str "0")) aNil))))))) (gxName 5) bYes (xFz (xOp dAdd (xFz (xOp dAdd (xFz (xCut dCut (xVar 1) none (some (xVar 3)))) (xTup (aCons (xVar 5) aNil)))) (xFz (xCut dCut (xVar 1) (some (xFz (xOp dAdd (xVar 3) (xC (.int 1))))) none))))))) (yRet (xCall m_law_pick [some 0, none] (aMut 0 (aCons (xFz (xOp dAdd (xVar 4) (xFz (xLst (aCons (xFz (xB dList (aCons (xVar 1) aNil))) (aCons (xFz (xCut dCut (xVar 1) none (some (xUn dNeg (xC (.int 1)))))) (aCons (xFz (xOp dAdd (xVar 1) (xTup (aCons (xC (.int 0)) aNil)))) (aCons (xC .non) (aCons (xC (.int 5)) (aCons (xCall m_law_bool_row [some 0, none] (aMut 0 (aCons (xVar 1) aNil))) aNil)))))))))) aNil))))))
def m_law_bad_row : Fx := runF [true, false, false] 6 y_law_bad_row
def y_law_is_step : Sx := (ySeq (yIf (yOr (yNot (toB (xIsi csL esL tabL (.b "tuple") (xVar 3)))) (yOr (toB (xOp dNe (xB dLen (aCons (xVar 3) aNil)) (xC (.int 2)))) (yOr (yNot (toB (xCall m_law_are_rules [none, none] (aCons (xVar 0) (aCons (xOp dIx (xVar 3) (xC (.int 0))) aNil))))) (yNot (toB (xCall m_law_are_rules [none, none] (aCons (xVar 0) (aCons (xOp dIx (xVar 3) (xC (.int 1))) aNil)))))))) (yRet (xC (.bl false))) yNil) (ySeq (yIf (yOr (toB (xOp dNe (xCall m_law_stories [none, none] (aCons (xVar 0) (aCons (xOp dIx (xVar 3) (xC (.int 0))) aNil))) (xFz (xLst (aCons (xVar 1) aNil))))) (toB (xOp dNe (xCall m_law_stories [none, none] (aCons (xVar 0) (aCons (xOp dIx (xVar 3) (xC (.int 1))) aNil))) (xFz (xLst (aCons (xVar 2) aNil)))))) (yRet (xC (.bl false))) yNil) (ySeq (yAsg (gxName 4) (xCall m_law_parts [none, none, none] (aCons (xVar 0) (aCons (xVar 1) (aCons (xVar 2) aNil))))) (yRet (xOp dEq (xFz (xLc [5] (aSeq (xCall m_law_unlike_spots [none, none] (aCons (xOp dIx (xVar 3) (xC (.int 0))) (aCons (xOp dIx (xVar 3) (xC (.int 1))) aNil)))) (gxName 5) (toB (xOp dNotIn (xVar 5) (xVar 4))) (xVar 5))) (xFz (xLst aNil)))))))
def m_law_is_step : Fx := runF [false, false, false, false] 6 y_law_is_step
def y_is_fine_table : Sx := (yRet (xOp dEq (xCall m_pairs_left [none] (aCons (xVar 0) aNil)) (xFz (xLst aNil))))
def m_is_fine_table : Fx := runF [false] 1 y_is_fine_table
def y_are_rules_of : Sx := (ySeq (yIf (yOr (yNot (toB (xIsi csL esL tabL (.b "tuple") (xVar 1)))) (toB (xOp dNe (xB dLen (aCons (xVar 1) aNil)) (xB dLen (aCons (xUn (dFld "Table" "sends") (xVar 0)) aNil))))) (yRet (xC (.bl false))) yNil) (yRet (xB dAll (aCons (xFz (xLc [2, 3] (aOf fEnum (aCons (xVar 1) aNil)) (gxTup 2 (glCons (gxName 2) (glCons (gxName 3) glNil))) bYes (xCall m_is_rule_of [none, none, none] (aCons (xVar 0) (aCons (xVar 2) (aCons (xVar 3) aNil)))))) aNil))))
def m_are_rules_of : Fx := runF [false, false] 4 y_are_rules_of
def y_law_bad_rules : Sx := (ySeq (yAsg (gxName 2) (xCall m_law_rules [some 0, none] (aMut 0 (aCons (xVar 1) aNil)))) (ySeq (yAsg (gxName 3) (xCall m_law_draw [some 0, none] (aMut 0 (aCons (xB dLen (aCons (xVar 2) aNil)) aNil)))) (ySeq (yAsg (gxName 4) (xCall m_law_bad_row [some 0, none, none] (aMut 0 (aCons (xOp dIx (xVar 2) (xVar 3)) (aCons (xFz (xOp dMul (xTup (aCons (xOp dIx (xOp dIx (xVar 1) (xC (.str "sends"))) (xVar 3)) aNil)) (xOp dIx (xOp dIx (xVar 1) (xC (.str "takes"))) (xVar 3)))) aNil))))) (ySeq (yAsg (gxName 5) (xFz (xOp dMul (xFz (xLst (aCons (xFz (xOp dAdd (xFz (xOp dAdd (xFz (xCut dCut (xVar 2) none (some (xVar 3)))) (xTup (aCons (xVar 4) aNil)))) (xFz (xCut dCut (xVar 2) (some (xFz (xOp dAdd (xVar 3) (xC (.int 1))))) none)))) aNil))) (xC (.int 3))))) (yRet (xCall m_law_pick [some 0, none] (aMut 0 (aCons (xFz (xOp dAdd (xVar 5) (xFz (xLst (aCons (xFz (xB dList (aCons (xVar 2) aNil))) (aCons (xFz (xCut dCut (xVar 2) none (some (xUn dNeg (xC (.int 1)))))) (aCons (xFz (xOp dAdd (xVar 2) (xTup (aCons (xTup (aCons (xC (.int 0)) aNil)) aNil)))) (aCons (xC .non) (aCons (xTup aNil) (aCons (xFz xNewK) aNil)))))))))) aNil))))))))
def m_law_bad_rules : Fx := runF [true, false] 6 y_law_bad_rules
def y_Table__init : Sx := (ySeq (yExpr (xCall m_need_sends [none] (aCons (xVar 1) aNil))) (ySeq (yExpr (xCall m_need_takes [none, none] (aCons (xVar 2) (aCons (xB dLen (aCons (xVar 1) aNil)) aNil)))) (ySeq (yIf (yOr (yNot (toB (xIsi csL esL tabL (.b "tuple") (xVar 3)))) (toB (xOp dNe (xB dLen (aCons (xVar 3) aNil)) (xCall m_product_of [none] (aCons (xVar 1) aNil))))) (yRaise "BadNotes") yNil) (ySeq (yIf (yNot (toB (xB dAll (aCons (xFz (xLc [4] (aSeq (xVar 3)) (gxName 4) bYes (xCall m_is_row [none, none] (aCons (xVar 4) (aCons (xVar 2) aNil))))) aNil)))) (yRaise "BadNotes") yNil) (yAsg (gxTup 3 (glCons (gxFld 0 [] "Table" "sends") (glCons (gxFld 0 [] "Table" "takes") (glCons (gxFld 0 [] "Table" "notes") glNil)))) (xTup (aCons (xVar 1) (aCons (xVar 2) (aCons (xVar 3) aNil)))))))))
def m_Table__init : Fx := runF [true, false, false, false] 5 y_Table__init
def y_need_fine : Sx := (yIf (yNot (toB (xCall m_is_fine_table [none] (aCons (xVar 0) aNil)))) (yRaise "NotFine") yNil)
def m_need_fine : Fx := runF [false] 1 y_need_fine
def y_law_near_step : Sx := (ySeq (yPar 6 7 (aCons (xCall m_law_draw [some 0, none] (aMut 0 (aCons (xC (.int 8)) aNil))) (aCons (xCall m_law_draw [some 0, none] (aMut 0 (aCons (xB dLen (aCons (xVar 2) aNil)) aNil))) aNil))) (ySeq (yAsg (gxTup 2 (glCons (gxName 8) (glCons (gxName 9) glNil))) (xVar 4)) (ySeq (yAsg (gxName 5) (xCall m_law_rule [some 0, none, none] (aMut 0 (aCons (xVar 1) (aCons (xVar 7) aNil))))) (ySeq (yIf (toB (xOp dEq (xVar 6) (xC (.int 0)))) (yRet (xCall m_law_pick [some 0, none] (aMut 0 (aCons (xFz (xLst (aCons (xC .non) (aCons (xFz (xLst (aCons (xVar 8) (aCons (xVar 9) aNil)))) (aCons (xTup (aCons (xVar 8) aNil)) (aCons (xTup (aCons (xVar 8) (aCons (xVar 9) (aCons (xVar 9) aNil)))) (aCons (xTup (aCons (xVar 8) (aCons (xC .non) aNil))) (aCons (xTup (aCons (xCall m_law_bad_rules [some 0, none] (aMut 0 (aCons (xVar 1) aNil))) (aCons (xVar 9) aNil))) (aCons (xTup (aCons (xVar 8) (aCons (xCall m_law_bad_rules [some 0, none] (aMut 0 (aCons (xVar 1) aNil))) aNil))) aNil))))))))) aNil)))) yNil) (ySeq (yIf (toB (xOp dEq (xVar 6) (xC (.int 1)))) (yRet (xTup (aCons (xVar 9) (aCons (xVar 8) aNil)))) yNil) (ySeq (yIf (toB (xOp dEq (xVar 6) (xC (.int 2)))) (yRet (xTup (aCons (xCall m_law_with [none, none, none] (aCons (xVar 8) (aCons (xVar 7) (aCons (xVar 5) aNil)))) (aCons (xCall m_law_with [none, none, none] (aCons (xVar 9) (aCons (xVar 7) (aCons (xVar 5) aNil)))) aNil)))) yNil) (ySeq (yIf (toB (xOp dEq (xVar 6) (xC (.int 3)))) (yRet (xTup (aCons (xCall m_law_with [none, none, none] (aCons (xVar 8) (aCons (xVar 7) (aCons (xVar 5) aNil)))) (aCons (xVar 9) aNil)))) yNil) (ySeq (yIf (toB (xOp dEq (xVar 6) (xC (.int 4)))) (yRet (xTup (aCons (xVar 8) (aCons (xCall m_law_with [none, none, none] (aCons (xVar 9) (aCons (xVar 7) (aCons (xVar 5) aNil)))) aNil)))) yNil) (ySeq (yIf (toB (xOp dEq (xVar 6) (xC (.int 5)))) (yRet (xTup (aCons (xCall m_law_through_row [some 0, none, none] (aMut 0 (aCons (xVar 1) (aCons (xVar 2) aNil)))) (aCons (xCall m_law_through_row [some 0, none, none] (aMut 0 (aCons (xVar 1) (aCons (xVar 3) aNil)))) aNil)))) yNil) (yRet (xIf (toB (xOp dEq (xVar 6) (xC (.int 6)))) (xTup (aCons (xVar 8) (aCons (xCall m_law_with [none, none, none] (aCons (xVar 9) (aCons (xVar 7) (aCons (xOp dIx (xVar 8) (xVar 7)) aNil)))) aNil))) (xVar 4))))))))))))
def m_law_near_step : Fx := runF [true, false, false, false, false] 10 y_law_near_step
def y_need_table : Sx := (yIf (yNot (toB (xIsi csL esL tabL (.o "Table") (xVar 0)))) (yRaise "BadTable") yNil)
def m_need_table : Fx := runF [false] 1 y_need_table
def y_law_made : Sx := (yRet (xFz (xMake "Table" m_Table__init [none, none, none] (aCons (xOp dIx (xVar 0) (xC (.str "sends"))) (aCons (xOp dIx (xVar 0) (xC (.str "takes"))) (aCons (xB dTuple (aCons (xFz (xLc [1] (aSeq (xCall m_law_rows [none] (aCons (xOp dIx (xVar 0) (xC (.str "sends"))) aNil))) (gxName 1) bYes (xOp dIx (xOp dIx (xVar 0) (xC (.str "notes"))) (xVar 1)))) aNil)) aNil))))))
def m_law_made : Fx := runF [false] 2 y_law_made
def y_need_fine_table : Sx := (ySeq (yExpr (xCall m_need_table [none] (aCons (xVar 0) aNil))) (yExpr (xCall m_need_fine [none] (aCons (xVar 0) aNil))))
def m_need_fine_table : Fx := runF [false] 1 y_need_fine_table
def y_need_ends : Sx := (ySeq (yExpr (xCall m_need_fine_table [none] (aCons (xVar 0) aNil))) (ySeq (yExpr (xCall m_need_sending [none, none] (aCons (xVar 0) (aCons (xVar 1) aNil)))) (yExpr (xCall m_need_sending [none, none] (aCons (xVar 0) (aCons (xVar 2) aNil))))))
def m_need_ends : Fx := runF [false, false, false] 3 y_need_ends
def y_parting : Sx := (ySeq (yExpr (xCall m_need_ends [none, none, none] (aCons (xVar 0) (aCons (xVar 1) (aCons (xVar 2) aNil))))) (yRet (xCall m_parting_of [none, none, none] (aCons (xVar 0) (aCons (xVar 1) (aCons (xVar 2) aNil))))))
def m_parting : Fx := runF [false, false, false] 3 y_parting
def y_binding_step : Sx := (ySeq (yExpr (xCall m_need_ends [none, none, none] (aCons (xVar 0) (aCons (xVar 1) (aCons (xVar 2) aNil))))) (ySeq (yAsg (gxName 3) (xCall m_ready_rules [none, none, none] (aCons (xVar 0) (aCons (xVar 1) (aCons (xVar 2) aNil))))) (yRet (xTup (aCons (xVar 3) (aCons (xCall m_crossed_rules [none, none, none, none] (aCons (xVar 0) (aCons (xVar 3) (aCons (xVar 1) (aCons (xVar 2) aNil))))) aNil))))))
def m_binding_step : Fx := runF [false, false, false] 4 y_binding_step
def y_is_binding_step : Sx := (ySeq (yExpr (xCall m_need_ends [none, none, none] (aCons (xVar 0) (aCons (xVar 1) (aCons (xVar 2) aNil))))) (ySeq (yIf (yOr (yNot (toB (xIsi csL esL tabL (.b "tuple") (xVar 3)))) (yOr (toB (xOp dNe (xB dLen (aCons (xVar 3) aNil)) (xC (.int 2)))) (yNot (toB (xB dAll (aCons (xFz (xLc [6] (aSeq (xVar 3)) (gxName 6) bYes (xCall m_are_rules_of [none, none] (aCons (xVar 0) (aCons (xVar 6) aNil))))) aNil)))))) (yRet (xC (.bl false))) yNil) (ySeq (yIf (yOr (toB (xOp dNe (xCall m_stories_of [none, none] (aCons (xVar 0) (aCons (xOp dIx (xVar 3) (xC (.int 0))) aNil))) (xFz (xLst (aCons (xVar 1) aNil))))) (toB (xOp dNe (xCall m_stories_of [none, none] (aCons (xVar 0) (aCons (xOp dIx (xVar 3) (xC (.int 1))) aNil))) (xFz (xLst (aCons (xVar 2) aNil)))))) (yRet (xC (.bl false))) yNil) (ySeq (yAsg (gxName 4) (xCall m_parting_of [none, none, none] (aCons (xVar 0) (aCons (xVar 1) (aCons (xVar 2) aNil))))) (yRet (xB dAll (aCons (xFz (xLc [5] (aSeq (xCall m_unlike_rooms [none, none] (aCons (xOp dIx (xVar 3) (xC (.int 0))) (aCons (xOp dIx (xVar 3) (xC (.int 1))) aNil)))) (gxName 5) bYes (xOp dIn (xVar 5) (xVar 4)))) aNil)))))))
def m_is_binding_step : Fx := runF [false, false, false, false] 7 y_is_binding_step
def y_law_alike (mrec : Fx) : Sx := (ySeq (yIf (toB (xIsi2 csL esL tabL (.b "tuple") (.b "list") (xVar 1))) (ySeq (yAsg (gxName 2) (xIf (toB (xIsi csL esL tabL (.b "list") (xVar 1))) (xIsi csL esL tabL (.b "list") (xVar 0)) (xIsi csL esL tabL (.b "tuple") (xVar 0)))) (ySeq (yIf (yOr (yNot (toB (xVar 2))) (toB (xOp dNe (xB dLen (aCons (xVar 0) aNil)) (xB dLen (aCons (xVar 1) aNil))))) (yRet (xC (.bl false))) yNil) (yRet (xOp dEq (xFz (xLc [4, 5] (aOf fZip (aCons (xVar 0) (aCons (xVar 1) aNil))) (gxTup 2 (glCons (gxName 4) (glCons (gxName 5) glNil))) (yNot (toB (xCall mrec [none, none] (aCons (xVar 4) (aCons (xVar 5) aNil))))) (xC (.int 1)))) (xFz (xLst aNil)))))) yNil) (ySeq (yIf (toB (xIsi csL esL tabL (.b "dict") (xVar 1))) (ySeq (yIf (yOr (yNot (toB (xIsi csL esL tabL (.b "dict") (xVar 0)))) (yNot (toB (xCall mrec [none, none] (aCons (xFz (xB dList (aCons (xVar 0) aNil))) (aCons (xFz (xB dList (aCons (xVar 1) aNil))) aNil)))))) (yRet (xC (.bl false))) yNil) (yRet (xOp dEq (xFz (xLc [3] (aSeq (xVar 1)) (gxName 3) (yNot (toB (xCall mrec [none, none] (aCons (xOp dIx (xVar 0) (xVar 3)) (aCons (xOp dIx (xVar 1) (xVar 3)) aNil))))) (xC (.int 1)))) (xFz (xLst aNil))))) yNil) (ySeq (yIf (toB (xOp dIsN (xVar 1) (xC .non))) (yRet (xOp dIsN (xVar 0) (xC .non))) yNil) (ySeq (yIf (toB (xIsi csL esL tabL (.b "bool") (xVar 1))) (yRet (xAnd (xIsi csL esL tabL (.b "bool") (xVar 0)) (xOp dEq (xVar 0) (xVar 1)))) yNil) (ySeq (yIf (toB (xCall m_law_is_whole [none] (aCons (xVar 1) aNil))) (yRet (xAnd (xCall m_law_is_whole [none] (aCons (xVar 0) aNil)) (xOp dEq (xVar 0) (xVar 1)))) yNil) (yRet (xAnd (xIsi csL esL tabL (.b "str") (xVar 0)) (xOp dEq (xVar 0) (xVar 1)))))))))
def m_law_alike : Nat → Fx
  | 0 => mNo
  | n + 1 => runF [false, false] 6 (y_law_alike (m_law_alike n))
def y_law_led_by (mrec : Fx) : Sx := (yIf (toB (xOp dEq (xVar 2) (xFz (xLst aNil)))) (ySeq (yAsg (gxName 5) (xFz (xLstR (xB dLen (aCons (xPl 1 [.k (.inr "sends")]) aNil))))) (yAsg (gxPut 1 [.k (.inr "notes")] (xB dTuple (aCons (xFz (xLc [6] (aSeq (xVar 5)) (gxName 6) bYes (xOp dIx (xVar 3) (xVar 6)))) aNil))) (xB dTuple (aCons (xFz (xLc [6] (aSeq (xVar 5)) (gxName 6) bYes (xOp dIx (xVar 4) (xVar 6)))) aNil)))) (ySeq (yAsg (gxName 6) (xCall m_law_pick [some 0, none] (aMut 0 (aCons (xVar 2) aNil)))) (ySeq (yAsg (gxName 7) (xCall m_law_draw [some 0, none] (aMut 0 (aCons (xOp dIx (xPl 1 [.k (.inr "takes")]) (xVar 6)) aNil)))) (yFor (aOf fRng1 (aCons (xOp dIx (xPl 1 [.k (.inr "sends")]) (xVar 6)) aNil)) (gxName 8) (ySeq (yPar 9 10 (aCons (xB dDict (aCons (xVar 3) aNil)) (aCons (xB dDict (aCons (xVar 4) aNil)) aNil))) (ySeq (yAsg (gxTup 2 (glCons (gxPut 9 [] (xVar 6)) (glCons (gxPut 10 [] (xVar 6)) glNil))) (xTup (aCons (xVar 8) (aCons (xVar 7) aNil)))) (yExpr (xCall mrec [some 0, some 1, none, none, none] (aMut 0 (aMut 1 (aCons (xFz (xLc [11] (aSeq (xVar 2)) (gxName 11) (toB (xOp dNe (xVar 11) (xVar 6))) (xVar 11))) (aCons (xVz 9) (aCons (xVz 10) aNil)))))))))))))
def m_law_led_by : Nat → Fx
  | 0 => mNo
  | n + 1 => runF [true, true, false, false, false] 12 (y_law_led_by (m_law_led_by n))
def y_law_steps_right : Sx := (ySeq (yAsg (gxName 5) (xCall m_law_parts [none, none, none] (aCons (xVar 1) (aCons (xVar 3) (aCons (xVar 4) aNil))))) (ySeq (yIf (yOr (yNot (toB (xCall (m_law_alike 10) [none, none] (aCons (xCall m_parting [none, none, none] (aCons (xVar 2) (aCons (xVar 3) (aCons (xVar 4) aNil)))) (aCons (xB dTuple (aCons (xVar 5) aNil)) aNil))))) (toB (xOp dNe (xOp dEq (xVar 5) (xFz (xLst aNil))) (xOp dEq (xVar 3) (xVar 4))))) (yRet (xC (.bl false))) yNil) (ySeq (yAsg (gxName 6) (xCall m_binding_step [none, none, none] (aCons (xVar 2) (aCons (xVar 3) (aCons (xVar 4) aNil))))) (ySeq (yIf (yNot (toB (xCall m_law_is_step [none, none, none, none] (aCons (xVar 1) (aCons (xVar 3) (aCons (xVar 4) (aCons (xVar 6) aNil))))))) (yRet (xC (.bl false))) yNil) (ySeq (yFor (aOf fRng1 (aCons (xC (.int 4)) aNil)) (gxName 7) (ySeq (yAsg (gxName 10) (xCall m_law_near_step [some 0, none, none, none, none] (aMut 0 (aCons (xVar 1) (aCons (xVar 3) (aCons (xVar 4) (aCons (xVar 6) aNil))))))) (yIf (yNot (toB (xCall (m_law_alike 10) [none, none] (aCons (xCall m_is_binding_step [none, none, none, none] (aCons (xVar 2) (aCons (xVar 3) (aCons (xVar 4) (aCons (xVar 10) aNil))))) (aCons (xCall m_law_is_step [none, none, none, none] (aCons (xVar 1) (aCons (xVar 3) (aCons (xVar 4) (aCons (xVar 10) aNil))))) aNil))))) (yRet (xC (.bl false))) yNil))) (ySeq (yPar 11 12 (aCons (xCall m_law_through_row [some 0, none, none] (aMut 0 (aCons (xVar 1) (aCons (xVar 3) aNil)))) (aCons (xCall m_law_through_row [some 0, none, none] (aMut 0 (aCons (xVar 1) (aCons (xVar 4) aNil)))) aNil))) (ySeq (yAsg (gxName 8) (xCall m_law_unlike_spots [none, none] (aCons (xVar 11) (aCons (xVar 12) aNil)))) (ySeq (yIf (toB (xOp dNe (xFz (xLc [9] (aSeq (xVar 5)) (gxName 9) (toB (xOp dNotIn (xVar 9) (xVar 8))) (xVar 9))) (xFz (xLst aNil)))) (yRet (xC (.bl false))) yNil) (ySeq (yFor (aSeq (xVar 5)) (gxName 9) (ySeq (yAsg (gxName 13) (xCall m_law_with [none, none, none] (aCons (xOp dIx (xVar 6) (xC (.int 1))) (aCons (xVar 9) (aCons (xOp dIx (xOp dIx (xVar 6) (xC (.int 0))) (xVar 9)) aNil))))) (yIf (toB (xOp dEq (xCall m_law_stories [none, none] (aCons (xVar 1) (aCons (xVar 13) aNil))) (xFz (xLst (aCons (xVar 4) aNil))))) (yRet (xC (.bl false))) yNil))) (yRet (xC (.bl true))))))))))))
def m_law_steps_right : Fx := runF [true, false, false, false, false] 14 y_law_steps_right
def y_law_led : Sx := (ySeq (yAsg (gxName 3) (xDisp [((xC (.str "sends")), (xVar 1)), ((xC (.str "takes")), (xVar 2)), ((xC (.str "notes")), xNewT)])) (ySeq (yExpr (xCall (m_law_led_by 10) [some 0, some 3, none, none, none] (aMut 0 (aMut 3 (aCons (xFz (xLstR (xB dLen (aCons (xVar 1) aNil)))) (aCons (xFz xNewK) (aCons (xFz xNewK) aNil))))))) (yRet (xVz 3))))
def m_law_led : Fx := runF [true, false, false] 4 y_law_led
def y_law_fine : Sx := (ySeq (yAsg (gxName 1) (xCall m_law_draw [some 0, none] (aMut 0 (aCons (xC (.int 4)) aNil)))) (ySeq (yIf (toB (xOp dEq (xVar 1) (xC (.int 0)))) (ySeq (yAsg (gxName 2) (xCall m_law_sizes [some 0] (aMut 0 aNil))) (yRet (xCall m_law_led [some 0, none, none] (aMut 0 (aCons (xVar 2) (aCons (xCall m_law_some_takes [some 0, none] (aMut 0 (aCons (xVar 2) aNil))) aNil)))))) yNil) (ySeq (yIf (toB (xOp dEq (xVar 1) (xC (.int 1)))) (yRet (xCall m_law_rooms_mixed [some 0, none] (aMut 0 (aCons (xCall m_law_beside [none, none] (aCons (xCall m_law_turning [] aNil) (aCons (xCall m_law_led [some 0, none, none] (aMut 0 (aCons (xTup (aCons (xC (.int 2)) aNil)) (aCons (xTup (aCons (xC (.int 2)) aNil)) aNil)))) aNil))) aNil)))) yNil) (ySeq (yIf (toB (xOp dEq (xVar 1) (xC (.int 2)))) (yRet (xCall m_law_through [some 0, none, none, none] (aMut 0 (aCons (xCall m_law_turning [] aNil) (aCons (xTup (aCons (xC (.int 2)) (aCons (xC (.int 2)) (aCons (xC (.int 2)) aNil)))) (aCons (xTup (aCons (xC (.int 2)) (aCons (xC (.int 2)) (aCons (xC (.int 2)) aNil)))) aNil)))))) yNil) (yRet (xCall m_law_through [some 0, none, none, none] (aMut 0 (aCons (xCall m_law_turning [] aNil) (aCons (xCall m_law_pick [some 0, none] (aMut 0 (aCons (xFz (xLst (aCons (xTup (aCons (xC (.int 2)) (aCons (xC (.int 2)) (aCons (xC (.int 2)) aNil)))) (aCons (xTup (aCons (xC (.int 3)) (aCons (xC (.int 2)) (aCons (xC (.int 2)) aNil)))) (aCons (xTup (aCons (xC (.int 2)) (aCons (xC (.int 2)) (aCons (xC (.int 3)) aNil)))) aNil))))) aNil))) (aCons (xTup (aCons (xC (.int 2)) (aCons (xC (.int 2)) (aCons (xC (.int 3)) aNil)))) aNil))))))))))
def m_law_fine : Fx := runF [true] 3 y_law_fine
def ml_0 : Fx := runF [false, false, false] 3 (yRet (xCall m_is_binding_step [none, none, none, none] (aCons (xVar 0) (aCons (xVar 1) (aCons (xVar 2) (aCons (xC .non) aNil))))))
def cv_law_refused (d : D) : Option Fx := match d with
  | .gl x => if x = "parting" then some m_parting else if x = "binding_step" then some m_binding_step else none
  | .cl n => if n = 0 then some ml_0 else none
  | _ => none
def y_law_refused : Sx := (ySeq (yAsg (gxTup 3 (glCons (gxName 5) (glCons (gxName 6) (glCons (gxName 7) glNil)))) (xTup (aCons (xCall m_law_rows [none] (aCons (xOp dIx (xVar 1) (xC (.str "sends"))) aNil)) (aCons (xCall m_law_odd [some 0] (aMut 0 aNil)) (aCons (xCall m_law_near [some 0, none] (aMut 0 (aCons (xVar 1) aNil))) aNil))))) (ySeq (yAsg (gxName 3) (xCall m_law_pick [some 0, none] (aMut 0 (aCons (xVar 5) aNil)))) (ySeq (yAsg (gxTup 2 (glCons (gxName 8) (glCons (gxName 9) glNil))) (xTup (aCons (xCall m_law_bad_row [some 0, none, none] (aMut 0 (aCons (xVar 3) (aCons (xOp dIx (xVar 1) (xC (.str "sends"))) aNil)))) (aCons (xCall m_law_made [none] (aCons (xVar 7) aNil)) aNil)))) (ySeq (yFor (aSeq (xTup (aCons (xC (.gl "parting")) (aCons (xC (.gl "binding_step")) (aCons (xC (.cl 0)) aNil))))) (gxName 4) (ySeq (yIf (yNot (toB (xIsi csL esL tabL (.o "BadTable") (xCaught esL (xCallV 4 cv_law_refused [none, none, none] (aCons (xVar 6) (aCons (xVar 8) (aCons (xVar 8) aNil)))))))) (yRet (xC (.bl false))) yNil) (ySeq (yIf (yAnd (toB (xOp dNe (xCall m_law_unparted [none] (aCons (xVar 7) aNil)) (xFz (xLst aNil)))) (yNot (toB (xIsi csL esL tabL (.o "NotFine") (xCaught esL (xCallV 4 cv_law_refused [none, none, none] (aCons (xVar 9) (aCons (xVar 8) (aCons (xVar 8) aNil))))))))) (yRet (xC (.bl false))) yNil) (ySeq (yIf (yNot (toB (xIsi csL esL tabL (.o "BadSending") (xCaught esL (xCallV 4 cv_law_refused [none, none, none] (aCons (xVar 2) (aCons (xVar 8) (aCons (xVar 3) aNil)))))))) (yRet (xC (.bl false))) yNil) (yIf (yNot (toB (xIsi csL esL tabL (.o "BadSending") (xCaught esL (xCallV 4 cv_law_refused [none, none, none] (aCons (xVar 2) (aCons (xVar 3) (aCons (xVar 8) aNil)))))))) (yRet (xC (.bl false))) yNil))))) (yRet (xC (.bl true)))))))
def m_law_refused : Fx := runF [true, false, false] 10 y_law_refused
def y_law : Sx := (ySeq (yAsg (gxName 1) (xCall m_law_begun [none] (aCons (xVar 0) aNil))) (ySeq (yAsg (gxName 2) (xCall m_law_fine [some 1] (aMut 1 aNil))) (ySeq (yPar 4 5 (aCons (xCall m_law_made [none] (aCons (xVar 2) aNil)) (aCons (xCall m_law_rows [none] (aCons (xOp dIx (xVar 2) (xC (.str "sends"))) aNil)) aNil))) (ySeq (yFor (aOf fRng1 (aCons (xC (.int 6)) aNil)) (gxName 3) (ySeq (yPar 6 7 (aCons (xCall m_law_pick [some 1, none] (aMut 1 (aCons (xVar 5) aNil))) (aCons (xCall m_law_pick [some 1, none] (aMut 1 (aCons (xVar 5) aNil))) aNil))) (yIf (yNot (toB (xCall m_law_steps_right [some 1, none, none, none, none] (aMut 1 (aCons (xVar 2) (aCons (xVar 4) (aCons (xVar 6) (aCons (xVar 7) aNil)))))))) (yRet (xC (.bl false))) yNil))) (yRet (xCall m_law_refused [some 1, none, none] (aMut 1 (aCons (xVar 2) (aCons (xVar 4) aNil)))))))))
def m_law : Fx := runF [false] 8 y_law
end On

set_option Elab.async false
set_option linter.all false
set_option maxRecDepth 100000
set_option maxHeartbeats 4000000
namespace On
open PySem PySem.Spec PyProof.Rows L2
/-! the facts that a walk of this law names -/
structure Fk (P : Program) (w : World) (K : PySem.W.Frag) (mg : Str → Option Value) (base : Heap) (G : Gs) : Prop where
  kit : Kit K G csL esL tabL
  b_abs : mg "abs" = none
  b_all : mg "all" = none
  b_bool : mg "bool" = none
  b_dict : mg "dict" = none
  b_enumerate : mg "enumerate" = none
  b_int : mg "int" = none
  b_isinstance : mg "isinstance" = none
  b_len : mg "len" = none
  b_list : mg "list" = none
  b_range : mg "range" = none
  b_str : mg "str" = none
  b_tuple : mg "tuple" = none
  b_zip : mg "zip" = none
  i_MOST_ROOMS : ∃ t, mg "MOST_ROOMS" = some (.int 6 t)
  i_MOST_SIZE : ∃ t, mg "MOST_SIZE" = some (.int 64 t)
  i_MOST_SENDINGS : ∃ t, mg "MOST_SENDINGS" = some (.int 64 t)
  g_StoryError : mg "StoryError" = some (.ref (G "StoryError"))
  g_BadNotes : mg "BadNotes" = some (.ref (G "BadNotes"))
  g_BadSending : mg "BadSending" = some (.ref (G "BadSending"))
  g_BadSends : mg "BadSends" = some (.ref (G "BadSends"))
  g_BadTable : mg "BadTable" = some (.ref (G "BadTable"))
  g_BadTakes : mg "BadTakes" = some (.ref (G "BadTakes"))
  g_NotFine : mg "NotFine" = some (.ref (G "NotFine"))
  g_Table : mg "Table" = some (.ref (G "Table"))
  x_BadNotes : ExF K (G "BadNotes")
  x_BadSending : ExF K (G "BadSending")
  x_BadSends : ExF K (G "BadSends")
  x_BadTable : ExF K (G "BadTable")
  x_BadTakes : ExF K (G "BadTakes")
  x_NotFine : ExF K (G "NotFine")
  x_StoryError : ExF K (G "StoryError")
  c_Table : Cls K (G "Table")
  k_Table : ∃ f, Mk K (G "Table") f ∧ ∃ fd, FunD K "__init__" "Table.__init__" (defArgs (met 21 0)) (defBody (met 21 0)) (defScope (met 21 0)) [] [] f fd
  xm : ∀ e ∈ esL, PySem.W.exmOne K (.ref (G e)) (.ref (G "StoryError")) = some true
  fn_0 : G.fn 0 = pLam "_law_refused.<locals>.<lambda>" ((pElts (pIter ((pBody (top 91)).getD 3 (.Pass ⟨0, 0, 0, 0⟩)))).getD 2 (.Constant .none 0 ⟨0, 0, 0, 0⟩))
  t_law_refused : ∀ fd, FunD K "_law_refused" "_law_refused" (defArgs (top 91)) (defBody (top 91)) (defScope (top 91)) [] [] (G "_law_refused") fd → LamTb base mg G fd.code "_law_refused.<locals>.<lambda>"
  a_Table_sends : NoAttr K (G "Table") "sends"
  a_Table_takes : NoAttr K (G "Table") "takes"
  a_Table_notes : NoAttr K (G "Table") "notes"
  g_is_number : mg "is_number" = some (.ref (G "is_number"))
  d_is_number : ∃ fd, FunD K "is_number" "is_number" (defArgs (top 12)) (defBody (top 12)) (defScope (top 12)) [] [] (G "is_number") fd
  g_is_between : mg "is_between" = some (.ref (G "is_between"))
  d_is_between : ∃ fd, FunD K "is_between" "is_between" (defArgs (top 13)) (defBody (top 13)) (defScope (top 13)) [] [] (G "is_between") fd
  g_product_of : mg "product_of" = some (.ref (G "product_of"))
  d_product_of : ∃ fd, FunD K "product_of" "product_of" (defArgs (top 14)) (defBody (top 14)) (defScope (top 14)) [] [] (G "product_of") fd
  g_is_row : mg "is_row" = some (.ref (G "is_row"))
  d_is_row : ∃ fd, FunD K "is_row" "is_row" (defArgs (top 15)) (defBody (top 15)) (defScope (top 15)) [] [] (G "is_row") fd
  g_rows_of : mg "rows_of" = some (.ref (G "rows_of"))
  d_rows_of : ∃ fd, FunD K "rows_of" "rows_of" (defArgs (top 16)) (defBody (top 16)) (defScope (top 16)) [] [] (G "rows_of") fd
  g_place_of : mg "place_of" = some (.ref (G "place_of"))
  d_place_of : ∃ fd, FunD K "place_of" "place_of" (defArgs (top 17)) (defBody (top 17)) (defScope (top 17)) [] [] (G "place_of") fd
  g_are_sizes : mg "are_sizes" = some (.ref (G "are_sizes"))
  d_are_sizes : ∃ fd, FunD K "are_sizes" "are_sizes" (defArgs (top 18)) (defBody (top 18)) (defScope (top 18)) [] [] (G "are_sizes") fd
  g_need_sends : mg "need_sends" = some (.ref (G "need_sends"))
  d_need_sends : ∃ fd, FunD K "need_sends" "need_sends" (defArgs (top 19)) (defBody (top 19)) (defScope (top 19)) [] [] (G "need_sends") fd
  g_need_takes : mg "need_takes" = some (.ref (G "need_takes"))
  d_need_takes : ∃ fd, FunD K "need_takes" "need_takes" (defArgs (top 20)) (defBody (top 20)) (defScope (top 20)) [] [] (G "need_takes") fd
  g_need_table : mg "need_table" = some (.ref (G "need_table"))
  d_need_table : ∃ fd, FunD K "need_table" "need_table" (defArgs (top 22)) (defBody (top 22)) (defScope (top 22)) [] [] (G "need_table") fd
  g_need_sending : mg "need_sending" = some (.ref (G "need_sending"))
  d_need_sending : ∃ fd, FunD K "need_sending" "need_sending" (defArgs (top 23)) (defBody (top 23)) (defScope (top 23)) [] [] (G "need_sending") fd
  g_delivery_of : mg "delivery_of" = some (.ref (G "delivery_of"))
  d_delivery_of : ∃ fd, FunD K "delivery_of" "delivery_of" (defArgs (top 24)) (defBody (top 24)) (defScope (top 24)) [] [] (G "delivery_of") fd
  g_part_of : mg "part_of" = some (.ref (G "part_of"))
  d_part_of : ∃ fd, FunD K "part_of" "part_of" (defArgs (top 26)) (defBody (top 26)) (defScope (top 26)) [] [] (G "part_of") fd
  g_parts_of : mg "parts_of" = some (.ref (G "parts_of"))
  d_parts_of : ∃ fd, FunD K "parts_of" "parts_of" (defArgs (top 27)) (defBody (top 27)) (defScope (top 27)) [] [] (G "parts_of") fd
  g_pairs_left : mg "pairs_left" = some (.ref (G "pairs_left"))
  d_pairs_left : ∃ fd, FunD K "pairs_left" "pairs_left" (defArgs (top 28)) (defBody (top 28)) (defScope (top 28)) [] [] (G "pairs_left") fd
  g_is_fine_table : mg "is_fine_table" = some (.ref (G "is_fine_table"))
  d_is_fine_table : ∃ fd, FunD K "is_fine_table" "is_fine_table" (defArgs (top 29)) (defBody (top 29)) (defScope (top 29)) [] [] (G "is_fine_table") fd
  g_is_rule_of : mg "is_rule_of" = some (.ref (G "is_rule_of"))
  d_is_rule_of : ∃ fd, FunD K "is_rule_of" "is_rule_of" (defArgs (top 31)) (defBody (top 31)) (defScope (top 31)) [] [] (G "is_rule_of") fd
  g_are_rules_of : mg "are_rules_of" = some (.ref (G "are_rules_of"))
  d_are_rules_of : ∃ fd, FunD K "are_rules_of" "are_rules_of" (defArgs (top 32)) (defBody (top 32)) (defScope (top 32)) [] [] (G "are_rules_of") fd
  g_answer_of : mg "answer_of" = some (.ref (G "answer_of"))
  d_answer_of : ∃ fd, FunD K "answer_of" "answer_of" (defArgs (top 33)) (defBody (top 33)) (defScope (top 33)) [] [] (G "answer_of") fd
  g_stories_of : mg "stories_of" = some (.ref (G "stories_of"))
  d_stories_of : ∃ fd, FunD K "stories_of" "stories_of" (defArgs (top 34)) (defBody (top 34)) (defScope (top 34)) [] [] (G "stories_of") fd
  g_rule_through : mg "rule_through" = some (.ref (G "rule_through"))
  d_rule_through : ∃ fd, FunD K "rule_through" "rule_through" (defArgs (top 36)) (defBody (top 36)) (defScope (top 36)) [] [] (G "rule_through") fd
  g_rule_for : mg "rule_for" = some (.ref (G "rule_for"))
  d_rule_for : ∃ fd, FunD K "rule_for" "rule_for" (defArgs (top 37)) (defBody (top 37)) (defScope (top 37)) [] [] (G "rule_for") fd
  g_need_fine : mg "need_fine" = some (.ref (G "need_fine"))
  d_need_fine : ∃ fd, FunD K "need_fine" "need_fine" (defArgs (top 39)) (defBody (top 39)) (defScope (top 39)) [] [] (G "need_fine") fd
  g_need_fine_table : mg "need_fine_table" = some (.ref (G "need_fine_table"))
  d_need_fine_table : ∃ fd, FunD K "need_fine_table" "need_fine_table" (defArgs (top 41)) (defBody (top 41)) (defScope (top 41)) [] [] (G "need_fine_table") fd
  g_parting_of : mg "parting_of" = some (.ref (G "parting_of"))
  d_parting_of : ∃ fd, FunD K "parting_of" "parting_of" (defArgs (top 43)) (defBody (top 43)) (defScope (top 43)) [] [] (G "parting_of") fd
  g_need_ends : mg "need_ends" = some (.ref (G "need_ends"))
  d_need_ends : ∃ fd, FunD K "need_ends" "need_ends" (defArgs (top 44)) (defBody (top 44)) (defScope (top 44)) [] [] (G "need_ends") fd
  g_parting : mg "parting" = some (.ref (G "parting"))
  d_parting : ∃ fd, FunD K "parting" "parting" (defArgs (top 45)) (defBody (top 45)) (defScope (top 45)) [] [] (G "parting") fd
  g_ready_rules : mg "ready_rules" = some (.ref (G "ready_rules"))
  d_ready_rules : ∃ fd, FunD K "ready_rules" "ready_rules" (defArgs (top 46)) (defBody (top 46)) (defScope (top 46)) [] [] (G "ready_rules") fd
  g_crossed_rules : mg "crossed_rules" = some (.ref (G "crossed_rules"))
  d_crossed_rules : ∃ fd, FunD K "crossed_rules" "crossed_rules" (defArgs (top 47)) (defBody (top 47)) (defScope (top 47)) [] [] (G "crossed_rules") fd
  g_binding_step : mg "binding_step" = some (.ref (G "binding_step"))
  d_binding_step : ∃ fd, FunD K "binding_step" "binding_step" (defArgs (top 48)) (defBody (top 48)) (defScope (top 48)) [] [] (G "binding_step") fd
  g_unlike_rooms : mg "unlike_rooms" = some (.ref (G "unlike_rooms"))
  d_unlike_rooms : ∃ fd, FunD K "unlike_rooms" "unlike_rooms" (defArgs (top 49)) (defBody (top 49)) (defScope (top 49)) [] [] (G "unlike_rooms") fd
  g_is_binding_step : mg "is_binding_step" = some (.ref (G "is_binding_step"))
  d_is_binding_step : ∃ fd, FunD K "is_binding_step" "is_binding_step" (defArgs (top 50)) (defBody (top 50)) (defScope (top 50)) [] [] (G "is_binding_step") fd
  g_law_begun : mg "_law_begun" = some (.ref (G "_law_begun"))
  d_law_begun : ∃ fd, FunD K "_law_begun" "_law_begun" (defArgs (top 52)) (defBody (top 52)) (defScope (top 52)) [] [] (G "_law_begun") fd
  g_law_draw : mg "_law_draw" = some (.ref (G "_law_draw"))
  d_law_draw : ∃ fd, FunD K "_law_draw" "_law_draw" (defArgs (top 53)) (defBody (top 53)) (defScope (top 53)) [] [] (G "_law_draw") fd
  g_law_pick : mg "_law_pick" = some (.ref (G "_law_pick"))
  d_law_pick : ∃ fd, FunD K "_law_pick" "_law_pick" (defArgs (top 54)) (defBody (top 54)) (defScope (top 54)) [] [] (G "_law_pick") fd
  g_law_mixed : mg "_law_mixed" = some (.ref (G "_law_mixed"))
  d_law_mixed : ∃ fd, FunD K "_law_mixed" "_law_mixed" (defArgs (top 55)) (defBody (top 55)) (defScope (top 55)) [] [] (G "_law_mixed") fd
  g_law_caught : mg "_law_caught" = some (.ref (G "_law_caught"))
  d_law_caught : ∃ fd, FunD K "_law_caught" "_law_caught" (defArgs (top 56)) (defBody (top 56)) (defScope (top 56)) [] [] (G "_law_caught") fd
  g_law_is_whole : mg "_law_is_whole" = some (.ref (G "_law_is_whole"))
  d_law_is_whole : ∃ fd, FunD K "_law_is_whole" "_law_is_whole" (defArgs (top 57)) (defBody (top 57)) (defScope (top 57)) [] [] (G "_law_is_whole") fd
  g_law_odd : mg "_law_odd" = some (.ref (G "_law_odd"))
  d_law_odd : ∃ fd, FunD K "_law_odd" "_law_odd" (defArgs (top 58)) (defBody (top 58)) (defScope (top 58)) [] [] (G "_law_odd") fd
  g_law_rows : mg "_law_rows" = some (.ref (G "_law_rows"))
  d_law_rows : ∃ fd, FunD K "_law_rows" "_law_rows" (defArgs (top 59)) (defBody (top 59)) (defScope (top 59)) [] [] (G "_law_rows") fd
  g_law_sizes : mg "_law_sizes" = some (.ref (G "_law_sizes"))
  d_law_sizes : ∃ fd, FunD K "_law_sizes" "_law_sizes" (defArgs (top 60)) (defBody (top 60)) (defScope (top 60)) [] [] (G "_law_sizes") fd
  g_law_some_takes : mg "_law_some_takes" = some (.ref (G "_law_some_takes"))
  d_law_some_takes : ∃ fd, FunD K "_law_some_takes" "_law_some_takes" (defArgs (top 61)) (defBody (top 61)) (defScope (top 61)) [] [] (G "_law_some_takes") fd
  g_law_led_by : mg "_law_led_by" = some (.ref (G "_law_led_by"))
  d_law_led_by : ∃ fd, FunD K "_law_led_by" "_law_led_by" (defArgs (top 62)) (defBody (top 62)) (defScope (top 62)) [] [] (G "_law_led_by") fd
  g_law_led : mg "_law_led" = some (.ref (G "_law_led"))
  d_law_led : ∃ fd, FunD K "_law_led" "_law_led" (defArgs (top 63)) (defBody (top 63)) (defScope (top 63)) [] [] (G "_law_led") fd
  g_law_turning : mg "_law_turning" = some (.ref (G "_law_turning"))
  d_law_turning : ∃ fd, FunD K "_law_turning" "_law_turning" (defArgs (top 64)) (defBody (top 64)) (defScope (top 64)) [] [] (G "_law_turning") fd
  g_law_map : mg "_law_map" = some (.ref (G "_law_map"))
  d_law_map : ∃ fd, FunD K "_law_map" "_law_map" (defArgs (top 65)) (defBody (top 65)) (defScope (top 65)) [] [] (G "_law_map") fd
  g_law_through : mg "_law_through" = some (.ref (G "_law_through"))
  d_law_through : ∃ fd, FunD K "_law_through" "_law_through" (defArgs (top 66)) (defBody (top 66)) (defScope (top 66)) [] [] (G "_law_through") fd
  g_law_beside : mg "_law_beside" = some (.ref (G "_law_beside"))
  d_law_beside : ∃ fd, FunD K "_law_beside" "_law_beside" (defArgs (top 67)) (defBody (top 67)) (defScope (top 67)) [] [] (G "_law_beside") fd
  g_law_rooms_mixed : mg "_law_rooms_mixed" = some (.ref (G "_law_rooms_mixed"))
  d_law_rooms_mixed : ∃ fd, FunD K "_law_rooms_mixed" "_law_rooms_mixed" (defArgs (top 68)) (defBody (top 68)) (defScope (top 68)) [] [] (G "_law_rooms_mixed") fd
  g_law_fine : mg "_law_fine" = some (.ref (G "_law_fine"))
  d_law_fine : ∃ fd, FunD K "_law_fine" "_law_fine" (defArgs (top 69)) (defBody (top 69)) (defScope (top 69)) [] [] (G "_law_fine") fd
  g_law_near : mg "_law_near" = some (.ref (G "_law_near"))
  d_law_near : ∃ fd, FunD K "_law_near" "_law_near" (defArgs (top 70)) (defBody (top 70)) (defScope (top 70)) [] [] (G "_law_near") fd
  g_law_made : mg "_law_made" = some (.ref (G "_law_made"))
  d_law_made : ∃ fd, FunD K "_law_made" "_law_made" (defArgs (top 71)) (defBody (top 71)) (defScope (top 71)) [] [] (G "_law_made") fd
  g_law_rules : mg "_law_rules" = some (.ref (G "_law_rules"))
  d_law_rules : ∃ fd, FunD K "_law_rules" "_law_rules" (defArgs (top 72)) (defBody (top 72)) (defScope (top 72)) [] [] (G "_law_rules") fd
  g_law_answer : mg "_law_answer" = some (.ref (G "_law_answer"))
  d_law_answer : ∃ fd, FunD K "_law_answer" "_law_answer" (defArgs (top 73)) (defBody (top 73)) (defScope (top 73)) [] [] (G "_law_answer") fd
  g_law_stories : mg "_law_stories" = some (.ref (G "_law_stories"))
  d_law_stories : ∃ fd, FunD K "_law_stories" "_law_stories" (defArgs (top 74)) (defBody (top 74)) (defScope (top 74)) [] [] (G "_law_stories") fd
  g_law_parts : mg "_law_parts" = some (.ref (G "_law_parts"))
  d_law_parts : ∃ fd, FunD K "_law_parts" "_law_parts" (defArgs (top 75)) (defBody (top 75)) (defScope (top 75)) [] [] (G "_law_parts") fd
  g_law_pairs : mg "_law_pairs" = some (.ref (G "_law_pairs"))
  d_law_pairs : ∃ fd, FunD K "_law_pairs" "_law_pairs" (defArgs (top 76)) (defBody (top 76)) (defScope (top 76)) [] [] (G "_law_pairs") fd
  g_law_unparted : mg "_law_unparted" = some (.ref (G "_law_unparted"))
  d_law_unparted : ∃ fd, FunD K "_law_unparted" "_law_unparted" (defArgs (top 77)) (defBody (top 77)) (defScope (top 77)) [] [] (G "_law_unparted") fd
  g_law_is_row : mg "_law_is_row" = some (.ref (G "_law_is_row"))
  d_law_is_row : ∃ fd, FunD K "_law_is_row" "_law_is_row" (defArgs (top 78)) (defBody (top 78)) (defScope (top 78)) [] [] (G "_law_is_row") fd
  g_law_bool_row : mg "_law_bool_row" = some (.ref (G "_law_bool_row"))
  d_law_bool_row : ∃ fd, FunD K "_law_bool_row" "_law_bool_row" (defArgs (top 79)) (defBody (top 79)) (defScope (top 79)) [] [] (G "_law_bool_row") fd
  g_law_bad_row : mg "_law_bad_row" = some (.ref (G "_law_bad_row"))
  d_law_bad_row : ∃ fd, FunD K "_law_bad_row" "_law_bad_row" (defArgs (top 80)) (defBody (top 80)) (defScope (top 80)) [] [] (G "_law_bad_row") fd
  g_law_bad_rules : mg "_law_bad_rules" = some (.ref (G "_law_bad_rules"))
  d_law_bad_rules : ∃ fd, FunD K "_law_bad_rules" "_law_bad_rules" (defArgs (top 81)) (defBody (top 81)) (defScope (top 81)) [] [] (G "_law_bad_rules") fd
  g_law_alike : mg "_law_alike" = some (.ref (G "_law_alike"))
  d_law_alike : ∃ fd, FunD K "_law_alike" "_law_alike" (defArgs (top 82)) (defBody (top 82)) (defScope (top 82)) [] [] (G "_law_alike") fd
  g_law_are_rules : mg "_law_are_rules" = some (.ref (G "_law_are_rules"))
  d_law_are_rules : ∃ fd, FunD K "_law_are_rules" "_law_are_rules" (defArgs (top 83)) (defBody (top 83)) (defScope (top 83)) [] [] (G "_law_are_rules") fd
  g_law_with : mg "_law_with" = some (.ref (G "_law_with"))
  d_law_with : ∃ fd, FunD K "_law_with" "_law_with" (defArgs (top 84)) (defBody (top 84)) (defScope (top 84)) [] [] (G "_law_with") fd
  g_law_rule : mg "_law_rule" = some (.ref (G "_law_rule"))
  d_law_rule : ∃ fd, FunD K "_law_rule" "_law_rule" (defArgs (top 85)) (defBody (top 85)) (defScope (top 85)) [] [] (G "_law_rule") fd
  g_law_through_row : mg "_law_through_row" = some (.ref (G "_law_through_row"))
  d_law_through_row : ∃ fd, FunD K "_law_through_row" "_law_through_row" (defArgs (top 86)) (defBody (top 86)) (defScope (top 86)) [] [] (G "_law_through_row") fd
  g_law_unlike_spots : mg "_law_unlike_spots" = some (.ref (G "_law_unlike_spots"))
  d_law_unlike_spots : ∃ fd, FunD K "_law_unlike_spots" "_law_unlike_spots" (defArgs (top 87)) (defBody (top 87)) (defScope (top 87)) [] [] (G "_law_unlike_spots") fd
  g_law_is_step : mg "_law_is_step" = some (.ref (G "_law_is_step"))
  d_law_is_step : ∃ fd, FunD K "_law_is_step" "_law_is_step" (defArgs (top 88)) (defBody (top 88)) (defScope (top 88)) [] [] (G "_law_is_step") fd
  g_law_near_step : mg "_law_near_step" = some (.ref (G "_law_near_step"))
  d_law_near_step : ∃ fd, FunD K "_law_near_step" "_law_near_step" (defArgs (top 89)) (defBody (top 89)) (defScope (top 89)) [] [] (G "_law_near_step") fd
  g_law_steps_right : mg "_law_steps_right" = some (.ref (G "_law_steps_right"))
  d_law_steps_right : ∃ fd, FunD K "_law_steps_right" "_law_steps_right" (defArgs (top 90)) (defBody (top 90)) (defScope (top 90)) [] [] (G "_law_steps_right") fd
  g_law_refused : mg "_law_refused" = some (.ref (G "_law_refused"))
  d_law_refused : ∃ fd, FunD K "_law_refused" "_law_refused" (defArgs (top 91)) (defBody (top 91)) (defScope (top 91)) [] [] (G "_law_refused") fd
  g_law : mg "law" = some (.ref (G "law"))
  d_law : ∃ fd, FunD K "law" "law" (defArgs (top 92)) (defBody (top 92)) (defScope (top 92)) [] [] (G "law") fd
variable {P : Program} {w : World} {K : PySem.W.Frag} {mg : Str → Option Value} {base : Heap} {G : Gs}
theorem sc_is_number : FnScope ["thing"] ["thing"] (defScope (top 12)) := ⟨rfl, rfl, rfl, by decide +kernel, rfl, by decide +kernel, by decide +kernel⟩
theorem ok_is_number (h : Fk P w K mg base G) : Cal P w K mg base G "is_number" 1 m_is_number ["thing"] [false] := Cal.of h.d_is_number h.g_is_number sc_is_number rfl (fun _ _ _ _ _ _ us hl => match us, hl with | [_], _ => rfl) (fun _ _ _ _ _ _ us hl => match us, hl with | [_], _ => rfl) fun fd cdv A outer s H E F hc hr =>
    (es_one (es_ret (ed_and (ed_isi h.kit rfl h.b_isinstance (ed_var rfl (.inl rfl)) ⟨rfl, by decide, h.b_int, rfl, by decide⟩) (ed_one (ed_notV (ed_isi h.kit rfl h.b_isinstance (ed_var rfl (.inl rfl)) ⟨rfl, by decide, h.b_bool, rfl, by decide⟩))))))
theorem sc_product_of : FnScope ["numbers", "found", "number"] ["numbers"] (defScope (top 14)) := ⟨rfl, rfl, rfl, by decide +kernel, rfl, by decide +kernel, by decide +kernel⟩
theorem ok_product_of (h : Fk P w K mg base G) : Cal P w K mg base G "product_of" 1 m_product_of ["numbers"] [false] := Cal.of h.d_product_of h.g_product_of sc_product_of rfl (fun _ _ _ _ _ _ us hl => match us, hl with | [_], _ => rfl) (fun _ _ _ _ _ _ us hl => match us, hl with | [_], _ => rfl) fun fd cdv A outer s H E F hc hr =>
    (es_cons (es_set rfl sc_product_of.nd rfl (.inl rfl) ed_int)
      (es_cons (es_for own_def rfl (ei_seq (ed_var rfl (.inl rfl))) (eg_name rfl sc_product_of.nd rfl (.inl rfl)) (es_one (es_aug rfl sc_product_of.nd rfl (.inl rfl) (ed_var rfl (.inl rfl)) iop_mul (sp_dI2 fun _ _ _ _ => .int _))))
      (es_one (es_ret (ed_var rfl (.inl rfl))))))
theorem sc_rows_of : FnScope ["sizes", "found", "size", "row", "item"] ["sizes"] (defScope (top 16)) := ⟨rfl, rfl, rfl, by decide +kernel, rfl, by decide +kernel, by decide +kernel⟩
theorem ok_rows_of (h : Fk P w K mg base G) : Cal P w K mg base G "rows_of" 1 m_rows_of ["sizes"] [false] := Cal.of h.d_rows_of h.g_rows_of sc_rows_of rfl (fun _ _ _ _ _ _ us hl => match us, hl with | [_], _ => rfl) (fun _ _ _ _ _ _ us hl => match us, hl with | [_], _ => rfl) fun fd cdv A outer s H E F hc hr =>
    (es_cons (es_set rfl sc_rows_of.nd rfl (.inl rfl) (ed_fz (ed_lst (ea_cons (ed_tup ea_nil) ea_nil))))
      (es_cons (es_for own_def rfl (ei_seq (ed_var rfl (.inl rfl))) (eg_name rfl sc_rows_of.nd rfl (.inr rfl)) (es_one (es_lc2 (own := [("row", 3), ("item", 4)]) (fun σ H Q q => tD_fz σ H Q q) rfl rfl sc_rows_of.nd rfl rfl rfl (ei_seq (ed_var rfl (.inl rfl))) (blkOk_by rfl) (by decide) (fun _ _ _ _ _ => (eg_name rfl sc_rows_of.nd rfl (.inl rfl))) (fun _ _ _ _ _ => tests_yes) (fun _ _ _ _ _ => (ei_rng1 rfl h.b_range (ea_cons (ed_var rfl (.inr (.inl rfl))) ea_nil))) (fun _ _ _ _ _ => (eg_name rfl sc_rows_of.nd rfl (.inl rfl))) (fun _ _ _ _ _ => tests_yes) (fun _ _ _ _ _ => (ed_tup (ea_star (ed_var rfl (.inl rfl)) (ea_cons (ed_var rfl (.inl rfl)) ea_nil)))))))
      (es_one (es_ret (ed_var rfl (.inl rfl))))))
theorem sc_place_of : FnScope ["row", "sizes", "found", "item", "size"] ["row", "sizes"] (defScope (top 17)) := ⟨rfl, rfl, rfl, by decide +kernel, rfl, by decide +kernel, by decide +kernel⟩
theorem ok_place_of (h : Fk P w K mg base G) : Cal P w K mg base G "place_of" 1 m_place_of ["row", "sizes"] [false, false] := Cal.of h.d_place_of h.g_place_of sc_place_of rfl (fun _ _ _ _ _ _ us hl => match us, hl with | [_, _], _ => rfl) (fun _ _ _ _ _ _ us hl => match us, hl with | [_, _], _ => rfl) fun fd cdv A outer s H E F hc hr =>
    (es_cons (es_set rfl sc_place_of.nd rfl (.inl rfl) ed_int)
      (es_cons (es_for own_def rfl (ei_zip rfl h.b_zip (ea_cons (ed_var rfl (.inl rfl)) (ea_cons (ed_var rfl (.inl rfl)) ea_nil))) (eg_tup rfl (egs_cons (eg_name rfl sc_place_of.nd rfl (.inl rfl)) (egs_cons (eg_name rfl sc_place_of.nd rfl (.inl rfl)) egs_nil))) (es_one (es_set rfl sc_place_of.nd rfl (.inl rfl) (ed_fz (ed_op op_dAdd sp_dAdd (ed_fz (ed_op op_dMul sp_dMul (ed_var rfl (.inl rfl)) (ed_var rfl (.inl rfl)))) (ed_var rfl (.inl rfl)))))))
      (es_one (es_ret (ed_var rfl (.inl rfl))))))
theorem sc_part_of : FnScope ["one", "other", "here", "there", "room"] ["one", "other", "here", "there"] (defScope (top 26)) := ⟨rfl, rfl, rfl, by decide +kernel, rfl, by decide +kernel, by decide +kernel⟩
theorem ok_part_of (h : Fk P w K mg base G) : Cal P w K mg base G "part_of" 1 m_part_of ["one", "other", "here", "there"] [false, false, false, false] := Cal.of h.d_part_of h.g_part_of sc_part_of rfl (fun _ _ _ _ _ _ us hl => match us, hl with | [_, _, _, _], _ => rfl) (fun _ _ _ _ _ _ us hl => match us, hl with | [_, _, _, _], _ => rfl) fun fd cdv A outer s H E F hc hr =>
    (es_cons (es_for own_def rfl (ei_rng1 rfl h.b_range (ea_cons (ed_cb call_len_seq sp_dLen rfl h.b_len rfl (ea_cons (ed_var rfl (.inl rfl)) ea_nil)) ea_nil)) (eg_name rfl sc_part_of.nd rfl (.inl rfl)) (es_one (es_if (et_w (ew_and (et_cmp (op_dNe hr) sp_dNe (ed_ix (op_dIx hr) sp_dIx (ed_var rfl (.inl rfl)) (ed_var rfl (.inl rfl)) (by intro _ _; rfl)) (ed_ix (op_dIx hr) sp_dIx (ed_var rfl (.inl rfl)) (ed_var rfl (.inl rfl)) (by intro _ _; rfl)) (nomark _)) (ew_and1 (et_cmp (op_dEq hr) sp_dEq (ed_ix (op_dIx hr) sp_dIx (ed_var rfl (.inl rfl)) (ed_var rfl (.inl rfl)) (by intro _ _; rfl)) (ed_ix (op_dIx hr) sp_dIx (ed_var rfl (.inl rfl)) (ed_var rfl (.inl rfl)) (by intro _ _; rfl)) (nomark _))))) (es_one (es_ret (ed_var rfl (.inl rfl)))) es_nil)))
      (es_one (es_ret ed_non)))
theorem sc_rule_through : FnScope ["takes", "here", "there", "told", "note"] ["takes", "here", "there"] (defScope (top 36)) := ⟨rfl, rfl, rfl, by decide +kernel, rfl, by decide +kernel, by decide +kernel⟩
theorem ok_rule_through (h : Fk P w K mg base G) : Cal P w K mg base G "rule_through" 1 m_rule_through ["takes", "here", "there"] [false, false, false] := Cal.of h.d_rule_through h.g_rule_through sc_rule_through rfl (fun _ _ _ _ _ _ us hl => match us, hl with | [_, _, _], _ => rfl) (fun _ _ _ _ _ _ us hl => match us, hl with | [_, _, _], _ => rfl) fun fd cdv A outer s H E F hc hr =>
    (es_cons (es_set rfl sc_rule_through.nd rfl (.inr rfl) (ed_fz (ed_disp (pps_cons (ed_ix (op_dIx hr) sp_dIx (ed_var rfl (.inl rfl)) ed_int (by intro _ _; rfl)) (ed_ix (op_dIx hr) sp_dIx (ed_var rfl (.inl rfl)) ed_int (by intro _ _; rfl)) (pps_cons (ed_ix (op_dIx hr) sp_dIx (ed_var rfl (.inl rfl)) ed_int (by intro _ _; rfl)) (ed_ix (op_dIx hr) sp_dIx (ed_var rfl (.inl rfl)) ed_int (by intro _ _; rfl)) pps_nil)))))
      (es_one (es_ret (ed_ct call_tuple_of sp_dTuple rfl h.b_tuple rfl (ea_cons (ed_fz (ed_lc (own := [("note", 4)]) rfl sc_rule_through.nd (ei_rng1 rfl h.b_range (ea_cons (ed_var rfl (.inl rfl)) ea_nil)) (blkOk_by rfl) (fun _ _ _ _ _ => (eg_name rfl sc_rule_through.nd rfl (.inl rfl))) (fun _ _ _ _ _ => tests_yes) (fun _ _ _ _ _ => (ed_get2 hr (ed_var rfl (.inr (.inl rfl))) (ed_var rfl (.inl rfl)) ed_int ⟨rfl, rfl, rfl, rfl⟩)))) ea_nil)))))
theorem sc_unlike_rooms : FnScope ["one", "other", "at", "here", "there"] ["one", "other"] (defScope (top 49)) := ⟨rfl, rfl, rfl, by decide +kernel, rfl, by decide +kernel, by decide +kernel⟩
theorem ok_unlike_rooms (h : Fk P w K mg base G) : Cal P w K mg base G "unlike_rooms" 1 m_unlike_rooms ["one", "other"] [false, false] := Cal.of h.d_unlike_rooms h.g_unlike_rooms sc_unlike_rooms rfl (fun _ _ _ _ _ _ us hl => match us, hl with | [_, _], _ => rfl) (fun _ _ _ _ _ _ us hl => match us, hl with | [_, _], _ => rfl) fun fd cdv A outer s H E F hc hr =>
    (es_one (es_ret (ed_fz (ed_lc (own := [("at", 2), ("here", 3), ("there", 4)]) rfl sc_unlike_rooms.nd (ei_enumzip rfl h.b_enumerate rfl h.b_zip (ea_cons (ed_var rfl (.inl rfl)) (ea_cons (ed_var rfl (.inl rfl)) ea_nil))) (blkOk_by rfl) (fun _ _ _ _ _ => (eg_tup rfl (egs_cons (eg_name rfl sc_unlike_rooms.nd rfl (.inl rfl)) (egs_cons (eg_tup rfl (egs_cons (eg_name rfl sc_unlike_rooms.nd rfl (.inl rfl)) (egs_cons (eg_name rfl sc_unlike_rooms.nd rfl (.inl rfl)) egs_nil))) egs_nil)))) (fun _ _ _ _ _ => (tests_one (et_cmp (op_dNe hr) sp_dNe (ed_var rfl (.inl rfl)) (ed_var rfl (.inl rfl)) (nomark _)))) (fun _ _ _ _ _ => (ed_var rfl (.inl rfl)))))))
theorem sc_law_begun : FnScope ["_law_script", "_law_cells_here", "_law_large", "_law_cell"] ["_law_script"] (defScope (top 52)) := ⟨rfl, rfl, rfl, by decide +kernel, rfl, by decide +kernel, by decide +kernel⟩
theorem ok_law_begun (h : Fk P w K mg base G) : Cal P w K mg base G "_law_begun" 1 m_law_begun ["_law_script"] [false] := Cal.of h.d_law_begun h.g_law_begun sc_law_begun rfl (fun _ _ _ _ _ _ us hl => match us, hl with | [_], _ => rfl) (fun _ _ _ _ _ _ us hl => match us, hl with | [_], _ => rfl) fun fd cdv A outer s H E F hc hr =>
    (es_cons (es_lc (own := [("_law_cell", 3)]) (fun σ H Q q => tD_fz σ H Q q) rfl rfl sc_law_begun.nd rfl rfl rfl (ei_seq (ed_var rfl (.inl rfl))) (blkOk_by rfl) (fun _ _ _ _ _ => (eg_name rfl sc_law_begun.nd rfl (.inl rfl))) (fun _ _ _ _ _ => tests_yes) (fun _ _ _ _ _ => (ed_cb call_abs sp_dAbs rfl h.b_abs rfl (ea_cons (ed_var rfl (.inl rfl)) ea_nil))))
      (es_cons (es_lc (own := [("_law_cell", 3)]) (fun _ _ _ q => q) rfl rfl sc_law_begun.nd rfl rfl rfl (ei_seq (ed_var rfl (.inl rfl))) (blkOk_by rfl) (fun _ _ _ _ _ => (eg_name rfl sc_law_begun.nd rfl (.inl rfl))) (fun _ _ _ _ _ => (tests_one (et_cmp (op_ge) sp_dGe (ed_var rfl (.inl rfl)) (ed_op op_pow sp_dPow ed_int ed_int) (nomark _)))) (fun _ _ _ _ _ => (ed_op op_sub sp_dSub (ed_var rfl (.inl rfl)) (ed_op op_pow sp_dPow ed_int ed_int))))
      (es_one (es_ret (ed_disp (pps_cons ed_str (ed_mv rfl (.inl rfl)) (pps_cons ed_str (ed_var rfl (.inl rfl)) (pps_cons ed_str ed_int (pps_cons ed_str ed_int pps_nil)))))))))
end On

set_option Elab.async false
set_option linter.all false
set_option maxRecDepth 100000
set_option maxHeartbeats 4000000
namespace On
open PySem PySem.Spec PyProof.Rows L2
variable {P : Program} {w : World} {K : PySem.W.Frag} {mg : Str → Option Value} {base : Heap} {G : Gs}
theorem sc_law_draw : FnScope ["_law_state", "_law_size_here", "_law_turn", "_law_cell", "_law_mixed_here", "_law_found"] ["_law_state", "_law_size_here"] (defScope (top 53)) := ⟨rfl, rfl, rfl, by decide +kernel, rfl, by decide +kernel, by decide +kernel⟩
theorem ok_law_draw (h : Fk P w K mg base G) : Cal P w K mg base G "_law_draw" 1 m_law_draw ["_law_state", "_law_size_here"] [true, false] := Cal.of h.d_law_draw h.g_law_draw sc_law_draw rfl (fun _ _ _ _ _ _ us hl => match us, hl with | [_, _], _ => rfl) (fun _ _ _ _ _ _ us hl => match us, hl with | [_, _], _ => rfl) fun fd cdv A outer s H E F hc hr =>
    (es_cons (es_while 200 own_def (et_w (ew_and (et_cmp (op_dEq hr) sp_dEq (ed_pl (pl_key hr (pl_name rfl (.inl rfl)))) ed_int (nomark _)) (ew_and1 (et_cmpP (op_dNe hr) sp_dNe (pl_key hr (pl_name rfl (.inl rfl))) (ed_fz (ed_lst ea_nil)) (nomark _))))) (es_one (es_asg (ed_methP PySem.F.plainAttrs_list PySem.F.slot_list_pop PySem.F.type_list_pop mt_popAt sp_mPopAt (pl_key hr (pl_name rfl (.inl rfl))) (ea_cons ed_int ea_nil)) (eg_put (E := WD E) hr (pl_name rfl (.inl rfl)) ed_str))))
      (es_cons (es_if (et_cmp (op_gt) sp_dGt (ed_pl (pl_key hr (pl_name rfl (.inl rfl)))) ed_int (nomark _)) (es_cons (es_set rfl sc_law_draw.nd rfl (.inl rfl) (ed_op op_mod sp_dMod (ed_ct call_int1 sp_dInt rfl h.b_int rfl (ea_cons (ed_pl (pl_key hr (pl_name rfl (.inl rfl)))) ea_nil)) (ed_var rfl (.inl rfl))))
      (es_cons (es_asg (ed_op op_fdiv sp_dFdiv (ed_pl (pl_key hr (pl_name rfl (.inl rfl)))) (ed_var rfl (.inl rfl))) (eg_put (E := WD E) hr (pl_name rfl (.inl rfl)) ed_str))
      (es_one (es_ret (ed_var rfl (.inl rfl)))))) es_nil)
      (es_cons (es_set rfl sc_law_draw.nd rfl (.inl rfl) (ed_fz (ed_op op_dAdd sp_dAdd (ed_pl (pl_key hr (pl_name rfl (.inl rfl)))) ed_int)))
      (es_cons (es_asg (ed_var rfl (.inl rfl)) (eg_put (E := WD E) hr (pl_name rfl (.inl rfl)) ed_str))
      (es_cons (es_set rfl sc_law_draw.nd rfl (.inl rfl) (ed_if (et_cmp (op_dNe hr) sp_dNe (ed_pl (pl_key hr (pl_name rfl (.inl rfl)))) (ed_fz (ed_lst ea_nil)) (nomark _)) (ed_ix (op_dIx hr) sp_dIx (ed_pl (pl_key hr (pl_name rfl (.inl rfl)))) (ed_op op_mod sp_dMod (ed_ct call_int1 sp_dInt rfl h.b_int rfl (ea_cons (ed_var rfl (.inl rfl)) ea_nil)) (ed_cb call_len_seq sp_dLen rfl h.b_len rfl (ea_cons (ed_pl (pl_key hr (pl_name rfl (.inl rfl)))) ea_nil))) (by intro _ _; rfl)) ed_int))
      (es_cons (es_set rfl sc_law_draw.nd rfl (.inl rfl) (ed_op op_mod sp_dMod (ed_ct call_int1 sp_dInt rfl h.b_int rfl (ea_cons (ed_op op_pow sp_dPow (ed_fz (ed_op op_dAdd sp_dAdd (ed_fz (ed_op op_dAdd sp_dAdd (ed_op op_mod sp_dMod (ed_ct call_int1 sp_dInt rfl h.b_int rfl (ea_cons (ed_var rfl (.inl rfl)) ea_nil)) ed_int) (ed_fz (ed_op op_dMul sp_dMul ed_int (ed_var rfl (.inl rfl)))))) ed_int)) ed_int) ea_nil)) ed_int))
      (es_one (es_ret (ed_op op_mod sp_dMod (ed_ct call_int1 sp_dInt rfl h.b_int rfl (ea_cons (ed_op op_fdiv sp_dFdiv (ed_op op_mod sp_dMod (ed_ct call_int1 sp_dInt rfl h.b_int rfl (ea_cons (ed_op op_pow sp_dPow (ed_fz (ed_op op_dAdd sp_dAdd (ed_var rfl (.inl rfl)) (ed_fz (ed_op op_dMul sp_dMul ed_int (ed_var rfl (.inl rfl)))))) ed_int) ea_nil)) ed_int) ed_int) ea_nil)) (ed_var rfl (.inl rfl)))))))))))
theorem sc_law_caught : FnScope ["_law_work", "_law_caught_here", "error"] ["_law_work"] (defScope (top 56)) := ⟨rfl, rfl, rfl, by decide +kernel, rfl, by decide +kernel, by decide +kernel⟩
theorem gv_law_caught (h : Fk P w K mg base G) {X : Cx} (e : X.mg = mg) : ∀ g cdv q, LamX.GivesTo X ["_law_work", "_law_caught_here", "error"] "_law_caught" (defScope (top 56)) g cdv (defBody (top 56)) "_law_work" q (TTc X.K (G "StoryError")) := fun g cdv q => caught_gives (p14 := ⟨0, 0, 0, 0⟩) sc_law_caught rfl (by rw [e]; exact h.g_StoryError) (by decide) rfl rfl (by decide) (by decide) (by decide) (by decide)
theorem sc_law_is_whole : FnScope ["_law_item"] ["_law_item"] (defScope (top 57)) := ⟨rfl, rfl, rfl, by decide +kernel, rfl, by decide +kernel, by decide +kernel⟩
theorem ok_law_is_whole (h : Fk P w K mg base G) : Cal P w K mg base G "_law_is_whole" 1 m_law_is_whole ["_law_item"] [false] := Cal.of h.d_law_is_whole h.g_law_is_whole sc_law_is_whole rfl (fun _ _ _ _ _ _ us hl => match us, hl with | [_], _ => rfl) (fun _ _ _ _ _ _ us hl => match us, hl with | [_], _ => rfl) fun fd cdv A outer s H E F hc hr =>
    (es_one (es_ret (ed_and (ed_isi h.kit rfl h.b_isinstance (ed_var rfl (.inl rfl)) ⟨rfl, by decide, h.b_int, rfl, by decide⟩) (ed_one (ed_notV (ed_isi h.kit rfl h.b_isinstance (ed_var rfl (.inl rfl)) ⟨rfl, by decide, h.b_bool, rfl, by decide⟩))))))
theorem sc_law_rows : FnScope ["_law_sizes_here", "_law_found", "_law_size_here", "_law_more", "_law_row", "_law_item"] ["_law_sizes_here"] (defScope (top 59)) := ⟨rfl, rfl, rfl, by decide +kernel, rfl, by decide +kernel, by decide +kernel⟩
theorem ok_law_rows (h : Fk P w K mg base G) : Cal P w K mg base G "_law_rows" 1 m_law_rows ["_law_sizes_here"] [false] := Cal.of h.d_law_rows h.g_law_rows sc_law_rows rfl (fun _ _ _ _ _ _ us hl => match us, hl with | [_], _ => rfl) (fun _ _ _ _ _ _ us hl => match us, hl with | [_], _ => rfl) fun fd cdv A outer s H E F hc hr =>
    (es_cons (es_set rfl sc_law_rows.nd rfl (.inl rfl) (ed_fz (ed_lst (ea_cons (ed_tup ea_nil) ea_nil))))
      (es_cons (es_for own_def rfl (ei_seq (ed_var rfl (.inl rfl))) (eg_name rfl sc_law_rows.nd rfl (.inl rfl)) (es_cons (es_set rfl sc_law_rows.nd rfl (.inl rfl) (ed_fz (ed_lst ea_nil)))
      (es_cons (es_for own_def rfl (ei_seq (ed_var rfl (.inl rfl))) (eg_name rfl sc_law_rows.nd rfl (.inr rfl)) (es_one (es_set rfl sc_law_rows.nd rfl (.inl rfl) (ed_fz (ed_op op_dAdd sp_dAdd (ed_var rfl (.inl rfl)) (ed_fz (ed_lc (own := [("_law_item", 5)]) rfl sc_law_rows.nd (ei_rng1 rfl h.b_range (ea_cons (ed_var rfl (.inl rfl)) ea_nil)) (blkOk_by rfl) (fun _ _ _ _ _ => (eg_name rfl sc_law_rows.nd rfl (.inl rfl))) (fun _ _ _ _ _ => tests_yes) (fun _ _ _ _ _ => (ed_fz (ed_op op_dAdd sp_dAdd (ed_var rfl (.inr (.inl rfl))) (ed_tup (ea_cons (ed_var rfl (.inl rfl)) ea_nil))))))))))))
      (es_one (es_set rfl sc_law_rows.nd rfl (.inl rfl) (ed_var rfl (.inl rfl)))))))
      (es_one (es_ret (ed_var rfl (.inl rfl))))))
theorem sc_law_beside : FnScope ["_law_one", "_law_other", "_law_found", "_law_row", "_law_more"] ["_law_one", "_law_other"] (defScope (top 67)) := ⟨rfl, rfl, rfl, by decide +kernel, rfl, by decide +kernel, by decide +kernel⟩
theorem ok_law_beside (h : Fk P w K mg base G) : Cal P w K mg base G "_law_beside" 1 m_law_beside ["_law_one", "_law_other"] [false, false] := Cal.of h.d_law_beside h.g_law_beside sc_law_beside rfl (fun _ _ _ _ _ _ us hl => match us, hl with | [_, _], _ => rfl) (fun _ _ _ _ _ _ us hl => match us, hl with | [_, _], _ => rfl) fun fd cdv A outer s H E F hc hr =>
    (es_cons (es_set rfl sc_law_beside.nd rfl (.inl rfl) (ed_disp (pps_cons ed_str (ed_fz (ed_op op_dAdd sp_dAdd (ed_ix (op_dIx hr) sp_dIx (ed_var rfl (.inl rfl)) ed_str (by intro _ _; rfl)) (ed_ix (op_dIx hr) sp_dIx (ed_var rfl (.inl rfl)) ed_str (by intro _ _; rfl)))) (pps_cons ed_str (ed_fz (ed_op op_dAdd sp_dAdd (ed_ix (op_dIx hr) sp_dIx (ed_var rfl (.inl rfl)) ed_str (by intro _ _; rfl)) (ed_ix (op_dIx hr) sp_dIx (ed_var rfl (.inl rfl)) ed_str (by intro _ _; rfl)))) (pps_cons ed_str ed_newT pps_nil)))))
      (es_cons (es_for own_def rfl (ei_seq (ed_ix (op_dIx hr) sp_dIx (ed_var rfl (.inl rfl)) ed_str (by intro _ _; rfl))) (eg_name rfl sc_law_beside.nd rfl (.inl rfl)) (es_one (es_for own_def rfl (ei_seq (ed_ix (op_dIx hr) sp_dIx (ed_var rfl (.inl rfl)) ed_str (by intro _ _; rfl))) (eg_name rfl sc_law_beside.nd rfl (.inl rfl)) (es_one (es_asg (ed_fz (ed_op op_dAdd sp_dAdd (ed_ix (op_dIx hr) sp_dIx (ed_ix (op_dIx hr) sp_dIx (ed_var rfl (.inl rfl)) ed_str (by intro _ _; rfl)) (ed_var rfl (.inl rfl)) (by intro _ _; rfl)) (ed_ix (op_dIx hr) sp_dIx (ed_ix (op_dIx hr) sp_dIx (ed_var rfl (.inl rfl)) ed_str (by intro _ _; rfl)) (ed_var rfl (.inl rfl)) (by intro _ _; rfl)))) (eg_put (E := WD E) hr (pl_key hr (pl_name rfl (.inl rfl))) (ed_fz (ed_op op_dAdd sp_dAdd (ed_var rfl (.inl rfl)) (ed_var rfl (.inl rfl))))))))))
      (es_one (es_ret (ed_vz rfl (.inl rfl))))))
theorem sc_law_answer : FnScope ["_law_scope", "_law_rules_here", "_law_row", "_law_rule_here", "_law_note_here"] ["_law_scope", "_law_rules_here", "_law_row"] (defScope (top 73)) := ⟨rfl, rfl, rfl, by decide +kernel, rfl, by decide +kernel, by decide +kernel⟩
theorem ok_law_answer (h : Fk P w K mg base G) : Cal P w K mg base G "_law_answer" 1 m_law_answer ["_law_scope", "_law_rules_here", "_law_row"] [false, false, false] := Cal.of h.d_law_answer h.g_law_answer sc_law_answer rfl (fun _ _ _ _ _ _ us hl => match us, hl with | [_, _, _], _ => rfl) (fun _ _ _ _ _ _ us hl => match us, hl with | [_, _, _], _ => rfl) fun fd cdv A outer s H E F hc hr =>
    (es_one (es_ret (ed_ct call_tuple_of sp_dTuple rfl h.b_tuple rfl (ea_cons (ed_fz (ed_lc (own := [("_law_rule_here", 3), ("_law_note_here", 4)]) rfl sc_law_answer.nd (ei_zip rfl h.b_zip (ea_cons (ed_var rfl (.inl rfl)) (ea_cons (ed_ix (op_dIx hr) sp_dIx (ed_ix (op_dIx hr) sp_dIx (ed_var rfl (.inl rfl)) ed_str (by intro _ _; rfl)) (ed_var rfl (.inl rfl)) (by intro _ _; rfl)) ea_nil))) (blkOk_by rfl) (fun _ _ _ _ _ => (eg_tup rfl (egs_cons (eg_name rfl sc_law_answer.nd rfl (.inl rfl)) (egs_cons (eg_name rfl sc_law_answer.nd rfl (.inl rfl)) egs_nil)))) (fun _ _ _ _ _ => tests_yes) (fun _ _ _ _ _ => (ed_ix (op_dIx hr) sp_dIx (ed_var rfl (.inl rfl)) (ed_var rfl (.inl rfl)) (by intro _ _; rfl))))) ea_nil))))
theorem sc_law_parts : FnScope ["_law_scope", "_law_one", "_law_other", "_law_here", "_law_there", "_law_spot"] ["_law_scope", "_law_one", "_law_other"] (defScope (top 75)) := ⟨rfl, rfl, rfl, by decide +kernel, rfl, by decide +kernel, by decide +kernel⟩
theorem ok_law_parts (h : Fk P w K mg base G) : Cal P w K mg base G "_law_parts" 1 m_law_parts ["_law_scope", "_law_one", "_law_other"] [false, false, false] := Cal.of h.d_law_parts h.g_law_parts sc_law_parts rfl (fun _ _ _ _ _ _ us hl => match us, hl with | [_, _, _], _ => rfl) (fun _ _ _ _ _ _ us hl => match us, hl with | [_, _, _], _ => rfl) fun fd cdv A outer s H E F hc hr =>
    (es_cons (es_asg (ed_tup (ea_cons (ed_ix (op_dIx hr) sp_dIx (ed_ix (op_dIx hr) sp_dIx (ed_var rfl (.inl rfl)) ed_str (by intro _ _; rfl)) (ed_var rfl (.inr (.inl rfl))) (by intro _ _; rfl)) (ea_cons (ed_ix (op_dIx hr) sp_dIx (ed_ix (op_dIx hr) sp_dIx (ed_var rfl (.inl rfl)) ed_str (by intro _ _; rfl)) (ed_var rfl (.inr (.inl rfl))) (by intro _ _; rfl)) ea_nil))) (eg_tup rfl (egs_cons (eg_name rfl sc_law_parts.nd rfl (.inr rfl)) (egs_cons (eg_name rfl sc_law_parts.nd rfl (.inr rfl)) egs_nil))))
      (es_one (es_ret (ed_fz (ed_lc (own := [("_law_spot", 5)]) rfl sc_law_parts.nd (ei_rng1 rfl h.b_range (ea_cons (ed_cb call_len_seq sp_dLen rfl h.b_len rfl (ea_cons (ed_var rfl (.inr (.inl rfl))) ea_nil)) ea_nil)) (blkOk_by rfl) (fun _ _ _ _ _ => (eg_name rfl sc_law_parts.nd rfl (.inl rfl))) (fun _ _ _ _ _ => (tests_one (et_w (ew_and (et_cmp (op_dNe hr) sp_dNe (ed_ix (op_dIx hr) sp_dIx (ed_var rfl (.inr (.inl rfl))) (ed_var rfl (.inl rfl)) (by intro _ _; rfl)) (ed_ix (op_dIx hr) sp_dIx (ed_var rfl (.inr (.inl rfl))) (ed_var rfl (.inl rfl)) (by intro _ _; rfl)) (nomark _)) (ew_and1 (et_cmp (op_dEq hr) sp_dEq (ed_ix (op_dIx hr) sp_dIx (ed_var rfl (.inr (.inl rfl))) (ed_var rfl (.inl rfl)) (by intro _ _; rfl)) (ed_ix (op_dIx hr) sp_dIx (ed_var rfl (.inr (.inl rfl))) (ed_var rfl (.inl rfl)) (by intro _ _; rfl)) (nomark _))))))) (fun _ _ _ _ _ => (ed_var rfl (.inl rfl))))))))
theorem sc_law_with : FnScope ["_law_row", "_law_spot", "_law_item"] ["_law_row", "_law_spot", "_law_item"] (defScope (top 84)) := ⟨rfl, rfl, rfl, by decide +kernel, rfl, by decide +kernel, by decide +kernel⟩
theorem ok_law_with (h : Fk P w K mg base G) : Cal P w K mg base G "_law_with" 1 m_law_with ["_law_row", "_law_spot", "_law_item"] [false, false, false] := Cal.of h.d_law_with h.g_law_with sc_law_with rfl (fun _ _ _ _ _ _ us hl => match us, hl with | [_, _, _], _ => rfl) (fun _ _ _ _ _ _ us hl => match us, hl with | [_, _, _], _ => rfl) fun fd cdv A outer s H E F hc hr =>
    (es_one (es_ret (ed_fz (ed_op op_dAdd sp_dAdd (ed_fz (ed_op op_dAdd sp_dAdd (ed_fz (ed_cut sl_dCut sp_dCut (ed_var rfl (.inl rfl)) eo_none (eo_some (E := WD E) (ed_var rfl (.inl rfl))))) (ed_tup (ea_cons (ed_var rfl (.inl rfl)) ea_nil)))) (ed_fz (ed_cut sl_dCut sp_dCut (ed_var rfl (.inl rfl)) (eo_some (E := WD E) (ed_fz (ed_op op_dAdd sp_dAdd (ed_var rfl (.inl rfl)) ed_int))) eo_none))))))
end On

set_option Elab.async false
set_option linter.all false
set_option maxRecDepth 100000
set_option maxHeartbeats 4000000
namespace On
open PySem PySem.Spec PyProof.Rows L2
variable {P : Program} {w : World} {K : PySem.W.Frag} {mg : Str → Option Value} {base : Heap} {G : Gs}
theorem sc_law_unlike_spots : FnScope ["_law_one", "_law_other", "_law_spot", "_law_item"] ["_law_one", "_law_other"] (defScope (top 87)) := ⟨rfl, rfl, rfl, by decide +kernel, rfl, by decide +kernel, by decide +kernel⟩
theorem ok_law_unlike_spots (h : Fk P w K mg base G) : Cal P w K mg base G "_law_unlike_spots" 1 m_law_unlike_spots ["_law_one", "_law_other"] [false, false] := Cal.of h.d_law_unlike_spots h.g_law_unlike_spots sc_law_unlike_spots rfl (fun _ _ _ _ _ _ us hl => match us, hl with | [_, _], _ => rfl) (fun _ _ _ _ _ _ us hl => match us, hl with | [_, _], _ => rfl) fun fd cdv A outer s H E F hc hr =>
    (es_one (es_ret (ed_fz (ed_lc (own := [("_law_spot", 2), ("_law_item", 3)]) rfl sc_law_unlike_spots.nd (ei_enum rfl h.b_enumerate (ea_cons (ed_var rfl (.inl rfl)) ea_nil)) (blkOk_by rfl) (fun _ _ _ _ _ => (eg_tup rfl (egs_cons (eg_name rfl sc_law_unlike_spots.nd rfl (.inl rfl)) (egs_cons (eg_name rfl sc_law_unlike_spots.nd rfl (.inl rfl)) egs_nil)))) (fun _ _ _ _ _ => (tests_one (et_cmp (op_dNe hr) sp_dNe (ed_var rfl (.inl rfl)) (ed_ix (op_dIx hr) sp_dIx (ed_var rfl (.inr (.inl rfl))) (ed_var rfl (.inl rfl)) (by intro _ _; rfl)) (nomark _)))) (fun _ _ _ _ _ => (ed_var rfl (.inl rfl)))))))
theorem sc_is_between : FnScope ["thing", "low", "high"] ["thing", "low", "high"] (defScope (top 13)) := ⟨rfl, rfl, rfl, by decide +kernel, rfl, by decide +kernel, by decide +kernel⟩
theorem ok_is_between (h : Fk P w K mg base G) : Cal P w K mg base G "is_between" 2 m_is_between ["thing", "low", "high"] [false, false, false] := Cal.of h.d_is_between h.g_is_between sc_is_between rfl (fun _ _ _ _ _ _ us hl => match us, hl with | [_, _, _], _ => rfl) (fun _ _ _ _ _ _ us hl => match us, hl with | [_, _, _], _ => rfl) fun fd cdv A outer s H E F hc hr =>
    (es_one (es_ret (ed_and (ed_cl (ok_is_number h) hr takes_def (em_cons (ed_var rfl (.inl rfl)) em_nil)) (ed_one (ed_chain (op_le) (op_le) sp_dLe sp_dLe (ed_var rfl (.inl rfl)) (ed_var rfl (.inl rfl)) (ed_var rfl (.inl rfl)))))))
theorem sc_delivery_of : FnScope ["table", "sending"] ["table", "sending"] (defScope (top 24)) := ⟨rfl, rfl, rfl, by decide +kernel, rfl, by decide +kernel, by decide +kernel⟩
theorem ok_delivery_of (h : Fk P w K mg base G) : Cal P w K mg base G "delivery_of" 2 m_delivery_of ["table", "sending"] [false, false] := Cal.of h.d_delivery_of h.g_delivery_of sc_delivery_of rfl (fun _ _ _ _ _ _ us hl => match us, hl with | [_, _], _ => rfl) (fun _ _ _ _ _ _ us hl => match us, hl with | [_, _], _ => rfl) fun fd cdv A outer s H E F hc hr =>
    (es_one (es_ret (ed_ix (op_dIx hr) sp_dIx (ed_fld h.c_Table h.a_Table_notes (ed_var rfl (.inl rfl))) (ed_cl (ok_place_of h) hr takes_def (em_cons (ed_var rfl (.inl rfl)) (em_cons (ed_fld h.c_Table h.a_Table_sends (ed_var rfl (.inl rfl))) em_nil))) (by intro _ _; rfl))))
theorem sc_law_pick : FnScope ["_law_state", "_law_several"] ["_law_state", "_law_several"] (defScope (top 54)) := ⟨rfl, rfl, rfl, by decide +kernel, rfl, by decide +kernel, by decide +kernel⟩
theorem ok_law_pick (h : Fk P w K mg base G) : Cal P w K mg base G "_law_pick" 2 m_law_pick ["_law_state", "_law_several"] [true, false] := Cal.of h.d_law_pick h.g_law_pick sc_law_pick rfl (fun _ _ _ _ _ _ us hl => match us, hl with | [_, _], _ => rfl) (fun _ _ _ _ _ _ us hl => match us, hl with | [_, _], _ => rfl) fun fd cdv A outer s H E F hc hr =>
    (es_one (es_ret (ed_ix (op_dIx hr) sp_dIx (ed_var rfl (.inl rfl)) (ed_cl (ok_law_draw h) hr takes_def (em_mut rfl (.inl rfl) (em_cons (ed_cb call_len_seq sp_dLen rfl h.b_len rfl (ea_cons (ed_var rfl (.inl rfl)) ea_nil)) em_nil))) (by intro _ _; rfl))))
theorem sc_law_mixed : FnScope ["_law_state", "_law_several", "_law_left", "_law_found"] ["_law_state", "_law_several"] (defScope (top 55)) := ⟨rfl, rfl, rfl, by decide +kernel, rfl, by decide +kernel, by decide +kernel⟩
theorem ok_law_mixed (h : Fk P w K mg base G) : Cal P w K mg base G "_law_mixed" 2 m_law_mixed ["_law_state", "_law_several"] [true, false] := Cal.of h.d_law_mixed h.g_law_mixed sc_law_mixed rfl (fun _ _ _ _ _ _ us hl => match us, hl with | [_, _], _ => rfl) (fun _ _ _ _ _ _ us hl => match us, hl with | [_, _], _ => rfl) fun fd cdv A outer s H E F hc hr =>
    (es_cons (es_par rfl rfl rfl sc_law_mixed.nd rfl rfl (by decide) rfl rfl (ea_cons (ed_ct call_list_of sp_dList rfl h.b_list rfl (ea_cons (ed_var rfl (.inl rfl)) ea_nil)) (ea_cons (ed_lst ea_nil) ea_nil)) rfl)
      (es_cons (es_while 200 own_def (et_cmpP (op_dNe hr) sp_dNe (pl_name rfl (.inl rfl)) (ed_fz (ed_lst ea_nil)) (nomark _)) (es_one (es_expr (ed_meth PySem.F.plainAttrs_list PySem.F.slot_list_append PySem.F.type_list_append mt_append sp_mApp rfl (.inl rfl) (ea_cons (ed_meth PySem.F.plainAttrs_list PySem.F.slot_list_pop PySem.F.type_list_pop mt_popAt sp_mPopAt rfl (.inl rfl) (ea_cons (ed_cl (ok_law_draw h) hr takes_def (em_mut rfl (.inl rfl) (em_cons (ed_cbP call_len_seq sp_dLen rfl h.b_len rfl (pl_name rfl (.inl rfl))) em_nil))) ea_nil)) ea_nil)))))
      (es_one (es_ret (ed_vz rfl (.inl rfl))))))
theorem sc_law_turning : FnScope ["_law_scope", "_law_row", "_law_spot"] [] (defScope (top 64)) := ⟨rfl, rfl, rfl, by decide +kernel, rfl, by decide +kernel, by decide +kernel⟩
theorem ok_law_turning (h : Fk P w K mg base G) : Cal P w K mg base G "_law_turning" 2 m_law_turning [] [] := Cal.of h.d_law_turning h.g_law_turning sc_law_turning rfl (fun _ _ _ _ _ _ us hl => match us, hl with | [], _ => rfl) (fun _ _ _ _ _ _ us hl => match us, hl with | [], _ => rfl) fun fd cdv A outer s H E F hc hr =>
    (es_cons (es_set rfl sc_law_turning.nd rfl (.inl rfl) (ed_disp (pps_cons ed_str (ed_tup (ea_cons ed_int (ea_cons ed_int (ea_cons ed_int ea_nil)))) (pps_cons ed_str (ed_tup (ea_cons ed_int (ea_cons ed_int (ea_cons ed_int ea_nil)))) (pps_cons ed_str ed_newT pps_nil)))))
      (es_cons (es_for own_def rfl (ei_seq (ed_cl (ok_law_rows h) hr takes_def (em_cons (ed_tup (ea_cons ed_int (ea_cons ed_int (ea_cons ed_int ea_nil)))) em_nil))) (eg_name rfl sc_law_turning.nd rfl (.inr rfl)) (es_one (es_asg (ed_ct call_tuple_of sp_dTuple rfl h.b_tuple rfl (ea_cons (ed_fz (ed_lc (own := [("_law_spot", 2)]) rfl sc_law_turning.nd (ei_rng1 rfl h.b_range (ea_cons ed_int ea_nil)) (blkOk_by rfl) (fun _ _ _ _ _ => (eg_name rfl sc_law_turning.nd rfl (.inl rfl))) (fun _ _ _ _ _ => tests_yes) (fun _ _ _ _ _ => (ed_ct call_int1 sp_dInt rfl h.b_int rfl (ea_cons (ed_and (ed_cmp (op_dEq hr) sp_dEq (ed_ix (op_dIx hr) sp_dIx (ed_var rfl (.inr (.inl rfl))) (ed_op op_sub sp_dSub (ed_var rfl (.inl rfl)) ed_int) (by intro _ _; rfl)) ed_int (nomark _)) (ed_one (ed_cmp (op_dEq hr) sp_dEq (ed_ix (op_dIx hr) sp_dIx (ed_var rfl (.inr (.inl rfl))) (ed_op op_mod sp_dMod (ed_ct call_int1 sp_dInt rfl h.b_int rfl (ea_cons (ed_fz (ed_op op_dAdd sp_dAdd (ed_var rfl (.inl rfl)) ed_int)) ea_nil)) ed_int) (by intro _ _; rfl)) ed_int (nomark _)))) ea_nil))))) ea_nil)) (eg_put (E := WD E) hr (pl_key hr (pl_name rfl (.inl rfl))) (ed_var rfl (.inr (.inl rfl)))))))
      (es_one (es_ret (ed_vz rfl (.inl rfl))))))
theorem sc_law_rules : FnScope ["_law_state", "_law_scope", "_law_found", "_law_size_here", "_law_many", "_law_item"] ["_law_state", "_law_scope"] (defScope (top 72)) := ⟨rfl, rfl, rfl, by decide +kernel, rfl, by decide +kernel, by decide +kernel⟩
theorem ok_law_rules (h : Fk P w K mg base G) : Cal P w K mg base G "_law_rules" 2 m_law_rules ["_law_state", "_law_scope"] [true, false] := Cal.of h.d_law_rules h.g_law_rules sc_law_rules rfl (fun _ _ _ _ _ _ us hl => match us, hl with | [_, _], _ => rfl) (fun _ _ _ _ _ _ us hl => match us, hl with | [_, _], _ => rfl) fun fd cdv A outer s H E F hc hr =>
    (es_cons (es_set rfl sc_law_rules.nd rfl (.inl rfl) (ed_lst ea_nil))
      (es_cons (es_for own_def rfl (ei_zip rfl h.b_zip (ea_cons (ed_ix (op_dIx hr) sp_dIx (ed_var rfl (.inl rfl)) ed_str (by intro _ _; rfl)) (ea_cons (ed_ix (op_dIx hr) sp_dIx (ed_var rfl (.inl rfl)) ed_str (by intro _ _; rfl)) ea_nil))) (eg_tup rfl (egs_cons (eg_name rfl sc_law_rules.nd rfl (.inr rfl)) (egs_cons (eg_name rfl sc_law_rules.nd rfl (.inl rfl)) egs_nil))) (es_one (es_expr (ed_meth PySem.F.plainAttrs_list PySem.F.slot_list_append PySem.F.type_list_append mt_append sp_mApp rfl (.inl rfl) (ea_cons (ed_ct call_tuple_of sp_dTuple rfl h.b_tuple rfl (ea_cons (ed_fz (ed_lc (own := [("_law_item", 5)]) rfl sc_law_rules.nd (ei_rng1 rfl h.b_range (ea_cons (ed_var rfl (.inl rfl)) ea_nil)) (blkOk_by rfl) (fun _ _ _ _ _ => (eg_name rfl sc_law_rules.nd rfl (.inl rfl))) (fun _ _ _ _ _ => tests_yes) (fun _ _ _ _ _ => (ed_cl (ok_law_draw h) hr takes_blk (em_mut rfl (.inr (.inl rfl)) (em_cons (ed_var rfl (.inr (.inl rfl))) em_nil)))))) ea_nil)) ea_nil)))))
      (es_one (es_ret (ed_ct call_tuple_of sp_dTuple rfl h.b_tuple rfl (ea_cons (ed_vz rfl (.inl rfl)) ea_nil))))))
theorem sc_law_stories : FnScope ["_law_scope", "_law_rules_here", "_law_row"] ["_law_scope", "_law_rules_here"] (defScope (top 74)) := ⟨rfl, rfl, rfl, by decide +kernel, rfl, by decide +kernel, by decide +kernel⟩
theorem ok_law_stories (h : Fk P w K mg base G) : Cal P w K mg base G "_law_stories" 2 m_law_stories ["_law_scope", "_law_rules_here"] [false, false] := Cal.of h.d_law_stories h.g_law_stories sc_law_stories rfl (fun _ _ _ _ _ _ us hl => match us, hl with | [_, _], _ => rfl) (fun _ _ _ _ _ _ us hl => match us, hl with | [_, _], _ => rfl) fun fd cdv A outer s H E F hc hr =>
    (es_one (es_ret (ed_fz (ed_lc (own := [("_law_row", 2)]) rfl sc_law_stories.nd (ei_seq (ed_cl (ok_law_rows h) hr takes_def (em_cons (ed_ix (op_dIx hr) sp_dIx (ed_var rfl (.inr (.inl rfl))) ed_str (by intro _ _; rfl)) em_nil))) (blkOk_by rfl) (fun _ _ _ _ _ => (eg_name rfl sc_law_stories.nd rfl (.inl rfl))) (fun _ _ _ _ _ => (tests_one (et_cmp (op_dEq hr) sp_dEq (ed_cl (ok_law_answer h) hr takes_blk (em_cons (ed_var rfl (.inr (.inl rfl))) (em_cons (ed_var rfl (.inr (.inl rfl))) (em_cons (ed_var rfl (.inl rfl)) em_nil)))) (ed_var rfl (.inl rfl)) (nomark _)))) (fun _ _ _ _ _ => (ed_var rfl (.inl rfl)))))))
end On

set_option Elab.async false
set_option linter.all false
set_option maxRecDepth 100000
set_option maxHeartbeats 4000000
namespace On
open PySem PySem.Spec PyProof.Rows L2
variable {P : Program} {w : World} {K : PySem.W.Frag} {mg : Str → Option Value} {base : Heap} {G : Gs}
theorem sc_law_pairs : FnScope ["_law_scope", "_law_rows_here", "_law_found", "_law_spot", "_law_one", "_law_other"] ["_law_scope"] (defScope (top 76)) := ⟨rfl, rfl, rfl, by decide +kernel, rfl, by decide +kernel, by decide +kernel⟩
theorem ok_law_pairs (h : Fk P w K mg base G) : Cal P w K mg base G "_law_pairs" 2 m_law_pairs ["_law_scope"] [false] := Cal.of h.d_law_pairs h.g_law_pairs sc_law_pairs rfl (fun _ _ _ _ _ _ us hl => match us, hl with | [_], _ => rfl) (fun _ _ _ _ _ _ us hl => match us, hl with | [_], _ => rfl) fun fd cdv A outer s H E F hc hr =>
    (es_cons (es_par rfl rfl rfl sc_law_pairs.nd rfl rfl (by decide) rfl rfl (ea_cons (ed_cl (ok_law_rows h) hr takes_def (em_cons (ed_ix (op_dIx hr) sp_dIx (ed_var rfl (.inl rfl)) ed_str (by intro _ _; rfl)) em_nil)) (ea_cons (ed_fz (ed_lst ea_nil)) ea_nil)) rfl)
      (es_cons (es_for own_def rfl (ei_enum rfl h.b_enumerate (ea_cons (ed_var rfl (.inl rfl)) ea_nil)) (eg_tup rfl (egs_cons (eg_name rfl sc_law_pairs.nd rfl (.inl rfl)) (egs_cons (eg_name rfl sc_law_pairs.nd rfl (.inr rfl)) egs_nil))) (es_one (es_set rfl sc_law_pairs.nd rfl (.inl rfl) (ed_fz (ed_op op_dAdd sp_dAdd (ed_var rfl (.inl rfl)) (ed_fz (ed_lc (own := [("_law_other", 5)]) rfl sc_law_pairs.nd (ei_seq (ed_fz (ed_cut sl_dCut sp_dCut (ed_var rfl (.inl rfl)) (eo_some (E := WD E) (ed_fz (ed_op op_dAdd sp_dAdd (ed_var rfl (.inl rfl)) ed_int))) eo_none))) (blkOk_by rfl) (fun _ _ _ _ _ => (eg_name rfl sc_law_pairs.nd rfl (.inl rfl))) (fun _ _ _ _ _ => tests_yes) (fun _ _ _ _ _ => (ed_tup (ea_cons (ed_var rfl (.inr (.inl rfl))) (ea_cons (ed_var rfl (.inl rfl)) ea_nil)))))))))))
      (es_one (es_ret (ed_var rfl (.inl rfl))))))
theorem sc_law_is_row : FnScope ["_law_item", "_law_sizes_here", "_law_part_here", "_law_size_here"] ["_law_item", "_law_sizes_here"] (defScope (top 78)) := ⟨rfl, rfl, rfl, by decide +kernel, rfl, by decide +kernel, by decide +kernel⟩
theorem ok_law_is_row (h : Fk P w K mg base G) : Cal P w K mg base G "_law_is_row" 2 m_law_is_row ["_law_item", "_law_sizes_here"] [false, false] := Cal.of h.d_law_is_row h.g_law_is_row sc_law_is_row rfl (fun _ _ _ _ _ _ us hl => match us, hl with | [_, _], _ => rfl) (fun _ _ _ _ _ _ us hl => match us, hl with | [_, _], _ => rfl) fun fd cdv A outer s H E F hc hr =>
    (es_cons (es_if (et_w (ew_or (et_not (et_val (ed_isi h.kit rfl h.b_isinstance (ed_var rfl (.inl rfl)) ⟨rfl, by decide, h.b_tuple, rfl, by decide⟩))) (ew_or1 (et_cmp (op_dNe hr) sp_dNe (ed_cb call_len_seq sp_dLen rfl h.b_len rfl (ea_cons (ed_var rfl (.inl rfl)) ea_nil)) (ed_cb call_len_seq sp_dLen rfl h.b_len rfl (ea_cons (ed_var rfl (.inl rfl)) ea_nil)) (nomark _))))) (es_one (es_ret ed_bl)) es_nil)
      (es_one (es_ret (ed_cmp (op_dEq hr) sp_dEq (ed_fz (ed_lc (own := [("_law_part_here", 2), ("_law_size_here", 3)]) rfl sc_law_is_row.nd (ei_zip rfl h.b_zip (ea_cons (ed_var rfl (.inl rfl)) (ea_cons (ed_var rfl (.inl rfl)) ea_nil))) (blkOk_by rfl) (fun _ _ _ _ _ => (eg_tup rfl (egs_cons (eg_name rfl sc_law_is_row.nd rfl (.inl rfl)) (egs_cons (eg_name rfl sc_law_is_row.nd rfl (.inl rfl)) egs_nil)))) (fun _ _ _ _ _ => (tests_one (et_w (ew_or (et_not (et_val (ed_cl (ok_law_is_whole h) hr takes_blk (em_cons (ed_var rfl (.inl rfl)) em_nil)))) (ew_or1 (et_not (et_chain (op_le) (op_lt) sp_dLe sp_dLt ed_int (ed_var rfl (.inl rfl)) (ed_var rfl (.inl rfl))))))))) (fun _ _ _ _ _ => ed_int))) (ed_fz (ed_lst ea_nil)) (nomark _)))))
theorem sc_law_rule : FnScope ["_law_state", "_law_scope", "_law_spot", "_law_item"] ["_law_state", "_law_scope", "_law_spot"] (defScope (top 85)) := ⟨rfl, rfl, rfl, by decide +kernel, rfl, by decide +kernel, by decide +kernel⟩
theorem ok_law_rule (h : Fk P w K mg base G) : Cal P w K mg base G "_law_rule" 2 m_law_rule ["_law_state", "_law_scope", "_law_spot"] [true, false, false] := Cal.of h.d_law_rule h.g_law_rule sc_law_rule rfl (fun _ _ _ _ _ _ us hl => match us, hl with | [_, _, _], _ => rfl) (fun _ _ _ _ _ _ us hl => match us, hl with | [_, _, _], _ => rfl) fun fd cdv A outer s H E F hc hr =>
    (es_one (es_ret (ed_ct call_tuple_of sp_dTuple rfl h.b_tuple rfl (ea_cons (ed_fz (ed_lc (own := [("_law_item", 3)]) rfl sc_law_rule.nd (ei_rng1 rfl h.b_range (ea_cons (ed_ix (op_dIx hr) sp_dIx (ed_ix (op_dIx hr) sp_dIx (ed_var rfl (.inr (.inl rfl))) ed_str (by intro _ _; rfl)) (ed_var rfl (.inr (.inl rfl))) (by intro _ _; rfl)) ea_nil)) (blkOk_by rfl) (fun _ _ _ _ _ => (eg_name rfl sc_law_rule.nd rfl (.inl rfl))) (fun _ _ _ _ _ => tests_yes) (fun _ _ _ _ _ => (ed_cl (ok_law_draw h) hr takes_blk (em_mut rfl (.inr (.inl rfl)) (em_cons (ed_ix (op_dIx hr) sp_dIx (ed_ix (op_dIx hr) sp_dIx (ed_var rfl (.inr (.inl rfl))) ed_str (by intro _ _; rfl)) (ed_var rfl (.inr (.inl rfl))) (by intro _ _; rfl)) em_nil)))))) ea_nil))))
theorem sc_is_row : FnScope ["thing", "sizes", "item", "size"] ["thing", "sizes"] (defScope (top 15)) := ⟨rfl, rfl, rfl, by decide +kernel, rfl, by decide +kernel, by decide +kernel⟩
theorem ok_is_row (h : Fk P w K mg base G) : Cal P w K mg base G "is_row" 3 m_is_row ["thing", "sizes"] [false, false] := Cal.of h.d_is_row h.g_is_row sc_is_row rfl (fun _ _ _ _ _ _ us hl => match us, hl with | [_, _], _ => rfl) (fun _ _ _ _ _ _ us hl => match us, hl with | [_, _], _ => rfl) fun fd cdv A outer s H E F hc hr =>
    (es_cons (es_if (et_w (ew_or (et_not (et_val (ed_isi h.kit rfl h.b_isinstance (ed_var rfl (.inl rfl)) ⟨rfl, by decide, h.b_tuple, rfl, by decide⟩))) (ew_or1 (et_cmp (op_dNe hr) sp_dNe (ed_cb call_len_seq sp_dLen rfl h.b_len rfl (ea_cons (ed_var rfl (.inl rfl)) ea_nil)) (ed_cb call_len_seq sp_dLen rfl h.b_len rfl (ea_cons (ed_var rfl (.inl rfl)) ea_nil)) (nomark _))))) (es_one (es_ret ed_bl)) es_nil)
      (es_one (es_ret (ed_cb (cr_all rfl) sp_dAll rfl h.b_all rfl (ea_cons (ed_fz (ed_lc (own := [("item", 2), ("size", 3)]) rfl sc_is_row.nd (ei_zip rfl h.b_zip (ea_cons (ed_var rfl (.inl rfl)) (ea_cons (ed_var rfl (.inl rfl)) ea_nil))) (blkOk_by rfl) (fun _ _ _ _ _ => (eg_tup rfl (egs_cons (eg_name rfl sc_is_row.nd rfl (.inl rfl)) (egs_cons (eg_name rfl sc_is_row.nd rfl (.inl rfl)) egs_nil)))) (fun _ _ _ _ _ => tests_yes) (fun _ _ _ _ _ => (ed_cl (ok_is_between h) hr takes_blk (em_cons (ed_var rfl (.inl rfl)) (em_cons ed_int (em_cons (ed_op op_sub sp_dSub (ed_var rfl (.inl rfl)) ed_int) em_nil))))))) ea_nil)))))
theorem sc_are_sizes : FnScope ["thing", "size"] ["thing"] (defScope (top 18)) := ⟨rfl, rfl, rfl, by decide +kernel, rfl, by decide +kernel, by decide +kernel⟩
theorem ok_are_sizes (h : Fk P w K mg base G) : Cal P w K mg base G "are_sizes" 3 m_are_sizes ["thing"] [false] := Cal.of h.d_are_sizes h.g_are_sizes sc_are_sizes rfl (fun _ _ _ _ _ _ us hl => match us, hl with | [_], _ => rfl) (fun _ _ _ _ _ _ us hl => match us, hl with | [_], _ => rfl) fun fd cdv A outer s H E F hc hr =>
    (es_cons (es_if (et_w (ew_or (et_not (et_val (ed_isi h.kit rfl h.b_isinstance (ed_var rfl (.inl rfl)) ⟨rfl, by decide, h.b_tuple, rfl, by decide⟩))) (ew_or1 (et_not (et_chain (op_le) (op_le) sp_dLe sp_dLe ed_int (ed_cb call_len_seq sp_dLen rfl h.b_len rfl (ea_cons (ed_var rfl (.inl rfl)) ea_nil)) (ed_gint rfl h.i_MOST_ROOMS)))))) (es_one (es_ret ed_bl)) es_nil)
      (es_one (es_ret (ed_cb (cr_all rfl) sp_dAll rfl h.b_all rfl (ea_cons (ed_fz (ed_lc (own := [("size", 1)]) rfl sc_are_sizes.nd (ei_seq (ed_var rfl (.inl rfl))) (blkOk_by rfl) (fun _ _ _ _ _ => (eg_name rfl sc_are_sizes.nd rfl (.inl rfl))) (fun _ _ _ _ _ => tests_yes) (fun _ _ _ _ _ => (ed_cl (ok_is_between h) hr takes_blk (em_cons (ed_var rfl (.inl rfl)) (em_cons ed_int (em_cons (ed_gint rfl h.i_MOST_SIZE) em_nil))))))) ea_nil)))))
theorem sc_parts_of : FnScope ["table", "told", "found", "at", "one", "here", "sending", "other", "there"] ["table"] (defScope (top 27)) := ⟨rfl, rfl, rfl, by decide +kernel, rfl, by decide +kernel, by decide +kernel⟩
theorem ok_parts_of (h : Fk P w K mg base G) : Cal P w K mg base G "parts_of" 3 m_parts_of ["table"] [false] := Cal.of h.d_parts_of h.g_parts_of sc_parts_of rfl (fun _ _ _ _ _ _ us hl => match us, hl with | [_], _ => rfl) (fun _ _ _ _ _ _ us hl => match us, hl with | [_], _ => rfl) fun fd cdv A outer s H E F hc hr =>
    (es_cons (es_par rfl rfl rfl sc_parts_of.nd rfl rfl (by decide) rfl rfl (ea_cons (ed_fz (ed_lc (own := [("sending", 6)]) rfl sc_parts_of.nd (ei_seq (ed_cl (ok_rows_of h) hr takes_def (em_cons (ed_fld h.c_Table h.a_Table_sends (ed_var rfl (.inr (.inl rfl)))) em_nil))) (blkOk_by rfl) (fun _ _ _ _ _ => (eg_name rfl sc_parts_of.nd rfl (.inl rfl))) (fun _ _ _ _ _ => tests_yes) (fun _ _ _ _ _ => (ed_tup (ea_cons (ed_var rfl (.inl rfl)) (ea_cons (ed_cl (ok_delivery_of h) hr takes_blk (em_cons (ed_var rfl (.inr (.inl rfl))) (em_cons (ed_var rfl (.inl rfl)) em_nil))) ea_nil)))))) (ea_cons (ed_lst ea_nil) ea_nil)) rfl)
      (es_cons (es_for own_def rfl (ei_enum rfl h.b_enumerate (ea_cons (ed_var rfl (.inl rfl)) ea_nil)) (eg_tup rfl (egs_cons (eg_name rfl sc_parts_of.nd rfl (.inl rfl)) (egs_cons (eg_tup rfl (egs_cons (eg_name rfl sc_parts_of.nd rfl (.inr rfl)) (egs_cons (eg_name rfl sc_parts_of.nd rfl (.inr rfl)) egs_nil))) egs_nil))) (es_one (es_expr (ed_meth PySem.F.plainAttrs_list PySem.F.slot_list_extend PySem.F.type_list_extend mt_extend sp_mExt rfl (.inl rfl) (ea_cons (ed_fz (ed_lc (own := [("other", 7), ("there", 8)]) rfl sc_parts_of.nd (ei_seq (ed_fz (ed_cut sl_dCut sp_dCut (ed_var rfl (.inl rfl)) (eo_some (E := WD E) (ed_fz (ed_op op_dAdd sp_dAdd (ed_var rfl (.inl rfl)) ed_int))) eo_none))) (blkOk_by rfl) (fun _ _ _ _ _ => (eg_tup rfl (egs_cons (eg_name rfl sc_parts_of.nd rfl (.inl rfl)) (egs_cons (eg_name rfl sc_parts_of.nd rfl (.inl rfl)) egs_nil)))) (fun _ _ _ _ _ => tests_yes) (fun _ _ _ _ _ => (ed_tup (ea_cons (ed_tup (ea_cons (ed_var rfl (.inr (.inl rfl))) (ea_cons (ed_var rfl (.inl rfl)) ea_nil))) (ea_cons (ed_cl (ok_part_of h) hr takes_blk (em_cons (ed_var rfl (.inr (.inl rfl))) (em_cons (ed_var rfl (.inl rfl)) (em_cons (ed_var rfl (.inr (.inl rfl))) (em_cons (ed_var rfl (.inl rfl)) em_nil))))) ea_nil)))))) ea_nil)))))
      (es_one (es_ret (ed_vz rfl (.inl rfl))))))
theorem sc_answer_of : FnScope ["table", "rules", "sending", "rule", "note"] ["table", "rules", "sending"] (defScope (top 33)) := ⟨rfl, rfl, rfl, by decide +kernel, rfl, by decide +kernel, by decide +kernel⟩
theorem ok_answer_of (h : Fk P w K mg base G) : Cal P w K mg base G "answer_of" 3 m_answer_of ["table", "rules", "sending"] [false, false, false] := Cal.of h.d_answer_of h.g_answer_of sc_answer_of rfl (fun _ _ _ _ _ _ us hl => match us, hl with | [_, _, _], _ => rfl) (fun _ _ _ _ _ _ us hl => match us, hl with | [_, _, _], _ => rfl) fun fd cdv A outer s H E F hc hr =>
    (es_one (es_ret (ed_ct call_tuple_of sp_dTuple rfl h.b_tuple rfl (ea_cons (ed_fz (ed_lc (own := [("rule", 3), ("note", 4)]) rfl sc_answer_of.nd (ei_zip rfl h.b_zip (ea_cons (ed_var rfl (.inl rfl)) (ea_cons (ed_cl (ok_delivery_of h) hr takes_def (em_cons (ed_var rfl (.inl rfl)) (em_cons (ed_var rfl (.inl rfl)) em_nil))) ea_nil))) (blkOk_by rfl) (fun _ _ _ _ _ => (eg_tup rfl (egs_cons (eg_name rfl sc_answer_of.nd rfl (.inl rfl)) (egs_cons (eg_name rfl sc_answer_of.nd rfl (.inl rfl)) egs_nil)))) (fun _ _ _ _ _ => tests_yes) (fun _ _ _ _ _ => (ed_ix (op_dIx hr) sp_dIx (ed_var rfl (.inl rfl)) (ed_var rfl (.inl rfl)) (by intro _ _; rfl))))) ea_nil))))
theorem sc_rule_for : FnScope ["table", "room", "one", "other", "here", "there"] ["table", "room", "one", "other"] (defScope (top 37)) := ⟨rfl, rfl, rfl, by decide +kernel, rfl, by decide +kernel, by decide +kernel⟩
theorem ok_rule_for (h : Fk P w K mg base G) : Cal P w K mg base G "rule_for" 3 m_rule_for ["table", "room", "one", "other"] [false, false, false, false] := Cal.of h.d_rule_for h.g_rule_for sc_rule_for rfl (fun _ _ _ _ _ _ us hl => match us, hl with | [_, _, _, _], _ => rfl) (fun _ _ _ _ _ _ us hl => match us, hl with | [_, _, _, _], _ => rfl) fun fd cdv A outer s H E F hc hr =>
    (es_cons (es_par rfl rfl rfl sc_rule_for.nd rfl rfl (by decide) rfl rfl (ea_cons (ed_ix (op_dIx hr) sp_dIx (ed_cl (ok_delivery_of h) hr takes_def (em_cons (ed_var rfl (.inl rfl)) (em_cons (ed_var rfl (.inl rfl)) em_nil))) (ed_var rfl (.inl rfl)) (by intro _ _; rfl)) (ea_cons (ed_ix (op_dIx hr) sp_dIx (ed_cl (ok_delivery_of h) hr takes_def (em_cons (ed_var rfl (.inl rfl)) (em_cons (ed_var rfl (.inl rfl)) em_nil))) (ed_var rfl (.inl rfl)) (by intro _ _; rfl)) ea_nil)) rfl)
      (es_one (es_ret (ed_cl (ok_rule_through h) hr takes_def (em_cons (ed_ix (op_dIx hr) sp_dIx (ed_fld h.c_Table h.a_Table_takes (ed_var rfl (.inl rfl))) (ed_var rfl (.inl rfl)) (by intro _ _; rfl)) (em_cons (ed_tup (ea_cons (ed_var rfl (.inl rfl)) (ea_cons (ed_ix (op_dIx hr) sp_dIx (ed_var rfl (.inl rfl)) (ed_var rfl (.inl rfl)) (by intro _ _; rfl)) ea_nil))) (em_cons (ed_tup (ea_cons (ed_var rfl (.inl rfl)) (ea_cons (ed_ix (op_dIx hr) sp_dIx (ed_var rfl (.inl rfl)) (ed_var rfl (.inl rfl)) (by intro _ _; rfl)) ea_nil))) em_nil)))))))
end On

set_option Elab.async false
set_option linter.all false
set_option maxRecDepth 100000
set_option maxHeartbeats 4000000
namespace On
open PySem PySem.Spec PyProof.Rows L2
variable {P : Program} {w : World} {K : PySem.W.Frag} {mg : Str → Option Value} {base : Heap} {G : Gs}
theorem sc_parting_of : FnScope ["table", "one", "other", "here", "there", "room"] ["table", "one", "other"] (defScope (top 43)) := ⟨rfl, rfl, rfl, by decide +kernel, rfl, by decide +kernel, by decide +kernel⟩
theorem ok_parting_of (h : Fk P w K mg base G) : Cal P w K mg base G "parting_of" 3 m_parting_of ["table", "one", "other"] [false, false, false] := Cal.of h.d_parting_of h.g_parting_of sc_parting_of rfl (fun _ _ _ _ _ _ us hl => match us, hl with | [_, _, _], _ => rfl) (fun _ _ _ _ _ _ us hl => match us, hl with | [_, _, _], _ => rfl) fun fd cdv A outer s H E F hc hr =>
    (es_cons (es_asg (ed_tup (ea_cons (ed_cl (ok_delivery_of h) hr takes_def (em_cons (ed_var rfl (.inl rfl)) (em_cons (ed_var rfl (.inr (.inl rfl))) em_nil))) (ea_cons (ed_cl (ok_delivery_of h) hr takes_def (em_cons (ed_var rfl (.inl rfl)) (em_cons (ed_var rfl (.inr (.inl rfl))) em_nil))) ea_nil))) (eg_tup rfl (egs_cons (eg_name rfl sc_parting_of.nd rfl (.inr rfl)) (egs_cons (eg_name rfl sc_parting_of.nd rfl (.inr rfl)) egs_nil))))
      (es_one (es_ret (ed_ct call_tuple_of sp_dTuple rfl h.b_tuple rfl (ea_cons (ed_fz (ed_lc (own := [("room", 5)]) rfl sc_parting_of.nd (ei_rng1 rfl h.b_range (ea_cons (ed_cb call_len_seq sp_dLen rfl h.b_len rfl (ea_cons (ed_var rfl (.inr (.inl rfl))) ea_nil)) ea_nil)) (blkOk_by rfl) (fun _ _ _ _ _ => (eg_name rfl sc_parting_of.nd rfl (.inl rfl))) (fun _ _ _ _ _ => (tests_one (et_w (ew_and (et_cmp (op_dNe hr) sp_dNe (ed_ix (op_dIx hr) sp_dIx (ed_var rfl (.inr (.inl rfl))) (ed_var rfl (.inl rfl)) (by intro _ _; rfl)) (ed_ix (op_dIx hr) sp_dIx (ed_var rfl (.inr (.inl rfl))) (ed_var rfl (.inl rfl)) (by intro _ _; rfl)) (nomark _)) (ew_and1 (et_cmp (op_dEq hr) sp_dEq (ed_ix (op_dIx hr) sp_dIx (ed_var rfl (.inr (.inl rfl))) (ed_var rfl (.inl rfl)) (by intro _ _; rfl)) (ed_ix (op_dIx hr) sp_dIx (ed_var rfl (.inr (.inl rfl))) (ed_var rfl (.inl rfl)) (by intro _ _; rfl)) (nomark _))))))) (fun _ _ _ _ _ => (ed_var rfl (.inl rfl))))) ea_nil)))))
theorem sc_law_odd : FnScope ["_law_state"] ["_law_state"] (defScope (top 58)) := ⟨rfl, rfl, rfl, by decide +kernel, rfl, by decide +kernel, by decide +kernel⟩
theorem ok_law_odd (h : Fk P w K mg base G) : Cal P w K mg base G "_law_odd" 3 m_law_odd ["_law_state"] [true] := Cal.of h.d_law_odd h.g_law_odd sc_law_odd rfl (fun _ _ _ _ _ _ us hl => match us, hl with | [_], _ => rfl) (fun _ _ _ _ _ _ us hl => match us, hl with | [_], _ => rfl) fun fd cdv A outer s H E F hc hr =>
    (es_one (es_ret (ed_cl (ok_law_pick h) hr takes_def (em_mut rfl (.inl rfl) (em_cons (ed_fz (ed_lst (ea_cons ed_non (ea_cons ed_bl (ea_cons ed_bl (ea_cons ed_str (ea_cons ed_str (ea_cons (ed_fz (ed_lst ea_nil)) (ea_cons (ed_fz ed_newK) (ea_cons (ed_tup (ea_cons ed_non ea_nil)) (ea_cons (ed_tup (ea_cons ed_str (ea_cons ed_int ea_nil))) (ea_cons (ed_fz (ed_lst (ea_cons (ed_fz (ed_lst (ea_cons ed_int ea_nil))) ea_nil))) (ea_cons (ed_fz (ed_disp (pps_cons ed_int ed_int pps_nil))) (ea_cons (ed_tup (ea_cons ed_bl ea_nil)) ea_nil)))))))))))))) em_nil)))))
theorem sc_law_sizes : FnScope ["_law_state"] ["_law_state"] (defScope (top 60)) := ⟨rfl, rfl, rfl, by decide +kernel, rfl, by decide +kernel, by decide +kernel⟩
theorem ok_law_sizes (h : Fk P w K mg base G) : Cal P w K mg base G "_law_sizes" 3 m_law_sizes ["_law_state"] [true] := Cal.of h.d_law_sizes h.g_law_sizes sc_law_sizes rfl (fun _ _ _ _ _ _ us hl => match us, hl with | [_], _ => rfl) (fun _ _ _ _ _ _ us hl => match us, hl with | [_], _ => rfl) fun fd cdv A outer s H E F hc hr =>
    (es_one (es_ret (ed_cl (ok_law_pick h) hr takes_def (em_mut rfl (.inl rfl) (em_cons (ed_fz (ed_lst (ea_cons (ed_tup (ea_cons ed_int (ea_cons ed_int ea_nil))) (ea_cons (ed_tup (ea_cons ed_int (ea_cons ed_int (ea_cons ed_int ea_nil)))) (ea_cons (ed_tup (ea_cons ed_int (ea_cons ed_int (ea_cons ed_int ea_nil)))) (ea_cons (ed_tup (ea_cons ed_int (ea_cons ed_int ea_nil))) (ea_cons (ed_tup (ea_cons ed_int (ea_cons ed_int (ea_cons ed_int ea_nil)))) (ea_cons (ed_tup (ea_cons ed_int (ea_cons ed_int (ea_cons ed_int ea_nil)))) (ea_cons (ed_tup (ea_cons ed_int (ea_cons ed_int ea_nil))) (ea_cons (ed_tup (ea_cons ed_int ea_nil)) (ea_cons (ed_tup (ea_cons ed_int (ea_cons ed_int (ea_cons ed_int (ea_cons ed_int ea_nil))))) (ea_cons (ed_tup (ea_cons ed_int (ea_cons ed_int (ea_cons ed_int ea_nil)))) ea_nil)))))))))))) em_nil)))))
theorem sc_law_some_takes : FnScope ["_law_state", "_law_sends_here", "_law_size_here"] ["_law_state", "_law_sends_here"] (defScope (top 61)) := ⟨rfl, rfl, rfl, by decide +kernel, rfl, by decide +kernel, by decide +kernel⟩
theorem ok_law_some_takes (h : Fk P w K mg base G) : Cal P w K mg base G "_law_some_takes" 3 m_law_some_takes ["_law_state", "_law_sends_here"] [true, false] := Cal.of h.d_law_some_takes h.g_law_some_takes sc_law_some_takes rfl (fun _ _ _ _ _ _ us hl => match us, hl with | [_, _], _ => rfl) (fun _ _ _ _ _ _ us hl => match us, hl with | [_, _], _ => rfl) fun fd cdv A outer s H E F hc hr =>
    (es_one (es_ret (ed_ct call_tuple_of sp_dTuple rfl h.b_tuple rfl (ea_cons (ed_fz (ed_lc (own := [("_law_size_here", 2)]) rfl sc_law_some_takes.nd (ei_seq (ed_var rfl (.inl rfl))) (blkOk_by rfl) (fun _ _ _ _ _ => (eg_name rfl sc_law_some_takes.nd rfl (.inl rfl))) (fun _ _ _ _ _ => tests_yes) (fun _ _ _ _ _ => (ed_cl (ok_law_pick h) hr takes_blk (em_mut rfl (.inr (.inl rfl)) (em_cons (ed_fz (ed_lst (ea_cons ed_int (ea_cons ed_int (ea_cons ed_int (ea_cons ed_int (ea_cons ed_int (ea_cons ed_int ea_nil)))))))) em_nil)))))) ea_nil))))
theorem sc_law_map : FnScope ["_law_state", "_law_many", "_law_old", "_law_item"] ["_law_state", "_law_many", "_law_old"] (defScope (top 65)) := ⟨rfl, rfl, rfl, by decide +kernel, rfl, by decide +kernel, by decide +kernel⟩
theorem ok_law_map (h : Fk P w K mg base G) : Cal P w K mg base G "_law_map" 3 m_law_map ["_law_state", "_law_many", "_law_old"] [true, false, false] := Cal.of h.d_law_map h.g_law_map sc_law_map rfl (fun _ _ _ _ _ _ us hl => match us, hl with | [_, _, _], _ => rfl) (fun _ _ _ _ _ _ us hl => match us, hl with | [_, _, _], _ => rfl) fun fd cdv A outer s H E F hc hr =>
    (es_cons (es_if (et_cmp (op_dEq hr) sp_dEq (ed_cl (ok_law_draw h) hr takes_def (em_mut rfl (.inr (.inl rfl)) (em_cons ed_int em_nil))) ed_int (nomark _)) (es_one (es_ret (ed_fz (ed_lc (own := [("_law_item", 3)]) rfl sc_law_map.nd (ei_rng1 rfl h.b_range (ea_cons (ed_var rfl (.inl rfl)) ea_nil)) (blkOk_by rfl) (fun _ _ _ _ _ => (eg_name rfl sc_law_map.nd rfl (.inl rfl))) (fun _ _ _ _ _ => tests_yes) (fun _ _ _ _ _ => (ed_cl (ok_law_draw h) hr takes_blk (em_mut rfl (.inr (.inl rfl)) (em_cons (ed_var rfl (.inr (.inl rfl))) em_nil)))))))) es_nil)
      (es_one (es_ret (ed_cl (ok_law_mixed h) hr takes_def (em_mut rfl (.inr (.inl rfl)) (em_cons (ed_fz (ed_cut sl_dCut sp_dCut (ed_fz (ed_op op_dAdd sp_dAdd (ed_cl (ok_law_mixed h) hr takes_def (em_mut rfl (.inr (.inl rfl)) (em_cons (ed_fz (ed_listR rfl rfl h.b_list rfl h.b_range (ed_var rfl (.inr (.inl rfl))))) em_nil))) (ed_fz (ed_lc (own := [("_law_item", 3)]) rfl sc_law_map.nd (ei_rng1 rfl h.b_range (ea_cons (ed_var rfl (.inl rfl)) ea_nil)) (blkOk_by rfl) (fun _ _ _ _ _ => (eg_name rfl sc_law_map.nd rfl (.inl rfl))) (fun _ _ _ _ _ => tests_yes) (fun _ _ _ _ _ => (ed_cl (ok_law_draw h) hr takes_blk (em_mut rfl (.inr (.inl rfl)) (em_cons (ed_var rfl (.inr (.inl rfl))) em_nil)))))))) eo_none (eo_some (E := WD E) (ed_var rfl (.inl rfl))))) em_nil))))))
theorem sc_law_rooms_mixed : FnScope ["_law_state", "_law_scope", "_law_order", "_law_found", "_law_row", "_law_notes_here", "_law_spot"] ["_law_state", "_law_scope"] (defScope (top 68)) := ⟨rfl, rfl, rfl, by decide +kernel, rfl, by decide +kernel, by decide +kernel⟩
theorem ok_law_rooms_mixed (h : Fk P w K mg base G) : Cal P w K mg base G "_law_rooms_mixed" 3 m_law_rooms_mixed ["_law_state", "_law_scope"] [true, false] := Cal.of h.d_law_rooms_mixed h.g_law_rooms_mixed sc_law_rooms_mixed rfl (fun _ _ _ _ _ _ us hl => match us, hl with | [_, _], _ => rfl) (fun _ _ _ _ _ _ us hl => match us, hl with | [_, _], _ => rfl) fun fd cdv A outer s H E F hc hr =>
    (es_cons (es_set rfl sc_law_rooms_mixed.nd rfl (.inl rfl) (ed_cl (ok_law_mixed h) hr takes_def (em_mut rfl (.inl rfl) (em_cons (ed_fz (ed_listR rfl rfl h.b_list rfl h.b_range (ed_cb call_len_seq sp_dLen rfl h.b_len rfl (ea_cons (ed_ix (op_dIx hr) sp_dIx (ed_var rfl (.inr (.inl rfl))) ed_str (by intro _ _; rfl)) ea_nil)))) em_nil))))
      (es_cons (es_set rfl sc_law_rooms_mixed.nd rfl (.inl rfl) (ed_disp (pps_cons ed_str (ed_ct call_tuple_of sp_dTuple rfl h.b_tuple rfl (ea_cons (ed_fz (ed_lc (own := [("_law_spot", 6)]) rfl sc_law_rooms_mixed.nd (ei_seq (ed_var rfl (.inl rfl))) (blkOk_by rfl) (fun _ _ _ _ _ => (eg_name rfl sc_law_rooms_mixed.nd rfl (.inl rfl))) (fun _ _ _ _ _ => tests_yes) (fun _ _ _ _ _ => (ed_ix (op_dIx hr) sp_dIx (ed_ix (op_dIx hr) sp_dIx (ed_var rfl (.inr (.inl rfl))) ed_str (by intro _ _; rfl)) (ed_var rfl (.inl rfl)) (by intro _ _; rfl))))) ea_nil)) (pps_cons ed_str (ed_ct call_tuple_of sp_dTuple rfl h.b_tuple rfl (ea_cons (ed_fz (ed_lc (own := [("_law_spot", 6)]) rfl sc_law_rooms_mixed.nd (ei_seq (ed_var rfl (.inl rfl))) (blkOk_by rfl) (fun _ _ _ _ _ => (eg_name rfl sc_law_rooms_mixed.nd rfl (.inl rfl))) (fun _ _ _ _ _ => tests_yes) (fun _ _ _ _ _ => (ed_ix (op_dIx hr) sp_dIx (ed_ix (op_dIx hr) sp_dIx (ed_var rfl (.inr (.inl rfl))) ed_str (by intro _ _; rfl)) (ed_var rfl (.inl rfl)) (by intro _ _; rfl))))) ea_nil)) pps_nil))))
      (es_cons (es_asg ed_newT (eg_put (E := WD E) hr (pl_name rfl (.inl rfl)) ed_str))
      (es_cons (es_for own_def rfl (ei_seq (ed_ix (op_dIx hr) sp_dIx (ed_var rfl (.inr (.inl rfl))) ed_str (by intro _ _; rfl))) (eg_name rfl sc_law_rooms_mixed.nd rfl (.inr rfl)) (es_cons (es_set rfl sc_law_rooms_mixed.nd rfl (.inr rfl) (ed_ix (op_dIx hr) sp_dIx (ed_ix (op_dIx hr) sp_dIx (ed_var rfl (.inr (.inl rfl))) ed_str (by intro _ _; rfl)) (ed_var rfl (.inr (.inl rfl))) (by intro _ _; rfl)))
      (es_one (es_asg (ed_ct call_tuple_of sp_dTuple rfl h.b_tuple rfl (ea_cons (ed_fz (ed_lc (own := [("_law_spot", 6)]) rfl sc_law_rooms_mixed.nd (ei_seq (ed_var rfl (.inl rfl))) (blkOk_by rfl) (fun _ _ _ _ _ => (eg_name rfl sc_law_rooms_mixed.nd rfl (.inl rfl))) (fun _ _ _ _ _ => tests_yes) (fun _ _ _ _ _ => (ed_ix (op_dIx hr) sp_dIx (ed_var rfl (.inr (.inl rfl))) (ed_var rfl (.inl rfl)) (by intro _ _; rfl))))) ea_nil)) (eg_put (E := WD E) hr (pl_key hr (pl_name rfl (.inl rfl))) (ed_ct call_tuple_of sp_dTuple rfl h.b_tuple rfl (ea_cons (ed_fz (ed_lc (own := [("_law_spot", 6)]) rfl sc_law_rooms_mixed.nd (ei_seq (ed_var rfl (.inl rfl))) (blkOk_by rfl) (fun _ _ _ _ _ => (eg_name rfl sc_law_rooms_mixed.nd rfl (.inl rfl))) (fun _ _ _ _ _ => tests_yes) (fun _ _ _ _ _ => (ed_ix (op_dIx hr) sp_dIx (ed_var rfl (.inr (.inl rfl))) (ed_var rfl (.inl rfl)) (by intro _ _; rfl))))) ea_nil)))))))
      (es_one (es_ret (ed_vz rfl (.inl rfl))))))))
theorem sc_law_near : FnScope ["_law_state", "_law_scope", "_law_found", "_law_lap", "_law_told", "_law_row", "_law_spot"] ["_law_state", "_law_scope"] (defScope (top 70)) := ⟨rfl, rfl, rfl, by decide +kernel, rfl, by decide +kernel, by decide +kernel⟩
theorem ok_law_near (h : Fk P w K mg base G) : Cal P w K mg base G "_law_near" 3 m_law_near ["_law_state", "_law_scope"] [true, false] := Cal.of h.d_law_near h.g_law_near sc_law_near rfl (fun _ _ _ _ _ _ us hl => match us, hl with | [_, _], _ => rfl) (fun _ _ _ _ _ _ us hl => match us, hl with | [_, _], _ => rfl) fun fd cdv A outer s H E F hc hr =>
    (es_cons (es_set rfl sc_law_near.nd rfl (.inl rfl) (ed_disp (pps_cons ed_str (ed_ix (op_dIx hr) sp_dIx (ed_var rfl (.inl rfl)) ed_str (by intro _ _; rfl)) (pps_cons ed_str (ed_ix (op_dIx hr) sp_dIx (ed_var rfl (.inl rfl)) ed_str (by intro _ _; rfl)) (pps_cons ed_str (ed_ct (call_dictX hr) sp_dDict rfl h.b_dict rfl (ea_cons (ed_ix (op_dIx hr) sp_dIx (ed_var rfl (.inl rfl)) ed_str (by intro _ _; rfl)) ea_nil)) pps_nil)))))
      (es_cons (es_for own_def rfl (ei_rng1 rfl h.b_range (ea_cons (ed_fz (ed_op op_dAdd sp_dAdd ed_int (ed_cl (ok_law_draw h) hr takes_def (em_mut rfl (.inl rfl) (em_cons ed_int em_nil))))) ea_nil)) (eg_name rfl sc_law_near.nd rfl (.inl rfl)) (es_cons (es_par rfl rfl rfl sc_law_near.nd rfl rfl (by decide) rfl rfl (ea_cons (ed_cl (ok_law_pick h) hr takes_def (em_mut rfl (.inl rfl) (em_cons (ed_cl (ok_law_rows h) hr takes_def (em_cons (ed_ix (op_dIx hr) sp_dIx (ed_var rfl (.inl rfl)) ed_str (by intro _ _; rfl)) em_nil)) em_nil))) (ea_cons (ed_cl (ok_law_draw h) hr takes_def (em_mut rfl (.inl rfl) (em_cons (ed_cb call_len_seq sp_dLen rfl h.b_len rfl (ea_cons (ed_ix (op_dIx hr) sp_dIx (ed_var rfl (.inl rfl)) ed_str (by intro _ _; rfl)) ea_nil)) em_nil))) ea_nil)) rfl)
      (es_cons (es_set rfl sc_law_near.nd rfl (.inl rfl) (ed_ixP (op_dIx hr) sp_dIx (pl_key hr (pl_name rfl (.inl rfl))) (ed_var rfl (.inl rfl)) (by intro _ _; rfl)))
      (es_one (es_asg (ed_fz (ed_op op_dAdd sp_dAdd (ed_fz (ed_op op_dAdd sp_dAdd (ed_fz (ed_cut sl_dCut sp_dCut (ed_var rfl (.inl rfl)) eo_none (eo_some (E := WD E) (ed_var rfl (.inl rfl))))) (ed_tup (ea_cons (ed_cl (ok_law_draw h) hr takes_def (em_mut rfl (.inl rfl) (em_cons (ed_ix (op_dIx hr) sp_dIx (ed_ix (op_dIx hr) sp_dIx (ed_var rfl (.inl rfl)) ed_str (by intro _ _; rfl)) (ed_var rfl (.inl rfl)) (by intro _ _; rfl)) em_nil))) ea_nil)))) (ed_fz (ed_cut sl_dCut sp_dCut (ed_var rfl (.inl rfl)) (eo_some (E := WD E) (ed_fz (ed_op op_dAdd sp_dAdd (ed_var rfl (.inl rfl)) ed_int))) eo_none)))) (eg_put (E := WD E) hr (pl_key hr (pl_name rfl (.inl rfl))) (ed_var rfl (.inl rfl))))))))
      (es_one (es_ret (ed_vz rfl (.inl rfl))))))
theorem sc_law_unparted : FnScope ["_law_scope", "_law_pair"] ["_law_scope"] (defScope (top 77)) := ⟨rfl, rfl, rfl, by decide +kernel, rfl, by decide +kernel, by decide +kernel⟩
theorem ok_law_unparted (h : Fk P w K mg base G) : Cal P w K mg base G "_law_unparted" 3 m_law_unparted ["_law_scope"] [false] := Cal.of h.d_law_unparted h.g_law_unparted sc_law_unparted rfl (fun _ _ _ _ _ _ us hl => match us, hl with | [_], _ => rfl) (fun _ _ _ _ _ _ us hl => match us, hl with | [_], _ => rfl) fun fd cdv A outer s H E F hc hr =>
    (es_one (es_ret (ed_fz (ed_lc (own := [("_law_pair", 1)]) rfl sc_law_unparted.nd (ei_seq (ed_cl (ok_law_pairs h) hr takes_def (em_cons (ed_var rfl (.inr (.inl rfl))) em_nil))) (blkOk_by rfl) (fun _ _ _ _ _ => (eg_name rfl sc_law_unparted.nd rfl (.inl rfl))) (fun _ _ _ _ _ => (tests_one (et_cmp (op_dEq hr) sp_dEq (ed_cl (ok_law_parts h) hr takes_blk (em_cons (ed_var rfl (.inr (.inl rfl))) (em_cons (ed_ix (op_dIx hr) sp_dIx (ed_var rfl (.inl rfl)) ed_int (by intro _ _; rfl)) (em_cons (ed_ix (op_dIx hr) sp_dIx (ed_var rfl (.inl rfl)) ed_int (by intro _ _; rfl)) em_nil)))) (ed_fz (ed_lst ea_nil)) (nomark _)))) (fun _ _ _ _ _ => (ed_var rfl (.inl rfl)))))))
end On

set_option Elab.async false
set_option linter.all false
set_option maxRecDepth 100000
set_option maxHeartbeats 4000000
namespace On
open PySem PySem.Spec PyProof.Rows L2
variable {P : Program} {w : World} {K : PySem.W.Frag} {mg : Str → Option Value} {base : Heap} {G : Gs}
theorem sc_law_bool_row : FnScope ["_law_state", "_law_row", "_law_spots_here", "_law_spot", "_law_item"] ["_law_state", "_law_row"] (defScope (top 79)) := ⟨rfl, rfl, rfl, by decide +kernel, rfl, by decide +kernel, by decide +kernel⟩
theorem ok_law_bool_row (h : Fk P w K mg base G) : Cal P w K mg base G "_law_bool_row" 3 m_law_bool_row ["_law_state", "_law_row"] [true, false] := Cal.of h.d_law_bool_row h.g_law_bool_row sc_law_bool_row rfl (fun _ _ _ _ _ _ us hl => match us, hl with | [_, _], _ => rfl) (fun _ _ _ _ _ _ us hl => match us, hl with | [_, _], _ => rfl) fun fd cdv A outer s H E F hc hr =>
    (es_cons (es_lc (own := [("_law_spot", 3), ("_law_item", 4)]) (fun σ H Q q => tD_fz σ H Q q) rfl rfl sc_law_bool_row.nd rfl rfl rfl (ei_enum rfl h.b_enumerate (ea_cons (ed_var rfl (.inl rfl)) ea_nil)) (blkOk_by rfl) (fun _ _ _ _ _ => (eg_tup rfl (egs_cons (eg_name rfl sc_law_bool_row.nd rfl (.inl rfl)) (egs_cons (eg_name rfl sc_law_bool_row.nd rfl (.inl rfl)) egs_nil)))) (fun _ _ _ _ _ => (tests_one (et_cmp (op_lt) sp_dLt (ed_var rfl (.inl rfl)) ed_int (nomark _)))) (fun _ _ _ _ _ => (ed_var rfl (.inl rfl))))
      (es_cons (es_if (et_cmp (op_dEq hr) sp_dEq (ed_var rfl (.inl rfl)) (ed_fz (ed_lst ea_nil)) (nomark _)) (es_one (es_ret (ed_fz (ed_cut sl_dCut sp_dCut (ed_var rfl (.inl rfl)) eo_none (eo_some (E := WD E) (ed_un un_neg sp_dNeg ed_int)))))) es_nil)
      (es_cons (es_set rfl sc_law_bool_row.nd rfl (.inl rfl) (ed_cl (ok_law_pick h) hr takes_def (em_mut rfl (.inl rfl) (em_cons (ed_var rfl (.inl rfl)) em_nil))))
      (es_one (es_ret (ed_fz (ed_op op_dAdd sp_dAdd (ed_fz (ed_op op_dAdd sp_dAdd (ed_fz (ed_cut sl_dCut sp_dCut (ed_var rfl (.inl rfl)) eo_none (eo_some (E := WD E) (ed_var rfl (.inl rfl))))) (ed_tup (ea_cons (ed_cmp (op_dEq hr) sp_dEq (ed_ix (op_dIx hr) sp_dIx (ed_var rfl (.inl rfl)) (ed_var rfl (.inl rfl)) (by intro _ _; rfl)) ed_int (nomark _)) ea_nil)))) (ed_fz (ed_cut sl_dCut sp_dCut (ed_var rfl (.inl rfl)) (eo_some (E := WD E) (ed_fz (ed_op op_dAdd sp_dAdd (ed_var rfl (.inl rfl)) ed_int))) eo_none)))))))))
theorem sc_law_are_rules : FnScope ["_law_scope", "_law_item", "_law_spot", "_law_rule_here"] ["_law_scope", "_law_item"] (defScope (top 83)) := ⟨rfl, rfl, rfl, by decide +kernel, rfl, by decide +kernel, by decide +kernel⟩
theorem ok_law_are_rules (h : Fk P w K mg base G) : Cal P w K mg base G "_law_are_rules" 3 m_law_are_rules ["_law_scope", "_law_item"] [false, false] := Cal.of h.d_law_are_rules h.g_law_are_rules sc_law_are_rules rfl (fun _ _ _ _ _ _ us hl => match us, hl with | [_, _], _ => rfl) (fun _ _ _ _ _ _ us hl => match us, hl with | [_, _], _ => rfl) fun fd cdv A outer s H E F hc hr =>
    (es_cons (es_if (et_w (ew_or (et_not (et_val (ed_isi h.kit rfl h.b_isinstance (ed_var rfl (.inl rfl)) ⟨rfl, by decide, h.b_tuple, rfl, by decide⟩))) (ew_or1 (et_cmp (op_dNe hr) sp_dNe (ed_cb call_len_seq sp_dLen rfl h.b_len rfl (ea_cons (ed_var rfl (.inl rfl)) ea_nil)) (ed_cb call_len_seq sp_dLen rfl h.b_len rfl (ea_cons (ed_ix (op_dIx hr) sp_dIx (ed_var rfl (.inl rfl)) ed_str (by intro _ _; rfl)) ea_nil)) (nomark _))))) (es_one (es_ret ed_bl)) es_nil)
      (es_cons (es_for own_def rfl (ei_enum rfl h.b_enumerate (ea_cons (ed_var rfl (.inl rfl)) ea_nil)) (eg_tup rfl (egs_cons (eg_name rfl sc_law_are_rules.nd rfl (.inl rfl)) (egs_cons (eg_name rfl sc_law_are_rules.nd rfl (.inl rfl)) egs_nil))) (es_one (es_if (et_not (et_val (ed_cl (ok_law_is_row h) hr takes_def (em_cons (ed_var rfl (.inl rfl)) (em_cons (ed_fz (ed_op op_dMul sp_dMul (ed_tup (ea_cons (ed_ix (op_dIx hr) sp_dIx (ed_ix (op_dIx hr) sp_dIx (ed_var rfl (.inl rfl)) ed_str (by intro _ _; rfl)) (ed_var rfl (.inl rfl)) (by intro _ _; rfl)) ea_nil)) (ed_ix (op_dIx hr) sp_dIx (ed_ix (op_dIx hr) sp_dIx (ed_var rfl (.inl rfl)) ed_str (by intro _ _; rfl)) (ed_var rfl (.inl rfl)) (by intro _ _; rfl)))) em_nil))))) (es_one (es_ret ed_bl)) es_nil)))
      (es_one (es_ret ed_bl))))
theorem sc_law_through_row : FnScope ["_law_state", "_law_scope", "_law_row", "_law_found", "_law_spot", "_law_item"] ["_law_state", "_law_scope", "_law_row"] (defScope (top 86)) := ⟨rfl, rfl, rfl, by decide +kernel, rfl, by decide +kernel, by decide +kernel⟩
theorem ok_law_through_row (h : Fk P w K mg base G) : Cal P w K mg base G "_law_through_row" 3 m_law_through_row ["_law_state", "_law_scope", "_law_row"] [true, false, false] := Cal.of h.d_law_through_row h.g_law_through_row sc_law_through_row rfl (fun _ _ _ _ _ _ us hl => match us, hl with | [_, _, _], _ => rfl) (fun _ _ _ _ _ _ us hl => match us, hl with | [_, _, _], _ => rfl) fun fd cdv A outer s H E F hc hr =>
    (es_cons (es_set rfl sc_law_through_row.nd rfl (.inl rfl) (ed_lst ea_nil))
      (es_cons (es_for own_def rfl (ei_enum rfl h.b_enumerate (ea_cons (ed_var rfl (.inl rfl)) ea_nil)) (eg_tup rfl (egs_cons (eg_name rfl sc_law_through_row.nd rfl (.inl rfl)) (egs_cons (eg_name rfl sc_law_through_row.nd rfl (.inl rfl)) egs_nil))) (es_one (es_expr (ed_meth PySem.F.plainAttrs_list PySem.F.slot_list_append PySem.F.type_list_append mt_append sp_mApp rfl (.inl rfl) (ea_cons (ed_cl (ok_law_with h) hr takes_def (em_cons (ed_cl (ok_law_rule h) hr takes_def (em_mut rfl (.inl rfl) (em_cons (ed_var rfl (.inl rfl)) (em_cons (ed_var rfl (.inl rfl)) em_nil)))) (em_cons (ed_ix (op_dIx hr) sp_dIx (ed_ix (op_dIx hr) sp_dIx (ed_ix (op_dIx hr) sp_dIx (ed_var rfl (.inl rfl)) ed_str (by intro _ _; rfl)) (ed_var rfl (.inl rfl)) (by intro _ _; rfl)) (ed_var rfl (.inl rfl)) (by intro _ _; rfl)) (em_cons (ed_var rfl (.inl rfl)) em_nil)))) ea_nil)))))
      (es_one (es_ret (ed_ct call_tuple_of sp_dTuple rfl h.b_tuple rfl (ea_cons (ed_vz rfl (.inl rfl)) ea_nil))))))
theorem sc_need_sends : FnScope ["sends"] ["sends"] (defScope (top 19)) := ⟨rfl, rfl, rfl, by decide +kernel, rfl, by decide +kernel, by decide +kernel⟩
theorem ok_need_sends (h : Fk P w K mg base G) : Cal P w K mg base G "need_sends" 4 m_need_sends ["sends"] [false] := Cal.of h.d_need_sends h.g_need_sends sc_need_sends rfl (fun _ _ _ _ _ _ us hl => match us, hl with | [_], _ => rfl) (fun _ _ _ _ _ _ us hl => match us, hl with | [_], _ => rfl) fun fd cdv A outer s H E F hc hr =>
    (es_one (es_if (et_w (ew_or (et_not (et_val (ed_cl (ok_are_sizes h) hr takes_def (em_cons (ed_var rfl (.inl rfl)) em_nil)))) (ew_or1 (et_cmp (op_gt) sp_dGt (ed_cl (ok_product_of h) hr takes_def (em_cons (ed_var rfl (.inl rfl)) em_nil)) (ed_gint rfl h.i_MOST_SENDINGS) (nomark _))))) (es_one (es_raise h.x_BadSends rfl h.g_BadSends rfl takes_def)) es_nil))
theorem sc_need_takes : FnScope ["takes", "rooms"] ["takes", "rooms"] (defScope (top 20)) := ⟨rfl, rfl, rfl, by decide +kernel, rfl, by decide +kernel, by decide +kernel⟩
theorem ok_need_takes (h : Fk P w K mg base G) : Cal P w K mg base G "need_takes" 4 m_need_takes ["takes", "rooms"] [false, false] := Cal.of h.d_need_takes h.g_need_takes sc_need_takes rfl (fun _ _ _ _ _ _ us hl => match us, hl with | [_, _], _ => rfl) (fun _ _ _ _ _ _ us hl => match us, hl with | [_, _], _ => rfl) fun fd cdv A outer s H E F hc hr =>
    (es_one (es_if (et_w (ew_or (et_not (et_val (ed_cl (ok_are_sizes h) hr takes_def (em_cons (ed_var rfl (.inl rfl)) em_nil)))) (ew_or1 (et_cmp (op_dNe hr) sp_dNe (ed_cb call_len_seq sp_dLen rfl h.b_len rfl (ea_cons (ed_var rfl (.inl rfl)) ea_nil)) (ed_var rfl (.inl rfl)) (nomark _))))) (es_one (es_raise h.x_BadTakes rfl h.g_BadTakes rfl takes_def)) es_nil))
theorem sc_need_sending : FnScope ["table", "sending"] ["table", "sending"] (defScope (top 23)) := ⟨rfl, rfl, rfl, by decide +kernel, rfl, by decide +kernel, by decide +kernel⟩
theorem ok_need_sending (h : Fk P w K mg base G) : Cal P w K mg base G "need_sending" 4 m_need_sending ["table", "sending"] [false, false] := Cal.of h.d_need_sending h.g_need_sending sc_need_sending rfl (fun _ _ _ _ _ _ us hl => match us, hl with | [_, _], _ => rfl) (fun _ _ _ _ _ _ us hl => match us, hl with | [_, _], _ => rfl) fun fd cdv A outer s H E F hc hr =>
    (es_one (es_if (et_not (et_val (ed_cl (ok_is_row h) hr takes_def (em_cons (ed_var rfl (.inl rfl)) (em_cons (ed_fld h.c_Table h.a_Table_sends (ed_var rfl (.inl rfl))) em_nil))))) (es_one (es_raise h.x_BadSending rfl h.g_BadSending rfl takes_def)) es_nil))
theorem sc_pairs_left : FnScope ["table", "pair", "room"] ["table"] (defScope (top 28)) := ⟨rfl, rfl, rfl, by decide +kernel, rfl, by decide +kernel, by decide +kernel⟩
theorem ok_pairs_left (h : Fk P w K mg base G) : Cal P w K mg base G "pairs_left" 4 m_pairs_left ["table"] [false] := Cal.of h.d_pairs_left h.g_pairs_left sc_pairs_left rfl (fun _ _ _ _ _ _ us hl => match us, hl with | [_], _ => rfl) (fun _ _ _ _ _ _ us hl => match us, hl with | [_], _ => rfl) fun fd cdv A outer s H E F hc hr =>
    (es_one (es_ret (ed_fz (ed_lc (own := [("pair", 1), ("room", 2)]) rfl sc_pairs_left.nd (ei_seq (ed_cl (ok_parts_of h) hr takes_def (em_cons (ed_var rfl (.inl rfl)) em_nil))) (blkOk_by rfl) (fun _ _ _ _ _ => (eg_tup rfl (egs_cons (eg_name rfl sc_pairs_left.nd rfl (.inl rfl)) (egs_cons (eg_name rfl sc_pairs_left.nd rfl (.inl rfl)) egs_nil)))) (fun _ _ _ _ _ => (tests_one (et_cmp (op_isN) sp_dIsN (ed_var rfl (.inl rfl)) ed_non (nomark _)))) (fun _ _ _ _ _ => (ed_var rfl (.inl rfl)))))))
theorem sc_is_rule_of : FnScope ["table", "room", "thing"] ["table", "room", "thing"] (defScope (top 31)) := ⟨rfl, rfl, rfl, by decide +kernel, rfl, by decide +kernel, by decide +kernel⟩
theorem ok_is_rule_of (h : Fk P w K mg base G) : Cal P w K mg base G "is_rule_of" 4 m_is_rule_of ["table", "room", "thing"] [false, false, false] := Cal.of h.d_is_rule_of h.g_is_rule_of sc_is_rule_of rfl (fun _ _ _ _ _ _ us hl => match us, hl with | [_, _, _], _ => rfl) (fun _ _ _ _ _ _ us hl => match us, hl with | [_, _, _], _ => rfl) fun fd cdv A outer s H E F hc hr =>
    (es_one (es_ret (ed_cl (ok_is_row h) hr takes_def (em_cons (ed_var rfl (.inl rfl)) (em_cons (ed_fz (ed_op op_dMul sp_dMul (ed_tup (ea_cons (ed_ix (op_dIx hr) sp_dIx (ed_fld h.c_Table h.a_Table_sends (ed_var rfl (.inl rfl))) (ed_var rfl (.inl rfl)) (by intro _ _; rfl)) ea_nil)) (ed_ix (op_dIx hr) sp_dIx (ed_fld h.c_Table h.a_Table_takes (ed_var rfl (.inl rfl))) (ed_var rfl (.inl rfl)) (by intro _ _; rfl)))) em_nil)))))
end On

set_option Elab.async false
set_option linter.all false
set_option maxRecDepth 100000
set_option maxHeartbeats 4000000
namespace On
open PySem PySem.Spec PyProof.Rows L2
variable {P : Program} {w : World} {K : PySem.W.Frag} {mg : Str → Option Value} {base : Heap} {G : Gs}
theorem sc_stories_of : FnScope ["table", "rules", "sending"] ["table", "rules"] (defScope (top 34)) := ⟨rfl, rfl, rfl, by decide +kernel, rfl, by decide +kernel, by decide +kernel⟩
theorem ok_stories_of (h : Fk P w K mg base G) : Cal P w K mg base G "stories_of" 4 m_stories_of ["table", "rules"] [false, false] := Cal.of h.d_stories_of h.g_stories_of sc_stories_of rfl (fun _ _ _ _ _ _ us hl => match us, hl with | [_, _], _ => rfl) (fun _ _ _ _ _ _ us hl => match us, hl with | [_, _], _ => rfl) fun fd cdv A outer s H E F hc hr =>
    (es_one (es_ret (ed_fz (ed_lc (own := [("sending", 2)]) rfl sc_stories_of.nd (ei_seq (ed_cl (ok_rows_of h) hr takes_def (em_cons (ed_fld h.c_Table h.a_Table_sends (ed_var rfl (.inr (.inl rfl)))) em_nil))) (blkOk_by rfl) (fun _ _ _ _ _ => (eg_name rfl sc_stories_of.nd rfl (.inl rfl))) (fun _ _ _ _ _ => (tests_one (et_cmp (op_dEq hr) sp_dEq (ed_cl (ok_answer_of h) hr takes_blk (em_cons (ed_var rfl (.inr (.inl rfl))) (em_cons (ed_var rfl (.inr (.inl rfl))) (em_cons (ed_var rfl (.inl rfl)) em_nil)))) (ed_var rfl (.inl rfl)) (nomark _)))) (fun _ _ _ _ _ => (ed_var rfl (.inl rfl)))))))
theorem sc_ready_rules : FnScope ["table", "one", "other", "parted", "found", "room", "sent"] ["table", "one", "other"] (defScope (top 46)) := ⟨rfl, rfl, rfl, by decide +kernel, rfl, by decide +kernel, by decide +kernel⟩
theorem ok_ready_rules (h : Fk P w K mg base G) : Cal P w K mg base G "ready_rules" 4 m_ready_rules ["table", "one", "other"] [false, false, false] := Cal.of h.d_ready_rules h.g_ready_rules sc_ready_rules rfl (fun _ _ _ _ _ _ us hl => match us, hl with | [_, _, _], _ => rfl) (fun _ _ _ _ _ _ us hl => match us, hl with | [_, _, _], _ => rfl) fun fd cdv A outer s H E F hc hr =>
    (es_cons (es_par rfl rfl rfl sc_ready_rules.nd rfl rfl (by decide) rfl rfl (ea_cons (ed_cl (ok_parting_of h) hr takes_def (em_cons (ed_var rfl (.inl rfl)) (em_cons (ed_var rfl (.inl rfl)) (em_cons (ed_var rfl (.inl rfl)) em_nil)))) (ea_cons (ed_lst ea_nil) ea_nil)) rfl)
      (es_cons (es_for own_def rfl (ei_enum rfl h.b_enumerate (ea_cons (ed_var rfl (.inl rfl)) ea_nil)) (eg_tup rfl (egs_cons (eg_name rfl sc_ready_rules.nd rfl (.inl rfl)) (egs_cons (eg_name rfl sc_ready_rules.nd rfl (.inl rfl)) egs_nil))) (es_one (es_expr (ed_meth PySem.F.plainAttrs_list PySem.F.slot_list_append PySem.F.type_list_append mt_append sp_mApp rfl (.inl rfl) (ea_cons (ed_if (et_cmp (op_in_seq) sp_dIn (ed_var rfl (.inl rfl)) (ed_var rfl (.inl rfl)) rfl) (ed_fz (ed_op op_dMul sp_dMul (ed_tup (ea_cons (ed_var rfl (.inl rfl)) ea_nil)) (ed_ix (op_dIx hr) sp_dIx (ed_fld h.c_Table h.a_Table_takes (ed_var rfl (.inl rfl))) (ed_var rfl (.inl rfl)) (by intro _ _; rfl)))) (ed_cl (ok_rule_for h) hr takes_def (em_cons (ed_var rfl (.inl rfl)) (em_cons (ed_var rfl (.inl rfl)) (em_cons (ed_var rfl (.inl rfl)) (em_cons (ed_var rfl (.inl rfl)) em_nil)))))) ea_nil)))))
      (es_one (es_ret (ed_ct call_tuple_of sp_dTuple rfl h.b_tuple rfl (ea_cons (ed_vz rfl (.inl rfl)) ea_nil))))))
theorem sc_crossed_rules : FnScope ["table", "rules", "one", "other", "parted", "told", "room", "rule"] ["table", "rules", "one", "other"] (defScope (top 47)) := ⟨rfl, rfl, rfl, by decide +kernel, rfl, by decide +kernel, by decide +kernel⟩
theorem ok_crossed_rules (h : Fk P w K mg base G) : Cal P w K mg base G "crossed_rules" 4 m_crossed_rules ["table", "rules", "one", "other"] [false, false, false, false] := Cal.of h.d_crossed_rules h.g_crossed_rules sc_crossed_rules rfl (fun _ _ _ _ _ _ us hl => match us, hl with | [_, _, _, _], _ => rfl) (fun _ _ _ _ _ _ us hl => match us, hl with | [_, _, _, _], _ => rfl) fun fd cdv A outer s H E F hc hr =>
    (es_cons (es_set rfl sc_crossed_rules.nd rfl (.inr rfl) (ed_cl (ok_parting_of h) hr takes_def (em_cons (ed_var rfl (.inr (.inl rfl))) (em_cons (ed_var rfl (.inl rfl)) (em_cons (ed_var rfl (.inr (.inl rfl))) em_nil)))))
      (es_cons (es_lc (own := [("room", 6), ("rule", 7)]) (fun σ H Q q => tD_fz σ H Q q) rfl rfl sc_crossed_rules.nd rfl rfl rfl (ei_enum rfl h.b_enumerate (ea_cons (ed_var rfl (.inl rfl)) ea_nil)) (blkOk_by rfl) (fun _ _ _ _ _ => (eg_tup rfl (egs_cons (eg_name rfl sc_crossed_rules.nd rfl (.inl rfl)) (egs_cons (eg_name rfl sc_crossed_rules.nd rfl (.inl rfl)) egs_nil)))) (fun _ _ _ _ _ => tests_yes) (fun _ _ _ _ _ => (ed_if (et_cmp (op_in_seq) sp_dIn (ed_var rfl (.inl rfl)) (ed_var rfl (.inr (.inl rfl))) rfl) (ed_fz (ed_op op_dMul sp_dMul (ed_tup (ea_cons (ed_ix (op_dIx hr) sp_dIx (ed_var rfl (.inr (.inl rfl))) (ed_var rfl (.inl rfl)) (by intro _ _; rfl)) ea_nil)) (ed_ix (op_dIx hr) sp_dIx (ed_fld h.c_Table h.a_Table_takes (ed_var rfl (.inr (.inl rfl)))) (ed_var rfl (.inl rfl)) (by intro _ _; rfl)))) (ed_var rfl (.inl rfl)))))
      (es_one (es_ret (ed_ct call_tuple_of sp_dTuple rfl h.b_tuple rfl (ea_cons (ed_var rfl (.inl rfl)) ea_nil))))))
theorem sc_law_through : FnScope ["_law_state", "_law_scope", "_law_sends_here", "_law_takes_here", "_law_inner", "_law_outer", "_law_found", "_law_row", "_law_size_here", "_law_old", "_law_told", "_law_maps_here", "_law_note_here", "_law_item"] ["_law_state", "_law_scope", "_law_sends_here", "_law_takes_here"] (defScope (top 66)) := ⟨rfl, rfl, rfl, by decide +kernel, rfl, by decide +kernel, by decide +kernel⟩
theorem ok_law_through (h : Fk P w K mg base G) : Cal P w K mg base G "_law_through" 4 m_law_through ["_law_state", "_law_scope", "_law_sends_here", "_law_takes_here"] [true, false, false, false] := Cal.of h.d_law_through h.g_law_through sc_law_through rfl (fun _ _ _ _ _ _ us hl => match us, hl with | [_, _, _, _], _ => rfl) (fun _ _ _ _ _ _ us hl => match us, hl with | [_, _, _, _], _ => rfl) fun fd cdv A outer s H E F hc hr =>
    (es_cons (es_set rfl sc_law_through.nd rfl (.inl rfl) (ed_lst ea_nil))
      (es_cons (es_for own_def rfl (ei_zip rfl h.b_zip (ea_cons (ed_var rfl (.inl rfl)) (ea_cons (ed_ix (op_dIx hr) sp_dIx (ed_var rfl (.inl rfl)) ed_str (by intro _ _; rfl)) ea_nil))) (eg_tup rfl (egs_cons (eg_name rfl sc_law_through.nd rfl (.inl rfl)) (egs_cons (eg_name rfl sc_law_through.nd rfl (.inl rfl)) egs_nil))) (es_one (es_expr (ed_meth PySem.F.plainAttrs_list PySem.F.slot_list_append PySem.F.type_list_append mt_append sp_mApp rfl (.inl rfl) (ea_cons (ed_cl (ok_law_map h) hr takes_def (em_mut rfl (.inl rfl) (em_cons (ed_var rfl (.inl rfl)) (em_cons (ed_var rfl (.inl rfl)) em_nil)))) ea_nil)))))
      (es_cons (es_set rfl sc_law_through.nd rfl (.inl rfl) (ed_lst ea_nil))
      (es_cons (es_for own_def rfl (ei_zip rfl h.b_zip (ea_cons (ed_var rfl (.inl rfl)) (ea_cons (ed_ix (op_dIx hr) sp_dIx (ed_var rfl (.inl rfl)) ed_str (by intro _ _; rfl)) ea_nil))) (eg_tup rfl (egs_cons (eg_name rfl sc_law_through.nd rfl (.inl rfl)) (egs_cons (eg_name rfl sc_law_through.nd rfl (.inl rfl)) egs_nil))) (es_one (es_expr (ed_meth PySem.F.plainAttrs_list PySem.F.slot_list_append PySem.F.type_list_append mt_append sp_mApp rfl (.inl rfl) (ea_cons (ed_cl (ok_law_map h) hr takes_def (em_mut rfl (.inl rfl) (em_cons (ed_var rfl (.inl rfl)) (em_cons (ed_var rfl (.inl rfl)) em_nil)))) ea_nil)))))
      (es_cons (es_set rfl sc_law_through.nd rfl (.inl rfl) (ed_disp (pps_cons ed_str (ed_var rfl (.inl rfl)) (pps_cons ed_str (ed_var rfl (.inl rfl)) (pps_cons ed_str ed_newT pps_nil)))))
      (es_cons (es_for own_def rfl (ei_seq (ed_cl (ok_law_rows h) hr takes_def (em_cons (ed_var rfl (.inl rfl)) em_nil))) (eg_name rfl sc_law_through.nd rfl (.inl rfl)) (es_cons (es_set rfl sc_law_through.nd rfl (.inl rfl) (ed_ix (op_dIx hr) sp_dIx (ed_ix (op_dIx hr) sp_dIx (ed_var rfl (.inl rfl)) ed_str (by intro _ _; rfl)) (ed_ct call_tuple_of sp_dTuple rfl h.b_tuple rfl (ea_cons (ed_fz (ed_lc (own := [("_law_maps_here", 11), ("_law_item", 13)]) rfl sc_law_through.nd (ei_zip rfl h.b_zip (ea_cons (ed_vz rfl (.inl rfl)) (ea_cons (ed_var rfl (.inl rfl)) ea_nil))) (blkOk_by rfl) (fun _ _ _ _ _ => (eg_tup rfl (egs_cons (eg_name rfl sc_law_through.nd rfl (.inl rfl)) (egs_cons (eg_name rfl sc_law_through.nd rfl (.inl rfl)) egs_nil)))) (fun _ _ _ _ _ => tests_yes) (fun _ _ _ _ _ => (ed_ix (op_dIx hr) sp_dIx (ed_var rfl (.inl rfl)) (ed_var rfl (.inl rfl)) (by intro _ _; rfl))))) ea_nil)) (by intro _ _; rfl)))
      (es_one (es_asg (ed_ct call_tuple_of sp_dTuple rfl h.b_tuple rfl (ea_cons (ed_fz (ed_lc (own := [("_law_maps_here", 11), ("_law_note_here", 12)]) rfl sc_law_through.nd (ei_zip rfl h.b_zip (ea_cons (ed_vz rfl (.inl rfl)) (ea_cons (ed_var rfl (.inl rfl)) ea_nil))) (blkOk_by rfl) (fun _ _ _ _ _ => (eg_tup rfl (egs_cons (eg_name rfl sc_law_through.nd rfl (.inl rfl)) (egs_cons (eg_name rfl sc_law_through.nd rfl (.inl rfl)) egs_nil)))) (fun _ _ _ _ _ => tests_yes) (fun _ _ _ _ _ => (ed_ix (op_dIx hr) sp_dIx (ed_var rfl (.inl rfl)) (ed_var rfl (.inl rfl)) (by intro _ _; rfl))))) ea_nil)) (eg_put (E := WD E) hr (pl_key hr (pl_name rfl (.inl rfl))) (ed_var rfl (.inl rfl)))))))
      (es_one (es_ret (ed_vz rfl (.inl rfl))))))))))
theorem sc_law_bad_row : FnScope ["_law_state", "_law_row", "_law_sizes_here", "_law_spot", "_law_some", "_law_item"] ["_law_state", "_law_row", "_law_sizes_here"] (defScope (top 80)) := ⟨rfl, rfl, rfl, by decide +kernel, rfl, by decide +kernel, by decide +kernel⟩
theorem ok_law_bad_row (h : Fk P w K mg base G) : Cal P w K mg base G "_law_bad_row" 4 m_law_bad_row ["_law_state", "_law_row", "_law_sizes_here"] [true, false, false] := Cal.of h.d_law_bad_row h.g_law_bad_row sc_law_bad_row rfl (fun _ _ _ _ _ _ us hl => match us, hl with | [_, _, _], _ => rfl) (fun _ _ _ _ _ _ us hl => match us, hl with | [_, _, _], _ => rfl) fun fd cdv A outer s H E F hc hr =>
    (es_cons (es_set rfl sc_law_bad_row.nd rfl (.inr rfl) (ed_cl (ok_law_draw h) hr takes_def (em_mut rfl (.inl rfl) (em_cons (ed_cb call_len_seq sp_dLen rfl h.b_len rfl (ea_cons (ed_var rfl (.inl rfl)) ea_nil)) em_nil))))
      (es_cons (es_lc (own := [("_law_item", 5)]) (fun σ H Q q => tD_fz σ H Q q) rfl rfl sc_law_bad_row.nd rfl rfl rfl (ei_seq (ed_fz (ed_lst (ea_cons (ed_un un_neg sp_dNeg ed_int) (ea_cons (ed_ix (op_dIx hr) sp_dIx (ed_var rfl (.inl rfl)) (ed_var rfl (.inr (.inl rfl))) (by intro _ _; rfl)) (ea_cons ed_non (ea_cons ed_str ea_nil))))))) (blkOk_by rfl) (fun _ _ _ _ _ => (eg_name rfl sc_law_bad_row.nd rfl (.inl rfl))) (fun _ _ _ _ _ => tests_yes) (fun _ _ _ _ _ => (ed_fz (ed_op op_dAdd sp_dAdd (ed_fz (ed_op op_dAdd sp_dAdd (ed_fz (ed_cut sl_dCut sp_dCut (ed_var rfl (.inr (.inl rfl))) eo_none (eo_some (E := W0) (ed_var rfl (.inr (.inl rfl)))))) (ed_tup (ea_cons (ed_var rfl (.inl rfl)) ea_nil)))) (ed_fz (ed_cut sl_dCut sp_dCut (ed_var rfl (.inr (.inl rfl))) (eo_some (E := W0) (ed_fz (ed_op op_dAdd sp_dAdd (ed_var rfl (.inr (.inl rfl))) ed_int))) eo_none))))))
      (es_one (es_ret (ed_cl (ok_law_pick h) hr takes_def (em_mut rfl (.inl rfl) (em_cons (ed_fz (ed_op op_dAdd sp_dAdd (ed_var rfl (.inl rfl)) (ed_fz (ed_lst (ea_cons (ed_fz (ed_ct call_list_of sp_dList rfl h.b_list rfl (ea_cons (ed_var rfl (.inr (.inl rfl))) ea_nil))) (ea_cons (ed_fz (ed_cut sl_dCut sp_dCut (ed_var rfl (.inr (.inl rfl))) eo_none (eo_some (E := WD E) (ed_un un_neg sp_dNeg ed_int)))) (ea_cons (ed_fz (ed_op op_dAdd sp_dAdd (ed_var rfl (.inr (.inl rfl))) (ed_tup (ea_cons ed_int ea_nil)))) (ea_cons ed_non (ea_cons ed_int (ea_cons (ed_cl (ok_law_bool_row h) hr takes_def (em_mut rfl (.inl rfl) (em_cons (ed_var rfl (.inr (.inl rfl))) em_nil))) ea_nil)))))))))) em_nil)))))))
theorem sc_law_is_step : FnScope ["_law_scope", "_law_one", "_law_other", "_law_item", "_law_parted", "_law_spot"] ["_law_scope", "_law_one", "_law_other", "_law_item"] (defScope (top 88)) := ⟨rfl, rfl, rfl, by decide +kernel, rfl, by decide +kernel, by decide +kernel⟩
theorem ok_law_is_step (h : Fk P w K mg base G) : Cal P w K mg base G "_law_is_step" 4 m_law_is_step ["_law_scope", "_law_one", "_law_other", "_law_item"] [false, false, false, false] := Cal.of h.d_law_is_step h.g_law_is_step sc_law_is_step rfl (fun _ _ _ _ _ _ us hl => match us, hl with | [_, _, _, _], _ => rfl) (fun _ _ _ _ _ _ us hl => match us, hl with | [_, _, _, _], _ => rfl) fun fd cdv A outer s H E F hc hr =>
    (es_cons (es_if (et_w (ew_or (et_not (et_val (ed_isi h.kit rfl h.b_isinstance (ed_var rfl (.inl rfl)) ⟨rfl, by decide, h.b_tuple, rfl, by decide⟩))) (ew_or (et_cmp (op_dNe hr) sp_dNe (ed_cb call_len_seq sp_dLen rfl h.b_len rfl (ea_cons (ed_var rfl (.inl rfl)) ea_nil)) ed_int (nomark _)) (ew_or (et_not (et_val (ed_cl (ok_law_are_rules h) hr takes_def (em_cons (ed_var rfl (.inl rfl)) (em_cons (ed_ix (op_dIx hr) sp_dIx (ed_var rfl (.inl rfl)) ed_int (by intro _ _; rfl)) em_nil))))) (ew_or1 (et_not (et_val (ed_cl (ok_law_are_rules h) hr takes_def (em_cons (ed_var rfl (.inl rfl)) (em_cons (ed_ix (op_dIx hr) sp_dIx (ed_var rfl (.inl rfl)) ed_int (by intro _ _; rfl)) em_nil)))))))))) (es_one (es_ret ed_bl)) es_nil)
      (es_cons (es_if (et_w (ew_or (et_cmp (op_dNe hr) sp_dNe (ed_cl (ok_law_stories h) hr takes_def (em_cons (ed_var rfl (.inl rfl)) (em_cons (ed_ix (op_dIx hr) sp_dIx (ed_var rfl (.inl rfl)) ed_int (by intro _ _; rfl)) em_nil))) (ed_fz (ed_lst (ea_cons (ed_var rfl (.inl rfl)) ea_nil))) (nomark _)) (ew_or1 (et_cmp (op_dNe hr) sp_dNe (ed_cl (ok_law_stories h) hr takes_def (em_cons (ed_var rfl (.inl rfl)) (em_cons (ed_ix (op_dIx hr) sp_dIx (ed_var rfl (.inl rfl)) ed_int (by intro _ _; rfl)) em_nil))) (ed_fz (ed_lst (ea_cons (ed_var rfl (.inl rfl)) ea_nil))) (nomark _))))) (es_one (es_ret ed_bl)) es_nil)
      (es_cons (es_set rfl sc_law_is_step.nd rfl (.inr rfl) (ed_cl (ok_law_parts h) hr takes_def (em_cons (ed_var rfl (.inl rfl)) (em_cons (ed_var rfl (.inl rfl)) (em_cons (ed_var rfl (.inl rfl)) em_nil)))))
      (es_one (es_ret (ed_cmp (op_dEq hr) sp_dEq (ed_fz (ed_lc (own := [("_law_spot", 5)]) rfl sc_law_is_step.nd (ei_seq (ed_cl (ok_law_unlike_spots h) hr takes_def (em_cons (ed_ix (op_dIx hr) sp_dIx (ed_var rfl (.inl rfl)) ed_int (by intro _ _; rfl)) (em_cons (ed_ix (op_dIx hr) sp_dIx (ed_var rfl (.inl rfl)) ed_int (by intro _ _; rfl)) em_nil)))) (blkOk_by rfl) (fun _ _ _ _ _ => (eg_name rfl sc_law_is_step.nd rfl (.inl rfl))) (fun _ _ _ _ _ => (tests_one (et_cmp (op_notIn_seq) sp_dNotIn (ed_var rfl (.inl rfl)) (ed_var rfl (.inr (.inl rfl))) rfl))) (fun _ _ _ _ _ => (ed_var rfl (.inl rfl))))) (ed_fz (ed_lst ea_nil)) (nomark _)))))))
theorem sc_is_fine_table : FnScope ["table"] ["table"] (defScope (top 29)) := ⟨rfl, rfl, rfl, by decide +kernel, rfl, by decide +kernel, by decide +kernel⟩
theorem ok_is_fine_table (h : Fk P w K mg base G) : Cal P w K mg base G "is_fine_table" 5 m_is_fine_table ["table"] [false] := Cal.of h.d_is_fine_table h.g_is_fine_table sc_is_fine_table rfl (fun _ _ _ _ _ _ us hl => match us, hl with | [_], _ => rfl) (fun _ _ _ _ _ _ us hl => match us, hl with | [_], _ => rfl) fun fd cdv A outer s H E F hc hr =>
    (es_one (es_ret (ed_cmp (op_dEq hr) sp_dEq (ed_cl (ok_pairs_left h) hr takes_def (em_cons (ed_var rfl (.inl rfl)) em_nil)) (ed_fz (ed_lst ea_nil)) (nomark _))))
theorem sc_are_rules_of : FnScope ["table", "thing", "room", "rule"] ["table", "thing"] (defScope (top 32)) := ⟨rfl, rfl, rfl, by decide +kernel, rfl, by decide +kernel, by decide +kernel⟩
theorem ok_are_rules_of (h : Fk P w K mg base G) : Cal P w K mg base G "are_rules_of" 5 m_are_rules_of ["table", "thing"] [false, false] := Cal.of h.d_are_rules_of h.g_are_rules_of sc_are_rules_of rfl (fun _ _ _ _ _ _ us hl => match us, hl with | [_, _], _ => rfl) (fun _ _ _ _ _ _ us hl => match us, hl with | [_, _], _ => rfl) fun fd cdv A outer s H E F hc hr =>
    (es_cons (es_if (et_w (ew_or (et_not (et_val (ed_isi h.kit rfl h.b_isinstance (ed_var rfl (.inl rfl)) ⟨rfl, by decide, h.b_tuple, rfl, by decide⟩))) (ew_or1 (et_cmp (op_dNe hr) sp_dNe (ed_cb call_len_seq sp_dLen rfl h.b_len rfl (ea_cons (ed_var rfl (.inl rfl)) ea_nil)) (ed_cb call_len_seq sp_dLen rfl h.b_len rfl (ea_cons (ed_fld h.c_Table h.a_Table_sends (ed_var rfl (.inr (.inl rfl)))) ea_nil)) (nomark _))))) (es_one (es_ret ed_bl)) es_nil)
      (es_one (es_ret (ed_cb (cr_all rfl) sp_dAll rfl h.b_all rfl (ea_cons (ed_fz (ed_lc (own := [("room", 2), ("rule", 3)]) rfl sc_are_rules_of.nd (ei_enum rfl h.b_enumerate (ea_cons (ed_var rfl (.inl rfl)) ea_nil)) (blkOk_by rfl) (fun _ _ _ _ _ => (eg_tup rfl (egs_cons (eg_name rfl sc_are_rules_of.nd rfl (.inl rfl)) (egs_cons (eg_name rfl sc_are_rules_of.nd rfl (.inl rfl)) egs_nil)))) (fun _ _ _ _ _ => tests_yes) (fun _ _ _ _ _ => (ed_cl (ok_is_rule_of h) hr takes_blk (em_cons (ed_var rfl (.inr (.inl rfl))) (em_cons (ed_var rfl (.inl rfl)) (em_cons (ed_var rfl (.inl rfl)) em_nil))))))) ea_nil)))))
end On

set_option Elab.async false
set_option linter.all false
set_option maxRecDepth 100000
set_option maxHeartbeats 4000000
namespace On
open PySem PySem.Spec PyProof.Rows L2
variable {P : Program} {w : World} {K : PySem.W.Frag} {mg : Str → Option Value} {base : Heap} {G : Gs}
theorem sc_law_bad_rules : FnScope ["_law_state", "_law_scope", "_law_rules_here", "_law_spot", "_law_bent", "_law_some"] ["_law_state", "_law_scope"] (defScope (top 81)) := ⟨rfl, rfl, rfl, by decide +kernel, rfl, by decide +kernel, by decide +kernel⟩
theorem ok_law_bad_rules (h : Fk P w K mg base G) : Cal P w K mg base G "_law_bad_rules" 5 m_law_bad_rules ["_law_state", "_law_scope"] [true, false] := Cal.of h.d_law_bad_rules h.g_law_bad_rules sc_law_bad_rules rfl (fun _ _ _ _ _ _ us hl => match us, hl with | [_, _], _ => rfl) (fun _ _ _ _ _ _ us hl => match us, hl with | [_, _], _ => rfl) fun fd cdv A outer s H E F hc hr =>
    (es_cons (es_set rfl sc_law_bad_rules.nd rfl (.inl rfl) (ed_cl (ok_law_rules h) hr takes_def (em_mut rfl (.inl rfl) (em_cons (ed_var rfl (.inl rfl)) em_nil))))
      (es_cons (es_set rfl sc_law_bad_rules.nd rfl (.inl rfl) (ed_cl (ok_law_draw h) hr takes_def (em_mut rfl (.inl rfl) (em_cons (ed_cb call_len_seq sp_dLen rfl h.b_len rfl (ea_cons (ed_var rfl (.inl rfl)) ea_nil)) em_nil))))
      (es_cons (es_set rfl sc_law_bad_rules.nd rfl (.inl rfl) (ed_cl (ok_law_bad_row h) hr takes_def (em_mut rfl (.inl rfl) (em_cons (ed_ix (op_dIx hr) sp_dIx (ed_var rfl (.inl rfl)) (ed_var rfl (.inl rfl)) (by intro _ _; rfl)) (em_cons (ed_fz (ed_op op_dMul sp_dMul (ed_tup (ea_cons (ed_ix (op_dIx hr) sp_dIx (ed_ix (op_dIx hr) sp_dIx (ed_var rfl (.inl rfl)) ed_str (by intro _ _; rfl)) (ed_var rfl (.inl rfl)) (by intro _ _; rfl)) ea_nil)) (ed_ix (op_dIx hr) sp_dIx (ed_ix (op_dIx hr) sp_dIx (ed_var rfl (.inl rfl)) ed_str (by intro _ _; rfl)) (ed_var rfl (.inl rfl)) (by intro _ _; rfl)))) em_nil)))))
      (es_cons (es_set rfl sc_law_bad_rules.nd rfl (.inl rfl) (ed_fz (ed_op op_dMul sp_dMul (ed_fz (ed_lst (ea_cons (ed_fz (ed_op op_dAdd sp_dAdd (ed_fz (ed_op op_dAdd sp_dAdd (ed_fz (ed_cut sl_dCut sp_dCut (ed_var rfl (.inl rfl)) eo_none (eo_some (E := WD E) (ed_var rfl (.inl rfl))))) (ed_tup (ea_cons (ed_var rfl (.inl rfl)) ea_nil)))) (ed_fz (ed_cut sl_dCut sp_dCut (ed_var rfl (.inl rfl)) (eo_some (E := WD E) (ed_fz (ed_op op_dAdd sp_dAdd (ed_var rfl (.inl rfl)) ed_int))) eo_none)))) ea_nil))) ed_int)))
      (es_one (es_ret (ed_cl (ok_law_pick h) hr takes_def (em_mut rfl (.inl rfl) (em_cons (ed_fz (ed_op op_dAdd sp_dAdd (ed_var rfl (.inl rfl)) (ed_fz (ed_lst (ea_cons (ed_fz (ed_ct call_list_of sp_dList rfl h.b_list rfl (ea_cons (ed_var rfl (.inl rfl)) ea_nil))) (ea_cons (ed_fz (ed_cut sl_dCut sp_dCut (ed_var rfl (.inl rfl)) eo_none (eo_some (E := WD E) (ed_un un_neg sp_dNeg ed_int)))) (ea_cons (ed_fz (ed_op op_dAdd sp_dAdd (ed_var rfl (.inl rfl)) (ed_tup (ea_cons (ed_tup (ea_cons ed_int ea_nil)) ea_nil)))) (ea_cons ed_non (ea_cons (ed_tup ea_nil) (ea_cons (ed_fz ed_newK) ea_nil)))))))))) em_nil)))))))))
theorem sc_Table__init : FnScope ["self", "sends", "takes", "notes", "row"] ["self", "sends", "takes", "notes"] (defScope (met 21 0)) := ⟨rfl, rfl, rfl, by decide +kernel, rfl, by decide +kernel, by decide +kernel⟩
theorem mk_Table (h : Fk P w K mg base G) : Mak P w K mg base G "Table" 5 m_Table__init ["self", "sends", "takes", "notes"] [true, false, false, false] := Mak.of h.k_Table h.g_Table sc_Table__init rfl (fun _ _ _ _ _ _ us hl => match us, hl with | [_, _, _, _], _ => rfl) fun fa fd cdv A outer s H E F hc hr =>
    (es_cons (es_expr (ed_cl (ok_need_sends h) hr takes_def (em_cons (ed_var rfl (.inl rfl)) em_nil)))
      (es_cons (es_expr (ed_cl (ok_need_takes h) hr takes_def (em_cons (ed_var rfl (.inr (.inl rfl))) (em_cons (ed_cb call_len_seq sp_dLen rfl h.b_len rfl (ea_cons (ed_var rfl (.inl rfl)) ea_nil)) em_nil))))
      (es_cons (es_if (et_w (ew_or (et_not (et_val (ed_isi h.kit rfl h.b_isinstance (ed_var rfl (.inl rfl)) ⟨rfl, by decide, h.b_tuple, rfl, by decide⟩))) (ew_or1 (et_cmp (op_dNe hr) sp_dNe (ed_cb call_len_seq sp_dLen rfl h.b_len rfl (ea_cons (ed_var rfl (.inl rfl)) ea_nil)) (ed_cl (ok_product_of h) hr takes_def (em_cons (ed_var rfl (.inl rfl)) em_nil)) (nomark _))))) (es_one (es_raise h.x_BadNotes rfl h.g_BadNotes rfl takes_def)) es_nil)
      (es_cons (es_if (et_not (et_val (ed_cb (cr_all rfl) sp_dAll rfl h.b_all rfl (ea_cons (ed_fz (ed_lc (own := [("row", 4)]) rfl sc_Table__init.nd (ei_seq (ed_var rfl (.inl rfl))) (blkOk_by rfl) (fun _ _ _ _ _ => (eg_name rfl sc_Table__init.nd rfl (.inl rfl))) (fun _ _ _ _ _ => tests_yes) (fun _ _ _ _ _ => (ed_cl (ok_is_row h) hr takes_blk (em_cons (ed_var rfl (.inl rfl)) (em_cons (ed_var rfl (.inr (.inl rfl))) em_nil)))))) ea_nil)))) (es_one (es_raise h.x_BadNotes rfl h.g_BadNotes rfl takes_def)) es_nil)
      (es_one (es_asg (ed_tup (ea_cons (ed_var rfl (.inl rfl)) (ea_cons (ed_var rfl (.inr (.inl rfl))) (ea_cons (ed_var rfl (.inl rfl)) ea_nil)))) (eg_tup rfl (egs_cons (eg_fld h.c_Table h.a_Table_sends (pl_name rfl (.inl rfl))) (egs_cons (eg_fld h.c_Table h.a_Table_takes (pl_name rfl (.inl rfl))) (egs_cons (eg_fld h.c_Table h.a_Table_notes (pl_name rfl (.inl rfl))) egs_nil))))))))))
theorem sc_need_fine : FnScope ["table"] ["table"] (defScope (top 39)) := ⟨rfl, rfl, rfl, by decide +kernel, rfl, by decide +kernel, by decide +kernel⟩
theorem ok_need_fine (h : Fk P w K mg base G) : Cal P w K mg base G "need_fine" 6 m_need_fine ["table"] [false] := Cal.of h.d_need_fine h.g_need_fine sc_need_fine rfl (fun _ _ _ _ _ _ us hl => match us, hl with | [_], _ => rfl) (fun _ _ _ _ _ _ us hl => match us, hl with | [_], _ => rfl) fun fd cdv A outer s H E F hc hr =>
    (es_one (es_if (et_not (et_val (ed_cl (ok_is_fine_table h) hr takes_def (em_cons (ed_var rfl (.inl rfl)) em_nil)))) (es_one (es_raise h.x_NotFine rfl h.g_NotFine rfl takes_def)) es_nil))
theorem sc_law_near_step : FnScope ["_law_state", "_law_scope", "_law_one", "_law_other", "_law_item", "_law_rule_here", "_law_way", "_law_spot", "_law_first", "_law_second"] ["_law_state", "_law_scope", "_law_one", "_law_other", "_law_item"] (defScope (top 89)) := ⟨rfl, rfl, rfl, by decide +kernel, rfl, by decide +kernel, by decide +kernel⟩
theorem ok_law_near_step (h : Fk P w K mg base G) : Cal P w K mg base G "_law_near_step" 6 m_law_near_step ["_law_state", "_law_scope", "_law_one", "_law_other", "_law_item"] [true, false, false, false, false] := Cal.of h.d_law_near_step h.g_law_near_step sc_law_near_step rfl (fun _ _ _ _ _ _ us hl => match us, hl with | [_, _, _, _, _], _ => rfl) (fun _ _ _ _ _ _ us hl => match us, hl with | [_, _, _, _, _], _ => rfl) fun fd cdv A outer s H E F hc hr =>
    (es_cons (es_par rfl rfl rfl sc_law_near_step.nd rfl rfl (by decide) rfl rfl (ea_cons (ed_cl (ok_law_draw h) hr takes_def (em_mut rfl (.inl rfl) (em_cons ed_int em_nil))) (ea_cons (ed_cl (ok_law_draw h) hr takes_def (em_mut rfl (.inl rfl) (em_cons (ed_cb call_len_seq sp_dLen rfl h.b_len rfl (ea_cons (ed_var rfl (.inl rfl)) ea_nil)) em_nil))) ea_nil)) rfl)
      (es_cons (es_asg (ed_var rfl (.inl rfl)) (eg_tup rfl (egs_cons (eg_name rfl sc_law_near_step.nd rfl (.inl rfl)) (egs_cons (eg_name rfl sc_law_near_step.nd rfl (.inl rfl)) egs_nil))))
      (es_cons (es_set rfl sc_law_near_step.nd rfl (.inl rfl) (ed_cl (ok_law_rule h) hr takes_def (em_mut rfl (.inl rfl) (em_cons (ed_var rfl (.inl rfl)) (em_cons (ed_var rfl (.inl rfl)) em_nil)))))
      (es_cons (es_if (et_cmp (op_dEq hr) sp_dEq (ed_var rfl (.inl rfl)) ed_int (nomark _)) (es_one (es_ret (ed_cl (ok_law_pick h) hr takes_def (em_mut rfl (.inl rfl) (em_cons (ed_fz (ed_lst (ea_cons ed_non (ea_cons (ed_fz (ed_lst (ea_cons (ed_var rfl (.inl rfl)) (ea_cons (ed_var rfl (.inl rfl)) ea_nil)))) (ea_cons (ed_tup (ea_cons (ed_var rfl (.inl rfl)) ea_nil)) (ea_cons (ed_tup (ea_cons (ed_var rfl (.inl rfl)) (ea_cons (ed_var rfl (.inl rfl)) (ea_cons (ed_var rfl (.inl rfl)) ea_nil)))) (ea_cons (ed_tup (ea_cons (ed_var rfl (.inl rfl)) (ea_cons ed_non ea_nil))) (ea_cons (ed_tup (ea_cons (ed_cl (ok_law_bad_rules h) hr takes_def (em_mut rfl (.inl rfl) (em_cons (ed_var rfl (.inl rfl)) em_nil))) (ea_cons (ed_var rfl (.inl rfl)) ea_nil))) (ea_cons (ed_tup (ea_cons (ed_var rfl (.inl rfl)) (ea_cons (ed_cl (ok_law_bad_rules h) hr takes_def (em_mut rfl (.inl rfl) (em_cons (ed_var rfl (.inl rfl)) em_nil))) ea_nil))) ea_nil))))))))) em_nil))))) es_nil)
      (es_cons (es_if (et_cmp (op_dEq hr) sp_dEq (ed_var rfl (.inl rfl)) ed_int (nomark _)) (es_one (es_ret (ed_tup (ea_cons (ed_var rfl (.inl rfl)) (ea_cons (ed_var rfl (.inl rfl)) ea_nil))))) es_nil)
      (es_cons (es_if (et_cmp (op_dEq hr) sp_dEq (ed_var rfl (.inl rfl)) ed_int (nomark _)) (es_one (es_ret (ed_tup (ea_cons (ed_cl (ok_law_with h) hr takes_def (em_cons (ed_var rfl (.inl rfl)) (em_cons (ed_var rfl (.inl rfl)) (em_cons (ed_var rfl (.inl rfl)) em_nil)))) (ea_cons (ed_cl (ok_law_with h) hr takes_def (em_cons (ed_var rfl (.inl rfl)) (em_cons (ed_var rfl (.inl rfl)) (em_cons (ed_var rfl (.inl rfl)) em_nil)))) ea_nil))))) es_nil)
      (es_cons (es_if (et_cmp (op_dEq hr) sp_dEq (ed_var rfl (.inl rfl)) ed_int (nomark _)) (es_one (es_ret (ed_tup (ea_cons (ed_cl (ok_law_with h) hr takes_def (em_cons (ed_var rfl (.inl rfl)) (em_cons (ed_var rfl (.inl rfl)) (em_cons (ed_var rfl (.inl rfl)) em_nil)))) (ea_cons (ed_var rfl (.inl rfl)) ea_nil))))) es_nil)
      (es_cons (es_if (et_cmp (op_dEq hr) sp_dEq (ed_var rfl (.inl rfl)) ed_int (nomark _)) (es_one (es_ret (ed_tup (ea_cons (ed_var rfl (.inl rfl)) (ea_cons (ed_cl (ok_law_with h) hr takes_def (em_cons (ed_var rfl (.inl rfl)) (em_cons (ed_var rfl (.inl rfl)) (em_cons (ed_var rfl (.inl rfl)) em_nil)))) ea_nil))))) es_nil)
      (es_cons (es_if (et_cmp (op_dEq hr) sp_dEq (ed_var rfl (.inl rfl)) ed_int (nomark _)) (es_one (es_ret (ed_tup (ea_cons (ed_cl (ok_law_through_row h) hr takes_def (em_mut rfl (.inl rfl) (em_cons (ed_var rfl (.inl rfl)) (em_cons (ed_var rfl (.inl rfl)) em_nil)))) (ea_cons (ed_cl (ok_law_through_row h) hr takes_def (em_mut rfl (.inl rfl) (em_cons (ed_var rfl (.inl rfl)) (em_cons (ed_var rfl (.inl rfl)) em_nil)))) ea_nil))))) es_nil)
      (es_one (es_ret (ed_if (et_cmp (op_dEq hr) sp_dEq (ed_var rfl (.inl rfl)) ed_int (nomark _)) (ed_tup (ea_cons (ed_var rfl (.inl rfl)) (ea_cons (ed_cl (ok_law_with h) hr takes_def (em_cons (ed_var rfl (.inl rfl)) (em_cons (ed_var rfl (.inl rfl)) (em_cons (ed_ix (op_dIx hr) sp_dIx (ed_var rfl (.inl rfl)) (ed_var rfl (.inl rfl)) (by intro _ _; rfl)) em_nil)))) ea_nil))) (ed_var rfl (.inl rfl))))))))))))))
theorem sc_need_table : FnScope ["table"] ["table"] (defScope (top 22)) := ⟨rfl, rfl, rfl, by decide +kernel, rfl, by decide +kernel, by decide +kernel⟩
theorem ok_need_table (h : Fk P w K mg base G) : Cal P w K mg base G "need_table" 7 m_need_table ["table"] [false] := Cal.of h.d_need_table h.g_need_table sc_need_table rfl (fun _ _ _ _ _ _ us hl => match us, hl with | [_], _ => rfl) (fun _ _ _ _ _ _ us hl => match us, hl with | [_], _ => rfl) fun fd cdv A outer s H E F hc hr =>
    (es_one (es_if (et_not (et_val (ed_isi h.kit rfl h.b_isinstance (ed_var rfl (.inl rfl)) ⟨rfl, by decide, h.g_Table⟩))) (es_one (es_raise h.x_BadTable rfl h.g_BadTable rfl takes_def)) es_nil))
theorem sc_law_made : FnScope ["_law_scope", "_law_row"] ["_law_scope"] (defScope (top 71)) := ⟨rfl, rfl, rfl, by decide +kernel, rfl, by decide +kernel, by decide +kernel⟩
theorem ok_law_made (h : Fk P w K mg base G) : Cal P w K mg base G "_law_made" 7 m_law_made ["_law_scope"] [false] := Cal.of h.d_law_made h.g_law_made sc_law_made rfl (fun _ _ _ _ _ _ us hl => match us, hl with | [_], _ => rfl) (fun _ _ _ _ _ _ us hl => match us, hl with | [_], _ => rfl) fun fd cdv A outer s H E F hc hr =>
    (es_one (es_ret (ed_fz (ed_mk (mk_Table h) hr takes_def (em_cons (ed_ix (op_dIx hr) sp_dIx (ed_var rfl (.inr (.inl rfl))) ed_str (by intro _ _; rfl)) (em_cons (ed_ix (op_dIx hr) sp_dIx (ed_var rfl (.inr (.inl rfl))) ed_str (by intro _ _; rfl)) (em_cons (ed_ct call_tuple_of sp_dTuple rfl h.b_tuple rfl (ea_cons (ed_fz (ed_lc (own := [("_law_row", 1)]) rfl sc_law_made.nd (ei_seq (ed_cl (ok_law_rows h) hr takes_def (em_cons (ed_ix (op_dIx hr) sp_dIx (ed_var rfl (.inr (.inl rfl))) ed_str (by intro _ _; rfl)) em_nil))) (blkOk_by rfl) (fun _ _ _ _ _ => (eg_name rfl sc_law_made.nd rfl (.inl rfl))) (fun _ _ _ _ _ => tests_yes) (fun _ _ _ _ _ => (ed_ix (op_dIx hr) sp_dIx (ed_ix (op_dIx hr) sp_dIx (ed_var rfl (.inr (.inl rfl))) ed_str (by intro _ _; rfl)) (ed_var rfl (.inl rfl)) (by intro _ _; rfl))))) ea_nil)) em_nil)))))))
theorem sc_need_fine_table : FnScope ["table"] ["table"] (defScope (top 41)) := ⟨rfl, rfl, rfl, by decide +kernel, rfl, by decide +kernel, by decide +kernel⟩
theorem ok_need_fine_table (h : Fk P w K mg base G) : Cal P w K mg base G "need_fine_table" 8 m_need_fine_table ["table"] [false] := Cal.of h.d_need_fine_table h.g_need_fine_table sc_need_fine_table rfl (fun _ _ _ _ _ _ us hl => match us, hl with | [_], _ => rfl) (fun _ _ _ _ _ _ us hl => match us, hl with | [_], _ => rfl) fun fd cdv A outer s H E F hc hr =>
    (es_cons (es_expr (ed_cl (ok_need_table h) hr takes_def (em_cons (ed_var rfl (.inl rfl)) em_nil)))
      (es_one (es_expr (ed_cl (ok_need_fine h) hr takes_def (em_cons (ed_var rfl (.inl rfl)) em_nil)))))
theorem sc_need_ends : FnScope ["table", "one", "other"] ["table", "one", "other"] (defScope (top 44)) := ⟨rfl, rfl, rfl, by decide +kernel, rfl, by decide +kernel, by decide +kernel⟩
theorem ok_need_ends (h : Fk P w K mg base G) : Cal P w K mg base G "need_ends" 9 m_need_ends ["table", "one", "other"] [false, false, false] := Cal.of h.d_need_ends h.g_need_ends sc_need_ends rfl (fun _ _ _ _ _ _ us hl => match us, hl with | [_, _, _], _ => rfl) (fun _ _ _ _ _ _ us hl => match us, hl with | [_, _, _], _ => rfl) fun fd cdv A outer s H E F hc hr =>
    (es_cons (es_expr (ed_cl (ok_need_fine_table h) hr takes_def (em_cons (ed_var rfl (.inl rfl)) em_nil)))
      (es_cons (es_expr (ed_cl (ok_need_sending h) hr takes_def (em_cons (ed_var rfl (.inl rfl)) (em_cons (ed_var rfl (.inl rfl)) em_nil))))
      (es_one (es_expr (ed_cl (ok_need_sending h) hr takes_def (em_cons (ed_var rfl (.inl rfl)) (em_cons (ed_var rfl (.inl rfl)) em_nil)))))))
end On

set_option Elab.async false
set_option linter.all false
set_option maxRecDepth 100000
set_option maxHeartbeats 4000000
namespace On
open PySem PySem.Spec PyProof.Rows L2
variable {P : Program} {w : World} {K : PySem.W.Frag} {mg : Str → Option Value} {base : Heap} {G : Gs}
theorem sc_parting : FnScope ["table", "one", "other"] ["table", "one", "other"] (defScope (top 45)) := ⟨rfl, rfl, rfl, by decide +kernel, rfl, by decide +kernel, by decide +kernel⟩
theorem ok_parting (h : Fk P w K mg base G) : Cal P w K mg base G "parting" 10 m_parting ["table", "one", "other"] [false, false, false] := Cal.of h.d_parting h.g_parting sc_parting rfl (fun _ _ _ _ _ _ us hl => match us, hl with | [_, _, _], _ => rfl) (fun _ _ _ _ _ _ us hl => match us, hl with | [_, _, _], _ => rfl) fun fd cdv A outer s H E F hc hr =>
    (es_cons (es_expr (ed_cl (ok_need_ends h) hr takes_def (em_cons (ed_var rfl (.inl rfl)) (em_cons (ed_var rfl (.inl rfl)) (em_cons (ed_var rfl (.inl rfl)) em_nil)))))
      (es_one (es_ret (ed_cl (ok_parting_of h) hr takes_def (em_cons (ed_var rfl (.inl rfl)) (em_cons (ed_var rfl (.inl rfl)) (em_cons (ed_var rfl (.inl rfl)) em_nil)))))))
theorem sc_binding_step : FnScope ["table", "one", "other", "rules"] ["table", "one", "other"] (defScope (top 48)) := ⟨rfl, rfl, rfl, by decide +kernel, rfl, by decide +kernel, by decide +kernel⟩
theorem ok_binding_step (h : Fk P w K mg base G) : Cal P w K mg base G "binding_step" 10 m_binding_step ["table", "one", "other"] [false, false, false] := Cal.of h.d_binding_step h.g_binding_step sc_binding_step rfl (fun _ _ _ _ _ _ us hl => match us, hl with | [_, _, _], _ => rfl) (fun _ _ _ _ _ _ us hl => match us, hl with | [_, _, _], _ => rfl) fun fd cdv A outer s H E F hc hr =>
    (es_cons (es_expr (ed_cl (ok_need_ends h) hr takes_def (em_cons (ed_var rfl (.inl rfl)) (em_cons (ed_var rfl (.inl rfl)) (em_cons (ed_var rfl (.inl rfl)) em_nil)))))
      (es_cons (es_set rfl sc_binding_step.nd rfl (.inl rfl) (ed_cl (ok_ready_rules h) hr takes_def (em_cons (ed_var rfl (.inl rfl)) (em_cons (ed_var rfl (.inl rfl)) (em_cons (ed_var rfl (.inl rfl)) em_nil)))))
      (es_one (es_ret (ed_tup (ea_cons (ed_var rfl (.inl rfl)) (ea_cons (ed_cl (ok_crossed_rules h) hr takes_def (em_cons (ed_var rfl (.inl rfl)) (em_cons (ed_var rfl (.inl rfl)) (em_cons (ed_var rfl (.inl rfl)) (em_cons (ed_var rfl (.inl rfl)) em_nil))))) ea_nil)))))))
theorem sc_is_binding_step : FnScope ["table", "one", "other", "thing", "parted", "room", "item"] ["table", "one", "other", "thing"] (defScope (top 50)) := ⟨rfl, rfl, rfl, by decide +kernel, rfl, by decide +kernel, by decide +kernel⟩
theorem ok_is_binding_step (h : Fk P w K mg base G) : Cal P w K mg base G "is_binding_step" 10 m_is_binding_step ["table", "one", "other", "thing"] [false, false, false, false] := Cal.of h.d_is_binding_step h.g_is_binding_step sc_is_binding_step rfl (fun _ _ _ _ _ _ us hl => match us, hl with | [_, _, _, _], _ => rfl) (fun _ _ _ _ _ _ us hl => match us, hl with | [_, _, _, _], _ => rfl) fun fd cdv A outer s H E F hc hr =>
    (es_cons (es_expr (ed_cl (ok_need_ends h) hr takes_def (em_cons (ed_var rfl (.inr (.inl rfl))) (em_cons (ed_var rfl (.inl rfl)) (em_cons (ed_var rfl (.inl rfl)) em_nil)))))
      (es_cons (es_if (et_w (ew_or (et_not (et_val (ed_isi h.kit rfl h.b_isinstance (ed_var rfl (.inl rfl)) ⟨rfl, by decide, h.b_tuple, rfl, by decide⟩))) (ew_or (et_cmp (op_dNe hr) sp_dNe (ed_cb call_len_seq sp_dLen rfl h.b_len rfl (ea_cons (ed_var rfl (.inl rfl)) ea_nil)) ed_int (nomark _)) (ew_or1 (et_not (et_val (ed_cb (cr_all rfl) sp_dAll rfl h.b_all rfl (ea_cons (ed_fz (ed_lc (own := [("item", 6)]) rfl sc_is_binding_step.nd (ei_seq (ed_var rfl (.inl rfl))) (blkOk_by rfl) (fun _ _ _ _ _ => (eg_name rfl sc_is_binding_step.nd rfl (.inl rfl))) (fun _ _ _ _ _ => tests_yes) (fun _ _ _ _ _ => (ed_cl (ok_are_rules_of h) hr takes_blk (em_cons (ed_var rfl (.inr (.inl rfl))) (em_cons (ed_var rfl (.inl rfl)) em_nil)))))) ea_nil)))))))) (es_one (es_ret ed_bl)) es_nil)
      (es_cons (es_if (et_w (ew_or (et_cmp (op_dNe hr) sp_dNe (ed_cl (ok_stories_of h) hr takes_def (em_cons (ed_var rfl (.inr (.inl rfl))) (em_cons (ed_ix (op_dIx hr) sp_dIx (ed_var rfl (.inl rfl)) ed_int (by intro _ _; rfl)) em_nil))) (ed_fz (ed_lst (ea_cons (ed_var rfl (.inl rfl)) ea_nil))) (nomark _)) (ew_or1 (et_cmp (op_dNe hr) sp_dNe (ed_cl (ok_stories_of h) hr takes_def (em_cons (ed_var rfl (.inr (.inl rfl))) (em_cons (ed_ix (op_dIx hr) sp_dIx (ed_var rfl (.inl rfl)) ed_int (by intro _ _; rfl)) em_nil))) (ed_fz (ed_lst (ea_cons (ed_var rfl (.inl rfl)) ea_nil))) (nomark _))))) (es_one (es_ret ed_bl)) es_nil)
      (es_cons (es_set rfl sc_is_binding_step.nd rfl (.inr rfl) (ed_cl (ok_parting_of h) hr takes_def (em_cons (ed_var rfl (.inr (.inl rfl))) (em_cons (ed_var rfl (.inl rfl)) (em_cons (ed_var rfl (.inl rfl)) em_nil)))))
      (es_one (es_ret (ed_cb (cr_all rfl) sp_dAll rfl h.b_all rfl (ea_cons (ed_fz (ed_lc (own := [("room", 5)]) rfl sc_is_binding_step.nd (ei_seq (ed_cl (ok_unlike_rooms h) hr takes_def (em_cons (ed_ix (op_dIx hr) sp_dIx (ed_var rfl (.inl rfl)) ed_int (by intro _ _; rfl)) (em_cons (ed_ix (op_dIx hr) sp_dIx (ed_var rfl (.inl rfl)) ed_int (by intro _ _; rfl)) em_nil)))) (blkOk_by rfl) (fun _ _ _ _ _ => (eg_name rfl sc_is_binding_step.nd rfl (.inl rfl))) (fun _ _ _ _ _ => tests_yes) (fun _ _ _ _ _ => (ed_cmp (op_in_seq) sp_dIn (ed_var rfl (.inl rfl)) (ed_var rfl (.inr (.inl rfl))) rfl)))) ea_nil))))))))
theorem sc_law_alike : FnScope ["_law_item", "_law_due", "_law_same", "_law_key", "_law_one", "_law_two"] ["_law_item", "_law_due"] (defScope (top 82)) := ⟨rfl, rfl, rfl, by decide +kernel, rfl, by decide +kernel, by decide +kernel⟩
theorem ok_law_alike (h : Fk P w K mg base G) : ∀ n, Cal P w K mg base G "_law_alike" (2 + n) (m_law_alike n) ["_law_item", "_law_due"] [false, false]
  | 0 => Cal.no h.d_law_alike h.g_law_alike sc_law_alike rfl (fun _ _ _ _ _ _ us hl => match us, hl with | [_, _], _ => rfl) (fun _ _ _ _ _ _ us hl => match us, hl with | [_, _], _ => rfl)
  | n + 1 => Cal.of (k := 2 + n) h.d_law_alike h.g_law_alike sc_law_alike rfl (fun _ _ _ _ _ _ us hl => match us, hl with | [_, _], _ => rfl) (fun _ _ _ _ _ _ us hl => match us, hl with | [_, _], _ => rfl) fun fd cdv A outer s H E F hc hr =>
    have hrec := ok_law_alike h n
    (es_cons (es_if (et_val (ed_isi2 h.kit rfl h.b_isinstance (ed_var rfl (.inr (.inl rfl))) ⟨rfl, by decide, h.b_tuple, rfl, by decide⟩ ⟨rfl, by decide, h.b_list, rfl, by decide⟩)) (es_cons (es_set rfl sc_law_alike.nd rfl (.inl rfl) (ed_if (et_val (ed_isi h.kit rfl h.b_isinstance (ed_var rfl (.inr (.inl rfl))) ⟨rfl, by decide, h.b_list, rfl, by decide⟩)) (ed_isi h.kit rfl h.b_isinstance (ed_var rfl (.inr (.inl rfl))) ⟨rfl, by decide, h.b_list, rfl, by decide⟩) (ed_isi h.kit rfl h.b_isinstance (ed_var rfl (.inr (.inl rfl))) ⟨rfl, by decide, h.b_tuple, rfl, by decide⟩)))
      (es_cons (es_if (et_w (ew_or (et_not (et_val (ed_var rfl (.inl rfl)))) (ew_or1 (et_cmp (op_dNe hr) sp_dNe (ed_cb call_len_seq sp_dLen rfl h.b_len rfl (ea_cons (ed_var rfl (.inr (.inl rfl))) ea_nil)) (ed_cb call_len_seq sp_dLen rfl h.b_len rfl (ea_cons (ed_var rfl (.inr (.inl rfl))) ea_nil)) (nomark _))))) (es_one (es_ret ed_bl)) es_nil)
      (es_one (es_ret (ed_cmp (op_dEq hr) sp_dEq (ed_fz (ed_lc (own := [("_law_one", 4), ("_law_two", 5)]) rfl sc_law_alike.nd (ei_zip rfl h.b_zip (ea_cons (ed_var rfl (.inr (.inl rfl))) (ea_cons (ed_var rfl (.inr (.inl rfl))) ea_nil))) (blkOk_by rfl) (fun _ _ _ _ _ => (eg_tup rfl (egs_cons (eg_name rfl sc_law_alike.nd rfl (.inl rfl)) (egs_cons (eg_name rfl sc_law_alike.nd rfl (.inl rfl)) egs_nil)))) (fun _ _ _ _ _ => (tests_one (et_not (et_val (ed_cl (hj := Nat.le_refl _) hrec hr takes_blk (em_cons (ed_var rfl (.inl rfl)) (em_cons (ed_var rfl (.inl rfl)) em_nil))))))) (fun _ _ _ _ _ => ed_int))) (ed_fz (ed_lst ea_nil)) (nomark _)))))) es_nil)
      (es_cons (es_if (et_val (ed_isi h.kit rfl h.b_isinstance (ed_var rfl (.inr (.inl rfl))) ⟨rfl, by decide, h.b_dict, rfl, by decide⟩)) (es_cons (es_if (et_w (ew_or (et_not (et_val (ed_isi h.kit rfl h.b_isinstance (ed_var rfl (.inr (.inl rfl))) ⟨rfl, by decide, h.b_dict, rfl, by decide⟩))) (ew_or1 (et_not (et_val (ed_cl (hj := Nat.le_refl _) hrec hr takes_def (em_cons (ed_fz (ed_ct call_list_of sp_dList rfl h.b_list rfl (ea_cons (ed_var rfl (.inr (.inl rfl))) ea_nil))) (em_cons (ed_fz (ed_ct call_list_of sp_dList rfl h.b_list rfl (ea_cons (ed_var rfl (.inr (.inl rfl))) ea_nil))) em_nil)))))))) (es_one (es_ret ed_bl)) es_nil)
      (es_one (es_ret (ed_cmp (op_dEq hr) sp_dEq (ed_fz (ed_lc (own := [("_law_key", 3)]) rfl sc_law_alike.nd (ei_seq (ed_var rfl (.inr (.inl rfl)))) (blkOk_by rfl) (fun _ _ _ _ _ => (eg_name rfl sc_law_alike.nd rfl (.inl rfl))) (fun _ _ _ _ _ => (tests_one (et_not (et_val (ed_cl (hj := Nat.le_refl _) hrec hr takes_blk (em_cons (ed_ix (op_dIx hr) sp_dIx (ed_var rfl (.inr (.inl rfl))) (ed_var rfl (.inl rfl)) (by intro _ _; rfl)) (em_cons (ed_ix (op_dIx hr) sp_dIx (ed_var rfl (.inr (.inl rfl))) (ed_var rfl (.inl rfl)) (by intro _ _; rfl)) em_nil))))))) (fun _ _ _ _ _ => ed_int))) (ed_fz (ed_lst ea_nil)) (nomark _))))) es_nil)
      (es_cons (es_if (et_cmp (op_isN) sp_dIsN (ed_var rfl (.inr (.inl rfl))) ed_non (nomark _)) (es_one (es_ret (ed_cmp (op_isN) sp_dIsN (ed_var rfl (.inr (.inl rfl))) ed_non (nomark _)))) es_nil)
      (es_cons (es_if (et_val (ed_isi h.kit rfl h.b_isinstance (ed_var rfl (.inr (.inl rfl))) ⟨rfl, by decide, h.b_bool, rfl, by decide⟩)) (es_one (es_ret (ed_and (ed_isi h.kit rfl h.b_isinstance (ed_var rfl (.inr (.inl rfl))) ⟨rfl, by decide, h.b_bool, rfl, by decide⟩) (ed_one (ed_cmp (op_dEq hr) sp_dEq (ed_var rfl (.inr (.inl rfl))) (ed_var rfl (.inr (.inl rfl))) (nomark _)))))) es_nil)
      (es_cons (es_if (et_val (ed_cl (hj := Nat.le_add_right_of_le (by decide)) (ok_law_is_whole h) hr takes_def (em_cons (ed_var rfl (.inr (.inl rfl))) em_nil))) (es_one (es_ret (ed_and (ed_cl (hj := Nat.le_add_right_of_le (by decide)) (ok_law_is_whole h) hr takes_def (em_cons (ed_var rfl (.inr (.inl rfl))) em_nil)) (ed_one (ed_cmp (op_dEq hr) sp_dEq (ed_var rfl (.inr (.inl rfl))) (ed_var rfl (.inr (.inl rfl))) (nomark _)))))) es_nil)
      (es_one (es_ret (ed_and (ed_isi h.kit rfl h.b_isinstance (ed_var rfl (.inr (.inl rfl))) ⟨rfl, by decide, h.b_str, rfl, by decide⟩) (ed_one (ed_cmp (op_dEq hr) sp_dEq (ed_var rfl (.inr (.inl rfl))) (ed_var rfl (.inr (.inl rfl))) (nomark _)))))))))))
theorem sc_law_led_by : FnScope ["_law_state", "_law_scope", "_law_left", "_law_sent", "_law_heard", "_law_rooms_here", "_law_room_here", "_law_note_here", "_law_item", "_law_told", "_law_known", "_law_other"] ["_law_state", "_law_scope", "_law_left", "_law_sent", "_law_heard"] (defScope (top 62)) := ⟨rfl, rfl, rfl, by decide +kernel, rfl, by decide +kernel, by decide +kernel⟩
theorem ok_law_led_by (h : Fk P w K mg base G) : ∀ n, Cal P w K mg base G "_law_led_by" (3 + n) (m_law_led_by n) ["_law_state", "_law_scope", "_law_left", "_law_sent", "_law_heard"] [true, true, false, false, false]
  | 0 => Cal.no h.d_law_led_by h.g_law_led_by sc_law_led_by rfl (fun _ _ _ _ _ _ us hl => match us, hl with | [_, _, _, _, _], _ => rfl) (fun _ _ _ _ _ _ us hl => match us, hl with | [_, _, _, _, _], _ => rfl)
  | n + 1 => Cal.of (k := 3 + n) h.d_law_led_by h.g_law_led_by sc_law_led_by rfl (fun _ _ _ _ _ _ us hl => match us, hl with | [_, _, _, _, _], _ => rfl) (fun _ _ _ _ _ _ us hl => match us, hl with | [_, _, _, _, _], _ => rfl) fun fd cdv A outer s H E F hc hr =>
    have hrec := ok_law_led_by h n
    (es_one (es_if (et_cmp (op_dEq hr) sp_dEq (ed_var rfl (.inl rfl)) (ed_fz (ed_lst ea_nil)) (nomark _)) (es_cons (es_set rfl sc_law_led_by.nd rfl (.inl rfl) (ed_fz (ed_listR rfl rfl h.b_list rfl h.b_range (ed_cb call_len_seq sp_dLen rfl h.b_len rfl (ea_cons (ed_pl (pl_key hr (pl_name rfl (.inl rfl)))) ea_nil)))))
      (es_one (es_asg (ed_ct call_tuple_of sp_dTuple rfl h.b_tuple rfl (ea_cons (ed_fz (ed_lc (own := [("_law_room_here", 6)]) rfl sc_law_led_by.nd (ei_seq (ed_var rfl (.inl rfl))) (blkOk_by rfl) (fun _ _ _ _ _ => (eg_name rfl sc_law_led_by.nd rfl (.inl rfl))) (fun _ _ _ _ _ => tests_yes) (fun _ _ _ _ _ => (ed_ix (op_dIx hr) sp_dIx (ed_var rfl (.inr (.inl rfl))) (ed_var rfl (.inl rfl)) (by intro _ _; rfl))))) ea_nil)) (eg_put (E := WD E) hr (pl_key hr (pl_name rfl (.inl rfl))) (ed_ct call_tuple_of sp_dTuple rfl h.b_tuple rfl (ea_cons (ed_fz (ed_lc (own := [("_law_room_here", 6)]) rfl sc_law_led_by.nd (ei_seq (ed_var rfl (.inl rfl))) (blkOk_by rfl) (fun _ _ _ _ _ => (eg_name rfl sc_law_led_by.nd rfl (.inl rfl))) (fun _ _ _ _ _ => tests_yes) (fun _ _ _ _ _ => (ed_ix (op_dIx hr) sp_dIx (ed_var rfl (.inr (.inl rfl))) (ed_var rfl (.inl rfl)) (by intro _ _; rfl))))) ea_nil)))))) (es_cons (es_set rfl sc_law_led_by.nd rfl (.inr rfl) (ed_cl (hj := Nat.le_add_right_of_le (by decide)) (ok_law_pick h) hr takes_def (em_mut rfl (.inl rfl) (em_cons (ed_var rfl (.inl rfl)) em_nil))))
      (es_cons (es_set rfl sc_law_led_by.nd rfl (.inl rfl) (ed_cl (hj := Nat.le_add_right_of_le (by decide)) (ok_law_draw h) hr takes_def (em_mut rfl (.inl rfl) (em_cons (ed_ix (op_dIx hr) sp_dIx (ed_pl (pl_key hr (pl_name rfl (.inl rfl)))) (ed_var rfl (.inr (.inl rfl))) (by intro _ _; rfl)) em_nil))))
      (es_one (es_for own_def rfl (ei_rng1 rfl h.b_range (ea_cons (ed_ix (op_dIx hr) sp_dIx (ed_pl (pl_key hr (pl_name rfl (.inl rfl)))) (ed_var rfl (.inr (.inl rfl))) (by intro _ _; rfl)) ea_nil)) (eg_name rfl sc_law_led_by.nd rfl (.inl rfl)) (es_cons (es_par rfl rfl rfl sc_law_led_by.nd rfl rfl (by decide) rfl rfl (ea_cons (ed_ct (call_dictX hr) sp_dDict rfl h.b_dict rfl (ea_cons (ed_var rfl (.inr (.inl rfl))) ea_nil)) (ea_cons (ed_ct (call_dictX hr) sp_dDict rfl h.b_dict rfl (ea_cons (ed_var rfl (.inr (.inl rfl))) ea_nil)) ea_nil)) rfl)
      (es_cons (es_asg (ed_tup (ea_cons (ed_var rfl (.inl rfl)) (ea_cons (ed_var rfl (.inl rfl)) ea_nil))) (eg_tup rfl (egs_cons (eg_put (E := WD E) hr (pl_name rfl (.inl rfl)) (ed_var rfl (.inr (.inl rfl)))) (egs_cons (eg_put (E := WD E) hr (pl_name rfl (.inl rfl)) (ed_var rfl (.inr (.inl rfl)))) egs_nil))))
      (es_one (es_expr (ed_cl (hj := Nat.le_refl _) hrec hr takes_def (em_mut rfl (.inl rfl) (em_mut rfl (.inl rfl) (em_cons (ed_fz (ed_lc (own := [("_law_other", 11)]) rfl sc_law_led_by.nd (ei_seq (ed_var rfl (.inl rfl))) (blkOk_by rfl) (fun _ _ _ _ _ => (eg_name rfl sc_law_led_by.nd rfl (.inl rfl))) (fun _ _ _ _ _ => (tests_one (et_cmp (op_dNe hr) sp_dNe (ed_var rfl (.inl rfl)) (ed_var rfl (.inr (.inl rfl))) (nomark _)))) (fun _ _ _ _ _ => (ed_var rfl (.inl rfl))))) (em_cons (ed_vz rfl (.inl rfl)) (em_cons (ed_vz rfl (.inl rfl)) em_nil))))))))))))))))
theorem sc_law_steps_right : FnScope ["_law_state", "_law_scope", "_law_made_here", "_law_one", "_law_other", "_law_parted", "_law_found", "_law_lap", "_law_unlike", "_law_spot", "_law_near_here", "_law_here", "_law_there", "_law_less"] ["_law_state", "_law_scope", "_law_made_here", "_law_one", "_law_other"] (defScope (top 90)) := ⟨rfl, rfl, rfl, by decide +kernel, rfl, by decide +kernel, by decide +kernel⟩
theorem ok_law_steps_right (h : Fk P w K mg base G) : Cal P w K mg base G "_law_steps_right" 13 m_law_steps_right ["_law_state", "_law_scope", "_law_made_here", "_law_one", "_law_other"] [true, false, false, false, false] := Cal.of h.d_law_steps_right h.g_law_steps_right sc_law_steps_right rfl (fun _ _ _ _ _ _ us hl => match us, hl with | [_, _, _, _, _], _ => rfl) (fun _ _ _ _ _ _ us hl => match us, hl with | [_, _, _, _, _], _ => rfl) fun fd cdv A outer s H E F hc hr =>
    (es_cons (es_set rfl sc_law_steps_right.nd rfl (.inl rfl) (ed_cl (ok_law_parts h) hr takes_def (em_cons (ed_var rfl (.inl rfl)) (em_cons (ed_var rfl (.inl rfl)) (em_cons (ed_var rfl (.inl rfl)) em_nil)))))
      (es_cons (es_if (et_w (ew_or (et_not (et_val (ed_cl (ok_law_alike h 10) hr takes_def (em_cons (ed_clK (ok_parting h) hr takes_def (ek_cons (ed_var rfl (.inl rfl)) (ek_cons (ed_var rfl (.inl rfl)) (ek_cons (ed_var rfl (.inl rfl)) ek_nil)))) (em_cons (ed_ct call_tuple_of sp_dTuple rfl h.b_tuple rfl (ea_cons (ed_var rfl (.inl rfl)) ea_nil)) em_nil))))) (ew_or1 (et_cmp (op_dNe hr) sp_dNe (ed_cmp (op_dEq hr) sp_dEq (ed_var rfl (.inl rfl)) (ed_fz (ed_lst ea_nil)) (nomark _)) (ed_cmp (op_dEq hr) sp_dEq (ed_var rfl (.inl rfl)) (ed_var rfl (.inl rfl)) (nomark _)) (nomark _))))) (es_one (es_ret ed_bl)) es_nil)
      (es_cons (es_set rfl sc_law_steps_right.nd rfl (.inl rfl) (ed_clK (ok_binding_step h) hr takes_def (ek_cons (ed_var rfl (.inl rfl)) (ek_cons (ed_var rfl (.inl rfl)) (ek_cons (ed_var rfl (.inl rfl)) ek_nil)))))
      (es_cons (es_if (et_not (et_val (ed_cl (ok_law_is_step h) hr takes_def (em_cons (ed_var rfl (.inl rfl)) (em_cons (ed_var rfl (.inl rfl)) (em_cons (ed_var rfl (.inl rfl)) (em_cons (ed_var rfl (.inl rfl)) em_nil))))))) (es_one (es_ret ed_bl)) es_nil)
      (es_cons (es_for own_def rfl (ei_rng1 rfl h.b_range (ea_cons ed_int ea_nil)) (eg_name rfl sc_law_steps_right.nd rfl (.inl rfl)) (es_cons (es_set rfl sc_law_steps_right.nd rfl (.inl rfl) (ed_cl (ok_law_near_step h) hr takes_def (em_mut rfl (.inl rfl) (em_cons (ed_var rfl (.inl rfl)) (em_cons (ed_var rfl (.inl rfl)) (em_cons (ed_var rfl (.inl rfl)) (em_cons (ed_var rfl (.inl rfl)) em_nil)))))))
      (es_one (es_if (et_not (et_val (ed_cl (ok_law_alike h 10) hr takes_def (em_cons (ed_clK (ok_is_binding_step h) hr takes_def (ek_cons (ed_var rfl (.inl rfl)) (ek_cons (ed_var rfl (.inl rfl)) (ek_cons (ed_var rfl (.inl rfl)) (ek_cons (ed_var rfl (.inl rfl)) ek_nil))))) (em_cons (ed_cl (ok_law_is_step h) hr takes_def (em_cons (ed_var rfl (.inl rfl)) (em_cons (ed_var rfl (.inl rfl)) (em_cons (ed_var rfl (.inl rfl)) (em_cons (ed_var rfl (.inl rfl)) em_nil))))) em_nil))))) (es_one (es_ret ed_bl)) es_nil))))
      (es_cons (es_par rfl rfl rfl sc_law_steps_right.nd rfl rfl (by decide) rfl rfl (ea_cons (ed_cl (ok_law_through_row h) hr takes_def (em_mut rfl (.inl rfl) (em_cons (ed_var rfl (.inl rfl)) (em_cons (ed_var rfl (.inl rfl)) em_nil)))) (ea_cons (ed_cl (ok_law_through_row h) hr takes_def (em_mut rfl (.inl rfl) (em_cons (ed_var rfl (.inl rfl)) (em_cons (ed_var rfl (.inl rfl)) em_nil)))) ea_nil)) rfl)
      (es_cons (es_set rfl sc_law_steps_right.nd rfl (.inr rfl) (ed_cl (ok_law_unlike_spots h) hr takes_def (em_cons (ed_var rfl (.inl rfl)) (em_cons (ed_var rfl (.inl rfl)) em_nil))))
      (es_cons (es_if (et_cmp (op_dNe hr) sp_dNe (ed_fz (ed_lc (own := [("_law_spot", 9)]) rfl sc_law_steps_right.nd (ei_seq (ed_var rfl (.inl rfl))) (blkOk_by rfl) (fun _ _ _ _ _ => (eg_name rfl sc_law_steps_right.nd rfl (.inl rfl))) (fun _ _ _ _ _ => (tests_one (et_cmp (op_notIn_seq) sp_dNotIn (ed_var rfl (.inl rfl)) (ed_var rfl (.inr (.inl rfl))) rfl))) (fun _ _ _ _ _ => (ed_var rfl (.inl rfl))))) (ed_fz (ed_lst ea_nil)) (nomark _)) (es_one (es_ret ed_bl)) es_nil)
      (es_cons (es_for own_def rfl (ei_seq (ed_var rfl (.inl rfl))) (eg_name rfl sc_law_steps_right.nd rfl (.inl rfl)) (es_cons (es_set rfl sc_law_steps_right.nd rfl (.inl rfl) (ed_cl (ok_law_with h) hr takes_def (em_cons (ed_ix (op_dIx hr) sp_dIx (ed_var rfl (.inl rfl)) ed_int (by intro _ _; rfl)) (em_cons (ed_var rfl (.inl rfl)) (em_cons (ed_ix (op_dIx hr) sp_dIx (ed_ix (op_dIx hr) sp_dIx (ed_var rfl (.inl rfl)) ed_int (by intro _ _; rfl)) (ed_var rfl (.inl rfl)) (by intro _ _; rfl)) em_nil)))))
      (es_one (es_if (et_cmp (op_dEq hr) sp_dEq (ed_cl (ok_law_stories h) hr takes_def (em_cons (ed_var rfl (.inl rfl)) (em_cons (ed_var rfl (.inl rfl)) em_nil))) (ed_fz (ed_lst (ea_cons (ed_var rfl (.inl rfl)) ea_nil))) (nomark _)) (es_one (es_ret ed_bl)) es_nil))))
      (es_one (es_ret ed_bl)))))))))))
theorem sc_law_led : FnScope ["_law_state", "_law_sends_here", "_law_takes_here", "_law_scope"] ["_law_state", "_law_sends_here", "_law_takes_here"] (defScope (top 63)) := ⟨rfl, rfl, rfl, by decide +kernel, rfl, by decide +kernel, by decide +kernel⟩
theorem ok_law_led (h : Fk P w K mg base G) : Cal P w K mg base G "_law_led" 14 m_law_led ["_law_state", "_law_sends_here", "_law_takes_here"] [true, false, false] := Cal.of h.d_law_led h.g_law_led sc_law_led rfl (fun _ _ _ _ _ _ us hl => match us, hl with | [_, _, _], _ => rfl) (fun _ _ _ _ _ _ us hl => match us, hl with | [_, _, _], _ => rfl) fun fd cdv A outer s H E F hc hr =>
    (es_cons (es_set rfl sc_law_led.nd rfl (.inl rfl) (ed_disp (pps_cons ed_str (ed_var rfl (.inl rfl)) (pps_cons ed_str (ed_var rfl (.inl rfl)) (pps_cons ed_str ed_newT pps_nil)))))
      (es_cons (es_expr (ed_cl (ok_law_led_by h 10) hr takes_def (em_mut rfl (.inl rfl) (em_mut rfl (.inl rfl) (em_cons (ed_fz (ed_listR rfl rfl h.b_list rfl h.b_range (ed_cb call_len_seq sp_dLen rfl h.b_len rfl (ea_cons (ed_var rfl (.inl rfl)) ea_nil)))) (em_cons (ed_fz ed_newK) (em_cons (ed_fz ed_newK) em_nil)))))))
      (es_one (es_ret (ed_vz rfl (.inl rfl))))))
theorem sc_law_fine : FnScope ["_law_state", "_law_fashion", "_law_sends_here"] ["_law_state"] (defScope (top 69)) := ⟨rfl, rfl, rfl, by decide +kernel, rfl, by decide +kernel, by decide +kernel⟩
theorem ok_law_fine (h : Fk P w K mg base G) : Cal P w K mg base G "_law_fine" 15 m_law_fine ["_law_state"] [true] := Cal.of h.d_law_fine h.g_law_fine sc_law_fine rfl (fun _ _ _ _ _ _ us hl => match us, hl with | [_], _ => rfl) (fun _ _ _ _ _ _ us hl => match us, hl with | [_], _ => rfl) fun fd cdv A outer s H E F hc hr =>
    (es_cons (es_set rfl sc_law_fine.nd rfl (.inl rfl) (ed_cl (ok_law_draw h) hr takes_def (em_mut rfl (.inl rfl) (em_cons ed_int em_nil))))
      (es_cons (es_if (et_cmp (op_dEq hr) sp_dEq (ed_var rfl (.inl rfl)) ed_int (nomark _)) (es_cons (es_set rfl sc_law_fine.nd rfl (.inl rfl) (ed_cl (ok_law_sizes h) hr takes_def (em_mut rfl (.inl rfl) em_nil)))
      (es_one (es_ret (ed_cl (ok_law_led h) hr takes_def (em_mut rfl (.inl rfl) (em_cons (ed_var rfl (.inl rfl)) (em_cons (ed_cl (ok_law_some_takes h) hr takes_def (em_mut rfl (.inl rfl) (em_cons (ed_var rfl (.inl rfl)) em_nil))) em_nil))))))) es_nil)
      (es_cons (es_if (et_cmp (op_dEq hr) sp_dEq (ed_var rfl (.inl rfl)) ed_int (nomark _)) (es_one (es_ret (ed_cl (ok_law_rooms_mixed h) hr takes_def (em_mut rfl (.inl rfl) (em_cons (ed_cl (ok_law_beside h) hr takes_def (em_cons (ed_cl0 (ok_law_turning h) hr takes_def) (em_cons (ed_cl (ok_law_led h) hr takes_def (em_mut rfl (.inl rfl) (em_cons (ed_tup (ea_cons ed_int ea_nil)) (em_cons (ed_tup (ea_cons ed_int ea_nil)) em_nil)))) em_nil))) em_nil))))) es_nil)
      (es_cons (es_if (et_cmp (op_dEq hr) sp_dEq (ed_var rfl (.inl rfl)) ed_int (nomark _)) (es_one (es_ret (ed_cl (ok_law_through h) hr takes_def (em_mut rfl (.inl rfl) (em_cons (ed_cl0 (ok_law_turning h) hr takes_def) (em_cons (ed_tup (ea_cons ed_int (ea_cons ed_int (ea_cons ed_int ea_nil)))) (em_cons (ed_tup (ea_cons ed_int (ea_cons ed_int (ea_cons ed_int ea_nil)))) em_nil))))))) es_nil)
      (es_one (es_ret (ed_cl (ok_law_through h) hr takes_def (em_mut rfl (.inl rfl) (em_cons (ed_cl0 (ok_law_turning h) hr takes_def) (em_cons (ed_cl (ok_law_pick h) hr takes_def (em_mut rfl (.inl rfl) (em_cons (ed_fz (ed_lst (ea_cons (ed_tup (ea_cons ed_int (ea_cons ed_int (ea_cons ed_int ea_nil)))) (ea_cons (ed_tup (ea_cons ed_int (ea_cons ed_int (ea_cons ed_int ea_nil)))) (ea_cons (ed_tup (ea_cons ed_int (ea_cons ed_int (ea_cons ed_int ea_nil)))) ea_nil))))) em_nil))) (em_cons (ed_tup (ea_cons ed_int (ea_cons ed_int (ea_cons ed_int ea_nil)))) em_nil)))))))))))
def lm_0 : LamF := pLam "_law_refused.<locals>.<lambda>" ((pElts (pIter ((pBody (top 91)).getD 3 (.Pass ⟨0, 0, 0, 0⟩)))).getD 2 (.Constant .none 0 ⟨0, 0, 0, 0⟩))
theorem scl_0 : FnScope ["_law_one", "_law_two", "_law_three"] ["_law_one", "_law_two", "_law_three"] lm_0.scope := ⟨rfl, rfl, rfl, by decide +kernel, rfl, by decide +kernel, by decide +kernel⟩
theorem lo_0 (h : Fk P w K mg base G) : LamOk P w K mg base G 11 0 ml_0 [false, false, false] := LamOk.ofL (L := lm_0) h.fn_0 scl_0 rfl (by decide) (fun _ _ _ us hl => match us, hl with | [_, _, _], _ => rfl) fun fa cdv A outer s H E hr =>
    (ed_cl (ok_is_binding_step h) hr takes_def (em_cons (ed_var rfl (.inl rfl)) (em_cons (ed_var rfl (.inl rfl)) (em_cons (ed_var rfl (.inl rfl)) (em_cons ed_non em_nil)))))
theorem cw_law_refused (h : Fk P w K mg base G) : ∀ d m, cv_law_refused d = some m → Callee P w K mg base G 11 d m [false, false, false] := by
  intro d m e
  unfold cv_law_refused at e
  split at e
  · split at e
    · rename_i hx
      cases e
      subst hx
      exact ⟨_, (ok_parting h).mono (by decide)⟩
    · split at e
      · rename_i hx
        cases e
        subst hx
        exact ⟨_, (ok_binding_step h).mono (by decide)⟩
      · cases e
  · split at e
    · rename_i hx
      cases e
      subst hx
      exact (lo_0 h).mono (by decide)
    · cases e
  · cases e
end On

set_option Elab.async false
set_option linter.all false
set_option maxRecDepth 100000
set_option maxHeartbeats 4000000
namespace On
open PySem PySem.Spec PyProof.Rows L2
variable {P : Program} {w : World} {K : PySem.W.Frag} {mg : Str → Option Value} {base : Heap} {G : Gs}
theorem sc_law_refused : FnScope ["_law_state", "_law_scope", "_law_made_here", "_law_row", "_law_work", "_law_rows_here", "_law_odd_here", "_law_loud", "_law_bad", "_law_wild"] ["_law_state", "_law_scope", "_law_made_here"] (defScope (top 91)) := ⟨rfl, rfl, rfl, by decide +kernel, rfl, by decide +kernel, by decide +kernel⟩
theorem ok_law_refused (h : Fk P w K mg base G) : Cal P w K mg base G "_law_refused" 15 m_law_refused ["_law_state", "_law_scope", "_law_made_here"] [true, false, false] := Cal.of h.d_law_refused h.g_law_refused sc_law_refused rfl (fun _ _ _ _ _ _ us hl => match us, hl with | [_, _, _], _ => rfl) (fun _ _ _ _ _ _ us hl => match us, hl with | [_, _, _], _ => rfl) fun fd cdv A outer s H E F hc hr =>
    (es_cons (es_asg (ed_tup (ea_cons (ed_cl (ok_law_rows h) hr takes_def (em_cons (ed_ix (op_dIx hr) sp_dIx (ed_var rfl (.inl rfl)) ed_str (by intro _ _; rfl)) em_nil)) (ea_cons (ed_cl (ok_law_odd h) hr takes_def (em_mut rfl (.inl rfl) em_nil)) (ea_cons (ed_cl (ok_law_near h) hr takes_def (em_mut rfl (.inl rfl) (em_cons (ed_var rfl (.inl rfl)) em_nil))) ea_nil)))) (eg_tup rfl (egs_cons (eg_name rfl sc_law_refused.nd rfl (.inl rfl)) (egs_cons (eg_name rfl sc_law_refused.nd rfl (.inr rfl)) (egs_cons (eg_name rfl sc_law_refused.nd rfl (.inl rfl)) egs_nil)))))
      (es_cons (es_set rfl sc_law_refused.nd rfl (.inr rfl) (ed_cl (ok_law_pick h) hr takes_def (em_mut rfl (.inl rfl) (em_cons (ed_var rfl (.inl rfl)) em_nil))))
      (es_cons (es_asg (ed_tup (ea_cons (ed_cl (ok_law_bad_row h) hr takes_def (em_mut rfl (.inl rfl) (em_cons (ed_var rfl (.inr (.inl rfl))) (em_cons (ed_ix (op_dIx hr) sp_dIx (ed_var rfl (.inl rfl)) ed_str (by intro _ _; rfl)) em_nil)))) (ea_cons (ed_cl (ok_law_made h) hr takes_def (em_cons (ed_var rfl (.inl rfl)) em_nil)) ea_nil))) (eg_tup rfl (egs_cons (eg_name rfl sc_law_refused.nd rfl (.inr rfl)) (egs_cons (eg_name rfl sc_law_refused.nd rfl (.inr rfl)) egs_nil))))
      (es_cons (es_for own_def rfl (ei_seq (ed_tup (ea_cons (ed_gl rfl h.g_parting) (ea_cons (ed_gl rfl h.g_binding_step) (ea_cons (ed_lamV (hc ▸ h.t_law_refused fd F) h.fn_0) ea_nil))))) (eg_name rfl sc_law_refused.nd rfl (.inr rfl)) (es_cons (es_if (et_not (et_val (ed_isi h.kit rfl h.b_isinstance (ed_lamC h.xm h.d_law_caught h.g_law_caught sc_law_caught (gv_law_caught h rfl) (hc ▸ h.t_law_refused fd F) hr (LamX.lamS_by rfl) (fun _ _ _ _ _ _ us hl => match us, hl with | [_], _ => rfl) fun A outer s H E' f c' hr => (ed_cv (cw_law_refused h) hr rfl (.inr (.inr rfl)) takes_lam (em_cons (ed_var rfl (.inr (.inr rfl))) (em_cons (ed_var rfl (.inr (.inr rfl))) (em_cons (ed_var rfl (.inr (.inr rfl))) em_nil))))) ⟨rfl, by decide, h.g_BadTable⟩))) (es_one (es_ret ed_bl)) es_nil)
      (es_cons (es_if (et_w (ew_and (et_cmp (op_dNe hr) sp_dNe (ed_cl (ok_law_unparted h) hr takes_def (em_cons (ed_var rfl (.inl rfl)) em_nil)) (ed_fz (ed_lst ea_nil)) (nomark _)) (ew_and1 (et_not (et_val (ed_isi h.kit rfl h.b_isinstance (ed_lamC h.xm h.d_law_caught h.g_law_caught sc_law_caught (gv_law_caught h rfl) (hc ▸ h.t_law_refused fd F) hr (LamX.lamS_by rfl) (fun _ _ _ _ _ _ us hl => match us, hl with | [_], _ => rfl) fun A outer s H E' f c' hr => (ed_cv (cw_law_refused h) hr rfl (.inr (.inr rfl)) takes_lam (em_cons (ed_var rfl (.inr (.inr rfl))) (em_cons (ed_var rfl (.inr (.inr rfl))) (em_cons (ed_var rfl (.inr (.inr rfl))) em_nil))))) ⟨rfl, by decide, h.g_NotFine⟩)))))) (es_one (es_ret ed_bl)) es_nil)
      (es_cons (es_if (et_not (et_val (ed_isi h.kit rfl h.b_isinstance (ed_lamC h.xm h.d_law_caught h.g_law_caught sc_law_caught (gv_law_caught h rfl) (hc ▸ h.t_law_refused fd F) hr (LamX.lamS_by rfl) (fun _ _ _ _ _ _ us hl => match us, hl with | [_], _ => rfl) fun A outer s H E' f c' hr => (ed_cv (cw_law_refused h) hr rfl (.inr (.inr rfl)) takes_lam (em_cons (ed_var rfl (.inr (.inr rfl))) (em_cons (ed_var rfl (.inr (.inr rfl))) (em_cons (ed_var rfl (.inr (.inr rfl))) em_nil))))) ⟨rfl, by decide, h.g_BadSending⟩))) (es_one (es_ret ed_bl)) es_nil)
      (es_one (es_if (et_not (et_val (ed_isi h.kit rfl h.b_isinstance (ed_lamC h.xm h.d_law_caught h.g_law_caught sc_law_caught (gv_law_caught h rfl) (hc ▸ h.t_law_refused fd F) hr (LamX.lamS_by rfl) (fun _ _ _ _ _ _ us hl => match us, hl with | [_], _ => rfl) fun A outer s H E' f c' hr => (ed_cv (cw_law_refused h) hr rfl (.inr (.inr rfl)) takes_lam (em_cons (ed_var rfl (.inr (.inr rfl))) (em_cons (ed_var rfl (.inr (.inr rfl))) (em_cons (ed_var rfl (.inr (.inr rfl))) em_nil))))) ⟨rfl, by decide, h.g_BadSending⟩))) (es_one (es_ret ed_bl)) es_nil))))))
      (es_one (es_ret ed_bl))))))
theorem sc_law : FnScope ["_law_script", "_law_state", "_law_scope", "_law_lap", "_law_made_here", "_law_rows_here", "_law_one", "_law_other"] ["_law_script"] (defScope (top 92)) := ⟨rfl, rfl, rfl, by decide +kernel, rfl, by decide +kernel, by decide +kernel⟩
theorem fn_law (h : Fk P w K mg base G) {fd : FuncData} (F : FunD K "law" "law" (defArgs (top 92)) (defBody (top 92)) (defScope (top 92)) [] [] (G "law") fd) : FnOk P w K mg base (L2.CX P w) 16 (G "law") fd ["_law_script"] (spF G m_law [false]) := ok_defC F sc_law rfl fun cdv A outer s H E hc hr =>
    (es_cons (es_set rfl sc_law.nd rfl (.inl rfl) (ed_cl (ok_law_begun h) hr takes_def (em_cons (ed_var rfl (.inl rfl)) em_nil)))
      (es_cons (es_set rfl sc_law.nd rfl (.inl rfl) (ed_cl (ok_law_fine h) hr takes_def (em_mut rfl (.inl rfl) em_nil)))
      (es_cons (es_par rfl rfl rfl sc_law.nd rfl rfl (by decide) rfl rfl (ea_cons (ed_cl (ok_law_made h) hr takes_def (em_cons (ed_var rfl (.inl rfl)) em_nil)) (ea_cons (ed_cl (ok_law_rows h) hr takes_def (em_cons (ed_ix (op_dIx hr) sp_dIx (ed_var rfl (.inl rfl)) ed_str (by intro _ _; rfl)) em_nil)) ea_nil)) rfl)
      (es_cons (es_for own_def rfl (ei_rng1 rfl h.b_range (ea_cons ed_int ea_nil)) (eg_name rfl sc_law.nd rfl (.inl rfl)) (es_cons (es_par rfl rfl rfl sc_law.nd rfl rfl (by decide) rfl rfl (ea_cons (ed_cl (ok_law_pick h) hr takes_def (em_mut rfl (.inl rfl) (em_cons (ed_var rfl (.inl rfl)) em_nil))) (ea_cons (ed_cl (ok_law_pick h) hr takes_def (em_mut rfl (.inl rfl) (em_cons (ed_var rfl (.inl rfl)) em_nil))) ea_nil)) rfl)
      (es_one (es_if (et_not (et_val (ed_cl (ok_law_steps_right h) hr takes_def (em_mut rfl (.inl rfl) (em_cons (ed_var rfl (.inl rfl)) (em_cons (ed_var rfl (.inl rfl)) (em_cons (ed_var rfl (.inl rfl)) (em_cons (ed_var rfl (.inl rfl)) em_nil)))))))) (es_one (es_ret ed_bl)) es_nil))))
      (es_one (es_ret (ed_cl (ok_law_refused h) hr takes_def (em_mut rfl (.inl rfl) (em_cons (ed_var rfl (.inl rfl)) (em_cons (ed_var rfl (.inl rfl)) em_nil))))))))))
end On

set_option Elab.async false
set_option linter.all false
set_option maxRecDepth 100000
set_option maxHeartbeats 0
namespace On
open PySem PySem.Spec PyProof.Rows L2
theorem fk_of {P : Program} {w : World} {K : PySem.W.Frag} {h base : Heap} {mg : Str → Option Value} (c : He.SaysX hfa hfn [] htf hex w h K) (X : K.In base) (N : base.Ns mainGlobals mg) (TB : ∀ p ∈ htf.map (He.cT K), LamX.TabB base mg p.1 p.2) : Fk P w K mg base (gsOf K htf hlm) := by
  obtain ⟨m1, m⟩ := He.ba c.more
  obtain ⟨m2, m⟩ := He.ba m
  obtain ⟨m3, m⟩ := He.ba m
  obtain ⟨m4, m5⟩ := He.ba m
  have nd := of_decide_eq_true m4
  have C := c.t.d
  refine {
    kit := ⟨fun x hx => ?_, fun x hx => ?_, fun p hp => of_decide_eq_true (List.all_eq_true.mp m3 p hp)⟩
    b_abs := He.free_ok X N (C.fact 81 (f := .free "abs") rfl)
    b_all := He.free_ok X N (C.fact 82 (f := .free "all") rfl)
    b_bool := He.free_ok X N (C.fact 83 (f := .free "bool") rfl)
    b_dict := He.free_ok X N (C.fact 84 (f := .free "dict") rfl)
    b_enumerate := He.free_ok X N (C.fact 85 (f := .free "enumerate") rfl)
    b_int := He.free_ok X N (C.fact 86 (f := .free "int") rfl)
    b_isinstance := He.free_ok X N (C.fact 87 (f := .free "isinstance") rfl)
    b_len := He.free_ok X N (C.fact 88 (f := .free "len") rfl)
    b_list := He.free_ok X N (C.fact 89 (f := .free "list") rfl)
    b_range := He.free_ok X N (C.fact 90 (f := .free "range") rfl)
    b_str := He.free_ok X N (C.fact 91 (f := .free "str") rfl)
    b_tuple := He.free_ok X N (C.fact 92 (f := .free "tuple") rfl)
    b_zip := He.free_ok X N (C.fact 93 (f := .free "zip") rfl)
    i_MOST_ROOMS := He.int_ok X N (C.fact 94 (f := .int "MOST_ROOMS" 6) rfl)
    i_MOST_SIZE := He.int_ok X N (C.fact 95 (f := .int "MOST_SIZE" 64) rfl)
    i_MOST_SENDINGS := He.int_ok X N (C.fact 96 (f := .int "MOST_SENDINGS" 64) rfl)
    g_StoryError := He.glo_ok X N (C.fact 73 (f := .glo "StoryError") rfl)
    g_BadNotes := He.glo_ok X N (C.fact 74 (f := .glo "BadNotes") rfl)
    g_BadSending := He.glo_ok X N (C.fact 75 (f := .glo "BadSending") rfl)
    g_BadSends := He.glo_ok X N (C.fact 76 (f := .glo "BadSends") rfl)
    g_BadTable := He.glo_ok X N (C.fact 77 (f := .glo "BadTable") rfl)
    g_BadTakes := He.glo_ok X N (C.fact 78 (f := .glo "BadTakes") rfl)
    g_NotFine := He.glo_ok X N (C.fact 79 (f := .glo "NotFine") rfl)
    g_Table := He.glo_ok X N (C.fact 80 (f := .glo "Table") rfl)
    x_BadNotes := (fun z => ⟨z.1, z.2.1, z.2.2.1, z.2.2.2⟩) (He.exc_ok (C.fact 97 (f := .exc "BadNotes") rfl))
    x_BadSending := (fun z => ⟨z.1, z.2.1, z.2.2.1, z.2.2.2⟩) (He.exc_ok (C.fact 99 (f := .exc "BadSending") rfl))
    x_BadSends := (fun z => ⟨z.1, z.2.1, z.2.2.1, z.2.2.2⟩) (He.exc_ok (C.fact 101 (f := .exc "BadSends") rfl))
    x_BadTable := (fun z => ⟨z.1, z.2.1, z.2.2.1, z.2.2.2⟩) (He.exc_ok (C.fact 103 (f := .exc "BadTable") rfl))
    x_BadTakes := (fun z => ⟨z.1, z.2.1, z.2.2.1, z.2.2.2⟩) (He.exc_ok (C.fact 105 (f := .exc "BadTakes") rfl))
    x_NotFine := (fun z => ⟨z.1, z.2.1, z.2.2.1, z.2.2.2⟩) (He.exc_ok (C.fact 107 (f := .exc "NotFine") rfl))
    x_StoryError := (fun z => ⟨z.1, z.2.1, z.2.2.1, z.2.2.2⟩) (He.exc_ok (C.fact 109 (f := .exc "StoryError") rfl))
    c_Table := He.cls_ok (C.fact 111 (f := .cls "Table") rfl)
    k_Table := ⟨_, He.mkr_ok (C.fact 112 (f := .mkr "Table") rfl), C.def_ 73 (d := hd_Table_init) rfl⟩
    xm := fun x hx => ?_
    fn_0 := rfl
    t_law_refused := fun fd F => lamTb_of nd TB (by decide) F
    a_Table_sends := He.noat_ok (C.fact 113 (f := .noat "Table" "sends") rfl)
    a_Table_takes := He.noat_ok (C.fact 114 (f := .noat "Table" "takes") rfl)
    a_Table_notes := He.noat_ok (C.fact 115 (f := .noat "Table" "notes") rfl)
    g_is_number := He.glo_ok X N (C.fact 0 (f := .glo "is_number") rfl)
    d_is_number := C.def_ 0 (d := hd_is_number) rfl
    g_is_between := He.glo_ok X N (C.fact 1 (f := .glo "is_between") rfl)
    d_is_between := C.def_ 1 (d := hd_is_between) rfl
    g_product_of := He.glo_ok X N (C.fact 2 (f := .glo "product_of") rfl)
    d_product_of := C.def_ 2 (d := hd_product_of) rfl
    g_is_row := He.glo_ok X N (C.fact 3 (f := .glo "is_row") rfl)
    d_is_row := C.def_ 3 (d := hd_is_row) rfl
    g_rows_of := He.glo_ok X N (C.fact 4 (f := .glo "rows_of") rfl)
    d_rows_of := C.def_ 4 (d := hd_rows_of) rfl
    g_place_of := He.glo_ok X N (C.fact 5 (f := .glo "place_of") rfl)
    d_place_of := C.def_ 5 (d := hd_place_of) rfl
    g_are_sizes := He.glo_ok X N (C.fact 6 (f := .glo "are_sizes") rfl)
    d_are_sizes := C.def_ 6 (d := hd_are_sizes) rfl
    g_need_sends := He.glo_ok X N (C.fact 7 (f := .glo "need_sends") rfl)
    d_need_sends := C.def_ 7 (d := hd_need_sends) rfl
    g_need_takes := He.glo_ok X N (C.fact 8 (f := .glo "need_takes") rfl)
    d_need_takes := C.def_ 8 (d := hd_need_takes) rfl
    g_need_table := He.glo_ok X N (C.fact 9 (f := .glo "need_table") rfl)
    d_need_table := C.def_ 9 (d := hd_need_table) rfl
    g_need_sending := He.glo_ok X N (C.fact 10 (f := .glo "need_sending") rfl)
    d_need_sending := C.def_ 10 (d := hd_need_sending) rfl
    g_delivery_of := He.glo_ok X N (C.fact 11 (f := .glo "delivery_of") rfl)
    d_delivery_of := C.def_ 11 (d := hd_delivery_of) rfl
    g_part_of := He.glo_ok X N (C.fact 12 (f := .glo "part_of") rfl)
    d_part_of := C.def_ 12 (d := hd_part_of) rfl
    g_parts_of := He.glo_ok X N (C.fact 13 (f := .glo "parts_of") rfl)
    d_parts_of := C.def_ 13 (d := hd_parts_of) rfl
    g_pairs_left := He.glo_ok X N (C.fact 14 (f := .glo "pairs_left") rfl)
    d_pairs_left := C.def_ 14 (d := hd_pairs_left) rfl
    g_is_fine_table := He.glo_ok X N (C.fact 15 (f := .glo "is_fine_table") rfl)
    d_is_fine_table := C.def_ 15 (d := hd_is_fine_table) rfl
    g_is_rule_of := He.glo_ok X N (C.fact 16 (f := .glo "is_rule_of") rfl)
    d_is_rule_of := C.def_ 16 (d := hd_is_rule_of) rfl
    g_are_rules_of := He.glo_ok X N (C.fact 17 (f := .glo "are_rules_of") rfl)
    d_are_rules_of := C.def_ 17 (d := hd_are_rules_of) rfl
    g_answer_of := He.glo_ok X N (C.fact 18 (f := .glo "answer_of") rfl)
    d_answer_of := C.def_ 18 (d := hd_answer_of) rfl
    g_stories_of := He.glo_ok X N (C.fact 19 (f := .glo "stories_of") rfl)
    d_stories_of := C.def_ 19 (d := hd_stories_of) rfl
    g_rule_through := He.glo_ok X N (C.fact 20 (f := .glo "rule_through") rfl)
    d_rule_through := C.def_ 20 (d := hd_rule_through) rfl
    g_rule_for := He.glo_ok X N (C.fact 21 (f := .glo "rule_for") rfl)
    d_rule_for := C.def_ 21 (d := hd_rule_for) rfl
    g_need_fine := He.glo_ok X N (C.fact 22 (f := .glo "need_fine") rfl)
    d_need_fine := C.def_ 22 (d := hd_need_fine) rfl
    g_need_fine_table := He.glo_ok X N (C.fact 23 (f := .glo "need_fine_table") rfl)
    d_need_fine_table := C.def_ 23 (d := hd_need_fine_table) rfl
    g_parting_of := He.glo_ok X N (C.fact 24 (f := .glo "parting_of") rfl)
    d_parting_of := C.def_ 24 (d := hd_parting_of) rfl
    g_need_ends := He.glo_ok X N (C.fact 25 (f := .glo "need_ends") rfl)
    d_need_ends := C.def_ 25 (d := hd_need_ends) rfl
    g_parting := He.glo_ok X N (C.fact 26 (f := .glo "parting") rfl)
    d_parting := C.def_ 26 (d := hd_parting) rfl
    g_ready_rules := He.glo_ok X N (C.fact 27 (f := .glo "ready_rules") rfl)
    d_ready_rules := C.def_ 27 (d := hd_ready_rules) rfl
    g_crossed_rules := He.glo_ok X N (C.fact 28 (f := .glo "crossed_rules") rfl)
    d_crossed_rules := C.def_ 28 (d := hd_crossed_rules) rfl
    g_binding_step := He.glo_ok X N (C.fact 29 (f := .glo "binding_step") rfl)
    d_binding_step := C.def_ 29 (d := hd_binding_step) rfl
    g_unlike_rooms := He.glo_ok X N (C.fact 30 (f := .glo "unlike_rooms") rfl)
    d_unlike_rooms := C.def_ 30 (d := hd_unlike_rooms) rfl
    g_is_binding_step := He.glo_ok X N (C.fact 31 (f := .glo "is_binding_step") rfl)
    d_is_binding_step := C.def_ 31 (d := hd_is_binding_step) rfl
    g_law_begun := He.glo_ok X N (C.fact 32 (f := .glo "_law_begun") rfl)
    d_law_begun := C.def_ 32 (d := hd_law_begun) rfl
    g_law_draw := He.glo_ok X N (C.fact 33 (f := .glo "_law_draw") rfl)
    d_law_draw := C.def_ 33 (d := hd_law_draw) rfl
    g_law_pick := He.glo_ok X N (C.fact 34 (f := .glo "_law_pick") rfl)
    d_law_pick := C.def_ 34 (d := hd_law_pick) rfl
    g_law_mixed := He.glo_ok X N (C.fact 35 (f := .glo "_law_mixed") rfl)
    d_law_mixed := C.def_ 35 (d := hd_law_mixed) rfl
    g_law_caught := He.glo_ok X N (C.fact 36 (f := .glo "_law_caught") rfl)
    d_law_caught := C.def_ 36 (d := hd_law_caught) rfl
    g_law_is_whole := He.glo_ok X N (C.fact 37 (f := .glo "_law_is_whole") rfl)
    d_law_is_whole := C.def_ 37 (d := hd_law_is_whole) rfl
    g_law_odd := He.glo_ok X N (C.fact 38 (f := .glo "_law_odd") rfl)
    d_law_odd := C.def_ 38 (d := hd_law_odd) rfl
    g_law_rows := He.glo_ok X N (C.fact 39 (f := .glo "_law_rows") rfl)
    d_law_rows := C.def_ 39 (d := hd_law_rows) rfl
    g_law_sizes := He.glo_ok X N (C.fact 40 (f := .glo "_law_sizes") rfl)
    d_law_sizes := C.def_ 40 (d := hd_law_sizes) rfl
    g_law_some_takes := He.glo_ok X N (C.fact 41 (f := .glo "_law_some_takes") rfl)
    d_law_some_takes := C.def_ 41 (d := hd_law_some_takes) rfl
    g_law_led_by := He.glo_ok X N (C.fact 42 (f := .glo "_law_led_by") rfl)
    d_law_led_by := C.def_ 42 (d := hd_law_led_by) rfl
    g_law_led := He.glo_ok X N (C.fact 43 (f := .glo "_law_led") rfl)
    d_law_led := C.def_ 43 (d := hd_law_led) rfl
    g_law_turning := He.glo_ok X N (C.fact 44 (f := .glo "_law_turning") rfl)
    d_law_turning := C.def_ 44 (d := hd_law_turning) rfl
    g_law_map := He.glo_ok X N (C.fact 45 (f := .glo "_law_map") rfl)
    d_law_map := C.def_ 45 (d := hd_law_map) rfl
    g_law_through := He.glo_ok X N (C.fact 46 (f := .glo "_law_through") rfl)
    d_law_through := C.def_ 46 (d := hd_law_through) rfl
    g_law_beside := He.glo_ok X N (C.fact 47 (f := .glo "_law_beside") rfl)
    d_law_beside := C.def_ 47 (d := hd_law_beside) rfl
    g_law_rooms_mixed := He.glo_ok X N (C.fact 48 (f := .glo "_law_rooms_mixed") rfl)
    d_law_rooms_mixed := C.def_ 48 (d := hd_law_rooms_mixed) rfl
    g_law_fine := He.glo_ok X N (C.fact 49 (f := .glo "_law_fine") rfl)
    d_law_fine := C.def_ 49 (d := hd_law_fine) rfl
    g_law_near := He.glo_ok X N (C.fact 50 (f := .glo "_law_near") rfl)
    d_law_near := C.def_ 50 (d := hd_law_near) rfl
    g_law_made := He.glo_ok X N (C.fact 51 (f := .glo "_law_made") rfl)
    d_law_made := C.def_ 51 (d := hd_law_made) rfl
    g_law_rules := He.glo_ok X N (C.fact 52 (f := .glo "_law_rules") rfl)
    d_law_rules := C.def_ 52 (d := hd_law_rules) rfl
    g_law_answer := He.glo_ok X N (C.fact 53 (f := .glo "_law_answer") rfl)
    d_law_answer := C.def_ 53 (d := hd_law_answer) rfl
    g_law_stories := He.glo_ok X N (C.fact 54 (f := .glo "_law_stories") rfl)
    d_law_stories := C.def_ 54 (d := hd_law_stories) rfl
    g_law_parts := He.glo_ok X N (C.fact 55 (f := .glo "_law_parts") rfl)
    d_law_parts := C.def_ 55 (d := hd_law_parts) rfl
    g_law_pairs := He.glo_ok X N (C.fact 56 (f := .glo "_law_pairs") rfl)
    d_law_pairs := C.def_ 56 (d := hd_law_pairs) rfl
    g_law_unparted := He.glo_ok X N (C.fact 57 (f := .glo "_law_unparted") rfl)
    d_law_unparted := C.def_ 57 (d := hd_law_unparted) rfl
    g_law_is_row := He.glo_ok X N (C.fact 58 (f := .glo "_law_is_row") rfl)
    d_law_is_row := C.def_ 58 (d := hd_law_is_row) rfl
    g_law_bool_row := He.glo_ok X N (C.fact 59 (f := .glo "_law_bool_row") rfl)
    d_law_bool_row := C.def_ 59 (d := hd_law_bool_row) rfl
    g_law_bad_row := He.glo_ok X N (C.fact 60 (f := .glo "_law_bad_row") rfl)
    d_law_bad_row := C.def_ 60 (d := hd_law_bad_row) rfl
    g_law_bad_rules := He.glo_ok X N (C.fact 61 (f := .glo "_law_bad_rules") rfl)
    d_law_bad_rules := C.def_ 61 (d := hd_law_bad_rules) rfl
    g_law_alike := He.glo_ok X N (C.fact 62 (f := .glo "_law_alike") rfl)
    d_law_alike := C.def_ 62 (d := hd_law_alike) rfl
    g_law_are_rules := He.glo_ok X N (C.fact 63 (f := .glo "_law_are_rules") rfl)
    d_law_are_rules := C.def_ 63 (d := hd_law_are_rules) rfl
    g_law_with := He.glo_ok X N (C.fact 64 (f := .glo "_law_with") rfl)
    d_law_with := C.def_ 64 (d := hd_law_with) rfl
    g_law_rule := He.glo_ok X N (C.fact 65 (f := .glo "_law_rule") rfl)
    d_law_rule := C.def_ 65 (d := hd_law_rule) rfl
    g_law_through_row := He.glo_ok X N (C.fact 66 (f := .glo "_law_through_row") rfl)
    d_law_through_row := C.def_ 66 (d := hd_law_through_row) rfl
    g_law_unlike_spots := He.glo_ok X N (C.fact 67 (f := .glo "_law_unlike_spots") rfl)
    d_law_unlike_spots := C.def_ 67 (d := hd_law_unlike_spots) rfl
    g_law_is_step := He.glo_ok X N (C.fact 68 (f := .glo "_law_is_step") rfl)
    d_law_is_step := C.def_ 68 (d := hd_law_is_step) rfl
    g_law_near_step := He.glo_ok X N (C.fact 69 (f := .glo "_law_near_step") rfl)
    d_law_near_step := C.def_ 69 (d := hd_law_near_step) rfl
    g_law_steps_right := He.glo_ok X N (C.fact 70 (f := .glo "_law_steps_right") rfl)
    d_law_steps_right := C.def_ 70 (d := hd_law_steps_right) rfl
    g_law_refused := He.glo_ok X N (C.fact 71 (f := .glo "_law_refused") rfl)
    d_law_refused := C.def_ 71 (d := hd_law_refused) rfl
    g_law := He.glo_ok X N (C.fact 72 (f := .glo "law") rfl)
    d_law := C.def_ 72 (d := hd_law) rfl }
  · have hb := List.all_eq_true.mp m1 x hx
    simp only [csL, List.mem_cons, List.not_mem_nil, or_false] at hx
    subst hx
    exact insB_ok (He.cls_ok (C.fact 111 (f := .cls "Table") rfl)) hb
  · have hb := List.all_eq_true.mp m2 x hx
    simp only [esL, List.mem_cons, List.not_mem_nil, or_false] at hx
    rcases hx with rfl | rfl | rfl | rfl | rfl | rfl | rfl
    · exact excB_ok (He.exc_ok (C.fact 97 (f := .exc "BadNotes") rfl)).2.2.1 hb
    · exact excB_ok (He.exc_ok (C.fact 99 (f := .exc "BadSending") rfl)).2.2.1 hb
    · exact excB_ok (He.exc_ok (C.fact 101 (f := .exc "BadSends") rfl)).2.2.1 hb
    · exact excB_ok (He.exc_ok (C.fact 103 (f := .exc "BadTable") rfl)).2.2.1 hb
    · exact excB_ok (He.exc_ok (C.fact 105 (f := .exc "BadTakes") rfl)).2.2.1 hb
    · exact excB_ok (He.exc_ok (C.fact 107 (f := .exc "NotFine") rfl)).2.2.1 hb
    · exact excB_ok (He.exc_ok (C.fact 109 (f := .exc "StoryError") rfl)).2.2.1 hb
  · simp only [esL, List.mem_cons, List.not_mem_nil, or_false] at hx
    rcases hx with rfl | rfl | rfl | rfl | rfl | rfl | rfl
    · exact He.exm_ok (C.fact 98 (f := .exm "BadNotes" "StoryError" true) rfl)
    · exact He.exm_ok (C.fact 100 (f := .exm "BadSending" "StoryError" true) rfl)
    · exact He.exm_ok (C.fact 102 (f := .exm "BadSends" "StoryError" true) rfl)
    · exact He.exm_ok (C.fact 104 (f := .exm "BadTable" "StoryError" true) rfl)
    · exact He.exm_ok (C.fact 106 (f := .exm "BadTakes" "StoryError" true) rfl)
    · exact He.exm_ok (C.fact 108 (f := .exm "NotFine" "StoryError" true) rfl)
    · exact He.exm_ok (C.fact 110 (f := .exm "StoryError" "StoryError" true) rfl)
end On

set_option Elab.async false
set_option linter.all false
set_option maxRecDepth 100000
set_option maxHeartbeats 4000000
/-! Wp1: what a mirror's run ends with, told by what is asked of its end. -/
namespace On
open PySem PySem.Spec
def XR.W (r : XR) (Q : D → Rho → Prop) (E : Str → Rho → Prop) : Prop := match r with
  | .ok d ρ => Q d ρ
  | .ex c ρ => E c ρ
  | .no => False
def AR.W (r : AR) (Q : List D → Rho → Prop) (E : Str → Rho → Prop) : Prop := match r with
  | .ok d ρ => Q d ρ
  | .ex c ρ => E c ρ
  | .no => False
def BR.W (r : BR) (Q : Bool → Rho → Prop) (E : Str → Rho → Prop) : Prop := match r with
  | .ok d ρ => Q d ρ
  | .ex c ρ => E c ρ
  | .no => False
def SR.W (r : SR) (nx : Rho → Prop) (rt : D → Rho → Prop) (E : Str → Rho → Prop) (bk ct : Rho → Prop) : Prop := match r with
  | .nx ρ => nx ρ
  | .rt d ρ => rt d ρ
  | .ex c ρ => E c ρ
  | .bk ρ => bk ρ
  | .ct ρ => ct ρ
  | .no => False
def FR.W (r : FR) (Q : D → List D → Prop) (E : Str → List D → Prop) : Prop := match r with
  | .ok d ms => Q d ms
  | .ex c ms => E c ms
  | .no => False
section
variable {Q : D → Rho → Prop} {QA : List D → Rho → Prop} {QB : Bool → Rho → Prop} {E : Str → Rho → Prop} {nx bk ct : Rho → Prop} {rt : D → Rho → Prop} {ρ : Rho}
variable {x a b c : Xx} {y : Ax} {s t : Bx} {u v : Sx} {i : Nat} {d : D}
@[simp] theorem W_okX : (XR.ok d ρ).W Q E ↔ Q d ρ := .rfl
@[simp] theorem W_exX {c} : (XR.ex c ρ).W Q E ↔ E c ρ := .rfl
@[simp] theorem W_noX : XR.no.W Q E ↔ False := .rfl
@[simp] theorem W_okA {ds} : (AR.ok ds ρ).W QA E ↔ QA ds ρ := .rfl
@[simp] theorem W_exA {c} : (AR.ex c ρ).W QA E ↔ E c ρ := .rfl
@[simp] theorem W_noA : AR.no.W QA E ↔ False := .rfl
@[simp] theorem W_okB {b} : (BR.ok b ρ).W QB E ↔ QB b ρ := .rfl
@[simp] theorem W_exB {c} : (BR.ex c ρ).W QB E ↔ E c ρ := .rfl
@[simp] theorem W_noB : BR.no.W QB E ↔ False := .rfl
@[simp] theorem W_nxS : (SR.nx ρ).W nx rt E bk ct ↔ nx ρ := .rfl
@[simp] theorem W_rtS : (SR.rt d ρ).W nx rt E bk ct ↔ rt d ρ := .rfl
@[simp] theorem W_exS {c} : (SR.ex c ρ).W nx rt E bk ct ↔ E c ρ := .rfl
@[simp] theorem W_bkS : (SR.bk ρ).W nx rt E bk ct ↔ bk ρ := .rfl
@[simp] theorem W_ctS : (SR.ct ρ).W nx rt E bk ct ↔ ct ρ := .rfl
@[simp] theorem W_noS : SR.no.W nx rt E bk ct ↔ False := .rfl
@[simp] theorem W_okF {Q : D → List D → Prop} {E} {ms} : (FR.ok d ms).W Q E ↔ Q d ms := .rfl
@[simp] theorem W_exF {Q : D → List D → Prop} {E} {c ms} : (FR.ex c ms).W Q E ↔ E c ms := .rfl
@[simp] theorem W_noF {Q : D → List D → Prop} {E} : FR.no.W Q E ↔ False := .rfl
theorem XR.W.mono {r : XR} {Q Q' : D → Rho → Prop} {E E' : Str → Rho → Prop} (h : r.W Q E) (hq : ∀ d ρ, Q d ρ → Q' d ρ) (he : ∀ c ρ, E c ρ → E' c ρ) : r.W Q' E' := by
  cases r <;> first | exact hq _ _ h | exact he _ _ h | exact h
theorem AR.W.mono {r : AR} {Q Q' : List D → Rho → Prop} {E E' : Str → Rho → Prop} (h : r.W Q E) (hq : ∀ d ρ, Q d ρ → Q' d ρ) (he : ∀ c ρ, E c ρ → E' c ρ) : r.W Q' E' := by
  cases r <;> first | exact hq _ _ h | exact he _ _ h | exact h
theorem BR.W.mono {r : BR} {Q Q' : Bool → Rho → Prop} {E E' : Str → Rho → Prop} (h : r.W Q E) (hq : ∀ d ρ, Q d ρ → Q' d ρ) (he : ∀ c ρ, E c ρ → E' c ρ) : r.W Q' E' := by
  cases r <;> first | exact hq _ _ h | exact he _ _ h | exact h
theorem FR.W.mono {r : FR} {Q Q' : D → List D → Prop} {E E' : Str → List D → Prop} (h : r.W Q E) (hq : ∀ d ρ, Q d ρ → Q' d ρ) (he : ∀ c ρ, E c ρ → E' c ρ) : r.W Q' E' := by
  cases r <;> first | exact hq _ _ h | exact he _ _ h | exact h
theorem SR.W.mono {r : SR} {nx' bk' ct' : Rho → Prop} {rt' : D → Rho → Prop} {E' : Str → Rho → Prop} (h : r.W nx rt E bk ct) (h1 : ∀ ρ, nx ρ → nx' ρ) (h2 : ∀ d ρ, rt d ρ → rt' d ρ) (h3 : ∀ c ρ, E c ρ → E' c ρ) (h4 : ∀ ρ, bk ρ → bk' ρ) (h5 : ∀ ρ, ct ρ → ct' ρ) : r.W nx' rt' E' bk' ct' := by
  cases r <;> first | exact h1 _ h | exact h2 _ _ h | exact h3 _ _ h | exact h4 _ h | exact h5 _ h | exact h
/-! expressions -/
@[simp] theorem W_xVar : (xVar i ρ).W Q E ↔ ∃ d, ρ[i]? = some (some d) ∧ d.sh = true ∧ Q d ρ := by
  unfold xVar
  split
  · rename_i d h; rw [h]
    by_cases hs : d.sh = true <;> simp [hs]
  · rename_i h; simp only [W_noX, false_iff]; rintro ⟨d, e, _⟩; exact h d e
@[simp] theorem W_xC : (xC d ρ).W Q E ↔ Q d ρ := .rfl
@[simp] theorem W_xOp {f : D → D → Option D} : (xOp f a b ρ).W Q E ↔ (a ρ).W (fun d1 ρ1 => (b ρ1).W (fun d2 ρ2 => d1.sh = true ∧ d2.sh = true ∧ ∃ d, f d1 d2 = some d ∧ Q d ρ2) E) E := by
  unfold xOp XR.bind
  cases a ρ with
  | ok d1 ρ1 =>
    simp only [W_okX]
    cases b ρ1 with
    | ok d2 ρ2 =>
      simp only [W_okX]
      split
      · rename_i h
        cases f d1 d2 <;> simp [h.1, h.2]
      · rename_i h
        simp only [W_noX, false_iff]
        rintro ⟨h1, h2, _⟩; exact h ⟨h1, h2⟩
    | ex c ρ => exact .rfl
    | no => exact .rfl
  | ex c ρ => exact .rfl
  | no => exact .rfl
@[simp] theorem W_xUn {f : D → Option D} : (xUn f a ρ).W Q E ↔ (a ρ).W (fun d1 ρ1 => d1.sh = true ∧ ∃ d, f d1 = some d ∧ Q d ρ1) E := by
  unfold xUn XR.bind
  cases a ρ with
  | ok d1 ρ1 =>
    simp only [W_okX]
    split
    · rename_i h; cases f d1 <;> simp [h]
    · rename_i h; simp only [W_noX, false_iff]; rintro ⟨h1, _⟩; exact h h1
  | ex c ρ => exact .rfl
  | no => exact .rfl
@[simp] theorem W_xAnd : (xAnd a b ρ).W Q E ↔ (a ρ).W (fun d1 ρ1 => ∃ k, d1 = .bl k ∧ (k = true → (b ρ1).W Q E) ∧ (k = false → Q (.bl false) ρ1)) E := by
  unfold xAnd
  cases a ρ with
  | ok d ρ1 =>
    cases d with
    | bl k => cases k <;> simp
    | _ => simp
  | ex c ρ => exact .rfl
  | no => exact .rfl
@[simp] theorem W_xOr : (xOr a b ρ).W Q E ↔ (a ρ).W (fun d1 ρ1 => ∃ k, d1 = .bl k ∧ (k = false → (b ρ1).W Q E) ∧ (k = true → Q (.bl true) ρ1)) E := by
  unfold xOr
  cases a ρ with
  | ok d ρ1 =>
    cases d with
    | bl k => cases k <;> simp
    | _ => simp
  | ex c ρ => exact .rfl
  | no => exact .rfl
@[simp] theorem W_xNot : (xNot a ρ).W Q E ↔ (a ρ).W (fun d1 ρ1 => ∃ k, d1 = .bl k ∧ Q (.bl (!k)) ρ1) E := by
  unfold xNot
  cases a ρ with
  | ok d ρ1 =>
    cases d with
    | bl k => cases k <;> simp
    | _ => simp
  | ex c ρ => exact .rfl
  | no => exact .rfl
@[simp] theorem W_xIf : (xIf s a b ρ).W Q E ↔ (s ρ).W (fun k ρ1 => (k = true → (a ρ1).W Q E) ∧ (k = false → (b ρ1).W Q E)) E := by
  unfold xIf
  cases s ρ with
  | ok k ρ1 => cases k <;> simp
  | ex c ρ => exact .rfl
  | no => exact .rfl
@[simp] theorem W_xFz : (xFz a ρ).W Q E ↔ (a ρ).W (fun d ρ1 => Q d.fz ρ1) E := by
  unfold xFz
  cases a ρ <;> exact .rfl
@[simp] theorem W_aNil : (aNil ρ).W QA E ↔ QA [] ρ := .rfl
@[simp] theorem W_aCons : (aCons x y ρ).W QA E ↔ (x ρ).W (fun d ρ1 => (y ρ1).W (fun ds ρ2 => QA (d :: ds) ρ2) E) E := by
  unfold aCons
  cases x ρ with
  | ok d ρ1 =>
    simp only [W_okX]
    cases y ρ1 <;> exact .rfl
  | ex c ρ => exact .rfl
  | no => exact .rfl
@[simp] theorem W_aStar : (aStar x y ρ).W QA E ↔ (x ρ).W (fun d ρ1 => ∃ l, d.seq = some l ∧ (y ρ1).W (fun ds ρ2 => QA (l ++ ds) ρ2) E) E := by
  unfold aStar
  cases x ρ with
  | ok d ρ1 =>
    simp only [W_okX]
    cases d.seq with
    | none => simp
    | some l => simp; cases y ρ1 <;> exact .rfl
  | ex c ρ => exact .rfl
  | no => exact .rfl
@[simp] theorem W_xTup : (xTup y ρ).W Q E ↔ (y ρ).W (fun ds ρ1 => shL ds = true ∧ ds.length ≤ most ∧ Q (.tup ds) ρ1) E := by
  unfold xTup
  cases y ρ with
  | ok ds ρ1 =>
    simp only [W_okA]
    split
    · rename_i h; simp [h.1, h.2]
    · rename_i h; simp only [W_noX, false_iff]; rintro ⟨h1, h2, _⟩; exact h ⟨h1, h2⟩
  | ex c ρ => exact .rfl
  | no => exact .rfl
@[simp] theorem W_xLst : (xLst y ρ).W Q E ↔ (y ρ).W (fun ds ρ1 => ds.length ≤ most ∧ Q (.ol ds) ρ1) E := by
  unfold xLst
  cases y ρ with
  | ok ds ρ1 =>
    simp only [W_okA]
    split
    · rename_i h; simp [h]
    · rename_i h; simp [h]
  | ex c ρ => exact .rfl
  | no => exact .rfl
@[simp] theorem W_xB {f : List D → Option D} : (xB f y ρ).W Q E ↔ (y ρ).W (fun ds ρ1 => shL ds = true ∧ ∃ d, f ds = some d ∧ Q d ρ1) E := by
  unfold xB
  cases y ρ with
  | ok ds ρ1 =>
    simp only [W_okA]
    split
    · rename_i h; cases f ds <;> simp [h]
    · rename_i h; simp [h]
  | ex c ρ => exact .rfl
  | no => exact .rfl
@[simp] theorem W_aOf {f : List D → Option (List D)} : (aOf f y ρ).W QA E ↔ (y ρ).W (fun ds ρ1 => shL ds = true ∧ ∃ l, f ds = some l ∧ QA l ρ1) E := by
  unfold aOf
  cases y ρ with
  | ok ds ρ1 =>
    simp only [W_okA]
    split
    · rename_i h; cases f ds <;> simp [h]
    · rename_i h; simp [h]
  | ex c ρ => exact .rfl
  | no => exact .rfl
@[simp] theorem W_aSeq : (aSeq x ρ).W QA E ↔ (x ρ).W (fun d ρ1 => ∃ l, d.items = some l ∧ QA l ρ1) E := by
  unfold aSeq
  cases x ρ with
  | ok d ρ1 =>
    simp only [W_okX]
    cases d.items <;> simp
  | ex c ρ => exact .rfl
  | no => exact .rfl
@[simp] theorem W_xMv : (xMv i ρ).W Q E ↔ ∃ d, ρ[i]? = some (some d) ∧ Q d (ρ.set i none) := by
  unfold xMv
  split
  · rename_i d h; simp [h]
  · rename_i h; simp only [W_noX, false_iff]; rintro ⟨d, e, _⟩; exact h d e
@[simp] theorem W_xVz : (xVz i ρ).W Q E ↔ ∃ d, ρ[i]? = some (some d) ∧ Q d.fz (ρ.set i (some d.fz)) := by
  unfold xVz
  split
  · rename_i d h; simp [h]
  · rename_i h; simp only [W_noX, false_iff]; rintro ⟨d, e, _⟩; exact h d e
@[simp] theorem W_xChain {f g : D → D → Option D} : (xChain f g a b c ρ).W Q E ↔ (a ρ).W (fun d1 ρ1 => (b ρ1).W (fun d2 ρ2 => d1.sh = true ∧ d2.sh = true ∧ ∃ k, f d1 d2 = some (.bl k) ∧ (k = false → Q (.bl false) ρ2) ∧
    (k = true → (c ρ2).W (fun d3 ρ3 => d3.sh = true ∧ ∃ d, g d2 d3 = some d ∧ Q d ρ3) E)) E) E := by
  unfold xChain
  cases a ρ with
  | ok d1 ρ1 =>
    simp only [W_okX]
    cases b ρ1 with
    | ok d2 ρ2 =>
      simp only [W_okX]
      split
      · rename_i h
        simp only [h.1, h.2, true_and]
        split
        · rename_i e; simp [e]
        · rename_i e; simp [e]
          cases c ρ2 with
          | ok d3 ρ3 =>
            simp only [W_okX]
            split
            · rename_i h3; cases g d2 d3 <;> simp [h3]
            · rename_i h3; simp [h3]
          | ex c ρ => exact .rfl
          | no => exact .rfl
        · rename_i e1 e2
          simp only [W_noX, false_iff]
          rintro ⟨k, e, _⟩
          cases k
          · exact e1 e
          · exact e2 e
      · rename_i h; simp only [W_noX, false_iff]; rintro ⟨h1, h2, _⟩; exact h ⟨h1, h2⟩
    | ex c ρ => exact .rfl
    | no => exact .rfl
  | ex c ρ => exact .rfl
  | no => exact .rfl
/-! tests -/
@[simp] theorem W_toB : (toB x ρ).W QB E ↔ (x ρ).W (fun d ρ1 => ∃ k, d = .bl k ∧ QB k ρ1) E := by
  unfold toB
  cases x ρ with
  | ok d ρ1 =>
    cases d with
    | bl k => exact ⟨fun q => ⟨k, rfl, q⟩, fun ⟨_, z, q⟩ => by cases z; exact q⟩
    | _ => simp
  | ex c ρ => exact .rfl
  | no => exact .rfl
@[simp] theorem W_ofB : (ofB s ρ).W Q E ↔ (s ρ).W (fun k ρ1 => Q (.bl k) ρ1) E := by
  unfold ofB
  cases s ρ <;> exact .rfl
@[simp] theorem W_yAnd : (yAnd s t ρ).W QB E ↔ (s ρ).W (fun k ρ1 => (k = true → (t ρ1).W QB E) ∧ (k = false → QB false ρ1)) E := by
  unfold yAnd
  cases s ρ with
  | ok k ρ1 => cases k <;> simp
  | ex c ρ => exact .rfl
  | no => exact .rfl
@[simp] theorem W_yOr : (yOr s t ρ).W QB E ↔ (s ρ).W (fun k ρ1 => (k = false → (t ρ1).W QB E) ∧ (k = true → QB true ρ1)) E := by
  unfold yOr
  cases s ρ with
  | ok k ρ1 => cases k <;> simp
  | ex c ρ => exact .rfl
  | no => exact .rfl
@[simp] theorem W_yNot : (yNot s ρ).W QB E ↔ (s ρ).W (fun k ρ1 => QB (!k) ρ1) E := by
  unfold yNot
  cases s ρ <;> exact .rfl
@[simp] theorem W_bYes : (bYes ρ).W QB E ↔ QB true ρ := .rfl
/-! statements -/
@[simp] theorem W_yNil : (yNil ρ).W nx rt E bk ct ↔ nx ρ := .rfl
@[simp] theorem W_ySeq : (ySeq u v ρ).W nx rt E bk ct ↔ (u ρ).W (fun ρ1 => (v ρ1).W nx rt E bk ct) rt E bk ct := by
  unfold ySeq
  cases u ρ <;> exact .rfl
@[simp] theorem W_yBreak : (yBreak ρ).W nx rt E bk ct ↔ bk ρ := .rfl
@[simp] theorem W_yCont : (yCont ρ).W nx rt E bk ct ↔ ct ρ := .rfl
@[simp] theorem W_yAsg {g : Gx} : (yAsg g x ρ).W nx rt E bk ct ↔ (x ρ).W (fun d ρ1 => ∃ ρ2, g d ρ1 = some ρ2 ∧ nx ρ2) E := by
  unfold yAsg
  cases x ρ with
  | ok d ρ1 =>
    simp only [W_okX]
    cases g d ρ1 <;> simp
  | ex c ρ => exact .rfl
  | no => exact .rfl
@[simp] theorem W_yPar {j : Nat} : (yPar i j y ρ).W nx rt E bk ct ↔ (y ρ).W (fun ds ρ1 => ds.length = 2 ∧ ∃ d1, ds[0]? = some d1 ∧ ∃ d2, ds[1]? = some d2 ∧ i < ρ1.length ∧ j < ρ1.length ∧ nx ((ρ1.set i (some d1)).set j (some d2))) E := by
  unfold yPar
  cases y ρ with
  | ok ds ρ1 =>
    match ds with
    | [d1, d2] =>
      simp only [W_okA]
      split
      · rename_i h; simp [h.1, h.2]
      · rename_i h
        simp only [W_noS, false_iff]
        rintro ⟨_, _, _, _, _, h1, h2, _⟩; exact h ⟨h1, h2⟩
    | [] => simp
    | [_] => simp
    | _ :: _ :: _ :: _ => simp
  | ex c ρ => exact .rfl
  | no => exact .rfl
@[simp] theorem W_yExpr : (yExpr x ρ).W nx rt E bk ct ↔ (x ρ).W (fun _ ρ1 => nx ρ1) E := by
  unfold yExpr
  cases x ρ <;> exact .rfl
@[simp] theorem W_yRet : (yRet x ρ).W nx rt E bk ct ↔ (x ρ).W (fun d ρ1 => rt d ρ1) E := by
  unfold yRet
  cases x ρ <;> exact .rfl
@[simp] theorem W_yRetN : (yRetN ρ).W nx rt E bk ct ↔ rt .non ρ := .rfl
@[simp] theorem W_yRaise {c} : (yRaise c ρ).W nx rt E bk ct ↔ E c ρ := .rfl
@[simp] theorem W_yIf : (yIf s u v ρ).W nx rt E bk ct ↔ (s ρ).W (fun k ρ1 => (k = true → (u ρ1).W nx rt E bk ct) ∧ (k = false → (v ρ1).W nx rt E bk ct)) E := by
  unfold yIf
  cases s ρ with
  | ok k ρ1 => cases k <;> simp
  | ex c ρ => exact .rfl
  | no => exact .rfl
@[simp] theorem W_yAug {f : D → D → Option D} : (yAug i f x ρ).W nx rt E bk ct ↔ ∃ d0, ρ[i]? = some (some d0) ∧ (x ρ).W (fun d1 ρ1 => d0.sh = true ∧ d1.sh = true ∧ i < ρ1.length ∧ ∃ d, f d0 d1 = some d ∧ nx (ρ1.set i (some d))) E := by
  unfold yAug
  split
  · rename_i d0 h
    simp only [h, Option.some.injEq, exists_eq_left']
    cases x ρ with
    | ok d1 ρ1 =>
      simp only [W_okX]
      split
      · rename_i h2; cases f d0 d1 <;> simp [h2.1, h2.2.1, h2.2.2]
      · rename_i h2
        simp only [W_noS, false_iff]
        rintro ⟨h3, h4, h5, _⟩; exact h2 ⟨h3, h4, h5⟩
    | ex c ρ => exact .rfl
    | no => exact .rfl
  · rename_i h; simp only [W_noS, false_iff]; rintro ⟨d, e, _⟩; exact h d e
end
end On

set_option Elab.async false
set_option linter.all false
set_option maxRecDepth 100000
set_option maxHeartbeats 4000000
/-! Wp2: calls, places, loops, comprehensions. -/
namespace On
open PySem PySem.Spec L2
section
variable {Q : D → Rho → Prop} {QA : List D → Rho → Prop} {QB : Bool → Rho → Prop} {E : Str → Rho → Prop} {nx bk ct : Rho → Prop} {rt : D → Rho → Prop} {ρ : Rho}
variable {x a b c : Xx} {y : Ax} {s t : Bx} {u v : Sx} {i : Nat} {d : D}
@[simp] theorem W_runF {mask : List Bool} {n : Nat} {ds : List D} {Q : D → List D → Prop} {E : Str → List D → Prop} : (runF mask n u ds).W Q E ↔
    (u (ds.map some ++ List.replicate (n - ds.length) none)).W (fun ρ => ∃ ms, muts mask ρ = some ms ∧ Q .non ms) (fun d ρ => ∃ ms, muts mask ρ = some ms ∧ Q d ms) (fun c ρ => ∃ ms, muts mask ρ = some ms ∧ E c ms) (fun _ => False) (fun _ => False) := by
  unfold runF
  cases u (ds.map some ++ List.replicate (n - ds.length) none) with
  | rt d ρ => cases h : muts mask ρ <;> simp [h]
  | nx ρ => cases h : muts mask ρ <;> simp [h]
  | ex c ρ => cases h : muts mask ρ <;> simp [h]
  | _ => exact .rfl
/-- one statement, then the others, by what is so between -/
theorem W_seq {P : Rho → Prop} (h1 : (u ρ).W P rt E bk ct) (h2 : ∀ ρ1, P ρ1 → (v ρ1).W nx rt E bk ct) : (ySeq u v ρ).W nx rt E bk ct :=
  W_ySeq.mpr (h1.mono h2 (fun _ _ q => q) (fun _ _ q => q) (fun _ q => q) (fun _ q => q))
theorem FR.W_eq {r : FR} {d : D} {ms : List D} (h : r.W (fun d' ms' => d' = d ∧ ms' = ms) (fun _ _ => False)) : r = .ok d ms := by
  cases r with
  | ok d' ms' => obtain ⟨rfl, rfl⟩ := h; rfl
  | _ => exact h.elim
theorem FR.W_exeq {r : FR} {c : Str} {ms : List D} (h : r.W (fun _ _ => False) (fun c' ms' => c' = c ∧ ms' = ms)) : r = .ex c ms := by
  cases r with
  | ex d' ms' => obtain ⟨rfl, rfl⟩ := h; rfl
  | _ => exact h.elim
theorem XR.W_eq {r : XR} {d : D} {ρ : Rho} (h : r.W (fun d' ms' => d' = d ∧ ms' = ρ) (fun _ _ => False)) : r = .ok d ρ := by
  cases r with
  | ok d' ms' => obtain ⟨rfl, rfl⟩ := h; rfl
  | _ => exact h.elim
theorem BR.W_eq {r : BR} {d : Bool} {ρ : Rho} (h : r.W (fun d' ms' => d' = d ∧ ms' = ρ) (fun _ _ => False)) : r = .ok d ρ := by
  cases r with
  | ok d' ms' => obtain ⟨rfl, rfl⟩ := h; rfl
  | _ => exact h.elim
theorem AR.W_eq {r : AR} {d : List D} {ρ : Rho} (h : r.W (fun d' ms' => d' = d ∧ ms' = ρ) (fun _ _ => False)) : r = .ok d ρ := by
  cases r with
  | ok d' ms' => obtain ⟨rfl, rfl⟩ := h; rfl
  | _ => exact h.elim
@[simp] theorem W_xCall {m : Fx} {pat : List (Option Nat)} : (xCall m pat y ρ).W Q E ↔ (y ρ).W (fun ds ρ1 => (m ds).W (fun d ms => ∃ ρ2, putBack pat ms ρ1 = some ρ2 ∧ Q d ρ2) (fun c ms => ∃ ρ2, putBack pat ms ρ1 = some ρ2 ∧ E c ρ2)) E := by
  unfold xCall
  cases y ρ with
  | ok ds ρ1 =>
    simp only [W_okA]
    cases m ds with
    | ok d ms => simp only [W_okF]; cases putBack pat ms ρ1 <;> simp
    | ex c ms => simp only [W_exF]; cases putBack pat ms ρ1 <;> simp
    | no => exact .rfl
  | ex c ρ => exact .rfl
  | no => exact .rfl
@[simp] theorem W_aMut : (aMut i y ρ).W QA E ↔ ∃ d0, ρ[i]? = some (some d0) ∧ (y ρ).W (fun ds ρ1 => ∃ d, ρ1[i]? = some (some d) ∧ QA (d :: ds) (ρ1.set i none)) E := by
  unfold aMut
  split
  · rename_i d0 h
    simp only [h, Option.some.injEq, exists_eq_left']
    cases y ρ with
    | ok ds ρ1 =>
      simp only [W_okA]
      split
      · rename_i d h2; simp [h2]
      · rename_i h2; simp only [W_noA, false_iff]; rintro ⟨d, e, _⟩; exact h2 d e
    | ex c ρ => exact .rfl
    | no => exact .rfl
  · rename_i h; simp only [W_noA, false_iff]; rintro ⟨d, e, _⟩; exact h d e
@[simp] theorem W_xCallV {f : D → Option Fx} {pat : List (Option Nat)} : (xCallV i f pat y ρ).W Q E ↔ ∃ d m, ρ[i]? = some (some d) ∧ f d = some m ∧ (xCall m pat y ρ).W Q E := by
  unfold xCallV
  split
  · rename_i d h
    simp only [h, Option.some.injEq]
    cases hf : f d with
    | none => simp [hf]
    | some m =>
      constructor
      · exact fun q => ⟨d, m, rfl, hf, q⟩
      · rintro ⟨x, m', rfl, e, q⟩; rw [hf] at e; cases e; exact q
  · rename_i h; simp only [W_noX, false_iff]; rintro ⟨d, _, e, _⟩; exact h d e
@[simp] theorem W_xCaught {es : List Str} : (xCaught es x ρ).W Q E ↔ (x ρ).W (fun _ ρ1 => Q .non ρ1) (fun c ρ1 => c ∈ es ∧ Q (.exc c) ρ1) := by
  unfold xCaught
  cases x ρ with
  | ok d ρ1 => exact .rfl
  | ex c ρ1 => simp only [W_exX]; split <;> simp [*]
  | no => exact .rfl
@[simp] theorem W_xIsi {cs es : List Str} {tab : List (TyN × TyN × Bool)} {T : TyN} : (xIsi cs es tab T x ρ).W Q E ↔ (x ρ).W (fun d ρ1 => d.sh = true ∧ ∃ k, kitD cs es tab d T = some k ∧ Q (.bl k) ρ1) E := by
  unfold xIsi
  cases x ρ with
  | ok d ρ1 =>
    simp only [W_okX]
    split
    · rename_i h; cases kitD cs es tab d T <;> simp [h]
    · rename_i h; simp [h]
  | ex c ρ => exact .rfl
  | no => exact .rfl
@[simp] theorem W_xIsi2 {cs es : List Str} {tab : List (TyN × TyN × Bool)} {T U : TyN} : (xIsi2 cs es tab T U x ρ).W Q E ↔ (x ρ).W (fun d ρ1 => d.sh = true ∧ ∃ k, kitD2 cs es tab d T U = some k ∧ Q (.bl k) ρ1) E := by
  unfold xIsi2
  cases x ρ with
  | ok d ρ1 =>
    simp only [W_okX]
    split
    · rename_i h; cases kitD2 cs es tab d T U <;> simp [h]
    · rename_i h; simp [h]
  | ex c ρ => exact .rfl
  | no => exact .rfl
@[simp] theorem W_xGet2 : (xGet2 a b c ρ).W Q E ↔ (a ρ).W (fun d1 ρ1 => d1.isD = true ∧ (b ρ1).W (fun d2 ρ2 => (c ρ2).W (fun d3 ρ3 => d2.sh = true ∧ d3.sh = true ∧ ∃ o, d1.get_ d2 = some o ∧ Q (o.getD d3) ρ3) E) E) E := by
  unfold xGet2
  cases a ρ with
  | ok d1 ρ1 =>
    simp only [W_okX]
    split
    · rename_i h
      simp only [h, true_and]
      cases b ρ1 with
      | ok d2 ρ2 =>
        simp only [W_okX]
        cases c ρ2 with
        | ok d3 ρ3 =>
          simp only [W_okX]
          split
          · rename_i h2; cases d1.get_ d2 <;> simp [h2.1, h2.2]
          · rename_i h2; simp only [W_noX, false_iff]; rintro ⟨h3, h4, _⟩; exact h2 ⟨h3, h4⟩
        | ex c ρ => exact .rfl
        | no => exact .rfl
      | ex c ρ => exact .rfl
      | no => exact .rfl
    · rename_i h; simp [h]
  | ex c ρ => exact .rfl
  | no => exact .rfl
def KR.W (r : KR) (Q : List (Key × D) → Rho → Prop) (E : Str → Rho → Prop) : Prop := match r with
  | .ok l ρ => Q l ρ
  | .ex c ρ => E c ρ
  | .no => False
@[simp] theorem W_kNil {Q : List (Key × D) → Rho → Prop} : (kPairs [] ρ).W Q E ↔ Q [] ρ := .rfl
@[simp] theorem W_kCons {Q : List (Key × D) → Rho → Prop} {ps : List (Xx × Xx)} : (kPairs ((a, b) :: ps) ρ).W Q E ↔ (a ρ).W (fun dk ρ1 => ∃ k, dk.key = some k ∧ (b ρ1).W (fun d ρ2 => (kPairs ps ρ2).W (fun l ρ3 => Q ((k, d) :: l) ρ3) E) E) E := by
  rw [kPairs]
  cases a ρ with
  | ok dk ρ1 =>
    simp only [W_okX]
    cases dk.key with
    | none => simp [KR.W]
    | some k =>
      simp only [Option.some.injEq, exists_eq_left']
      cases b ρ1 with
      | ok d ρ2 =>
        simp only [W_okX]
        cases kPairs ps ρ2 <;> exact .rfl
      | ex c ρ => exact .rfl
      | no => exact .rfl
  | ex c ρ => exact .rfl
  | no => exact .rfl
@[simp] theorem W_xDisp {ps : List (Xx × Xx)} : (xDisp ps ρ).W Q E ↔ (kPairs ps ρ).W (fun l ρ1 => l.length ≤ 15 ∧ ((shK l = true ∧ Q (.od (mergeD [] l)) ρ1) ∨ (shK l = false ∧ kNodup l = true ∧ Q (.od l) ρ1))) E := by
  unfold xDisp
  cases kPairs ps ρ with
  | ok l ρ1 =>
    simp only [KR.W]
    split
    · rename_i h
      cases h1 : shK l
      · cases h2 : kNodup l <;> simp [h]
      · simp [h]
    · rename_i h; simp [h]
  | ex c ρ => exact .rfl
  | no => exact .rfl
@[simp] theorem shK_nil : shK [] = true := rfl
@[simp] theorem shK_cons (p : Key × D) (l : List (Key × D)) : shK (p :: l) = (p.2.sh && shK l) := rfl
@[simp] theorem W_xNewK : (xNewK ρ).W Q E ↔ Q (.od []) ρ := .rfl
@[simp] theorem W_xNewT : (xNewT ρ).W Q E ↔ Q (.ot []) ρ := .rfl
@[simp] theorem W_xPl {p : List Stp} : (xPl i p ρ).W Q E ↔ ∃ d0 d, ρ[i]? = some (some d0) ∧ d0.at_ p = some d ∧ d.sh = true ∧ Q d ρ := by
  unfold xPl
  split
  · rename_i d0 h
    simp only [h, Option.some.injEq]
    cases hd : d0.at_ p with
    | none => simp [hd]
    | some d =>
      simp only
      split
      · rename_i hs
        constructor
        · exact fun q => ⟨d0, d, rfl, hd, hs, q⟩
        · rintro ⟨_, _, rfl, e, _, q⟩; rw [hd] at e; cases e; exact q
      · rename_i hs
        simp only [W_noX, false_iff]
        rintro ⟨_, _, rfl, e, h2, _⟩; rw [hd] at e; cases e; exact hs h2
  · rename_i h; simp only [W_noX, false_iff]; rintro ⟨d, _, e, _⟩; exact h d e
@[simp] theorem W_xMeth {T : String} {f : D → List D → Option (D × D)} : (xMeth T i f y ρ).W Q E ↔ ∃ d0, ρ[i]? = some (some d0) ∧ Tof d0 = some T ∧ (y ρ).W (fun ds ρ1 => shL ds = true ∧ ∃ d, ρ1[i]? = some (some d) ∧ ∃ d', (f d ds).map (·.1) = some d' ∧ ∃ res, (f d ds).map (·.2) = some res ∧ Q res (ρ1.set i (some d'))) E := by
  unfold xMeth
  split
  · rename_i d0 h
    simp only [h, Option.some.injEq, exists_eq_left']
    split
    · rename_i hT
      simp only [hT, true_and]
      cases y ρ with
      | ok ds ρ1 =>
        simp only [W_okA]
        split
        · rename_i hs
          simp only [hs, true_and]
          split
          · rename_i d h2
            simp only [h2, Option.some.injEq, exists_eq_left']
            cases f d ds with
            | none => simp
            | some p => obtain ⟨d', res⟩ := p; exact ⟨fun q => ⟨_, rfl, _, rfl, q⟩, fun ⟨_, z, _, z2, q⟩ => by cases z; cases z2; exact q⟩
          · rename_i h2; simp only [W_noX, false_iff]; rintro ⟨d, e, _⟩; exact h2 d e
        · rename_i hs; simp [hs]
      | ex c ρ => exact .rfl
      | no => exact .rfl
    · rename_i hT; simp [hT]
  · rename_i h; simp only [W_noX, false_iff]; rintro ⟨d, e, _⟩; exact h d e
@[simp] theorem W_xMethP {T : String} {p : List Stp} {f : D → List D → Option (D × D)} : (xMethP T i p f y ρ).W Q E ↔ ∃ d0, ρ[i]? = some (some d0) ∧ ∃ d, d0.at_ p = some d ∧ Tof d = some T ∧ (y (ρ.set i none)).W (fun ds ρ1 => shL ds = true ∧ ∃ d', (f d ds).map (·.1) = some d' ∧ ∃ res, (f d ds).map (·.2) = some res ∧ Q res (ρ1.set i (some (d0.setAt p d')))) (fun c ρ1 => E c (ρ1.set i (some d0))) := by
  unfold xMethP
  split
  · rename_i d0 h
    simp only [h, Option.some.injEq, exists_eq_left']
    split
    · rename_i d hd
      simp only [hd, Option.some.injEq, exists_eq_left']
      split
      · rename_i hT
        simp only [hT, true_and]
        cases y (ρ.set i none) with
        | ok ds ρ1 =>
          simp only [W_okA]
          split
          · rename_i hs
            simp only [hs, true_and]
            cases f d ds with
            | none => simp
            | some p => obtain ⟨d', res⟩ := p; exact ⟨fun q => ⟨_, rfl, _, rfl, q⟩, fun ⟨_, z, _, z2, q⟩ => by cases z; cases z2; exact q⟩
          · rename_i hs; simp [hs]
        | ex c ρ => exact .rfl
        | no => exact .rfl
      · rename_i hT; simp [hT]
    · rename_i hd; simp [hd]
  · rename_i h; simp only [W_noX, false_iff]; rintro ⟨d, e, _⟩; exact h d e
@[simp] theorem W_xOpP {f : D → D → Option D} {p : List Stp} : (xOpP f i p x ρ).W Q E ↔ ∃ d0, ρ[i]? = some (some d0) ∧ ∃ d1, d0.at_ p = some d1 ∧ (x (ρ.set i none)).W (fun d2 ρ1 => d2.sh = true ∧ ∃ d, f d1.fz d2 = some d ∧ d.im = true ∧ Q d (ρ1.set i (some d0))) (fun c ρ1 => E c (ρ1.set i (some d0))) := by
  unfold xOpP
  split
  · rename_i d0 h
    simp only [h, Option.some.injEq, exists_eq_left']
    split
    · rename_i d1 hd
      simp only [hd, Option.some.injEq, exists_eq_left']
      cases x (ρ.set i none) with
      | ok d2 ρ1 =>
        simp only [W_okX]
        split
        · rename_i hs
          simp only [hs, true_and]
          cases f d1.fz d2 with
          | none => simp
          | some d => simp only [Option.some.injEq, exists_eq_left']; split <;> simp [*]
        · rename_i hs; simp [hs]
      | ex c ρ => exact .rfl
      | no => exact .rfl
    · rename_i hd; simp [hd]
  · rename_i h; simp only [W_noX, false_iff]; rintro ⟨d, e, _⟩; exact h d e
@[simp] theorem W_xOnP {f : List D → Option D} {p : List Stp} : (xOnP f i p ρ).W Q E ↔ ∃ d0, ρ[i]? = some (some d0) ∧ ∃ d1, d0.at_ p = some d1 ∧ ∃ d, f [d1.fz] = some d ∧ d.im = true ∧ Q d ρ := by
  unfold xOnP
  split
  · rename_i d0 h
    simp only [h, Option.some.injEq, exists_eq_left']
    split
    · rename_i d1 hd
      simp only [hd, Option.some.injEq, exists_eq_left']
      cases f [d1.fz] with
      | none => simp
      | some d => simp only [Option.some.injEq, exists_eq_left']; split <;> simp [*]
    · rename_i hd; simp [hd]
  · rename_i h; simp only [W_noX, false_iff]; rintro ⟨d, e, _⟩; exact h d e
@[simp] theorem W_xMake {c : Str} {m : Fx} {pat : List (Option Nat)} : (xMake c m pat y ρ).W Q E ↔ (y ρ).W (fun ds ρ1 => (m (.oi c [] :: ds)).W (fun r ms => r = .non ∧ ∃ d, ms.head? = some d ∧ ∃ ρ2, putBack pat ms.tail ρ1 = some ρ2 ∧ Q d ρ2) (fun c ms => ms.head?.isSome = true ∧ ∃ ρ2, putBack pat ms.tail ρ1 = some ρ2 ∧ E c ρ2)) E := by
  unfold xMake
  cases y ρ with
  | ok ds ρ1 =>
    simp only [W_okA]
    cases m (.oi c [] :: ds) with
    | ok d ms =>
      cases ms with
      | nil => cases d <;> simp
      | cons e ms =>
        cases d with
        | non => simp only [W_okF, List.head?_cons, List.tail_cons, Option.some.injEq, exists_eq_left', true_and]; cases h : putBack pat ms ρ1 <;> simp
        | _ => simp
    | ex c ms =>
      cases ms with
      | nil => simp
      | cons e ms => simp only [W_exF, List.head?_cons, List.tail_cons, Option.isSome_some, true_and]; cases h : putBack pat ms ρ1 <;> simp
    | no => exact .rfl
  | ex c ρ => exact .rfl
  | no => exact .rfl
theorem xPart_W {P : Option Int → Rho → Prop} : (∃ l ρ2, xPart (some a) ρ = some (l, ρ2) ∧ P l ρ2) ↔ (a ρ).W (fun v ρ2 => ∃ i, v = .int i ∧ P (some i) ρ2) (fun _ _ => False) := by
  unfold xPart
  cases ha : a ρ with
  | ok d ρ1 =>
    cases d with
    | int i => simp only [ha]; exact ⟨fun ⟨_, _, h, p⟩ => by cases h; exact ⟨i, rfl, p⟩, fun ⟨_, h, p⟩ => by cases h; exact ⟨_, _, rfl, p⟩⟩
    | _ => simp [ha]
  | _ => simp [ha]
theorem W_xCut {f : D → Option Int → Option Int → Option D} {lo hi : Option Xx} : (xCut f x lo hi ρ).W Q E ↔ (x ρ).W (fun d ρ1 => d.sh = true ∧ ∃ l ρ2, xPart lo ρ1 = some (l, ρ2) ∧ ∃ h ρ3, xPart hi ρ2 = some (h, ρ3) ∧ ∃ r, f d l h = some r ∧ Q r ρ3) E := by
  unfold xCut
  cases x ρ with
  | ok d ρ1 =>
    simp only [W_okX]
    split
    · rename_i hs
      simp only [hs, true_and]
      cases xPart lo ρ1 with
      | none => simp
      | some p =>
        obtain ⟨l, ρ2⟩ := p
        simp only [Option.some.injEq, Prod.mk.injEq]
        cases h2 : xPart hi ρ2 with
        | none =>
          simp only [W_noX, false_iff]
          rintro ⟨_, _, ⟨rfl, rfl⟩, _, _, e, _⟩; rw [h2] at e; cases e
        | some p =>
          obtain ⟨h, ρ3⟩ := p
          simp only
          cases h3 : f d l h with
          | none =>
            simp only [W_noX, false_iff]
            rintro ⟨_, _, ⟨rfl, rfl⟩, _, _, e, r, e2, _⟩
            rw [h2] at e; cases e; rw [h3] at e2; cases e2
          | some r =>
            constructor
            · exact fun q => ⟨l, ρ2, ⟨rfl, rfl⟩, h, ρ3, h2, r, h3, q⟩
            · rintro ⟨_, _, ⟨rfl, rfl⟩, _, _, e, r, e2, q⟩
              rw [h2] at e; cases e; rw [h3] at e2; cases e2; exact q
    · rename_i hs; simp [hs]
  | ex c ρ => exact .rfl
  | no => exact .rfl
theorem xPart_none : xPart none ρ = some (none, ρ) := rfl
theorem xPartN {P : Option Int → Rho → Prop} : (∃ l ρ2, xPart none ρ = some (l, ρ2) ∧ P l ρ2) ↔ P none ρ :=
  ⟨fun ⟨_, _, h, p⟩ => by rw [xPart_none] at h; cases h; exact p, fun p => ⟨_, _, rfl, p⟩⟩
@[simp] theorem W_cutLo {f : D → Option Int → Option Int → Option D} : (xCut f x (some a) none ρ).W Q E ↔ (x ρ).W (fun d ρ1 => d.sh = true ∧ (a ρ1).W (fun v ρ2 => ∃ i, v = .int i ∧ ∃ r, f d (some i) none = some r ∧ Q r ρ2) (fun _ _ => False)) E := by
  rw [W_xCut]
  simp only [xPart_W, xPartN]
@[simp] theorem W_cutHi {f : D → Option Int → Option Int → Option D} : (xCut f x none (some a) ρ).W Q E ↔ (x ρ).W (fun d ρ1 => d.sh = true ∧ (a ρ1).W (fun v ρ2 => ∃ i, v = .int i ∧ ∃ r, f d none (some i) = some r ∧ Q r ρ2) (fun _ _ => False)) E := by
  rw [W_xCut]
  simp only [xPart_W, xPartN]
@[simp] theorem W_cutNo {f : D → Option Int → Option Int → Option D} : (xCut f x none none ρ).W Q E ↔ (x ρ).W (fun d ρ1 => d.sh = true ∧ ∃ r, f d none none = some r ∧ Q r ρ1) E := by
  rw [W_xCut]
  simp only [xPartN]
@[simp] theorem W_cutBoth {f : D → Option Int → Option Int → Option D} : (xCut f x (some a) (some b) ρ).W Q E ↔ (x ρ).W (fun d ρ1 => d.sh = true ∧ (a ρ1).W (fun v ρ2 => ∃ i, v = .int i ∧ (b ρ2).W (fun v ρ3 => ∃ j, v = .int j ∧ ∃ r, f d (some i) (some j) = some r ∧ Q r ρ3) (fun _ _ => False)) (fun _ _ => False)) E := by
  rw [W_xCut]
  simp only [xPart_W]
/-! loops -/
@[simp] theorem W_yFor {g : Gx} : (yFor y g u ρ).W nx rt E bk ct ↔ (y ρ).W (fun ds ρ1 => (forL g u ds ρ1).W nx rt E bk ct) E := by
  unfold yFor
  cases y ρ <;> exact .rfl
theorem W_forL_nil {g : Gx} : (forL g u [] ρ).W nx rt E bk ct ↔ nx ρ := .rfl
theorem W_forL_cons {g : Gx} {l : List D} : (forL g u (d :: l) ρ).W nx rt E bk ct ↔ ∃ ρ1, g d ρ = some ρ1 ∧ (u ρ1).W (fun ρ2 => (forL g u l ρ2).W nx rt E bk ct) rt E nx (fun ρ2 => (forL g u l ρ2).W nx rt E bk ct) := by
  rw [forL]
  cases g d ρ with
  | none => simp
  | some ρ1 => simp only [Option.some.injEq, exists_eq_left']; cases u ρ1 <;> exact .rfl
/-- a loop over told things, by what is so behind each of its beginnings -/
theorem W_for {α : Type} (e : α → D) (l : List α) {g : Gx} (I : List α → Rho → Prop) (h0 : I [] ρ)
    (hs : ∀ pre a post, l = pre ++ a :: post → ∀ ρ, I pre ρ → ∃ ρ1, g (e a) ρ = some ρ1 ∧ (u ρ1).W (I (pre ++ [a])) rt E nx (I (pre ++ [a])))
    (hn : ∀ ρ, I l ρ → nx ρ) : (forL g u (l.map e) ρ).W nx rt E bk ct := by
  have go : ∀ (post pre : List α) (ρ : Rho), l = pre ++ post → I pre ρ → (forL g u (post.map e) ρ).W nx rt E bk ct := by
    intro post
    induction post with
    | nil => intro pre ρ hl hi; rw [List.append_nil] at hl; subst hl; exact hn ρ hi
    | cons a post ih =>
      intro pre ρ hl hi
      rw [List.map_cons, W_forL_cons]
      obtain ⟨ρ1, h1, h2⟩ := hs pre a post hl ρ hi
      refine ⟨ρ1, h1, h2.mono (fun ρ q => ih (pre ++ [a]) ρ (by simp [hl]) q) (fun _ _ q => q) (fun _ _ q => q) (fun _ q => q) (fun ρ q => ih (pre ++ [a]) ρ (by simp [hl]) q)⟩
  exact go l [] ρ rfl h0
/-- a while loop, by a measure -/
theorem W_while {n : Nat} (I : Nat → Rho → Prop) {k : Nat} (hk : k < n) (h0 : I k ρ)
    (hs : ∀ k ρ, I k ρ → (s ρ).W (fun q ρ1 => (q = false → nx ρ1) ∧ (q = true → (u ρ1).W (fun ρ2 => ∃ j, j < k ∧ I j ρ2) rt E nx (fun ρ2 => ∃ j, j < k ∧ I j ρ2))) E) :
    (whileL s u n ρ).W nx rt E bk ct := by
  induction n generalizing k ρ with
  | zero => exact absurd hk (Nat.not_lt_zero _)
  | succ n ih =>
    have h := hs k ρ h0
    rw [whileL]
    cases hr : s ρ with
    | ok q ρ1 =>
      rw [hr] at h
      cases q with
      | false => exact h.1 rfl
      | true =>
        have h2 := h.2 rfl
        simp only
        cases hu : u ρ1 with
        | nx ρ2 => rw [hu] at h2; obtain ⟨j, hj, hi⟩ := h2; exact ih (Nat.lt_of_lt_of_le hj (Nat.le_of_lt_succ hk)) hi
        | ct ρ2 => rw [hu] at h2; obtain ⟨j, hj, hi⟩ := h2; exact ih (Nat.lt_of_lt_of_le hj (Nat.le_of_lt_succ hk)) hi
        | bk ρ2 => rw [hu] at h2; exact h2
        | rt d ρ2 => rw [hu] at h2; exact h2
        | ex c ρ2 => rw [hu] at h2; exact h2
        | no => rw [hu] at h2; exact h2
    | ex c ρ1 => rw [hr] at h; exact h
    | no => rw [hr] at h; exact h
/-! comprehensions -/
@[simp] theorem W_xLc {vs : List Nat} {g : Gx} : (xLc vs y g t x ρ).W Q E ↔ (y ρ).W (fun ds ρ1 => (lcL vs g t x ds (wipeR ρ1 vs)).W (fun ys ρ2 => ys.length ≤ most ∧ Q (.ol ys) ρ2) (fun _ _ => False)) E := by
  unfold xLc
  cases y ρ with
  | ok ds ρ1 =>
    simp only [W_okA]
    cases lcL vs g t x ds (wipeR ρ1 vs) with
    | ok ys ρ2 => simp only [W_okA]; split <;> simp [*]
    | _ => exact .rfl
  | ex c ρ => exact .rfl
  | no => exact .rfl
@[simp] theorem W_xLc2 {vs vs1 : List Nat} {g g1 : Gx} {y1 : Ax} {t1 : Bx} : (xLc2 vs vs1 y g t y1 g1 t1 x ρ).W Q E ↔ (y ρ).W (fun ds ρ1 => (lc2L vs vs1 g t y1 g1 t1 x ds (wipeR ρ1 vs)).W (fun ys ρ2 => ys.length ≤ most ∧ Q (.ol ys) ρ2) (fun _ _ => False)) E := by
  unfold xLc2
  cases y ρ with
  | ok ds ρ1 =>
    simp only [W_okA]
    cases lc2L vs vs1 g t y1 g1 t1 x ds (wipeR ρ1 vs) with
    | ok ys ρ2 => simp only [W_okA]; split <;> simp [*]
    | _ => exact .rfl
  | ex c ρ => exact .rfl
  | no => exact .rfl
/-- one turn of a comprehension -/
theorem W_lcL_cons {vs : List Nat} {g : Gx} {l : List D} {E : Str → Rho → Prop} : (lcL vs g t x (d :: l) ρ).W QA E ↔ ∃ ρ1, g d ρ = some ρ1 ∧ (t ρ1).W (fun k ρ2 => (k = true → (x ρ2).W (fun y ρ3 => y.sh = true ∧ (lcL vs g t x l (wipeR ρ3 vs)).W (fun ys ρ4 => QA (y :: ys) ρ4) (fun _ _ => False)) (fun _ _ => False)) ∧
    (k = false → (lcL vs g t x l (wipeR ρ2 vs)).W QA E)) (fun _ _ => False) := by
  rw [lcL]
  cases g d ρ with
  | none => simp
  | some ρ1 =>
    simp only [Option.some.injEq, exists_eq_left']
    cases t ρ1 with
    | ok k ρ2 =>
      cases k with
      | true =>
        simp only [W_okB, true_implies, reduceCtorEq, false_implies, and_true]
        cases x ρ2 with
        | ok y ρ3 =>
          simp only [W_okX]
          split
          · rename_i h; simp only [h, true_and]; cases lcL vs g t x l (wipeR ρ3 vs) <;> exact .rfl
          · rename_i h; simp [h]
        | _ => exact .rfl
      | false => simp
    | _ => exact .rfl
/-- a comprehension, by what is so behind each of its beginnings -/
theorem W_lc {α : Type} (e : α → D) (l : List α) {vs : List Nat} {g : Gx} (I : List α → List D → Rho → Prop) (h0 : I [] [] ρ)
    (hs : ∀ pre a post, l = pre ++ a :: post → ∀ ys ρ, I pre ys ρ → ∃ ρ1, g (e a) ρ = some ρ1 ∧ (t ρ1).W (fun k ρ2 => (k = true → (x ρ2).W (fun y ρ3 => y.sh = true ∧ I (pre ++ [a]) (ys ++ [y]) (wipeR ρ3 vs)) (fun _ _ => False)) ∧
      (k = false → I (pre ++ [a]) ys (wipeR ρ2 vs))) (fun _ _ => False))
    (hn : ∀ ys ρ, I l ys ρ → QA ys ρ) : (lcL vs g t x (l.map e) ρ).W QA E := by
  have go : ∀ (post pre : List α) (ys : List D) (ρ : Rho) (QA : List D → Rho → Prop) (E : Str → Rho → Prop), l = pre ++ post → I pre ys ρ → (∀ zs ρ, I l (ys ++ zs) ρ → QA zs ρ) → (lcL vs g t x (post.map e) ρ).W QA E := by
    intro post
    induction post with
    | nil => intro pre ys ρ QA E hl hi hn; rw [List.append_nil] at hl; subst hl; exact hn [] ρ (by rw [List.append_nil]; exact hi)
    | cons a post ih =>
      intro pre ys ρ QA E hl hi hn
      rw [List.map_cons, W_lcL_cons]
      obtain ⟨ρ1, h1, h2⟩ := hs pre a post hl ys ρ hi
      refine ⟨ρ1, h1, h2.mono (fun k ρ2 q => ⟨fun hk => (q.1 hk).mono (fun y ρ3 q => ⟨q.1, ?_⟩) (fun _ _ q => q), fun hk => ?_⟩) (fun _ _ q => q)⟩
      · exact ih (pre ++ [a]) (ys ++ [y]) _ _ _ (by simp [hl]) q.2 fun zs ρ h => hn (y :: zs) ρ (by simpa using h)
      · exact ih (pre ++ [a]) ys _ _ _ (by simp [hl]) (q.2 hk) hn
  exact go l [] [] ρ QA E rfl h0 (fun zs ρ h => hn zs ρ (by simpa using h))
/-- a comprehension that changes nothing -/
theorem lcL_pure {α : Type} (e : α → D) (l : List α) {vs : List Nat} {g : Gx} (p : α → Bool) (f : α → D)
    (hs : ∀ a ∈ l, ∃ ρ1, g (e a) ρ = some ρ1 ∧ (t ρ1).W (fun k ρ2 => k = p a ∧ (k = true → (x ρ2).W (fun y ρ3 => y.sh = true ∧ y = f a ∧ wipeR ρ3 vs = ρ) (fun _ _ => False)) ∧ (k = false → wipeR ρ2 vs = ρ)) (fun _ _ => False)) :
    lcL vs g t x (l.map e) ρ = .ok ((l.filter p).map f) ρ := by
  apply AR.W_eq
  refine W_lc e l (fun pre ys ρ' => ys = (pre.filter p).map f ∧ ρ' = ρ) ⟨rfl, rfl⟩ (fun pre a post hl ys ρ' hi => ?_) (fun ys ρ' h => h)
  obtain ⟨rfl, rfl⟩ := hi
  obtain ⟨ρ1, h1, h2⟩ := hs a (by rw [hl]; simp)
  refine ⟨ρ1, h1, h2.mono (fun k ρ2 q => ⟨fun hk => (q.2.1 hk).mono (fun y ρ3 z => ⟨z.1, ?_, z.2.2⟩) (fun _ _ z => z), fun hk => ⟨?_, q.2.2 hk⟩⟩) (fun _ _ z => z)⟩
  · rw [List.filter_append, List.map_append, z.2.1]; simp [← q.1, hk]
  · rw [List.filter_append, List.map_append]; simp [← q.1, hk]
theorem W_lc2L_cons {vs vs1 : List Nat} {g g1 : Gx} {y1 : Ax} {t1 : Bx} {l : List D} {E : Str → Rho → Prop} : (lc2L vs vs1 g t y1 g1 t1 x (d :: l) ρ).W QA E ↔ ∃ ρ1, g d ρ = some ρ1 ∧ (t ρ1).W (fun k ρ2 => (k = true → (y1 ρ2).W (fun ds1 ρ3 => (lcL vs1 g1 t1 x ds1 (wipeR ρ3 vs1)).W (fun zs ρ4 => (lc2L vs vs1 g t y1 g1 t1 x l (wipeR ρ4 vs)).W (fun ys ρ5 => QA (zs ++ ys) ρ5) (fun _ _ => False)) (fun _ _ => False)) (fun _ _ => False)) ∧
    (k = false → (lc2L vs vs1 g t y1 g1 t1 x l (wipeR ρ2 vs)).W QA E)) (fun _ _ => False) := by
  rw [lc2L]
  cases g d ρ with
  | none => simp
  | some ρ1 =>
    simp only [Option.some.injEq, exists_eq_left']
    cases t ρ1 with
    | ok k ρ2 =>
      cases k with
      | true =>
        simp only [W_okB, true_implies, reduceCtorEq, false_implies, and_true]
        cases y1 ρ2 with
        | ok ds1 ρ3 =>
          simp only [W_okA]
          cases lcL vs1 g1 t1 x ds1 (wipeR ρ3 vs1) with
          | ok zs ρ4 =>
            simp only [W_okA]
            cases lc2L vs vs1 g t y1 g1 t1 x l (wipeR ρ4 vs) <;> exact .rfl
          | _ => exact .rfl
        | _ => exact .rfl
      | false => simp
    | _ => exact .rfl
/-- a comprehension of two turns that changes nothing -/
theorem lc2L_pure {α : Type} (e : α → D) (l : List α) {vs vs1 : List Nat} {g g1 : Gx} {y1 : Ax} {t1 : Bx} (p : α → Bool) (f : α → List D)
    (hs : ∀ a ∈ l, ∃ ρ1, g (e a) ρ = some ρ1 ∧ (t ρ1).W (fun k ρ2 => k = p a ∧ (k = true → (y1 ρ2).W (fun ds1 ρ3 => (lcL vs1 g1 t1 x ds1 (wipeR ρ3 vs1)).W (fun zs ρ4 => zs = f a ∧ wipeR ρ4 vs = ρ) (fun _ _ => False)) (fun _ _ => False)) ∧ (k = false → wipeR ρ2 vs = ρ)) (fun _ _ => False)) :
    lc2L vs vs1 g t y1 g1 t1 x (l.map e) ρ = .ok ((l.filter p).map f).flatten ρ := by
  induction l with
  | nil => rfl
  | cons a l ih =>
    apply AR.W_eq
    rw [List.map_cons, W_lc2L_cons]
    obtain ⟨ρ1, h1, h2⟩ := hs a List.mem_cons_self
    have ih' := ih fun b hb => hs b (List.mem_cons_of_mem _ hb)
    refine ⟨ρ1, h1, h2.mono (fun k ρ2 q => ⟨fun hk => (q.2.1 hk).mono (fun ds1 ρ3 z => z.mono (fun zs ρ4 z => ?_) fun _ _ z => z) (fun _ _ z => z), fun hk => ?_⟩) (fun _ _ z => z)⟩
    · rw [z.2, ih']; simp [z.1, ← q.1, hk]
    · rw [q.2.2 hk, ih']; simp [← q.1, hk]
end
end On

set_option Elab.async false
set_option linter.all false
set_option maxRecDepth 100000
set_option maxHeartbeats 4000000
/-! Wp3: plain values as data: numbers from 0 on, tuples and lists of such. -/
namespace On
open PySem PySem.Spec L2
mutual
/-- a value that may stand anywhere: what tuples hold is looked at -/
def D.any : D → Bool
  | .tup l => anyL l
  | .non => true
  | .bl _ => true
  | .int _ => true
  | .str _ => true
  | .lst _ => true
  | .dk _ => true
  | .dt _ => true
  | _ => false
def anyL : List D → Bool
  | [] => true
  | d :: r => d.any && anyL r
end
@[simp] theorem any_tup (l : List D) : (D.tup l).any = anyL l := by rw [D.any]
@[simp] theorem any_non : D.non.any = true := by rw [D.any]
@[simp] theorem any_bl (b : Bool) : (D.bl b).any = true := by rw [D.any]
@[simp] theorem any_int (b : Int) : (D.int b).any = true := by rw [D.any]
@[simp] theorem any_str (b : Str) : (D.str b).any = true := by rw [D.any]
@[simp] theorem any_lst (b : List D) : (D.lst b).any = true := by rw [D.any]
@[simp] theorem any_dk (b : List (Key × D)) : (D.dk b).any = true := by rw [D.any]
@[simp] theorem any_dt (b : List (List Key × D)) : (D.dt b).any = true := by rw [D.any]
@[simp] theorem anyL_nil : anyL [] = true := by rw [anyL]
@[simp] theorem anyL_cons (d : D) (l : List D) : anyL (d :: l) = (d.any && anyL l) := by rw [anyL]
@[simp] theorem anyL_append : ∀ (l m : List D), anyL (l ++ m) = (anyL l && anyL m)
  | [], m => by simp
  | d :: l, m => by rw [List.cons_append, anyL_cons, anyL_cons, anyL_append l m, Bool.and_assoc]
theorem anyL_iff : ∀ {l : List D}, anyL l = true ↔ ∀ d ∈ l, d.any = true
  | [] => by simp
  | d :: l => by simp [anyL_iff (l := l)]
theorem any_sh {d : D} (h : d.any = true) : d.sh = true := by cases d <;> first | rfl | (unfold D.any at h; cases h)
theorem any_fz {d : D} (h : d.any = true) : d.fz = d := by cases d <;> first | (unfold D.fz; rfl) | (unfold D.any at h; cases h)
class En (α : Type) where
  e : α → D
  sh : ∀ a, (e a).sh = true
  fz : ∀ a, (e a).fz = e a
  im : ∀ a, (e a).im = true
  any : ∀ a, (e a).any = true
open En (e)
class EnE (α : Type) extends En α where
  py : α → PyData
  pyOk : ∀ a, (En.e a).py = some (py a)
  lay : ∀ a, (py a).canLay0 = true
  dep : Nat
  depth : ∀ a, (py a).depth ≤ dep
  same : ∀ a b, PyData.eqv (py a) (py b) = true ↔ a = b
@[simp] theorem e_sh {α : Type} [En α] (a : α) : (e a).sh = true := En.sh a
@[simp] theorem e_fz {α : Type} [En α] (a : α) : (e a).fz = e a := En.fz a
@[simp] theorem e_any {α : Type} [En α] (a : α) : (e a).any = true := En.any a
@[simp] theorem e_im {α : Type} [En α] (a : α) : (e a).im = true := En.im a
section
variable {α β : Type}
theorem shL_map [En α] (l : List α) : shL (l.map e) = true := by
  induction l with
  | nil => rfl
  | cons a l ih => simp [shL, ih]
theorem imL_map [En α] (l : List α) : imL (l.map e) = true := by
  induction l with
  | nil => unfold imL; rfl
  | cons a l ih => rw [List.map_cons]; unfold imL; simp [ih]
@[simp] theorem anyL_map [En α] (l : List α) : anyL (l.map e) = true := by
  induction l with
  | nil => rfl
  | cons a l ih => simp [ih]
instance : En Nat := ⟨fun n => .int (n : Int), fun _ => rfl, fun _ => by unfold D.fz; rfl, fun _ => by unfold D.im; rfl, fun _ => by simp⟩
instance : En Bool := ⟨fun n => .bl n, fun _ => rfl, fun _ => by unfold D.fz; rfl, fun _ => by unfold D.im; rfl, fun _ => by simp⟩
instance [En α] : En (List α) := ⟨fun l => .tup (l.map e), fun _ => rfl, fun _ => by unfold D.fz; rfl, fun l => by unfold D.im; exact imL_map l, fun _ => by simp⟩
instance [En α] [En β] : En (α × β) := ⟨fun p => .tup [e p.1, e p.2], fun _ => rfl, fun _ => by unfold D.fz; rfl, fun l => by unfold D.im; unfold imL; unfold imL; unfold imL; simp, fun _ => by simp⟩
/-- None, or a thing -/
def eOpt [En α] : Option α → D
  | none => .non
  | some a => e a
instance [En α] : En (Option α) := ⟨eOpt, fun a => by cases a <;> simp [eOpt]; rfl, fun a => by cases a <;> simp [eOpt]; unfold D.fz; rfl, fun a => by cases a <;> simp [eOpt]; unfold D.im; rfl, fun a => by cases a <;> simp [eOpt]⟩
theorem e_none [En α] : (e (none : Option α) : D) = .non := rfl
theorem e_some [En α] (a : α) : (e (some a) : D) = e a := rfl
theorem pyL_map [EnE α] (l : List α) : pyL (l.map e) = some (l.map EnE.py) := by
  induction l with
  | nil => unfold pyL; rfl
  | cons a l ih => rw [List.map_cons]; unfold pyL; rw [EnE.pyOk, ih]; rfl
theorem layL_map [EnE α] (l : List α) : PyData.canLayAll0 (l.map EnE.py) = true := by
  induction l with
  | nil => rfl
  | cons a l ih => simp [PyData.canLayAll0, EnE.lay, ih]
theorem depL_map [EnE α] (l : List α) : PyData.depthAll (l.map EnE.py) ≤ EnE.dep α := by
  induction l with
  | nil => exact Nat.zero_le _
  | cons a l ih => exact Nat.max_le.mpr ⟨EnE.depth a, ih⟩
theorem sameL_map [EnE α] (l m : List α) : PyData.eqvAll (l.map EnE.py) (m.map EnE.py) = true ↔ l = m := by
  induction l generalizing m with
  | nil => cases m <;> simp [PyData.eqvAll]
  | cons a l ih =>
    cases m with
    | nil => simp [PyData.eqvAll]
    | cons b m => simp [PyData.eqvAll, ih, EnE.same]
instance : EnE Nat := ⟨fun n => .int (n : Int), fun _ => by rfl, fun _ => rfl, 0, fun _ => Nat.le_refl _, fun a b => by simp [PyData.eqv, Int.ofNat_inj]⟩
instance : EnE Bool := ⟨fun n => .bool n, fun _ => by rfl, fun _ => rfl, 0, fun _ => Nat.le_refl _, fun a b => by simp [PyData.eqv]⟩
instance [EnE α] : EnE (List α) := ⟨fun l => .tuple (l.map EnE.py), fun l => by show (D.tup (l.map e)).py = _; unfold D.py; rw [pyL_map]; rfl, fun l => layL_map l, EnE.dep α + 1, fun l => Nat.succ_le_succ (depL_map l), fun a b => by
  rw [PyData.eqv]; exact sameL_map a b⟩
instance [EnE α] [EnE β] : EnE (α × β) := ⟨fun l => .tuple [EnE.py l.1, EnE.py l.2], fun l => by show (D.tup [e l.1, e l.2]).py = _; unfold D.py; unfold pyL; unfold pyL; unfold pyL; rw [EnE.pyOk, EnE.pyOk]; rfl,
  fun l => by simp [PyData.canLay0, PyData.canLayAll0, EnE.lay], max (EnE.dep α) (EnE.dep β) + 1, fun l => by
    show max (PyData.depth (EnE.py l.1)) (max (PyData.depth (EnE.py l.2)) 0) + 1 ≤ _
    have h1 := EnE.depth l.1
    have h2 := EnE.depth l.2
    omega, fun a b => by
  rw [PyData.eqv]; simp [PyData.eqvAll, EnE.same, Prod.ext_iff]⟩
/-- a list as shared data -/
def eL [En α] (l : List α) : D := .lst (l.map e)
/-- a list that is owned -/
def eO [En α] (l : List α) : D := .ol (l.map e)
theorem e_nat (n : Nat) : (e n : D) = .int (n : Int) := rfl
theorem e_bool (n : Bool) : (e n : D) = .bl n := rfl
theorem e_list [En α] (l : List α) : (e l : D) = .tup (l.map e) := rfl
theorem e_pair [En α] [En β] (l : α × β) : (e l : D) = .tup [e l.1, e l.2] := rfl
@[simp] theorem eL_sh [En α] (l : List α) : (eL l).sh = true := rfl
@[simp] theorem eL_fz [En α] (l : List α) : (eL l).fz = eL l := by unfold eL D.fz; rfl
theorem fzL_sh : ∀ {l : List D}, (∀ d ∈ l, d.fz = d) → fzL l = l
  | [], _ => by unfold fzL; rfl
  | d :: r, h => by unfold fzL; rw [h d List.mem_cons_self, fzL_sh fun x hx => h x (List.mem_cons_of_mem _ hx)]
@[simp] theorem fz_ol_map [En α] (l : List α) : (D.ol (l.map e)).fz = eL l := by
  unfold D.fz; rw [fzL_sh]; rfl
  intro d hd; obtain ⟨a, _, rfl⟩ := List.mem_map.mp hd; exact En.fz a
@[simp] theorem eO_fz [En α] (l : List α) : (eO l).fz = eL l := fz_ol_map l
@[simp] theorem fz_ol (l : List D) : (D.ol l).fz = .lst (fzL l) := by rw [D.fz]
@[simp] theorem fz_lst (l : List D) : (D.lst l).fz = .lst l := by rw [D.fz]
@[simp] theorem fz_tup (l : List D) : (D.tup l).fz = .tup l := by rw [D.fz]
@[simp] theorem fz_non : D.non.fz = .non := by rw [D.fz]
@[simp] theorem fz_bl (b : Bool) : (D.bl b).fz = .bl b := by rw [D.fz]
@[simp] theorem fz_int (b : Int) : (D.int b).fz = .int b := by rw [D.fz]
@[simp] theorem fz_str (b : Str) : (D.str b).fz = .str b := by rw [D.fz]
@[simp] theorem fz_dk (b : List (Key × D)) : (D.dk b).fz = .dk b := by rw [D.fz]
@[simp] theorem fz_dt (b : List (List Key × D)) : (D.dt b).fz = .dt b := by rw [D.fz]
@[simp] theorem fz_ins (c : Str) (b : List (Str × D)) : (D.ins c b).fz = .ins c b := by rw [D.fz]
@[simp] theorem fzL_nil : fzL [] = [] := by rw [fzL]
@[simp] theorem fzL_cons (d : D) (l : List D) : fzL (d :: l) = d.fz :: fzL l := by rw [fzL]
@[simp] theorem fzL_map [En α] (l : List α) : fzL (l.map e) = l.map e := fzL_sh fun d hd => by obtain ⟨a, _, rfl⟩ := List.mem_map.mp hd; exact En.fz a
@[simp] theorem fzL_mapF [En β] (f : α → β) (l : List α) : fzL (l.map fun a => e (f a)) = l.map fun a => e (f a) := fzL_sh fun d hd => by obtain ⟨a, _, rfl⟩ := List.mem_map.mp hd; exact En.fz _
@[simp] theorem lst_map [En α] (l : List α) : D.lst (l.map e) = eL l := rfl
@[simp] theorem lst_mapF [En β] (f : α → β) (l : List α) : D.lst (l.map fun a => e (f a)) = eL (l.map f) := by unfold eL; rw [List.map_map]; rfl
@[simp] theorem tup_map [En α] (l : List α) : D.tup (l.map e) = e l := rfl
@[simp] theorem tup_mapF [En β] (f : α → β) (l : List α) : D.tup (l.map fun a => e (f a)) = e (l.map f) := by rw [e_list, List.map_map]; rfl
@[simp] theorem lst_one [En α] (a : α) : D.lst [e a] = eL [a] := rfl
@[simp] theorem tup_one [En α] (a : α) : D.tup [e a] = e [a] := rfl
@[simp] theorem sh_non : D.non.sh = true := rfl
@[simp] theorem sh_bl (b : Bool) : (D.bl b).sh = true := rfl
@[simp] theorem sh_int (b : Int) : (D.int b).sh = true := rfl
@[simp] theorem sh_str (b : Str) : (D.str b).sh = true := rfl
@[simp] theorem sh_tup (b : List D) : (D.tup b).sh = true := rfl
@[simp] theorem sh_lst (b : List D) : (D.lst b).sh = true := rfl
@[simp] theorem sh_dk (b : List (Key × D)) : (D.dk b).sh = true := rfl
@[simp] theorem sh_dt (b : List (List Key × D)) : (D.dt b).sh = true := rfl
@[simp] theorem sh_ins (c : Str) (b : List (Str × D)) : (D.ins c b).sh = true := rfl
@[simp] theorem sh_exc (c : Str) : (D.exc c).sh = true := rfl
@[simp] theorem sh_gl (c : Str) : (D.gl c).sh = true := rfl
@[simp] theorem sh_cl (c : Nat) : (D.cl c).sh = true := rfl
@[simp] theorem shL_nil : shL [] = true := rfl
@[simp] theorem shL_cons (d : D) (l : List D) : shL (d :: l) = (d.sh && shL l) := rfl
@[simp] theorem shL_mapE [En α] (l : List α) : shL (l.map e) = true := shL_map l
theorem shaped_e [EnE α] (h : EnE.dep α ≤ 64) (a : α) : SeqAt.shaped (EnE.py a) = true := by
  unfold SeqAt.shaped
  rw [EnE.lay, Bool.true_and]
  exact decide_eq_true (Nat.le_trans (EnE.depth a) h)
theorem eqD_e [EnE α] [DecidableEq α] (h : EnE.dep α ≤ 64) (a b : α) : eqD (e a) (e b) = some (decide (a = b)) := by
  unfold eqD
  rw [EnE.pyOk, EnE.pyOk]
  simp only [shaped_e h, and_self, if_true, Option.some.injEq]
  by_cases z : a = b
  · rw [decide_eq_true z]; exact (EnE.same a b).mpr z
  · rw [decide_eq_false z]
    cases hh : PyData.eqv (EnE.py a) (EnE.py b)
    · rfl
    · exact absurd ((EnE.same a b).mp hh) z
theorem eqD_eL [EnE α] [DecidableEq α] (h : EnE.dep α ≤ 63) (a b : List α) : eqD (eL a) (eL b) = some (decide (a = b)) := by
  unfold eqD eL
  have q : ∀ l : List α, (D.lst (l.map e)).py = some (.list (l.map EnE.py)) := fun l => by unfold D.py; rw [pyL_map]; rfl
  have s : ∀ l : List α, SeqAt.shaped (.list (l.map EnE.py)) = true := fun l => by
    unfold SeqAt.shaped
    have h1 : (PyData.list (l.map EnE.py)).canLay0 = true := layL_map l
    rw [h1, Bool.true_and]
    exact decide_eq_true (Nat.le_trans (Nat.succ_le_succ (depL_map l)) (Nat.succ_le_succ h))
  rw [q, q]
  simp only [s, and_self, if_true, Option.some.injEq]
  rw [PyData.eqv]
  by_cases z : a = b
  · rw [decide_eq_true z]; exact (sameL_map a b).mpr z
  · rw [decide_eq_false z]
    cases hh : PyData.eqvAll (a.map EnE.py) (b.map EnE.py)
    · rfl
    · exact absurd ((sameL_map a b).mp hh) z
@[simp] theorem dEq_nat (a b : Nat) : dEq (e a) (e b) = some (.bl (decide (a = b))) := by unfold dEq; rw [eqD_e (by decide)]; rfl
@[simp] theorem dNe_nat (a b : Nat) : dNe (e a) (e b) = some (.bl (!decide (a = b))) := by unfold dNe; rw [eqD_e (by decide)]; rfl
@[simp] theorem dEq_row (a b : List Nat) : dEq (e a) (e b) = some (.bl (decide (a = b))) := by unfold dEq; rw [eqD_e (by decide)]; rfl
@[simp] theorem dNe_row (a b : List Nat) : dNe (e a) (e b) = some (.bl (!decide (a = b))) := by unfold dNe; rw [eqD_e (by decide)]; rfl
@[simp] theorem dEq_rules (a b : List (List Nat)) : dEq (e a) (e b) = some (.bl (decide (a = b))) := by unfold dEq; rw [eqD_e (by decide)]; rfl
@[simp] theorem dNe_rules (a b : List (List Nat)) : dNe (e a) (e b) = some (.bl (!decide (a = b))) := by unfold dNe; rw [eqD_e (by decide)]; rfl
@[simp] theorem dEq_rows (a b : List (List Nat)) : dEq (eL a) (eL b) = some (.bl (decide (a = b))) := by unfold dEq; rw [eqD_eL (by decide)]; rfl
@[simp] theorem dNe_rows (a b : List (List Nat)) : dNe (eL a) (eL b) = some (.bl (!decide (a = b))) := by unfold dNe; rw [eqD_eL (by decide)]; rfl
@[simp] theorem dEq_nums (a b : List Nat) : dEq (eL a) (eL b) = some (.bl (decide (a = b))) := by unfold dEq; rw [eqD_eL (by decide)]; rfl
@[simp] theorem dNe_nums (a b : List Nat) : dNe (eL a) (eL b) = some (.bl (!decide (a = b))) := by unfold dNe; rw [eqD_eL (by decide)]; rfl
@[simp] theorem dEq_nil [EnE α] [DecidableEq α] (h : EnE.dep α ≤ 63) (a : List α) : dEq (eL a) (.lst []) = some (.bl (decide (a = []))) := by unfold dEq; rw [show D.lst [] = eL ([] : List α) from rfl, eqD_eL h]; rfl
@[simp] theorem dLen_e [En α] (l : List α) : dLen [e l] = some (e l.length) := by show dLen [.tup (l.map e)] = _; simp [dLen, e_nat]
@[simp] theorem dLen_tup (l : List D) : dLen [.tup l] = some (e l.length) := rfl
@[simp] theorem dLen_lst (l : List D) : dLen [.lst l] = some (e l.length) := rfl
@[simp] theorem dLen_eL [En α] (l : List α) : dLen [eL l] = some (e l.length) := by unfold eL; simp [dLen, e_nat]
@[simp] theorem seq_e [En α] (l : List α) : (e l : D).seq = some (l.map e) := rfl
@[simp] theorem seq_eL [En α] (l : List α) : (eL l).seq = some (l.map e) := rfl
@[simp] theorem items_e [En α] (l : List α) : (e l : D).items = some (l.map e) := rfl
@[simp] theorem items_eL [En α] (l : List α) : (eL l).items = some (l.map e) := rfl
theorem atI_nat {α : Type} (l : List α) (i : Nat) : atI l (i : Int) = l[i]? := by
  unfold atI ixN
  by_cases h : i < l.length
  · simp [h]
  · simp [h, List.getElem?_eq_none (Nat.le_of_not_lt h)]
@[simp] theorem dIx_e [En α] (l : List α) (i : Nat) : dIx (e l) (e i) = (l[i]?).map e := by
  show atI (l.map e) (i : Int) = _
  rw [atI_nat, List.getElem?_map]
@[simp] theorem dIx_eL [En α] (l : List α) (i : Nat) : dIx (eL l) (e i) = (l[i]?).map e := by
  show atI (l.map e) (i : Int) = _
  rw [atI_nat, List.getElem?_map]
@[simp] theorem dAdd_nat (a b : Nat) : dAdd (e a) (e b) = some (e (a + b)) := by simp [e_nat, dAdd]
theorem dAdd_e [En α] {l m : List α} (h : l.length + m.length ≤ most) : dAdd (e l) (e m) = some (e (l ++ m)) := by
  show dAdd (.tup (l.map e)) (.tup (m.map e)) = _
  simp [dAdd, h, e_list]
theorem dAdd_eL [En α] {l m : List α} (h : l.length + m.length ≤ most) : dAdd (eL l) (eL m) = some (eO (l ++ m)) := by
  unfold eL; simp [dAdd, h, eO]
@[simp] theorem dTuple_e [En α] (l : List α) : dTuple [e l] = some (e l) := rfl
@[simp] theorem dTuple_eL [En α] (l : List α) : dTuple [eL l] = some (e l) := rfl
@[simp] theorem dList_e [En α] (l : List α) : dList [e l] = some (eO l) := rfl
@[simp] theorem dList_eL [En α] (l : List α) : dList [eL l] = some (eO l) := rfl
@[simp] theorem fRng1_e (n : Nat) (h : (n : Int) < 2 ^ 62) : fRng1 [e n] = some ((List.range n).map e) := by
  rw [e_nat]
  unfold fRng1
  dsimp only
  rw [if_pos ⟨by omega, h⟩]
  simp [rngD, e_nat, Function.comp_def]
theorem rng_e (n : Nat) : rngD 0 n = (List.range n).map e := by simp [rngD, e_nat]
@[simp] theorem fZip_e [En α] [En β] (l : List α) (m : List β) : fZip [e l, e m] = some ((l.zip m).map e) := by
  show some (((l.map e).zip (m.map e)).map pair2) = _
  rw [List.zip_map, List.map_map]; rfl
@[simp] theorem fZip_eLe [En α] [En β] (l : List α) (m : List β) : fZip [eL l, e m] = some ((l.zip m).map e) := fZip_e l m
@[simp] theorem fZip_eeL [En α] [En β] (l : List α) (m : List β) : fZip [e l, eL m] = some ((l.zip m).map e) := fZip_e l m
@[simp] theorem fZip_eLeL [En α] [En β] (l : List α) (m : List β) : fZip [eL l, eL m] = some ((l.zip m).map e) := fZip_e l m
/-- a thing and its index, told the other way round -/
def eI [En α] (p : α × Nat) : D := .tup [e p.2, e p.1]
@[simp] theorem fEnum_e [En α] (l : List α) : fEnum [e l] = some (l.zipIdx.map eI) := by
  show some ((l.map e).zipIdx.map pairI) = _
  rw [List.zipIdx_map, List.map_map]; rfl
@[simp] theorem fEnum_eL [En α] (l : List α) : fEnum [eL l] = some (l.zipIdx.map eI) := fEnum_e l
/-- an index and two things -/
def eEZ [En α] [En β] (p : (α × β) × Nat) : D := .tup [e p.2, .tup [e p.1.1, e p.1.2]]
@[simp] theorem fEnumZip_e [En α] [En β] (l : List α) (m : List β) : fEnumZip [e l, e m] = some ((l.zip m).zipIdx.map eEZ) := by
  show some (((l.map e).zip (m.map e)).zipIdx.map pairE) = _
  rw [List.zip_map, List.zipIdx_map, List.map_map]; rfl
@[simp] theorem fzL_bl (f : α → Bool) (l : List α) : fzL (l.map fun a => D.bl (f a)) = l.map fun a => D.bl (f a) := fzL_sh fun d hd => by obtain ⟨a, _, rfl⟩ := List.mem_map.mp hd; simp
@[simp] theorem shL_append : ∀ (l m : List D), shL (l ++ m) = (shL l && shL m)
  | [], m => rfl
  | d :: l, m => by rw [List.cons_append, shL_cons, shL_cons, shL_append l m, Bool.and_assoc]
@[simp] theorem tup_snoc [En α] (l : List α) (a : α) : D.tup (l.map e ++ [e a]) = e (l ++ [a]) := by rw [e_list]; simp
@[simp] theorem tup_cat [En α] (l m : List α) : D.tup (l.map e ++ m.map e) = e (l ++ m) := by rw [e_list]; simp
@[simp] theorem fzL_comp [En β] (f : α → β) (l : List α) : fzL (l.map (e ∘ f)) = l.map (e ∘ f) := fzL_mapF f l
@[simp] theorem ol_map [En α] (l : List α) : D.ol (l.map e) = eO l := rfl
@[simp] theorem ol_comp [En β] (f : α → β) (l : List α) : D.ol (l.map (e ∘ f)) = eO (l.map f) := by unfold eO; rw [List.map_map]
@[simp] theorem lst_comp [En β] (f : α → β) (l : List α) : D.lst (l.map (e ∘ f)) = eL (l.map f) := by unfold eL; rw [List.map_map]
@[simp] theorem tup_comp [En β] (f : α → β) (l : List α) : D.tup (l.map (e ∘ f)) = e (l.map f) := by rw [e_list, List.map_map]
@[simp] theorem ol_mapF [En β] (f : α → β) (l : List α) : D.ol (l.map fun a => e (f a)) = eO (l.map f) := by unfold eO; rw [List.map_map]; rfl
section
variable {ρ : Rho} {x : Xx} {t : Bx} {vs vs1 : List Nat} {g g1 : Gx} {y1 : Ax} {t1 : Bx}
theorem lcL_fil [En β] (e' : α → D) (l : List α) (p : α → Bool) (f : α → β)
    (hs : ∀ a ∈ l, ∃ ρ1, g (e' a) ρ = some ρ1 ∧ (t ρ1).W (fun k ρ2 => k = p a ∧ (k = true → (x ρ2).W (fun y ρ3 => y = e (f a) ∧ wipeR ρ3 vs = ρ) (fun _ _ => False)) ∧ (k = false → wipeR ρ2 vs = ρ)) (fun _ _ => False)) :
    lcL vs g t x (l.map e') ρ = .ok (((l.filter p).map f).map e) ρ := by
  rw [lcL_pure e' l p (fun a => e (f a))]
  · rw [List.map_map]; rfl
  · intro a ha
    obtain ⟨ρ1, h1, h2⟩ := hs a ha
    exact ⟨ρ1, h1, h2.mono (fun k ρ2 q => ⟨q.1, fun hk => (q.2.1 hk).mono (fun y ρ3 z => ⟨by rw [z.1]; simp, z⟩) fun _ _ z => z, q.2.2⟩) fun _ _ z => z⟩
theorem lcL_all [En β] (e' : α → D) (l : List α) (f : α → β)
    (hs : ∀ a ∈ l, ∃ ρ1, g (e' a) ρ = some ρ1 ∧ (t ρ1).W (fun k ρ2 => k = true ∧ (x ρ2).W (fun y ρ3 => y = e (f a) ∧ wipeR ρ3 vs = ρ) (fun _ _ => False)) (fun _ _ => False)) :
    lcL vs g t x (l.map e') ρ = .ok ((l.map f).map e) ρ := by
  rw [lcL_fil e' l (fun _ => true) f]
  · rw [show l.filter (fun _ => true) = l from List.filter_eq_self.mpr fun _ _ => rfl]
  · intro a ha
    obtain ⟨ρ1, h1, h2⟩ := hs a ha
    exact ⟨ρ1, h1, h2.mono (fun k ρ2 q => ⟨q.1, fun hk => q.2, fun hk => by rw [q.1] at hk; cases hk⟩) fun _ _ z => z⟩
theorem lcL_allD (e' : α → D) (l : List α) (f : α → D)
    (hs : ∀ a ∈ l, ∃ ρ1, g (e' a) ρ = some ρ1 ∧ (t ρ1).W (fun k ρ2 => k = true ∧ (x ρ2).W (fun y ρ3 => y.sh = true ∧ y = f a ∧ wipeR ρ3 vs = ρ) (fun _ _ => False)) (fun _ _ => False)) :
    lcL vs g t x (l.map e') ρ = .ok (l.map f) ρ := by
  rw [lcL_pure e' l (fun _ => true) f]
  · rw [show l.filter (fun _ => true) = l from List.filter_eq_self.mpr fun _ _ => rfl]
  · intro a ha
    obtain ⟨ρ1, h1, h2⟩ := hs a ha
    exact ⟨ρ1, h1, h2.mono (fun k ρ2 q => ⟨q.1, fun hk => q.2, fun hk => by rw [q.1] at hk; cases hk⟩) fun _ _ z => z⟩
theorem lc2L_all [En β] (e' : α → D) (l : List α) (f : α → List β)
    (hs : ∀ a ∈ l, ∃ ρ1, g (e' a) ρ = some ρ1 ∧ (t ρ1).W (fun k ρ2 => k = true ∧ (y1 ρ2).W (fun ds1 ρ3 => (lcL vs1 g1 t1 x ds1 (wipeR ρ3 vs1)).W (fun zs ρ4 => zs = (f a).map e ∧ wipeR ρ4 vs = ρ) (fun _ _ => False)) (fun _ _ => False)) (fun _ _ => False)) :
    lc2L vs vs1 g t y1 g1 t1 x (l.map e') ρ = .ok ((l.flatMap f).map e) ρ := by
  rw [lc2L_pure e' l (fun _ => true) (fun a => (f a).map e)]
  · rw [show l.filter (fun _ => true) = l from List.filter_eq_self.mpr fun _ _ => rfl, List.map_flatMap, List.flatMap_def]
  · intro a ha
    obtain ⟨ρ1, h1, h2⟩ := hs a ha
    exact ⟨ρ1, h1, h2.mono (fun k ρ2 q => ⟨q.1, fun hk => q.2, fun hk => by rw [q.1] at hk; cases hk⟩) fun _ _ z => z⟩
end
/-! names -/
@[simp] theorem gxName_some {i : Nat} {d : D} {ρ ρ' : Rho} : gxName i d ρ = some ρ' ↔ i < ρ.length ∧ ρ' = ρ.set i (some d) := by
  unfold gxName; split <;> simp [*, eq_comm]
@[simp] theorem gxTup2 {d1 d2 : D} {g1 g2 : Gx} {ρ ρ' : Rho} : gxTup 2 (glCons g1 (glCons g2 glNil)) (.tup [d1, d2]) ρ = some ρ' ↔ ∃ ρ1, g1 d1 ρ = some ρ1 ∧ g2 d2 ρ1 = some ρ' := by
  simp only [gxTup, List.length_cons, List.length_nil, Nat.reduceAdd, if_true, glCons, glNil]
  cases h : g1 d1 ρ with
  | none => simp
  | some ρ1 => simp only [Option.some.injEq, exists_eq_left']; cases h2 : g2 d2 ρ1 <;> simp
@[simp] theorem gxTup3 {d1 d2 d3 : D} {g1 g2 g3 : Gx} {ρ ρ' : Rho} : gxTup 3 (glCons g1 (glCons g2 (glCons g3 glNil))) (.tup [d1, d2, d3]) ρ = some ρ' ↔ ∃ ρ1, g1 d1 ρ = some ρ1 ∧ ∃ ρ2, g2 d2 ρ1 = some ρ2 ∧ g3 d3 ρ2 = some ρ' := by
  simp only [gxTup, List.length_cons, List.length_nil, Nat.reduceAdd, if_true, glCons, glNil]
  cases h : g1 d1 ρ with
  | none => simp
  | some ρ1 =>
    simp only [Option.some.injEq, exists_eq_left']
    cases h2 : g2 d2 ρ1 with
    | none => simp
    | some ρ2 => simp only [Option.some.injEq, exists_eq_left']; cases h3 : g3 d3 ρ2 <;> simp
def kN (n : Nat) : Key := .inl (n : Int)
theorem kN_inj {a b : Nat} (h : kN a = kN b) : a = b := by unfold kN at h; cases h; rfl
@[simp] theorem kN_iff {a b : Nat} : kN a = kN b ↔ a = b := ⟨kN_inj, fun h => h ▸ rfl⟩
@[simp] theorem key_e (n : Nat) : (e n : D).key = some (kN n) := rfl
@[simp] theorem key_str (x : Str) : (D.str x).key = some (.inr x) := rfl
@[simp] theorem isD_dk (l : List (Key × D)) : (D.dk l).isD = true := rfl
@[simp] theorem isD_dt (l : List (List Key × D)) : (D.dt l).isD = true := rfl
@[simp] theorem get_dk (l : List (Key × D)) (n : Nat) : (D.dk l).get_ (e n) = some (valD l (kN n)) := rfl
section
variable {κ : Type} [DecidableEq κ]
theorem valD_nil (k : κ) : valD ([] : List (κ × D)) k = none := rfl
theorem valD_cons (p : κ × D) (l : List (κ × D)) (k : κ) : valD (p :: l) k = if p.1 = k then some p.2 else valD l k := by
  unfold valD
  rw [List.find?_cons]
  by_cases h : p.1 = k <;> simp [h]
theorem valD_mapPut (k k' : κ) (v : D) : ∀ (l : List (κ × D)), valD (l.map fun kv => if kv.1 = k then (kv.1, v) else kv) k' = if k = k' then (if (l.any fun kv => decide (kv.1 = k)) = true then some v else none) else valD l k'
  | [] => by simp [valD_nil]
  | p :: l => by
    rw [List.map_cons, valD_cons, valD_mapPut k k' v l, valD_cons, List.any_cons]
    by_cases h1 : p.1 = k
    · by_cases h2 : k = k'
      · simp [h1, h2]
      · simp [h1, h2]
    · by_cases h2 : k = k'
      · subst h2; simp only [h1, if_false, if_true]; by_cases ha : (l.any fun kv => decide (kv.1 = k)) = true
        · rw [if_pos ha, if_pos (by rw [ha, Bool.or_true])]
        · rw [if_neg ha, if_neg (by simpa using ha)]
      · simp [h1, h2]
theorem valD_snoc (k k' : κ) (v : D) : ∀ (l : List (κ × D)), (l.any fun kv => decide (kv.1 = k)) = false → valD (l ++ [(k, v)]) k' = if k = k' then some v else valD l k'
  | [], _ => by simp [valD_cons, valD_nil]
  | p :: l, h => by
    rw [List.any_cons, Bool.or_eq_false_iff] at h
    have h1 : ¬ p.1 = k := by simpa using h.1
    rw [List.cons_append, valD_cons, valD_snoc k k' v l h.2, valD_cons]
    by_cases h2 : k = k'
    · subst h2; simp [h1]
    · simp [h2]
theorem valD_put (l : List (κ × D)) (k k' : κ) (v : D) : valD (putD l k v) k' = if k = k' then some v else valD l k' := by
  unfold putD
  split
  · rename_i h
    rw [valD_mapPut, if_pos h]
  · rename_i h
    exact valD_snoc k k' v l (Bool.eq_false_iff.mpr h)
end
@[simp] theorem e_eq_int (k : Nat) (i : Int) : (e k : D) = .int i ↔ (k : Int) = i := by simp [e_nat]
@[simp] theorem Tof_eO [En α] (l : List α) : Tof (eO l) = some "list" := rfl
@[simp] theorem Tof_ol (l : List D) : Tof (.ol l) = some "list" := rfl
theorem mExt_e [En α] {l m : List α} (h : l.length + m.length ≤ most) : mExt (eO l) [eL m] = some (eO (l ++ m), .non) := by
  unfold eO eL; simp [mExt, h]
theorem mApp_e [En α] {l : List α} (a : α) (h : l.length < most) : mApp (eO l) [e a] = some (eO (l ++ [a]), .non) := by
  unfold eO; simp [mApp, h]
theorem mApp_nil (d : D) : mApp (.ol []) [d] = some (.ol [d], .non) := rfl
@[simp] theorem wipeR_nil {ρ : Rho} : wipeR ρ [] = ρ := rfl
@[simp] theorem wipeR_cons {ρ : Rho} {v : Nat} {vs : List Nat} : wipeR ρ (v :: vs) = (wipeR ρ vs).set v none := rfl
@[simp] theorem putBack_nil {ρ : Rho} : putBack [] [] ρ = some ρ := rfl
@[simp] theorem putBack_none {ρ : Rho} {p : List (Option Nat)} {ms : List D} : putBack (none :: p) ms ρ = putBack p ms ρ := by cases ms <;> rfl
@[simp] theorem putBack_some {ρ : Rho} {i : Nat} {p : List (Option Nat)} {d : D} {ms : List D} : putBack (some i :: p) (d :: ms) ρ = putBack p ms (ρ.set i (some d)) := rfl
@[simp] theorem muts_nil {ρ : Rho} : muts [] ρ = some [] := rfl
@[simp] theorem muts_true {ρ : Rho} {m : List Bool} {d : D} : muts (true :: m) (some d :: ρ) = (muts m ρ).map (d :: ·) := rfl
@[simp] theorem muts_false {ρ : Rho} {m : List Bool} {o : Option D} : muts (false :: m) (o :: ρ) = muts m ρ := rfl
end
end On

set_option Elab.async false
set_option linter.all false
set_option maxRecDepth 100000
set_option maxHeartbeats 4000000
/-! P1: plain tables. -/
namespace On
open PySem PySem.Spec L2
open En (e)
@[simp] theorem int_lit (n : Nat) : D.int (no_index (OfNat.ofNat n)) = e (OfNat.ofNat n : Nat) := rfl
theorem e_inj_nat {a b : Nat} : (e a : D) = e b ↔ a = b := by simp [e_nat, Int.ofNat_inj]
@[simp] theorem dLe_nat (a b : Nat) : dLe (e a) (e b) = some (.bl (decide (a ≤ b))) := by simp [e_nat, dLe, dI2T, Int.ofNat_le]
@[simp] theorem dLt_nat (a b : Nat) : dLt (e a) (e b) = some (.bl (decide (a < b))) := by simp [e_nat, dLt, dI2T, Int.ofNat_lt]
@[simp] theorem dGt_nat (a b : Nat) : dGt (e a) (e b) = some (.bl (decide (b < a))) := by simp [e_nat, dGt, dI2T, Int.ofNat_lt]
@[simp] theorem dGe_nat (a b : Nat) : dGe (e a) (e b) = some (.bl (decide (b ≤ a))) := by simp [e_nat, dGe, dI2T, Int.ofNat_le]
@[simp] theorem dSub_nat (a b : Nat) : dSub (e a) (e b) = some (.int (a - b : Int)) := by simp [e_nat, dSub, dI2T]
theorem mul_nat {a b : Nat} (h : a < 2 ^ 64 ∨ b < 2 ^ 64) : CMul (a : Int) (b : Int) := by
  unfold CMul
  have h2 : (2:Int)^64 = 18446744073709551616 := by decide
  have h3 : (2:Nat)^64 = 18446744073709551616 := by decide
  rw [h2]; rw [h3] at h
  omega
theorem dMul_nat {a b : Nat} (h : a < 2 ^ 64 ∨ b < 2 ^ 64) : dMul (e a) (e b) = some (e (a * b)) := by
  simp [e_nat, dMul, mul_nat h]
def stepR (found : List (List Nat)) (n : Nat) : List (List Nat) := found.flatMap fun row => (List.range n).map fun i => row ++ [i]
/-- all rows, ascending -/
def rowsF (sizes : List Nat) : List (List Nat) := sizes.foldl stepR [[]]
theorem rowsF_snoc (pre : List Nat) (n : Nat) : rowsF (pre ++ [n]) = stepR (rowsF pre) n := by simp [rowsF]
def prodF (l : List Nat) : Nat := l.foldl (· * ·) 1
theorem prodF_snoc (pre : List Nat) (n : Nat) : prodF (pre ++ [n]) = prodF pre * n := by simp [prodF]
theorem stepR_length (f : List (List Nat)) (n : Nat) : (stepR f n).length = f.length * n := by
  induction f with
  | nil => simp [stepR]
  | cons a f ih => unfold stepR at ih ⊢; rw [List.flatMap_cons, List.length_append, ih]; simp [Nat.succ_mul, Nat.add_comm]
theorem rowsF_length (l : List Nat) : (rowsF l).length = prodF l := by
  have go : ∀ (l : List Nat) (f : List (List Nat)), (l.foldl stepR f).length = l.foldl (· * ·) f.length := by
    intro l
    induction l with
    | nil => intro f; rfl
    | cons a l ih => intro f; rw [List.foldl_cons, ih, stepR_length]; rfl
  exact go l [[]]
/-- a row: a number below each of some sizes -/
def IsRow : List Nat → List Nat → Prop
  | [], [] => True
  | x :: r, n :: s => x < n ∧ IsRow r s
  | _, _ => False
instance IsRow.dec : (r s : List Nat) → Decidable (IsRow r s)
  | [], [] => isTrue trivial
  | x :: r, n :: s => have := IsRow.dec r s; inferInstanceAs (Decidable (x < n ∧ IsRow r s))
  | [], _ :: _ => isFalse id
  | _ :: _, [] => isFalse id
theorem IsRow.length : ∀ {r s : List Nat}, IsRow r s → r.length = s.length
  | [], [], _ => rfl
  | _ :: _, _ :: _, h => congrArg (· + 1) h.2.length
theorem IsRow.lt : ∀ {r s : List Nat} {i x : Nat}, IsRow r s → r[i]? = some x → ∃ n, s[i]? = some n ∧ x < n
  | _ :: _, n :: _, 0, _, h, e => by simp at e; subst e; exact ⟨n, rfl, h.1⟩
  | _ :: _, _ :: _, i + 1, _, h, e => by
    obtain ⟨n, h1, h2⟩ := IsRow.lt (i := i) h.2 (by simpa using e)
    exact ⟨n, by simpa using h1, h2⟩
  | [], [], i, _, _, e => by simp at e
theorem isRow_iff : ∀ {r s : List Nat}, IsRow r s ↔ r.length = s.length ∧ ∀ (i x n : Nat), r[i]? = some x → s[i]? = some n → x < n
  | [], [] => by simp [IsRow]
  | [], _ :: _ => by simp [IsRow]
  | _ :: _, [] => by simp [IsRow]
  | x :: r, n :: s => by
    rw [IsRow, isRow_iff (r := r) (s := s)]
    constructor
    · rintro ⟨h1, h2, h3⟩
      refine ⟨by simp [h2], fun i y m => ?_⟩
      cases i with
      | zero => simp; rintro rfl rfl; exact h1
      | succ i => simpa using h3 i y m
    · rintro ⟨h1, h2⟩
      refine ⟨h2 0 x n rfl rfl, by simpa using h1, fun i y m a b => h2 (i + 1) y m (by simpa using a) (by simpa using b)⟩
theorem mem_stepR {f : List (List Nat)} {n : Nat} {r : List Nat} : r ∈ stepR f n ↔ ∃ a ∈ f, ∃ x, x < n ∧ r = a ++ [x] := by
  simp only [stepR, List.mem_flatMap, List.mem_map, List.mem_range]
  constructor
  · rintro ⟨a, ha, x, hx, rfl⟩; exact ⟨a, ha, x, hx, rfl⟩
  · rintro ⟨a, ha, x, hx, rfl⟩; exact ⟨a, ha, x, hx, rfl⟩
theorem mem_rows {s r : List Nat} : r ∈ rowsF s ↔ IsRow r s := by
  have go : ∀ (s : List Nat) (f : List (List Nat)) (r : List Nat), r ∈ s.foldl stepR f ↔ ∃ a ∈ f, ∃ b, IsRow b s ∧ r = a ++ b := by
    intro s
    induction s with
    | nil =>
      intro f r
      constructor
      · intro h; exact ⟨r, h, [], trivial, by simp⟩
      · rintro ⟨a, ha, b, hb, rfl⟩
        cases b with
        | nil => simpa using ha
        | cons x b => exact hb.elim
    | cons n s ih =>
      intro f r
      rw [List.foldl_cons, ih]
      constructor
      · rintro ⟨a, ha, b, hb, rfl⟩
        obtain ⟨c, hc, x, hx, rfl⟩ := mem_stepR.mp ha
        exact ⟨c, hc, x :: b, ⟨hx, hb⟩, by simp⟩
      · rintro ⟨a, ha, b, hb, rfl⟩
        cases b with
        | nil => exact hb.elim
        | cons x b => exact ⟨a ++ [x], mem_stepR.mpr ⟨a, ha, x, hb.1, rfl⟩, b, hb.2, by simp⟩
  rw [rowsF, go]
  constructor
  · rintro ⟨a, ha, b, hb, rfl⟩
    simp at ha; subst ha; simpa using hb
  · intro h; exact ⟨[], by simp, r, h, by simp⟩
theorem get_flat {α β : Type} (f : α → List β) (n : Nat) : ∀ (l : List α), (∀ a ∈ l, (f a).length = n) → ∀ (i x : Nat), x < n → (l.flatMap f)[i * n + x]? = (l[i]?).bind fun a => (f a)[x]?
  | [], _, i, x, _ => by simp
  | a :: l, h, 0, x, hx => by
    rw [List.flatMap_cons, List.getElem?_append_left (by rw [h a List.mem_cons_self]; omega)]
    simp
  | a :: l, h, i + 1, x, hx => by
    rw [List.flatMap_cons, List.getElem?_append_right (by rw [h a List.mem_cons_self, Nat.succ_mul]; omega), h a List.mem_cons_self]
    have e : (i + 1) * n + x - n = i * n + x := by rw [Nat.succ_mul]; omega
    rw [e, get_flat f n l (fun b hb => h b (List.mem_cons_of_mem _ hb)) i x hx]
    simp
/-- where a row stands among all rows -/
def placeF (l : List (Nat × Nat)) : Nat := l.foldl (fun f p => f * p.2 + p.1) 0
theorem placeF_snoc (pre : List (Nat × Nat)) (p : Nat × Nat) : placeF (pre ++ [p]) = placeF pre * p.2 + p.1 := by simp [placeF]
theorem rows_place {s r : List Nat} (h : IsRow r s) : (rowsF s)[placeF (r.zip s)]? = some r := by
  have go : ∀ (s r : List Nat), IsRow r s → ∀ (f : List (List Nat)) (i : Nat) (a : List Nat), f[i]? = some a → (s.foldl stepR f)[(r.zip s).foldl (fun f p => f * p.2 + p.1) i]? = some (a ++ r) := by
    intro s
    induction s with
    | nil => intro r h f i a ha; cases r with
      | nil => simpa using ha
      | cons x r => exact h.elim
    | cons n s ih =>
      intro r h f i a ha
      cases r with
      | nil => exact h.elim
      | cons x r =>
        rw [List.foldl_cons, List.zip_cons_cons, List.foldl_cons]
        have := ih r h.2 (stepR f n) (i * n + x) (a ++ [x]) (by
          unfold stepR
          rw [get_flat _ n f (fun _ _ => by simp) i x h.1, ha]
          simp [h.1])
        simpa using this
  have := go s r h [[]] 0 [] rfl
  simpa [rowsF, placeF] using this
theorem nodup_append' {α : Type} {l m : List α} (h1 : l.Nodup) (h2 : m.Nodup) (h3 : ∀ a ∈ l, a ∉ m) : (l ++ m).Nodup :=
  List.nodup_append.mpr ⟨h1, h2, fun a ha b hb z => h3 a ha (z ▸ hb)⟩
theorem nodup_flat {α β : Type} (f : α → List β) : ∀ (l : List α), l.Nodup → (∀ a ∈ l, (f a).Nodup) → (∀ a ∈ l, ∀ b ∈ l, ∀ x, x ∈ f a → x ∈ f b → a = b) → (l.flatMap f).Nodup
  | [], _, _, _ => by simp
  | a :: l, h1, h2, h3 => by
    rw [List.flatMap_cons]
    have h1' := List.nodup_cons.mp h1
    refine nodup_append' (h2 a List.mem_cons_self) (nodup_flat f l h1'.2 (fun b hb => h2 b (List.mem_cons_of_mem _ hb)) fun b hb c hc => h3 b (List.mem_cons_of_mem _ hb) c (List.mem_cons_of_mem _ hc)) fun x hx hy => ?_
    obtain ⟨b, hb, hx2⟩ := List.mem_flatMap.mp hy
    exact h1'.1 (h3 a List.mem_cons_self b (List.mem_cons_of_mem _ hb) x hx hx2 ▸ hb)
theorem nodup_map' {α β : Type} {f : α → β} (hf : ∀ a b, f a = f b → a = b) : ∀ {l : List α}, l.Nodup → (l.map f).Nodup
  | [], _ => by simp
  | a :: l, h => by
    have h' := List.nodup_cons.mp h
    rw [List.map_cons]
    refine List.nodup_cons.mpr ⟨fun z => ?_, nodup_map' hf h'.2⟩
    obtain ⟨b, hb, e⟩ := List.mem_map.mp z
    exact h'.1 (hf _ _ e ▸ hb)
theorem nodup_rows (s : List Nat) : (rowsF s).Nodup := by
  have go : ∀ (s : List Nat) (f : List (List Nat)), f.Nodup → (s.foldl stepR f).Nodup := by
    intro s
    induction s with
    | nil => intro f h; exact h
    | cons n s ih =>
      intro f h
      rw [List.foldl_cons]
      refine ih _ (nodup_flat _ _ h (fun a _ => nodup_map' (fun i j e => by simpa using e) List.nodup_range) fun a _ b _ x hx hy => ?_)
      obtain ⟨i, _, rfl⟩ := List.mem_map.mp hx
      obtain ⟨j, _, e⟩ := List.mem_map.mp hy
      exact (List.append_inj' e rfl).1.symm
  exact go s _ (by simp)
theorem prodF_append (l m : List Nat) : prodF (l ++ m) = prodF l * prodF m := by
  have go : ∀ (m : List Nat) (k : Nat), m.foldl (· * ·) k = k * m.foldl (· * ·) 1 := by
    intro m
    induction m with
    | nil => intro k; simp
    | cons a m ih => intro k; rw [List.foldl_cons, ih, List.foldl_cons, ih (1 * a)]; simp [Nat.mul_assoc]
  unfold prodF
  rw [List.foldl_append, go]
theorem prodF_pos (l : List Nat) (h : ∀ a ∈ l, 1 ≤ a) : 1 ≤ prodF l := by
  induction l with
  | nil => exact Nat.le_refl _
  | cons a l ih =>
    have : prodF (a :: l) = a * prodF l := by rw [show a :: l = [a] ++ l from rfl, prodF_append]; simp [prodF]
    rw [this]
    exact Nat.mul_le_mul (h a List.mem_cons_self) (ih fun b hb => h b (List.mem_cons_of_mem _ hb))
/-- what a table's rooms send -/
structure Sizes (l : List Nat) : Prop where
  pos : ∀ a ∈ l, 1 ≤ a
  top : ∀ a ∈ l, a ≤ 64
  prod : prodF l ≤ 64
theorem Sizes.pre {l pre post : List Nat} (s : Sizes l) (h : l = pre ++ post) : prodF pre ≤ 64 := by
  have := s.prod
  rw [h, prodF_append] at this
  have := prodF_pos post fun a ha => s.pos a (by rw [h]; exact List.mem_append_right _ ha)
  exact Nat.le_trans (Nat.le_mul_of_pos_right _ this) ‹_›
theorem most_eq : most = 1000000 := rfl
theorem m_product_of_e (l : List Nat) (h : ∀ a ∈ l, a < 2 ^ 64) : m_product_of [e l] = .ok (e (prodF l)) [] := by
  apply FR.W_eq
  simp [m_product_of, y_product_of]
  refine W_for (e := e) l (fun pre ρ => ∃ o, ρ = [some (e l), some (e (prodF pre)), o]) ⟨none, rfl⟩ ?_ ?_
  · rintro pre a post hl ρ ⟨o, rfl⟩
    have ha : a < 2 ^ 64 := h a (by rw [hl]; simp)
    simp [prodF_snoc, dI2, e_nat, mul_nat (.inr ha)]
  · rintro ρ ⟨o, rfl⟩
    simp
theorem flat_len {α β : Type} (f : α → List β) (n : Nat) : ∀ (l : List α), (∀ a ∈ l, (f a).length = n) → (l.map f).flatten.length = l.length * n
  | [], _ => by simp
  | a :: l, h => by rw [List.map_cons, List.flatten_cons, List.length_append, h a List.mem_cons_self, flat_len f n l fun b hb => h b (List.mem_cons_of_mem _ hb)]; simp [Nat.succ_mul, Nat.add_comm]
theorem IsRow.mem_le {r s : List Nat} (h : IsRow r s) (hs : ∀ a ∈ s, a ≤ 64) : ∀ x ∈ r, x < 64 := by
  intro x hx
  obtain ⟨i, hi⟩ := List.mem_iff_getElem?.mp hx
  obtain ⟨n, h1, h2⟩ := h.lt hi
  exact Nat.lt_of_lt_of_le h2 (hs n (List.mem_iff_getElem?.mpr ⟨i, h1⟩))
theorem rows_len {s r : List Nat} (h : r ∈ rowsF s) : r.length = s.length := (mem_rows.mp h).length
theorem rows_le {l pre post : List Nat} (s : Sizes l) (h : l = pre ++ post) : (rowsF pre).length ≤ 64 := by rw [rowsF_length]; exact s.pre h
theorem m_rows_of_e {l : List Nat} (h : Sizes l) (hn : l.length ≤ 6) : m_rows_of [e l] = .ok (eL (rowsF l)) [] := by
  apply FR.W_eq
  simp [m_rows_of, y_rows_of, most_eq]
  refine W_for (e := e) l (fun pre ρ => ∃ o, ρ = [some (e l), some (eL (rowsF pre)), o, none, none]) ⟨none, rfl⟩ ?_ ?_
  · rintro pre a post hl ρ ⟨o, rfl⟩
    have ha := h.top a (by rw [hl]; simp)
    have hp : pre.length ≤ 6 := by rw [hl, List.length_append] at hn; omega
    have hb := rows_le h (show l = (pre ++ [a]) ++ post by simp [hl])
    simp
    rw [lc2L_all e (rowsF pre) (fun row => (List.range a).map fun i => row ++ [i])]
    · rw [rowsF_snoc] at hb
      simp only [W_okA, List.length_map]
      refine ⟨Nat.le_trans hb (by simp [most_eq]), ?_⟩
      simp [rowsF_snoc, stepR]
    · rintro row hr
      have hf := fRng1_e a (by omega)
      have hrl := rows_len hr
      simp [hf]
      rw [lcL_all e (List.range a) (fun i => row ++ [i])]
      · simp
      · intro i hi
        simp [most_eq]
        omega
  · rintro ρ ⟨o, rfl⟩
    simp
theorem m_place_of_e {r s : List Nat} (hs : ∀ a ∈ s, a ≤ 64) : m_place_of [e r, e s] = .ok (e (placeF (r.zip s))) [] := by
  apply FR.W_eq
  simp [m_place_of, y_place_of]
  refine W_for (e := e) (r.zip s) (fun pre ρ => ∃ o p, ρ = [some (e r), some (e s), some (e (placeF pre)), o, p]) ⟨none, none, rfl⟩ ?_ ?_
  · rintro pre ⟨x, n⟩ post hl ρ ⟨o, p, rfl⟩
    have hn : n ≤ 64 := hs n (List.of_mem_zip (show (x, n) ∈ r.zip s by rw [hl]; simp)).2
    simp [e_pair]
    simp [dMul_nat (.inr (show n < 2 ^ 64 by omega)), placeF_snoc]
  · rintro ρ ⟨o, p, rfl⟩
    simp
/-! the law's own -/
theorem m_law_rows_e {l : List Nat} (h : Sizes l) (hn : l.length ≤ 6) : m_law_rows [e l] = .ok (eL (rowsF l)) [] := by
  apply FR.W_eq
  simp [m_law_rows, y_law_rows, most_eq]
  refine W_for (e := e) l (fun pre ρ => ∃ o p q, ρ = [some (e l), some (eL (rowsF pre)), o, p, q, none]) ⟨none, none, none, rfl⟩ ?_ ?_
  · rintro pre a post hl ρ ⟨o, p, q, rfl⟩
    have ha := h.top a (by rw [hl]; simp)
    have hp : pre.length ≤ 6 := by rw [hl, List.length_append] at hn; omega
    have hb := rows_le h hl
    simp [most_eq]
    refine W_for (e := e) (rowsF pre) (fun p2 ρ => ∃ q, ρ = [some (e l), some (eL (rowsF pre)), some (e a), some (eL (stepR p2 a)), q, none]) ⟨q, rfl⟩ ?_ ?_
    · rintro p2 row post2 hl2 ρ ⟨q, rfl⟩
      have hf := fRng1_e a (by omega)
      have hrl := rows_len (show row ∈ rowsF pre by rw [hl2]; simp)
      have hr2 : p2.length ≤ 64 := by rw [hl2, List.length_append] at hb; omega
      have hr3 : p2.length * a ≤ 64 * 64 := Nat.mul_le_mul hr2 ha
      simp [hf]
      rw [lcL_all e (List.range a) (fun i => row ++ [i])]
      · simp [most_eq]
        refine ⟨by omega, ?_⟩
        rw [dAdd_eL (by rw [stepR_length]; simp [most_eq]; omega)]
        refine ⟨_, rfl, ?_⟩
        simp [stepR]
      · intro i hi
        simp [most_eq]
        rw [dAdd_e (by simp [most_eq]; omega)]
        simp
    · rintro ρ ⟨q, rfl⟩
      simp [rowsF_snoc]
  · rintro ρ ⟨o, p, q, rfl⟩
    simp
end On

set_option Elab.async false
set_option linter.all false
set_option maxRecDepth 100000
set_option maxHeartbeats 4000000
/-! P2: tables and what is judged. -/
namespace On
open PySem PySem.Spec L2
open En (e)
/-- a table as the law holds it: what is sent, what is received, the deliveries by sending -/
structure Sc where
  sends : List Nat
  takes : List Nat
  notes : List (List Nat × List Nat)
/-- the delivery of a sending -/
def Sc.at (s : Sc) (r : List Nat) : List Nat := ((s.notes.find? fun p => decide (p.1 = r)).map (·.2)).getD []
structure Sc.Ok (s : Sc) : Prop where
  sz : Sizes s.sends
  one : 1 ≤ s.sends.length
  six : s.sends.length ≤ 6
  tlen : s.takes.length = s.sends.length
  tpos : ∀ a ∈ s.takes, 1 ≤ a
  ttop : ∀ a ∈ s.takes, a ≤ 64
  keys : ∀ r, r ∈ s.notes.map (·.1) ↔ IsRow r s.sends
  nd : (s.notes.map (·.1)).Nodup
  del : ∀ p ∈ s.notes, IsRow p.2 s.takes
/-- two sendings that some room parts -/
def Sc.parted (s : Sc) (a b : List Nat) : Prop := ∃ i : Nat, a[i]? ≠ b[i]? ∧ (s.at a)[i]? = (s.at b)[i]?
def Sc.Fine (s : Sc) : Prop := ∀ a b, IsRow a s.sends → IsRow b s.sends → a ≠ b → s.parted a b
theorem kNs_inj : ∀ {a b : List Nat}, a.map kN = b.map kN → a = b
  | [], [], _ => rfl
  | x :: a, y :: b, h => by simp at h; rw [h.1, kNs_inj h.2]
  | [], _ :: _, h => by simp at h
  | _ :: _, [], h => by simp at h
theorem keysL_e (r : List Nat) : keysL (r.map e) = some (r.map kN) := by
  induction r with
  | nil => rfl
  | cons x r ih => rw [List.map_cons, keysL, ih]; rfl
theorem keyT_e (r : List Nat) : (e r : D).keyT = some (r.map kN) := keysL_e r
def eNote (p : List Nat × List Nat) : List Key × D := (p.1.map kN, e p.2)
/-- the deliveries as a dict -/
def notesD (l : List (List Nat × List Nat)) : D := .dt (l.map eNote)
/-- the law's dict of a table -/
def Sc.d (s : Sc) : D := .dk [(.inr "sends", e s.sends), (.inr "takes", e s.takes), (.inr "notes", notesD s.notes)]
/-- the program's table -/
def Sc.tbl (s : Sc) : D := .ins "Table" [("sends", e s.sends), ("takes", e s.takes), ("notes", e ((rowsF s.sends).map s.at))]
@[simp] theorem Sc.d_sh (s : Sc) : s.d.sh = true := rfl
@[simp] theorem Sc.tbl_sh (s : Sc) : s.tbl.sh = true := rfl
@[simp] theorem Sc.d_fz (s : Sc) : s.d.fz = s.d := by unfold Sc.d D.fz; rfl
@[simp] theorem Sc.tbl_fz (s : Sc) : s.tbl.fz = s.tbl := by unfold Sc.tbl D.fz; rfl
@[simp] theorem notesD_sh (l : List (List Nat × List Nat)) : (notesD l).sh = true := rfl
@[simp] theorem d_sends (s : Sc) : dIx s.d (.str "sends") = some (e s.sends) := by unfold Sc.d; rfl
@[simp] theorem d_takes (s : Sc) : dIx s.d (.str "takes") = some (e s.takes) := by unfold Sc.d; rfl
@[simp] theorem d_notes (s : Sc) : dIx s.d (.str "notes") = some (notesD s.notes) := by unfold Sc.d; rfl
@[simp] theorem t_sends (s : Sc) : dFld "Table" "sends" s.tbl = some (e s.sends) := by unfold Sc.tbl; rfl
@[simp] theorem t_takes (s : Sc) : dFld "Table" "takes" s.tbl = some (e s.takes) := by unfold Sc.tbl; rfl
@[simp] theorem t_notes (s : Sc) : dFld "Table" "notes" s.tbl = some (e ((rowsF s.sends).map s.at)) := by unfold Sc.tbl; rfl
theorem valD_notes (l : List (List Nat × List Nat)) (r : List Nat) : valD (l.map eNote) (r.map kN) = ((l.find? fun p => decide (p.1 = r)).map (·.2)).map e := by
  unfold valD
  induction l with
  | nil => rfl
  | cons p l ih =>
    rw [List.map_cons, List.find?_cons, List.find?_cons]
    by_cases h : p.1 = r
    · subst h; simp [eNote]
    · have h2 : ¬ (p.1.map kN = r.map kN) := fun z => h (kNs_inj z)
      simp only [eNote, h, h2, decide_false]
      exact ih
theorem Sc.Ok.find {s : Sc} (h : s.Ok) {r : List Nat} (hr : IsRow r s.sends) : ∃ p ∈ s.notes, p.1 = r ∧ (s.notes.find? fun p => decide (p.1 = r)) = some p := by
  obtain ⟨p, hp, rfl⟩ := List.mem_map.mp ((h.keys r).mpr hr)
  cases hf : s.notes.find? fun q => decide (q.1 = p.1) with
  | none => exact absurd (List.find?_eq_none.mp hf p hp) (by simp)
  | some q => exact ⟨q, List.mem_of_find?_eq_some hf, by simpa using List.find?_some hf, rfl⟩
theorem Sc.Ok.atRow {s : Sc} (h : s.Ok) {r : List Nat} (hr : IsRow r s.sends) : IsRow (s.at r) s.takes := by
  obtain ⟨p, hp, _, hf⟩ := h.find hr
  unfold Sc.at
  rw [hf]
  exact h.del p hp
theorem notes_at {s : Sc} (h : s.Ok) {r : List Nat} (hr : IsRow r s.sends) : dIx (notesD s.notes) (e r) = some (e (s.at r)) := by
  obtain ⟨p, hp, _, hf⟩ := h.find hr
  show (dGetT (s.notes.map eNote) (e r)).bind id = _
  unfold dGetT
  rw [keyT_e]
  show valD (s.notes.map eNote) (r.map kN) = _
  rw [valD_notes]
  unfold Sc.at
  rw [hf]
  rfl
theorem Sc.Ok.stop {s : Sc} (h : s.Ok) : ∀ a ∈ s.sends, a ≤ 64 := h.sz.top
theorem m_delivery_of_e {s : Sc} (h : s.Ok) {r : List Nat} (hr : IsRow r s.sends) : m_delivery_of [s.tbl, e r] = .ok (e (s.at r)) [] := by
  apply FR.W_eq
  simp [m_delivery_of, y_delivery_of, m_place_of_e h.stop, rows_place hr]
/-! what is judged -/
def D.between (a b : Int) : D → Bool
  | .int i => decide (a ≤ i) && decide (i ≤ b)
  | _ => false
def D.isN : D → Bool
  | .int _ => true
  | _ => false
def D.isT : D → Bool
  | .tup _ => true
  | _ => false
@[simp] theorem isT_e {α : Type} [En α] (l : List α) : (e l : D).isT = true := rfl
theorem between_nat (n a b : Nat) : (e n : D).between (a : Int) (b : Int) = (decide (a ≤ n) && decide (n ≤ b)) := by
  simp [e_nat, D.between, Int.ofNat_le]
theorem kit_int {d : D} (h : d.any = true) : kitD csL esL tabL d (.b "int") = some (match d with | .int _ => true | .bl _ => true | _ => false) := by
  cases d <;> first | rfl | (unfold D.any at h; cases h)
theorem kit_bool {d : D} (h : d.any = true) : kitD csL esL tabL d (.b "bool") = some (match d with | .bl _ => true | _ => false) := by
  cases d <;> first | rfl | (unfold D.any at h; cases h)
theorem kit_tuple {d : D} (h : d.any = true) : kitD csL esL tabL d (.b "tuple") = some d.isT := by
  cases d <;> first | rfl | (unfold D.any at h; cases h)
theorem m_is_number_e {d : D} (h : d.any = true) : m_is_number [d] = .ok (.bl d.isN) [] := by
  apply FR.W_eq
  simp [m_is_number, y_is_number, kit_int h, kit_bool h, any_sh h]
  cases d <;> simp [D.isN]
theorem m_law_is_whole_e {d : D} (h : d.any = true) : m_law_is_whole [d] = .ok (.bl d.isN) [] := by
  apply FR.W_eq
  simp [m_law_is_whole, y_law_is_whole, kit_int h, kit_bool h, any_sh h]
  cases d <;> simp [D.isN]
theorem m_is_between_e {d : D} (h : d.any = true) (a b : Int) : m_is_between [d, .int a, .int b] = .ok (.bl (d.between a b)) [] := by
  apply FR.W_eq
  simp [m_is_between, y_is_between, m_is_number_e h, any_sh h]
  cases d <;> simp [D.isN, D.between, dLe, dI2T]
  rename_i i
  by_cases hi : a ≤ i <;> simp [hi]
  omega
theorem m_is_between_e1 {d : D} (h : d.any = true) (a : Nat) (b : Int) : m_is_between [d, e a, .int b] = .ok (.bl (d.between a b)) [] := m_is_between_e h a b
theorem m_is_between_e2 {d : D} (h : d.any = true) (a b : Nat) : m_is_between [d, e a, e b] = .ok (.bl (d.between a b)) [] := m_is_between_e h a b
/-- is a value a row -/
def rowB : List D → List Nat → Bool
  | [], [] => true
  | d :: l, n :: s => d.between 0 (n - 1 : Int) && rowB l s
  | _, _ => false
def D.isRow (d : D) (s : List Nat) : Bool := match d with
  | .tup l => rowB l s
  | _ => false
theorem rowB_length : ∀ {l : List D} {s : List Nat}, rowB l s = true → l.length = s.length
  | [], [], _ => rfl
  | _ :: l, _ :: s, h => by simp [rowB] at h; simp [rowB_length h.2]
  | [], _ :: _, h => by simp [rowB] at h
  | _ :: _, [], h => by simp [rowB] at h
theorem rowB_iff : ∀ {l : List D} {s : List Nat}, rowB l s = true ↔ ∃ r, l = r.map e ∧ IsRow r s
  | [], [] => by simp [rowB]; trivial
  | [], n :: s => by
    simp [rowB]
    exact id
  | d :: l, [] => by
    simp [rowB]
    rintro r h
    cases r with
    | nil => simp at h
    | cons x r => exact id
  | d :: l, n :: s => by
    rw [rowB, Bool.and_eq_true, rowB_iff (l := l) (s := s)]
    constructor
    · rintro ⟨h1, r, rfl, hr⟩
      cases d with
      | int i =>
        simp [D.between] at h1
        exact ⟨i.toNat :: r, by simp [e_nat]; omega, by omega, hr⟩
      | _ => cases h1
    · rintro ⟨r, h1, hr⟩
      cases r with
      | nil => exact hr.elim
      | cons x r =>
        simp at h1
        obtain ⟨rfl, rfl⟩ := h1
        exact ⟨by have := hr.1; simp [D.between, e_nat]; omega, r, rfl, hr.2⟩
theorem isRow_iffD {d : D} {s : List Nat} : d.isRow s = true ↔ ∃ r, d = e r ∧ IsRow r s := by
  unfold D.isRow
  split
  · rename_i l
    rw [rowB_iff]
    constructor
    · rintro ⟨r, rfl, h⟩; exact ⟨r, rfl, h⟩
    · rintro ⟨r, h, h2⟩; rw [e_list] at h; cases h; exact ⟨r, rfl, h2⟩
  · rename_i h
    simp
    rintro r rfl
    exact (h _ rfl).elim
@[simp] theorem isRow_e {r s : List Nat} : (e r : D).isRow s = decide (IsRow r s) := by
  cases h : (e r : D).isRow s with
  | true =>
    obtain ⟨r', h1, h2⟩ := isRow_iffD.mp h
    have : r = r' := by
      rw [e_list, e_list] at h1
      injection h1 with h1
      clear h2 h
      induction r generalizing r' with
      | nil => cases r' <;> simp at h1 ⊢
      | cons x r ih => cases r' with
        | nil => simp at h1
        | cons y r' => simp at h1; rw [e_inj_nat.mp h1.1, ih _ h1.2]
    subst this
    exact (decide_eq_true h2).symm
  | false => exact (decide_eq_false fun z => by rw [isRow_iffD.mpr ⟨r, rfl, z⟩] at h; cases h).symm
theorem rowB_zip : ∀ (l : List D) (s : List Nat), l.length = s.length → rowB l s = (l.zip s).all fun p => p.1.between 0 (p.2 - 1 : Int)
  | [], [], _ => rfl
  | d :: l, n :: s, h => by simp [rowB, rowB_zip l s (by simpa using h)]
  | [], _ :: _, h => by simp at h
  | _ :: _, [], h => by simp at h
theorem blsL_map {α : Type} (f : α → Bool) (l : List α) : blsL (l.map fun a => D.bl (f a)) = some (l.map f) := by
  induction l with
  | nil => rfl
  | cons a l ih => simp [blsL, ih]
@[simp] theorem dAll_map {α : Type} (f : α → Bool) (l : List α) : dAll [.lst (l.map fun a => D.bl (f a))] = some (.bl (l.all f)) := by
  simp [dAll, blsL_map, List.all_map]
@[simp] theorem dAny_map {α : Type} (f : α → Bool) (l : List α) : dAny [.lst (l.map fun a => D.bl (f a))] = some (.bl (l.any f)) := by
  simp [dAny, blsL_map, List.any_map]
def eDN (p : D × Nat) : D := .tup [p.1, e p.2]
theorem fZip_DN (l : List D) (s : List Nat) : fZip [.tup l, e s] = some ((l.zip s).map eDN) := by
  show some ((l.zip (s.map e)).map pair2) = _
  congr 1
  induction l generalizing s with
  | nil => rfl
  | cons d l ih => cases s with
    | nil => rfl
    | cons n s => simp [ih, pair2, eDN]
theorem m_is_row_e {d : D} (h : d.any = true) {s : List Nat} (hs : s.length ≤ 64) : m_is_row [d, e s] = .ok (.bl (d.isRow s)) [] := by
  apply FR.W_eq
  simp [m_is_row, y_is_row, kit_tuple h, any_sh h]
  cases d with
  | tup l =>
    by_cases hl : l.length = s.length
    · simp [D.isT, hl, fZip_DN]
      rw [lcL_allD eDN (l.zip s) (fun p => .bl (p.1.between 0 (p.2 - 1 : Int)))]
      · simp [D.isRow, rowB_zip l s hl, most_eq]
        omega
      · rintro ⟨d, n⟩ hm
        have hd : d.any = true := by
          rw [any_tup] at h
          exact anyL_iff.mp h d (List.of_mem_zip hm).1
        simp [eDN, any_sh hd, m_is_between_e1 hd]
    · simp [D.isT, hl]
      cases hr : rowB l s with
      | true => exact absurd (rowB_length hr) hl
      | false => simpa [D.isRow] using hr
  | _ => simp [D.isT, D.isRow]
theorem any_mem {l : List D} (h : (D.tup l).any = true) {d : D} (hd : d ∈ l) : d.any = true := by
  rw [any_tup] at h; exact anyL_iff.mp h d hd
theorem m_law_is_row_e {d : D} (h : d.any = true) {s : List Nat} (hs : s.length ≤ 64) : m_law_is_row [d, e s] = .ok (.bl (d.isRow s)) [] := by
  apply FR.W_eq
  simp [m_law_is_row, y_law_is_row, kit_tuple h, any_sh h]
  cases d with
  | tup l =>
    by_cases hl : l.length = s.length
    · simp [D.isT, hl, fZip_DN]
      rw [lcL_fil eDN (l.zip s) (fun p => !p.1.between 0 (p.2 - 1 : Int)) (fun _ => 1)]
      · simp [D.isRow, rowB_zip l s hl, most_eq]
        refine ⟨Nat.le_trans (List.length_filter_le _ _) (by simp; omega), ?_⟩
        rw [dEq_nil (by decide)]
        by_cases hq : (l.zip s).all fun p => p.1.between 0 (p.2 - 1 : Int)
        · rw [hq]
          simpa [List.filter_eq_nil_iff] using hq
        · rw [Bool.eq_false_iff.mpr hq]
          simpa [List.filter_eq_nil_iff] using hq
      · rintro ⟨d, n⟩ hm
        have hd := any_mem h (List.of_mem_zip hm).1
        simp [eDN, any_sh hd, m_law_is_whole_e hd]
        cases d with
        | int i =>
          simp [D.isN, D.between, dLe, dLt, dI2T, e_nat, -int_lit]
          by_cases h0 : 0 ≤ i
          · simp [h0]; omega
          · simp [h0]; omega
        | _ => simp [D.isN, D.between]
    · simp [D.isT, hl]
      cases hr : rowB l s with
      | true => exact absurd (rowB_length hr) hl
      | false => simpa [D.isRow] using hr
  | _ => simp [D.isT, D.isRow]
theorem m_are_sizes_e {s : List Nat} (h1 : 1 ≤ s.length) (h6 : s.length ≤ 6) (hp : ∀ a ∈ s, 1 ≤ a) (ht : ∀ a ∈ s, a ≤ 64) : m_are_sizes [e s] = .ok (.bl true) [] := by
  apply FR.W_eq
  simp [m_are_sizes, y_are_sizes, kit_tuple (e_any s), h1, h6]
  rw [lcL_allD e s (fun a => .bl ((e a : D).between 1 64))]
  · simp [most_eq]
    refine ⟨by omega, fun a ha => ?_⟩
    have := between_nat a 1 64
    simp at this
    simp [this, hp a ha, ht a ha]
  · intro a ha
    simp
    have := m_is_between_e2 (e_any a) 1 64
    simp [this]
theorem m_need_sends_e {s : List Nat} (h : Sizes s) (h1 : 1 ≤ s.length) (h6 : s.length ≤ 6) : m_need_sends [e s] = .ok .non [] := by
  apply FR.W_eq
  simp [m_need_sends, y_need_sends, m_are_sizes_e h1 h6 h.pos h.top, m_product_of_e s (fun a ha => by have := h.top a ha; omega)]
  exact h.prod
theorem m_need_takes_e {s : List Nat} (h1 : 1 ≤ s.length) (h6 : s.length ≤ 6) (hp : ∀ a ∈ s, 1 ≤ a) (ht : ∀ a ∈ s, a ≤ 64) : m_need_takes [e s, e s.length] = .ok .non [] := by
  apply FR.W_eq
  simp [m_need_takes, y_need_takes, m_are_sizes_e h1 h6 hp ht]
theorem m_need_sending_e (s : Sc) (h : s.sends.length ≤ 6) {d : D} (hd : d.any = true) : m_need_sending [s.tbl, d] = if d.isRow s.sends = true then .ok .non [] else .ex "BadSending" [] := by
  split
  · rename_i hr
    apply FR.W_eq
    simp [m_need_sending, y_need_sending, any_sh hd, m_is_row_e hd (show s.sends.length ≤ 64 by omega), hr]
  · rename_i hr
    apply FR.W_exeq
    simp [m_need_sending, y_need_sending, any_sh hd, m_is_row_e hd (show s.sends.length ≤ 64 by omega), hr]
theorem Sc.Ok.tone {s : Sc} (h : s.Ok) : 1 ≤ s.takes.length := by rw [h.tlen]; exact h.one
theorem Sc.Ok.tsix {s : Sc} (h : s.Ok) : s.takes.length ≤ 6 := by rw [h.tlen]; exact h.six
theorem Sc.Ok.rlen {s : Sc} (h : s.Ok) : (rowsF s.sends).length ≤ 64 := rows_le h.sz (List.append_nil _).symm
theorem tbl_set (d1 d2 d3 : D) (ρ : Rho) : ∃ ρ', gxTup 3 (glCons (gxFld 0 [] "Table" "sends") (glCons (gxFld 0 [] "Table" "takes") (glCons (gxFld 0 [] "Table" "notes") glNil))) (.tup [d1, d2, d3]) (some (.oi "Table" []) :: ρ) = some ρ' ∧ ρ' = some (.oi "Table" [("sends", d1), ("takes", d2), ("notes", d3)]) :: ρ := ⟨_, rfl, rfl⟩
theorem m_law_made_e {s : Sc} (h : s.Ok) : m_law_made [s.d] = .ok s.tbl [] := by
  apply FR.W_eq
  simp [m_law_made, y_law_made, m_law_rows_e h.sz h.six]
  rw [lcL_all e (rowsF s.sends) s.at]
  · have hl := rowsF_length s.sends
    simp [m_Table__init, y_Table__init, m_need_sends_e h.sz h.one h.six, most_eq, -List.map_map]
    refine ⟨by have := h.rlen; omega, ?_⟩
    have ht := m_need_takes_e h.tone h.tsix h.tpos h.ttop
    rw [h.tlen] at ht
    simp [ht, kit_tuple, m_product_of_e s.sends (fun a ha => by have := h.sz.top a ha; omega), hl, -List.map_map, -gxTup3]
    rw [lcL_allD e ((rowsF s.sends).map s.at) (fun r => .bl ((e r : D).isRow s.takes))]
    · simp only [W_okA, fzL_bl, dAll_map, List.length_map, Option.some.injEq, exists_eq_left', D.bl.injEq]
      refine ⟨by have := h.rlen; omega, List.all_eq_true.mpr fun r hr => ?_, ?_⟩
      · obtain ⟨q, hq, rfl⟩ := List.mem_map.mp hr
        simpa using h.atRow (mem_rows.mp hq)
      simp [-gxTup3]
      obtain ⟨ρ', h1, rfl⟩ := tbl_set (e s.sends) (e s.takes) (e ((rowsF s.sends).map s.at)) [some (e s.sends), some (e s.takes), some (e ((rowsF s.sends).map s.at)), none]
      refine ⟨_, gxTup3.mp h1, ?_⟩
      simp [Sc.tbl, D.fz, fzF]
    · intro r hr
      simp [m_is_row_e (e_any r) (show s.takes.length ≤ 64 by have := h.tsix; omega)]
  · intro r hr
    simp [notes_at h (mem_rows.mp hr)]
end On

set_option Elab.async false
set_option linter.all false
set_option maxRecDepth 100000
set_option maxHeartbeats 4000000
/-! P3: what parts two sendings; fine tables. -/
namespace On
open PySem PySem.Spec L2
open En (e)
/-- the rooms that part two sendings -/
def partsP (a b c d : List Nat) : List Nat := (List.range a.length).filter fun i => decide (a[i]? ≠ b[i]?) && decide (c[i]? = d[i]?)
def Sc.parts (s : Sc) (a b : List Nat) : List Nat := partsP a b (s.at a) (s.at b)
theorem mem_parts {s : Sc} {a b : List Nat} {i : Nat} : i ∈ s.parts a b ↔ i < a.length ∧ a[i]? ≠ b[i]? ∧ (s.at a)[i]? = (s.at b)[i]? := by
  simp [Sc.parts, partsP]
theorem Sc.parted_iff {s : Sc} {a b : List Nat} (h : a.length = b.length) : s.parted a b ↔ s.parts a b ≠ [] := by
  constructor
  · rintro ⟨i, h1, h2⟩ z
    have hi : i < a.length := by
      rcases Nat.lt_or_ge i a.length with q | q
      · exact q
      · exact absurd (by rw [List.getElem?_eq_none q, List.getElem?_eq_none (h ▸ q)]) h1
    have : i ∈ s.parts a b := mem_parts.mpr ⟨hi, h1, h2⟩
    rw [z] at this
    cases this
  · intro z
    obtain ⟨i, hi⟩ := List.exists_mem_of_ne_nil _ z
    exact ⟨i, (mem_parts.mp hi).2⟩
theorem get_some {α : Type} {l : List α} {i : Nat} (h : i < l.length) : ∃ x, l[i]? = some x := ⟨l[i], List.getElem?_eq_getElem h⟩
theorem IsRow.get {r s : List Nat} (h : IsRow r s) {i : Nat} (hi : i < s.length) : ∃ x, r[i]? = some x := get_some (h.length ▸ hi)
theorem m_law_parts_e {s : Sc} (h : s.Ok) {a b : List Nat} (ha : IsRow a s.sends) (hb : IsRow b s.sends) : m_law_parts [s.d, e a, e b] = .ok (eL (s.parts a b)) [] := by
  apply FR.W_eq
  have la := ha.length
  have lb := hb.length
  have lc := (h.atRow ha).length
  have ld := (h.atRow hb).length
  have ht := h.tlen
  have h6 := h.six
  have hf := fRng1_e a.length (by omega)
  simp [m_law_parts, y_law_parts, notes_at h ha, notes_at h hb, hf, most_eq]
  rw [lcL_fil e (List.range a.length) (fun i => decide (a[i]? ≠ b[i]?) && decide ((s.at a)[i]? = (s.at b)[i]?)) (fun i => i)]
  · simp [most_eq]
    exact ⟨Nat.le_trans (List.length_filter_le _ _) (by simp; omega), by simp [Sc.parts, partsP]⟩
  · intro i hi
    have hi : i < a.length := by simpa using hi
    obtain ⟨x, hx⟩ := get_some hi
    obtain ⟨y, hy⟩ := get_some (show i < b.length by omega)
    obtain ⟨z, hz⟩ := get_some (show i < (s.at a).length by omega)
    obtain ⟨u, hu⟩ := get_some (show i < (s.at b).length by omega)
    simp [hx, hy, hz, hu]
    by_cases h1 : x = y <;> by_cases h2 : z = u <;> simp [h1, h2]
theorem m_parting_of_e {s : Sc} (h : s.Ok) {a b : List Nat} (ha : IsRow a s.sends) (hb : IsRow b s.sends) : m_parting_of [s.tbl, e a, e b] = .ok (e (s.parts a b)) [] := by
  apply FR.W_eq
  have la := ha.length
  have lb := hb.length
  have lc := (h.atRow ha).length
  have ld := (h.atRow hb).length
  have ht := h.tlen
  have h6 := h.six
  have hf := fRng1_e a.length (by omega)
  simp [m_parting_of, y_parting_of, m_delivery_of_e h ha, m_delivery_of_e h hb, hf, most_eq]
  rw [lcL_fil e (List.range a.length) (fun i => decide (a[i]? ≠ b[i]?) && decide ((s.at a)[i]? = (s.at b)[i]?)) (fun i => i)]
  · simp [most_eq]
    exact ⟨Nat.le_trans (List.length_filter_le _ _) (by simp; omega), by simp [Sc.parts, partsP]⟩
  · intro i hi
    have hi : i < a.length := by simpa using hi
    obtain ⟨x, hx⟩ := get_some hi
    obtain ⟨y, hy⟩ := get_some (show i < b.length by omega)
    obtain ⟨z, hz⟩ := get_some (show i < (s.at a).length by omega)
    obtain ⟨u, hu⟩ := get_some (show i < (s.at b).length by omega)
    simp [hx, hy, hz, hu]
    by_cases h1 : x = y <;> by_cases h2 : z = u <;> simp [h1, h2]
/-- the least room that parts -/
def partP (a b c d : List Nat) : Option Nat := (List.range a.length).find? fun i => decide (a[i]? ≠ b[i]?) && decide (c[i]? = d[i]?)
theorem m_part_of_e {a b c d : List Nat} (hb : b.length = a.length) (hc : c.length = a.length) (hd : d.length = a.length) (ha : a.length ≤ 64) : m_part_of [e a, e b, e c, e d] = .ok (e (partP a b c d)) [] := by
  apply FR.W_eq
  have hf := fRng1_e a.length (by omega)
  simp [m_part_of, y_part_of, hf]
  refine W_for (e := e) (List.range a.length) (fun pre ρ => (∀ i ∈ pre, (decide (a[i]? ≠ b[i]?) && decide (c[i]? = d[i]?)) = false) ∧ ∃ o, ρ = [some (e a), some (e b), some (e c), some (e d), o]) ⟨by simp, none, rfl⟩ ?_ ?_
  · rintro pre i post hl ρ ⟨hpre, o, rfl⟩
    have hi : i < a.length := by
      have : i ∈ List.range a.length := by rw [hl]; simp
      simpa using this
    obtain ⟨x, hx⟩ := get_some hi
    obtain ⟨y, hy⟩ := get_some (show i < b.length by omega)
    obtain ⟨z, hz⟩ := get_some (show i < c.length by omega)
    obtain ⟨u, hu⟩ := get_some (show i < d.length by omega)
    have key : (decide (a[i]? ≠ b[i]?) && decide (c[i]? = d[i]?)) = true → partP a b c d = some i := by
      intro hk
      unfold partP
      rw [hl, List.find?_append, List.find?_eq_none.mpr (by intro j hj; rw [hpre j hj]; simp), Option.none_or, List.find?_cons, hk]
    simp [hx, hy, hz, hu]
    by_cases h1 : x = y
    · simp [h1]
      intro j hj
      rcases hj with hj | rfl
      · simpa using hpre j hj
      · simp [hx, hy, h1]
    · by_cases h2 : z = u
      · simp [h1, h2]
        rw [key (by simp [hx, hy, hz, hu, h1, h2])]
        rfl
      · simp [h1, h2]
        intro j hj
        rcases hj with hj | rfl
        · simpa using hpre j hj
        · simp [hx, hy, hz, hu, h2]
  · rintro ρ ⟨hpre, o, rfl⟩
    have : partP a b c d = none := List.find?_eq_none.mpr (by intro j hj; rw [hpre j hj]; simp)
    simp [this]
    rfl
theorem partP_none {a b c d : List Nat} : partP a b c d = none ↔ partsP a b c d = [] := by
  unfold partP partsP
  rw [List.find?_eq_none, List.filter_eq_nil_iff]
/-- all pairs of a list, the first ones ahead -/
def pairsL {α : Type} : List α → List (α × α)
  | [] => []
  | a :: l => l.map (fun b => (a, b)) ++ pairsL l
theorem pairs_zip {α β : Type} (f : α → α → β) (l : List α) : (l.zipIdx.flatMap fun p => (l.drop (p.2 + 1)).map (f p.1)) = (pairsL l).map fun p => f p.1 p.2 := by
  have go : ∀ (post pre : List α), l = pre ++ post → ((post.zipIdx pre.length).flatMap fun p => (l.drop (p.2 + 1)).map (f p.1)) = (pairsL post).map fun p => f p.1 p.2 := by
    intro post
    induction post with
    | nil => intro pre h; rfl
    | cons a post ih =>
      intro pre h
      rw [List.zipIdx_cons, List.flatMap_cons, pairsL, List.map_append]
      have := ih (pre ++ [a]) (by simp [h])
      simp only [List.length_append, List.length_cons, List.length_nil, Nat.zero_add] at this
      rw [this]
      congr 1
      have hd : l.drop (pre.length + 1) = post := by rw [h]; simp
      rw [hd, List.map_map]
      rfl
  exact go l [] rfl
theorem mem_pairsL {α : Type} {a b : α} : ∀ {l : List α}, (a, b) ∈ pairsL l → a ∈ l ∧ b ∈ l
  | [], h => by simp [pairsL] at h
  | c :: l, h => by
    rw [pairsL, List.mem_append] at h
    rcases h with h | h
    · obtain ⟨d, hd, z⟩ := List.mem_map.mp h
      cases z
      exact ⟨List.mem_cons_self, List.mem_cons_of_mem _ hd⟩
    · have := mem_pairsL h
      exact ⟨List.mem_cons_of_mem _ this.1, List.mem_cons_of_mem _ this.2⟩
theorem pairsL_ne {α : Type} {a b : α} : ∀ {l : List α}, l.Nodup → (a, b) ∈ pairsL l → a ≠ b
  | [], _, h => by simp [pairsL] at h
  | c :: l, n, h => by
    rw [pairsL, List.mem_append] at h
    have n := List.nodup_cons.mp n
    rcases h with h | h
    · obtain ⟨d, hd, z⟩ := List.mem_map.mp h
      cases z
      exact fun z => n.1 (z ▸ hd)
    · exact pairsL_ne n.2 h
theorem pairsL_all {α : Type} {a b : α} : ∀ {l : List α}, a ∈ l → b ∈ l → a ≠ b → (a, b) ∈ pairsL l ∨ (b, a) ∈ pairsL l
  | c :: l, ha, hb, hn => by
    rw [pairsL, List.mem_append, List.mem_append]
    rcases List.mem_cons.mp ha with e1 | ha'
    · rcases List.mem_cons.mp hb with e2 | hb'
      · exact absurd (e1.trans e2.symm) hn
      · exact .inl (.inl (List.mem_map.mpr ⟨b, hb', by rw [e1]⟩))
    · rcases List.mem_cons.mp hb with e2 | hb'
      · exact .inr (.inl (List.mem_map.mpr ⟨a, ha', by rw [e2]⟩))
      · rcases pairsL_all ha' hb' hn with h | h
        · exact .inl (.inr h)
        · exact .inr (.inr h)
theorem pairsL_length {α : Type} : ∀ (l : List α), (pairsL l).length ≤ l.length * l.length
  | [] => Nat.le_refl _
  | a :: l => by
    have := pairsL_length l
    simp [pairsL, Nat.succ_mul, Nat.mul_succ]
    omega
theorem pairsL_map {α β : Type} (f : α → β) : ∀ (l : List α), pairsL (l.map f) = (pairsL l).map fun p => (f p.1, f p.2)
  | [] => rfl
  | a :: l => by simp [pairsL, pairsL_map f l, Function.comp_def]
theorem dCut_from {α : Type} [En α] (l : List α) (i : Nat) : dCut (eL l) (some (i : Int)) none = some (eO (l.drop i)) := by
  unfold eL dCut cutD eO
  simp only [HT.sIx_nat, HT.sIx_none, List.length_map]
  congr 2
  rw [← List.map_drop, ← List.map_take]
  congr 1
  rcases Nat.le_total i l.length with h | h
  · rw [Nat.min_eq_left h, List.take_of_length_le (by simp)]
  · rw [Nat.min_eq_right h, List.drop_of_length_le (Nat.le_refl _), List.drop_of_length_le h]; simp
/-- all pairs that no room parts -/
def Sc.left (s : Sc) : List (List Nat × List Nat) := (pairsL (rowsF s.sends)).filter fun p => decide (s.parts p.1 p.2 = [])
theorem mul_le {a b : Nat} (ha : a ≤ 64) (hb : b ≤ 64) : a * b ≤ 64 * 64 := Nat.mul_le_mul ha hb
theorem dCut_from1 {α : Type} [En α] (l : List α) (i : Nat) : dCut (eL l) (some ((i : Int) + 1)) none = some (eO (l.drop (i + 1))) := dCut_from l (i + 1)
theorem zipIdx_mem {α : Type} {l : List α} {a : α} {i : Nat} (h : (a, i) ∈ l.zipIdx) : l[i]? = some a := by
  simpa using List.mem_zipIdx_iff_getElem?.mp h
theorem flat_le {α β : Type} (f : α → List β) (n : Nat) : ∀ (l : List α), (∀ a ∈ l, (f a).length ≤ n) → (l.flatMap f).length ≤ l.length * n
  | [], _ => by simp
  | a :: l, h => by
    have h1 := h a List.mem_cons_self
    have h2 := flat_le f n l fun b hb => h b (List.mem_cons_of_mem _ hb)
    simp only [List.flatMap_cons, List.length_append, List.length_cons, Nat.succ_mul]
    omega
theorem m_parts_of_e {s : Sc} (h : s.Ok) : m_parts_of [s.tbl] = .ok (eL ((pairsL (rowsF s.sends)).map fun p => (p, partP p.1 p.2 (s.at p.1) (s.at p.2)))) [] := by
  apply FR.W_eq
  have h6 := h.six
  have hr := h.rlen
  simp [m_parts_of, y_parts_of, m_rows_of_e h.sz h.six, most_eq]
  rw [lcL_all e (rowsF s.sends) (fun r => (r, s.at r))]
  · have hT : ∀ p ∈ (rowsF s.sends).map fun r => (r, s.at r), IsRow p.1 s.sends ∧ p.2 = s.at p.1 := by
      intro p hp
      obtain ⟨r, hr, rfl⟩ := List.mem_map.mp hp
      exact ⟨mem_rows.mp hr, rfl⟩
    have hL : ((rowsF s.sends).map fun r => (r, s.at r)).length ≤ 64 := by simpa using hr
    have hE : (pairsL (rowsF s.sends)).map (fun p => (p, partP p.1 p.2 (s.at p.1) (s.at p.2))) = (pairsL ((rowsF s.sends).map fun r => (r, s.at r))).map fun p => ((p.1.1, p.2.1), partP p.1.1 p.2.1 p.1.2 p.2.2) := by
      rw [pairsL_map, List.map_map]; rfl
    rw [hE]
    generalize (rowsF s.sends).map (fun r => (r, s.at r)) = told at hT hL ⊢
    rw [← pairs_zip (fun (p q : List Nat × List Nat) => ((p.1, q.1), partP p.1 q.1 p.2 q.2)) told]
    simp only [W_okA, List.length_map]
    refine ⟨by omega, ?_⟩
    simp [most_eq]
    refine W_for (e := eI) told.zipIdx (fun pre ρ => ∃ o1 o2 o3, ρ = [some s.tbl, some (eL told), some (eO (pre.flatMap fun p => (told.drop (p.2 + 1)).map fun q => ((p.1.1, q.1), partP p.1.1 q.1 p.1.2 q.2))), o1, o2, o3, none, none, none]) ⟨none, none, none, rfl⟩ ?_ ?_
    · rintro pre ⟨⟨a, c⟩, i⟩ post hl ρ ⟨o1, o2, o3, rfl⟩
      have hpl : pre.length ≤ 64 := by have := congrArg List.length hl; simp at this; omega
      have hfl := flat_le (fun p : (List Nat × List Nat) × Nat => (told.drop (p.2 + 1)).map fun q => ((p.1.1, q.1), partP p.1.1 q.1 p.1.2 q.2)) 64 pre (by intro p _; simp; omega)
      obtain ⟨ha1, ha2⟩ : IsRow a s.sends ∧ c = s.at a := hT (a, c) (by
        have : ((a, c), i) ∈ told.zipIdx := by rw [hl]; simp
        exact List.mem_iff_getElem?.mpr ⟨i, zipIdx_mem this⟩)
      simp [eI, e_pair, dCut_from1, -List.map_drop]
      generalize pre.flatMap (fun p : (List Nat × List Nat) × Nat => (told.drop (p.2 + 1)).map fun q => ((p.1.1, q.1), partP p.1.1 q.1 p.1.2 q.2)) = acc at hfl ⊢
      rw [lcL_all e (told.drop (i + 1)) (fun q => ((a, q.1), partP a q.1 c q.2))]
      · simp only [W_okA, List.length_map]
        refine ⟨by simp [most_eq]; omega, ?_⟩
        simp [-List.map_drop, -List.map_map]
        rw [mExt_e (by simp [most_eq]; omega)]
        simp
      · rintro ⟨b, d⟩ hb
        obtain ⟨hb1, hb2⟩ : IsRow b s.sends ∧ d = s.at b := hT (b, d) (List.mem_of_mem_drop hb)
        have hla := ha1.length
        have hlb := hb1.length
        have hlc := (h.atRow ha1).length
        have hld := (h.atRow hb1).length
        have htl := h.tlen
        simp [e_pair, most_eq, m_part_of_e (show b.length = a.length by omega) (show c.length = a.length by rw [ha2]; omega) (show d.length = a.length by rw [hb2]; omega) (by omega)]
    · rintro ρ ⟨o1, o2, o3, rfl⟩
      simp
  · intro r hr
    simp [m_delivery_of_e h (mem_rows.mp hr), most_eq, e_pair]
theorem dIsN_opt (o : Option Nat) : dIsN (e o) .non = some (.bl o.isNone) := by cases o <;> rfl
theorem m_pairs_left_e {s : Sc} (h : s.Ok) : m_pairs_left [s.tbl] = .ok (eL s.left) [] := by
  apply FR.W_eq
  have hr := h.rlen
  have hp := pairsL_length (rowsF s.sends)
  have hm := mul_le hr hr
  simp [m_pairs_left, y_pairs_left, m_parts_of_e h, most_eq, -List.map_map]
  rw [lcL_fil e _ (fun q : (List Nat × List Nat) × Option Nat => q.2.isNone) (fun q => q.1)]
  · rw [List.filter_map, List.map_map]
    have hE : (pairsL (rowsF s.sends)).filter ((fun q : (List Nat × List Nat) × Option Nat => q.2.isNone) ∘ fun p => (p, partP p.1 p.2 (s.at p.1) (s.at p.2))) = s.left := by
      unfold Sc.left
      apply List.filter_congr
      intro p _
      have := partP_none (a := p.1) (b := p.2) (c := s.at p.1) (d := s.at p.2)
      cases hq : partP p.1 p.2 (s.at p.1) (s.at p.2) with
      | none =>
        have z : s.parts p.1 p.2 = [] := this.mp hq
        simp [Function.comp, hq, z]
      | some i =>
        have z : s.parts p.1 p.2 ≠ [] := fun z => by rw [this.mpr z] at hq; cases hq
        simp [Function.comp, hq, z]
    rw [hE]
    have hl : s.left.length ≤ 64 * 64 := Nat.le_trans (List.length_filter_le _ _) (Nat.le_trans hp hm)
    simp [Function.comp_def, most_eq]
    omega
  · rintro ⟨⟨a, b⟩, o⟩ hb
    simp [e_pair (α := List Nat × List Nat), dIsN_opt]
    cases o <;> simp
theorem left_nil {s : Sc} (h : s.Ok) : s.left = [] ↔ s.Fine := by
  unfold Sc.left Sc.Fine
  rw [List.filter_eq_nil_iff]
  constructor
  · intro q a b ha hb hn
    rcases pairsL_all (mem_rows.mpr ha) (mem_rows.mpr hb) hn with z | z
    · exact (Sc.parted_iff (ha.length.trans hb.length.symm)).mpr (by simpa using q _ z)
    · obtain ⟨i, h1, h2⟩ := (Sc.parted_iff (hb.length.trans ha.length.symm)).mpr (by simpa using q _ z)
      exact ⟨i, h1.symm, h2.symm⟩
  · rintro q ⟨a, b⟩ hp
    have hm := mem_pairsL hp
    have ha := mem_rows.mp hm.1
    have hb := mem_rows.mp hm.2
    simpa using (Sc.parted_iff (ha.length.trans hb.length.symm)).mp (q a b ha hb (pairsL_ne (nodup_rows _) hp))
open Classical in
theorem m_is_fine_table_e {s : Sc} (h : s.Ok) : m_is_fine_table [s.tbl] = .ok (.bl (decide s.Fine)) [] := by
  apply FR.W_eq
  simp [m_is_fine_table, y_is_fine_table, m_pairs_left_e h, most_eq, dEq_nil (α := List Nat × List Nat) (by decide), left_nil h]
theorem kit_table (s : Sc) : kitD csL esL tabL s.tbl (.o "Table") = some true := rfl
theorem m_need_table_e (s : Sc) : m_need_table [s.tbl] = .ok .non [] := by
  apply FR.W_eq
  simp [m_need_table, y_need_table, kit_table]
theorem m_need_fine_table_e {s : Sc} (h : s.Ok) (f : s.Fine) : m_need_fine_table [s.tbl] = .ok .non [] := by
  apply FR.W_eq
  simp [m_need_fine_table, y_need_fine_table, m_need_table_e, m_need_fine, y_need_fine, m_is_fine_table_e h, f]
theorem m_need_fine_table_not {s : Sc} (h : s.Ok) (f : ¬ s.Fine) : m_need_fine_table [s.tbl] = .ex "NotFine" [] := by
  apply FR.W_exeq
  simp [m_need_fine_table, y_need_fine_table, m_need_table_e, m_need_fine, y_need_fine, m_is_fine_table_e h, f]
theorem m_need_ends_e {s : Sc} (h : s.Ok) (f : s.Fine) {a b : D} (ha : a.any = true) (hb : b.any = true) :
    m_need_ends [s.tbl, a, b] = if a.isRow s.sends = true ∧ b.isRow s.sends = true then .ok .non [] else .ex "BadSending" [] := by
  split
  · rename_i hh
    apply FR.W_eq
    simp [m_need_ends, y_need_ends, m_need_fine_table_e h f, m_need_sending_e s h.six ha, m_need_sending_e s h.six hb, hh.1, hh.2, any_sh ha, any_sh hb]
  · rename_i hh
    apply FR.W_exeq
    simp [m_need_ends, y_need_ends, m_need_fine_table_e h f, m_need_sending_e s h.six ha, m_need_sending_e s h.six hb, any_sh ha, any_sh hb]
    by_cases h1 : a.isRow s.sends = true
    · have h2 : ¬ b.isRow s.sends = true := fun z => hh ⟨h1, z⟩
      simp [h1, h2, m_need_sending_e s h.six hb, any_sh hb]
    · simp [h1]
end On

set_option Elab.async false
set_option linter.all false
set_option maxRecDepth 100000
set_option maxHeartbeats 4000000
/-! P4: rules and stories. -/
namespace On
open PySem PySem.Spec L2
open En (e)
/-- rules: for each room a row of what it sends for each note -/
def RulesOk : List (List Nat) → List Nat → List Nat → Prop
  | [], [], [] => True
  | R :: Rs, n :: s, t :: ts => IsRow R (List.replicate t n) ∧ RulesOk Rs s ts
  | _, _, _ => False
def rulesB : List D → List Nat → List Nat → Bool
  | [], [], [] => true
  | d :: l, n :: s, t :: ts => d.isRow (List.replicate t n) && rulesB l s ts
  | _, _, _ => false
def D.areRules (d : D) (s : Sc) : Bool := match d with
  | .tup l => rulesB l s.sends s.takes
  | _ => false
def Sc.rulesOk (s : Sc) (R : List (List Nat)) : Prop := RulesOk R s.sends s.takes
theorem RulesOk.length : ∀ {R : List (List Nat)} {s t : List Nat}, RulesOk R s t → R.length = s.length ∧ R.length = t.length
  | [], [], [], _ => ⟨rfl, rfl⟩
  | _ :: _, _ :: _, _ :: _, h => by have := RulesOk.length h.2; simp [this.1, this.2]; omega
  | [], [], _ :: _, h => h.elim
  | [], _ :: _, [], h => h.elim
  | [], _ :: _, _ :: _, h => h.elim
  | _ :: _, [], [], h => h.elim
  | _ :: _, [], _ :: _, h => h.elim
  | _ :: _, _ :: _, [], h => h.elim
theorem RulesOk.get : ∀ {R : List (List Nat)} {s t : List Nat} {i : Nat} {r : List Nat}, RulesOk R s t → R[i]? = some r → ∃ n m, s[i]? = some n ∧ t[i]? = some m ∧ IsRow r (List.replicate m n)
  | _ :: _, n :: _, t :: _, 0, r, h, hr => by simp at hr; subst hr; exact ⟨n, t, rfl, rfl, h.1⟩
  | _ :: _, _ :: _, _ :: _, i + 1, r, h, hr => by
    obtain ⟨n, m, h1, h2, h3⟩ := RulesOk.get (i := i) h.2 (by simpa using hr)
    exact ⟨n, m, by simpa using h1, by simpa using h2, h3⟩
theorem rulesOk_of : ∀ {R : List (List Nat)} {s t : List Nat}, R.length = s.length → R.length = t.length → (∀ (i : Nat) r n m, R[i]? = some r → s[i]? = some n → t[i]? = some m → IsRow r (List.replicate m n)) → RulesOk R s t
  | [], [], [], _, _, _ => trivial
  | r :: R, n :: s, m :: t, h1, h2, h => ⟨h 0 r n m rfl rfl rfl, rulesOk_of (by simpa using h1) (by simpa using h2) fun i r n m a b c => h (i + 1) r n m (by simpa using a) (by simpa using b) (by simpa using c)⟩
  | [], [], _ :: _, _, h, _ => by simp at h
  | [], _ :: _, _, h, _, _ => by simp at h
  | _ :: _, [], _, h, _, _ => by simp at h
  | _ :: _, _ :: _, [], _, h, _ => by simp at h
theorem rulesB_iff : ∀ {l : List D} {s t : List Nat}, rulesB l s t = true ↔ ∃ R : List (List Nat), l = R.map e ∧ RulesOk R s t
  | [], [], [] => by simp [rulesB]; trivial
  | d :: l, n :: s, m :: t => by
    rw [rulesB, Bool.and_eq_true, rulesB_iff (l := l), isRow_iffD]
    constructor
    · rintro ⟨⟨r, rfl, h1⟩, R, rfl, h2⟩
      exact ⟨r :: R, rfl, h1, h2⟩
    · rintro ⟨R, h1, h2⟩
      cases R with
      | nil => exact h2.elim
      | cons r R =>
        simp at h1
        obtain ⟨rfl, rfl⟩ := h1
        exact ⟨⟨r, rfl, h2.1⟩, R, rfl, h2.2⟩
  | [], [], _ :: _ => by simp [rulesB, RulesOk]
  | [], _ :: _, [] => by simp [rulesB, RulesOk]
  | [], _ :: _, _ :: _ => by simp [rulesB, RulesOk]
  | d :: l, [], [] => by simp [rulesB]; intro R h; cases R <;> simp [RulesOk] at h ⊢
  | d :: l, [], _ :: _ => by simp [rulesB]; intro R h; cases R <;> simp [RulesOk] at h ⊢
  | d :: l, _ :: _, [] => by simp [rulesB]; intro R h; cases R <;> simp [RulesOk] at h ⊢
theorem areRules_iff {d : D} {s : Sc} : d.areRules s = true ↔ ∃ R : List (List Nat), d = e R ∧ s.rulesOk R := by
  unfold D.areRules Sc.rulesOk
  split
  · rename_i l
    rw [rulesB_iff]
    constructor
    · rintro ⟨r, rfl, h⟩; exact ⟨r, rfl, h⟩
    · rintro ⟨r, h, h2⟩; rw [e_list] at h; cases h; exact ⟨r, rfl, h2⟩
  · rename_i h
    simp
    rintro r rfl
    exact (h _ rfl).elim
theorem rulesB_length : ∀ {l : List D} {s t : List Nat}, rulesB l s t = true → l.length = s.length := by
  intro l s t h
  obtain ⟨R, rfl, h'⟩ := rulesB_iff.mp h
  simpa using RulesOk.length h' |>.1
theorem rulesB_idx : ∀ (l : List D) (s t : List Nat) (k : Nat) (S T : List Nat), l.length = s.length → t.length = s.length → S.drop k = s → T.drop k = t → rulesB l s t = (l.zipIdx k).all fun p => p.1.isRow (List.replicate (T.getD p.2 0) (S.getD p.2 0))
  | [], [], [], _, _, _, _, _, _, _ => rfl
  | d :: l, n :: s, m :: t, k, S, T, h1, h2, h3, h4 => by
    have e1 : S.getD k 0 = n := by rw [List.getD_eq_getElem?_getD, ← Nat.add_zero k, ← List.getElem?_drop, h3]; rfl
    have e2 : T.getD k 0 = m := by rw [List.getD_eq_getElem?_getD, ← Nat.add_zero k, ← List.getElem?_drop, h4]; rfl
    have d1 : S.drop (k + 1) = s := by rw [← List.drop_drop, h3]; rfl
    have d2 : T.drop (k + 1) = t := by rw [← List.drop_drop, h4]; rfl
    rw [rulesB, List.zipIdx_cons, List.all_cons, e1, e2, rulesB_idx l s t (k + 1) S T (by simpa using h1) (by simpa using h2) d1 d2]
  | [], [], _ :: _, _, _, _, _, h, _, _ => by simp at h
  | [], _ :: _, _, _, _, _, h, _, _, _ => by simp at h
  | _ :: _, [], _, _, _, _, h, _, _, _ => by simp at h
  | _ :: _, _ :: _, [], _, _, _, _, h, _, _ => by simp at h
theorem dMul_one (x t : Nat) (h1 : 1 ≤ t) (h2 : t ≤ 1000) : dMul (e [x]) (e t) = some (e (List.replicate t x)) := by
  show dMul (.tup [e x]) (.int t) = _
  unfold dMul
  dsimp only
  by_cases h : (t : Int) = 1
  · have : t = 1 := by omega
    subst this
    rfl
  · rw [if_neg h, if_pos ⟨by simp, by omega, by omega, by simp⟩]
    rw [e_list, List.map_replicate]
    congr 2
    simp
theorem getD_of {l : List Nat} {i x : Nat} (h : l[i]? = some x) : l.getD i 0 = x := by rw [List.getD_eq_getElem?_getD, h]; rfl
theorem mem_of {α : Type} {l : List α} {i : Nat} {x : α} (h : l[i]? = some x) : x ∈ l := List.mem_iff_getElem?.mpr ⟨i, h⟩
theorem m_is_rule_of_e {s : Sc} (h : s.Ok) {i : Nat} (hi : i < s.sends.length) {d : D} (hd : d.any = true) : m_is_rule_of [s.tbl, e i, d] = .ok (.bl (d.isRow (List.replicate (s.takes.getD i 0) (s.sends.getD i 0)))) [] := by
  apply FR.W_eq
  obtain ⟨n, hn⟩ := get_some hi
  obtain ⟨m, hm⟩ := get_some (show i < s.takes.length by rw [h.tlen]; exact hi)
  have h1 := h.tpos m (mem_of hm)
  have h2 := h.ttop m (mem_of hm)
  simp [m_is_rule_of, y_is_rule_of, any_sh hd, hn, hm, most_eq, dMul_one n m h1 (by omega)]
  simp [m_is_row_e hd (s := List.replicate m n) (by simp; exact h2)]
def eDI (p : D × Nat) : D := .tup [e p.2, p.1]
theorem fEnum_D (l : List D) : fEnum [.tup l] = some (l.zipIdx.map eDI) := rfl
theorem m_are_rules_of_e {s : Sc} (h : s.Ok) {d : D} (hd : d.any = true) : m_are_rules_of [s.tbl, d] = .ok (.bl (d.areRules s)) [] := by
  apply FR.W_eq
  have h6 := h.six
  simp [m_are_rules_of, y_are_rules_of, kit_tuple hd, any_sh hd]
  cases d with
  | tup l =>
    by_cases hl : l.length = s.sends.length
    · simp [D.isT, hl, fEnum_D]
      rw [lcL_allD eDI l.zipIdx (fun p => .bl (p.1.isRow (List.replicate (s.takes.getD p.2 0) (s.sends.getD p.2 0))))]
      · simp [D.areRules, rulesB_idx l s.sends s.takes 0 s.sends s.takes hl h.tlen rfl rfl, most_eq]
        omega
      · rintro ⟨d, i⟩ hm
        have hi := zipIdx_mem hm
        have hd' := any_mem hd (List.mem_iff_getElem?.mpr ⟨i, hi⟩)
        have hlt : i < s.sends.length := hl ▸ (List.getElem?_eq_some_iff.mp hi).1
        simp [eDI, any_sh hd', m_is_rule_of_e h hlt hd']
    · simp [D.isT, hl]
      cases hr : rulesB l s.sends s.takes with
      | true => exact absurd (rulesB_length hr) hl
      | false => simpa [D.areRules] using hr
  | _ => simp [D.isT, D.areRules]
theorem m_law_are_rules_e {s : Sc} (h : s.Ok) {d : D} (hd : d.any = true) : m_law_are_rules [s.d, d] = .ok (.bl (d.areRules s)) [] := by
  apply FR.W_eq
  have h6 := h.six
  simp [m_law_are_rules, y_law_are_rules, kit_tuple hd, any_sh hd]
  cases d with
  | tup l =>
    by_cases hl : l.length = s.sends.length
    · simp [D.isT, hl, fEnum_D]
      have hE := rulesB_idx l s.sends s.takes 0 s.sends s.takes hl h.tlen rfl rfl
      refine W_for (e := eDI) l.zipIdx (fun pre ρ => (∀ p ∈ pre, p.1.isRow (List.replicate (s.takes.getD p.2 0) (s.sends.getD p.2 0)) = true) ∧ ∃ o1 o2, ρ = [some s.d, some (.tup l), o1, o2]) ⟨by simp, none, none, rfl⟩ ?_ ?_
      · rintro pre ⟨d, i⟩ post hp ρ ⟨hpre, o1, o2, rfl⟩
        have hm : (d, i) ∈ l.zipIdx := by rw [hp]; simp
        have hi := zipIdx_mem hm
        have hd' := any_mem hd (List.mem_iff_getElem?.mpr ⟨i, hi⟩)
        have hlt : i < s.sends.length := hl ▸ (List.getElem?_eq_some_iff.mp hi).1
        obtain ⟨n, hn⟩ := get_some hlt
        obtain ⟨m, hmm⟩ := get_some (show i < s.takes.length by rw [h.tlen]; exact hlt)
        have h1 := h.tpos m (mem_of hmm)
        have h2 := h.ttop m (mem_of hmm)
        simp [eDI, any_sh hd', hn, hmm, most_eq, dMul_one n m h1 (by omega)]
        simp [m_law_is_row_e hd' (s := List.replicate m n) (by simp; exact h2)]
        cases hf : d.isRow (List.replicate m n) with
        | false =>
          left
          refine ⟨rfl, ?_⟩
          simp only [D.areRules]
          rw [hE]
          exact List.all_eq_false.mpr ⟨(d, i), hm, by simp [hn, hmm, hf]⟩
        | true =>
          right
          refine ⟨rfl, fun a b hab => ?_⟩
          rcases hab with hab | ⟨rfl, rfl⟩
          · simpa using hpre _ hab
          · simp [hn, hmm, hf]
      · rintro ρ ⟨hpre, o1, o2, rfl⟩
        simp only [D.areRules, W_yRet, W_xC]
        rw [hE, List.all_eq_true.mpr hpre]
        simp
    · simp [D.isT, hl]
      cases hr : rulesB l s.sends s.takes with
      | true => exact absurd (rulesB_length hr) hl
      | false => simpa [D.areRules] using hr
  | _ => simp [D.isT, D.areRules]
/-- what rules make of a delivery -/
def ansF (R : List (List Nat)) (d : List Nat) : List Nat := (R.zip d).map fun p => p.1.getD p.2 0
def Sc.ans (s : Sc) (R : List (List Nat)) (r : List Nat) : List Nat := ansF R (s.at r)
def Sc.stories (s : Sc) (R : List (List Nat)) : List (List Nat) := (rowsF s.sends).filter fun r => decide (s.ans R r = r)
theorem RulesOk.note {s : Sc} {R : List (List Nat)} (hR : s.rulesOk R) {d : List Nat} (hd : IsRow d s.takes) {p : List Nat × Nat} (hp : p ∈ R.zip d) : ∃ x, p.1[p.2]? = some x := by
  obtain ⟨i, hi⟩ := List.mem_iff_getElem?.mp hp
  rw [List.getElem?_zip_eq_some] at hi
  obtain ⟨n, m, h1, h2, h3⟩ := RulesOk.get hR hi.1
  obtain ⟨k, h4, h5⟩ := hd.lt hi.2
  rw [h2] at h4
  cases h4
  exact get_some (by rw [h3.length]; simpa using h5)
theorem zip_le {α β : Type} (l : List α) (m : List β) : (l.zip m).length ≤ m.length := by rw [List.length_zip]; exact Nat.min_le_right _ _
theorem m_answer_of_e {s : Sc} (h : s.Ok) {R : List (List Nat)} (hR : s.rulesOk R) {r : List Nat} (hr : IsRow r s.sends) : m_answer_of [s.tbl, e R, e r] = .ok (e (s.ans R r)) [] := by
  apply FR.W_eq
  have ha := h.atRow hr
  simp [m_answer_of, y_answer_of, m_delivery_of_e h hr]
  rw [lcL_all e (R.zip (s.at r)) (fun p => p.1.getD p.2 0)]
  · have h1 := zip_le R (s.at r)
    have h2 := ha.length
    have h3 := h.tsix
    simp only [W_okA, List.length_map]
    refine ⟨by simp [most_eq]; omega, ?_⟩
    simp [Sc.ans, ansF]
  · rintro ⟨rule, note⟩ hp
    obtain ⟨x, hx⟩ := RulesOk.note hR ha hp
    simp [e_pair, hx]
theorem m_law_answer_e {s : Sc} (h : s.Ok) {R : List (List Nat)} (hR : s.rulesOk R) {r : List Nat} (hr : IsRow r s.sends) : m_law_answer [s.d, e R, e r] = .ok (e (s.ans R r)) [] := by
  apply FR.W_eq
  have ha := h.atRow hr
  simp [m_law_answer, y_law_answer, notes_at h hr]
  rw [lcL_all e (R.zip (s.at r)) (fun p => p.1.getD p.2 0)]
  · have h1 := zip_le R (s.at r)
    have h2 := ha.length
    have h3 := h.tsix
    simp only [W_okA, List.length_map]
    refine ⟨by simp [most_eq]; omega, ?_⟩
    simp [Sc.ans, ansF]
  · rintro ⟨rule, note⟩ hp
    obtain ⟨x, hx⟩ := RulesOk.note hR ha hp
    simp [e_pair, hx]
theorem m_stories_of_e {s : Sc} (h : s.Ok) {R : List (List Nat)} (hR : s.rulesOk R) : m_stories_of [s.tbl, e R] = .ok (eL (s.stories R)) [] := by
  apply FR.W_eq
  simp [m_stories_of, y_stories_of, m_rows_of_e h.sz h.six]
  rw [lcL_fil e (rowsF s.sends) (fun r => decide (s.ans R r = r)) (fun r => r)]
  · have hr := h.rlen
    simp only [W_okA, List.length_map]
    refine ⟨Nat.le_trans (List.length_filter_le _ _) (by simp [most_eq]; omega), ?_⟩
    simp [Sc.stories]
  · intro r hr
    simp [m_answer_of_e h hR (mem_rows.mp hr)]
    exact (Classical.em _).symm
theorem m_law_stories_e {s : Sc} (h : s.Ok) {R : List (List Nat)} (hR : s.rulesOk R) : m_law_stories [s.d, e R] = .ok (eL (s.stories R)) [] := by
  apply FR.W_eq
  simp [m_law_stories, y_law_stories, m_law_rows_e h.sz h.six]
  rw [lcL_fil e (rowsF s.sends) (fun r => decide (s.ans R r = r)) (fun r => r)]
  · have hr := h.rlen
    simp only [W_okA, List.length_map]
    refine ⟨Nat.le_trans (List.length_filter_le _ _) (by simp [most_eq]; omega), ?_⟩
    simp [Sc.stories]
  · intro r hr
    simp [m_law_answer_e h hR (mem_rows.mp hr)]
    exact (Classical.em _).symm
theorem ans_get {s : Sc} {R : List (List Nat)} {r : List Nat} {i : Nat} {rule : List Nat} {note x : Nat} (h1 : R[i]? = some rule) (h2 : (s.at r)[i]? = some note) (h3 : rule[note]? = some x) : (s.ans R r)[i]? = some x := by
  unfold Sc.ans ansF
  rw [List.getElem?_map, List.getElem?_zip_eq_some.mpr (show R[i]? = some (rule, note).1 ∧ (s.at r)[i]? = some (rule, note).2 from ⟨h1, h2⟩)]
  simp [List.getD_eq_getElem?_getD, h3]
theorem ans_inv {s : Sc} {R : List (List Nat)} {r : List Nat} {i x : Nat} (h : (s.ans R r)[i]? = some x) : ∃ rule note, R[i]? = some rule ∧ (s.at r)[i]? = some note ∧ x = rule.getD note 0 := by
  unfold Sc.ans ansF at h
  rw [List.getElem?_map] at h
  cases hz : (R.zip (s.at r))[i]? with
  | none => rw [hz] at h; cases h
  | some p =>
    rw [hz] at h
    rw [List.getElem?_zip_eq_some] at hz
    exact ⟨p.1, p.2, hz.1, hz.2, by simpa using h.symm⟩
/-- two stories of the same rules are not parted -/
theorem one_story {s : Sc} (f : s.Fine) {R : List (List Nat)} {a b : List Nat} (ha : IsRow a s.sends) (hb : IsRow b s.sends) (h1 : s.ans R a = a) (h2 : s.ans R b = b) : a = b := by
  rcases Classical.em (a = b) with h | h
  · exact h
  exfalso
  obtain ⟨i, n1, n2⟩ := f a b ha hb h
  have hl : a.length = b.length := ha.length.trans hb.length.symm
  rcases Nat.lt_or_ge i a.length with hi | hi
  · obtain ⟨x, hx⟩ := get_some hi
    obtain ⟨y, hy⟩ := get_some (show i < b.length by omega)
    obtain ⟨r1, m1, p1, p2, p3⟩ := ans_inv (by rw [h1]; exact hx)
    obtain ⟨r2, m2, q1, q2, q3⟩ := ans_inv (by rw [h2]; exact hy)
    rw [p1] at q1; cases q1
    rw [p2, q2] at n2; cases n2
    exact n1 (by rw [hx, hy, p3, q3])
  · exact n1 (by rw [List.getElem?_eq_none hi, List.getElem?_eq_none (hl ▸ hi)])
theorem filter_one {α : Type} {p : α → Bool} {a : α} : ∀ {l : List α}, l.Nodup → a ∈ l → p a = true → (∀ b ∈ l, p b = true → b = a) → l.filter p = [a]
  | c :: l, n, m, h, u => by
    have n := List.nodup_cons.mp n
    rcases List.mem_cons.mp m with e1 | m'
    · subst e1
      rw [List.filter_cons, if_pos h]
      congr 1
      rw [List.filter_eq_nil_iff]
      intro b hb z
      exact n.1 (u b (List.mem_cons_of_mem _ hb) z ▸ hb)
    · rw [List.filter_cons, if_neg]
      · exact filter_one n.2 m' h fun b hb => u b (List.mem_cons_of_mem _ hb)
      · intro z
        exact n.1 (u c List.mem_cons_self z ▸ m')
theorem stories_one {s : Sc} (f : s.Fine) {R : List (List Nat)} {a : List Nat} (ha : IsRow a s.sends) (h1 : s.ans R a = a) : s.stories R = [a] :=
  filter_one (nodup_rows _) (mem_rows.mpr ha) (by simp [h1]) fun b hb hp => one_story f (mem_rows.mp hb) ha (by simpa using hp) h1
theorem story_of {s : Sc} {R : List (List Nat)} {a : List Nat} (h : s.stories R = [a]) : IsRow a s.sends ∧ s.ans R a = a := by
  have : a ∈ s.stories R := by rw [h]; simp
  have := List.mem_filter.mp this
  exact ⟨mem_rows.mp this.1, by simpa using this.2⟩
end On

set_option Elab.async false
set_option linter.all false
set_option maxRecDepth 100000
set_option maxHeartbeats 4000000
/-! P5: steps of binding. -/
namespace On
open PySem PySem.Spec L2
open En (e)
/-- the rule of a room that agrees with two sendings -/
def throughF (t : Nat) (h0 h1 t0 t1 : Nat) : List Nat := (List.range t).map fun n => if h0 = n then h1 else if t0 = n then t1 else 0
theorem fzK_all : ∀ {l : List (Key × D)}, (∀ p ∈ l, p.2.fz = p.2) → fzK l = l
  | [], _ => by rw [fzK]
  | (k, d) :: l, h => by rw [fzK, h (k, d) List.mem_cons_self, fzK_all fun p hp => h p (List.mem_cons_of_mem _ hp)]
theorem mem_putD {κ : Type} [DecidableEq κ] {l : List (κ × D)} {k : κ} {v : D} {p : κ × D} (h : p ∈ putD l k v) : p.2 = v ∨ p ∈ l := by
  unfold putD at h
  split at h
  · obtain ⟨q, hq, e⟩ := List.mem_map.mp h
    split at e
    · subst e; exact .inl rfl
    · subst e; exact .inr hq
  · rcases List.mem_append.mp h with h | h
    · exact .inr h
    · simp at h; subst h; exact .inl rfl
theorem m_rule_through_e {t h0 h1 t0 t1 : Nat} (ht : t ≤ 1000) : m_rule_through [e t, e [h0, h1], e [t0, t1]] = .ok (e (throughF t h0 h1 t0 t1)) [] := by
  apply FR.W_eq
  have hf := fRng1_e t (by omega)
  simp [m_rule_through, y_rule_through, mergeD, hf]
  have hz : (D.od (putD (putD [] (kN t0) (e t1)) (kN h0) (e h1))).fz = .dk (putD (putD [] (kN t0) (e t1)) (kN h0) (e h1)) := by
    unfold D.fz
    rw [fzK_all]
    intro p hp
    rcases mem_putD hp with z | hp
    · rw [z]; simp
    · rcases mem_putD hp with z | hp
      · rw [z]; simp
      · cases hp
  rw [hz]
  rw [lcL_all e (List.range t) (fun n => if h0 = n then h1 else if t0 = n then t1 else 0)]
  · simp [throughF, most_eq]
    omega
  · intro n hn
    simp [valD_put, valD_nil]
    by_cases z : h0 = n
    · simp [z]
    · by_cases y : t0 = n
      · simp [z, y]
      · simp [z, y]
theorem throughF_get {t h0 h1 t0 t1 n : Nat} (hn : n < t) : (throughF t h0 h1 t0 t1)[n]? = some (if h0 = n then h1 else if t0 = n then t1 else 0) := by
  unfold throughF
  simp [hn]
theorem isRow_rep {r : List Nat} {t n : Nat} : IsRow r (List.replicate t n) ↔ r.length = t ∧ ∀ x ∈ r, x < n := by
  induction r generalizing t with
  | nil => cases t <;> simp [IsRow, List.replicate_succ]
  | cons x r ih =>
    cases t with
    | zero => simp [IsRow]
    | succ t =>
      rw [List.replicate_succ, IsRow, ih]
      simp
      constructor
      · rintro ⟨h1, h2, h3⟩; exact ⟨h2, h1, h3⟩
      · rintro ⟨h1, h2, h3⟩; exact ⟨h2, h1, h3⟩
/-- a rule of those with the story a that agree with b, too, where no part is -/
def Sc.readyAt (s : Sc) (a b : List Nat) (x i : Nat) : List Nat :=
  if i ∈ s.parts a b then List.replicate (s.takes.getD i 0) x
  else throughF (s.takes.getD i 0) ((s.at a).getD i 0) (a.getD i 0) ((s.at b).getD i 0) (b.getD i 0)
def Sc.ready (s : Sc) (a b : List Nat) : List (List Nat) := a.zipIdx.map fun p => s.readyAt a b p.1 p.2
def Sc.crossed (s : Sc) (R : List (List Nat)) (a b : List Nat) : List (List Nat) := R.zipIdx.map fun p => if p.2 ∈ s.parts a b then List.replicate (s.takes.getD p.2 0) (b.getD p.2 0) else p.1
theorem inV_e (i : Nat) (l : List Nat) : inD (e i) (e l) = some (decide (i ∈ l)) := by
  show (flL (l.map e)).map (fun us => inV (.int i) us) = _
  have : flL (l.map e) = some (l.map fun n : Nat => (V.int (n : Int))) := by
    induction l with
    | nil => rfl
    | cons a l ih => rw [List.map_cons, flL, ih]; rfl
  rw [this]
  simp only [Option.map_some, Option.some.injEq]
  clear this
  induction l with
  | nil => rfl
  | cons a l ih =>
    have : inV (.int (i : Int)) ((a :: l).map fun n : Nat => (V.int (n : Int))) = (eqV (.int (a : Int)) (.int (i : Int)) || inV (.int (i : Int)) (l.map fun n : Nat => (V.int (n : Int)))) := rfl
    rw [this, ih]
    have h2 : eqV (.int (a : Int)) (.int (i : Int)) = decide (i = a) := by
      simp [eqV]
      by_cases h : (a : Int) = i
      · have : i = a := by omega
        simp [this]
      · have : ¬ i = a := by omega
        simp [h, this]
    rw [h2]
    by_cases h : i = a <;> simp [h]
@[simp] theorem dIn_e (i : Nat) (l : List Nat) : dIn (e i) (e l) = some (.bl (decide (i ∈ l))) := by unfold dIn; rw [inV_e]; rfl
@[simp] theorem dIn_eL (i : Nat) (l : List Nat) : dIn (e i) (eL l) = some (.bl (decide (i ∈ l))) := by unfold dIn; rw [show inD (e i) (eL l) = inD (e i) (e l) from rfl, inV_e]; rfl
@[simp] theorem dNotIn_e (i : Nat) (l : List Nat) : dNotIn (e i) (e l) = some (.bl (!decide (i ∈ l))) := by unfold dNotIn; rw [inV_e]; rfl
@[simp] theorem dNotIn_eL (i : Nat) (l : List Nat) : dNotIn (e i) (eL l) = some (.bl (!decide (i ∈ l))) := by unfold dNotIn; rw [show inD (e i) (eL l) = inD (e i) (e l) from rfl, inV_e]; rfl
theorem m_rule_for_e {s : Sc} (h : s.Ok) {a b : List Nat} (ha : IsRow a s.sends) (hb : IsRow b s.sends) {i : Nat} (hi : i < s.sends.length) :
    m_rule_for [s.tbl, e i, e a, e b] = .ok (e (throughF (s.takes.getD i 0) ((s.at a).getD i 0) (a.getD i 0) ((s.at b).getD i 0) (b.getD i 0))) [] := by
  apply FR.W_eq
  obtain ⟨x, hx⟩ := ha.get hi
  obtain ⟨y, hy⟩ := hb.get hi
  obtain ⟨z, hz⟩ := (h.atRow ha).get (show i < s.takes.length by rw [h.tlen]; exact hi)
  obtain ⟨u, hu⟩ := (h.atRow hb).get (show i < s.takes.length by rw [h.tlen]; exact hi)
  obtain ⟨t, ht⟩ := get_some (show i < s.takes.length by rw [h.tlen]; exact hi)
  have h2 := h.ttop t (mem_of ht)
  simp [m_rule_for, y_rule_for, m_delivery_of_e h ha, m_delivery_of_e h hb, hx, hy, hz, hu, ht, most_eq]
  have e2 : ∀ p q : Nat, D.tup [e p, e q] = e [p, q] := fun _ _ => rfl
  simp [e2, m_rule_through_e (show t ≤ 1000 by omega)]
theorem m_ready_rules_e {s : Sc} (h : s.Ok) {a b : List Nat} (ha : IsRow a s.sends) (hb : IsRow b s.sends) : m_ready_rules [s.tbl, e a, e b] = .ok (e (s.ready a b)) [] := by
  apply FR.W_eq
  have hl := ha.length
  have h6 := h.six
  simp [m_ready_rules, y_ready_rules, m_parting_of_e h ha hb, most_eq]
  refine W_for (e := eI) a.zipIdx (fun pre ρ => ∃ o1 o2, ρ = [some s.tbl, some (e a), some (e b), some (e (s.parts a b)), some (eO (pre.map fun p => s.readyAt a b p.1 p.2)), o1, o2]) ⟨none, none, rfl⟩ ?_ ?_
  · rintro pre ⟨x, i⟩ post hp ρ ⟨o1, o2, rfl⟩
    have hi := zipIdx_mem (show (x, i) ∈ a.zipIdx by rw [hp]; simp)
    have hlt : i < s.sends.length := hl ▸ (List.getElem?_eq_some_iff.mp hi).1
    obtain ⟨t, ht⟩ := get_some (show i < s.takes.length by rw [h.tlen]; exact hlt)
    have h1 := h.tpos t (mem_of ht)
    have h2 := h.ttop t (mem_of ht)
    have hpl : pre.length ≤ 6 := by have := congrArg List.length hp; simp at this; omega
    simp [eI, most_eq, ht, m_rule_for_e h ha hb hlt, dMul_one x t h1 (by omega)]
    by_cases hm : i ∈ s.parts a b
    · simp [hm]
      rw [mApp_e _ (by simp [most_eq]; omega)]
      simp [Sc.readyAt, hm, ht]
    · simp [hm]
      rw [mApp_e _ (by simp [most_eq]; omega)]
      simp [Sc.readyAt, hm, ht]
  · rintro ρ ⟨o1, o2, rfl⟩
    simp [Sc.ready]
theorem m_crossed_rules_e {s : Sc} (h : s.Ok) {a b : List Nat} (ha : IsRow a s.sends) (hb : IsRow b s.sends) {R : List (List Nat)} (hR : R.length = s.sends.length) : m_crossed_rules [s.tbl, e R, e a, e b] = .ok (e (s.crossed R a b)) [] := by
  apply FR.W_eq
  have h6 := h.six
  simp [m_crossed_rules, y_crossed_rules, m_parting_of_e h ha hb, most_eq]
  rw [lcL_all eI R.zipIdx (fun p => if p.2 ∈ s.parts a b then List.replicate (s.takes.getD p.2 0) (b.getD p.2 0) else p.1)]
  · simp only [W_okA, List.length_map]
    refine ⟨by simp [hR]; omega, ?_⟩
    simp [Sc.crossed]
  · rintro ⟨r, i⟩ hp
    have hi := zipIdx_mem hp
    have hlt : i < s.sends.length := hR ▸ (List.getElem?_eq_some_iff.mp hi).1
    obtain ⟨t, ht⟩ := get_some (show i < s.takes.length by rw [h.tlen]; exact hlt)
    obtain ⟨y, hy⟩ := hb.get hlt
    have h1 := h.tpos t (mem_of ht)
    have h2 := h.ttop t (mem_of ht)
    simp [eI, most_eq, ht, hy, dMul_one y t h1 (by omega)]
    by_cases hm : i ∈ s.parts a b <;> simp [hm]
theorem zipMap_get {α β : Type} (f : α × Nat → β) (l : List α) (i : Nat) : (l.zipIdx.map f)[i]? = (l[i]?).map fun a => f (a, i) := by
  rw [List.getElem?_map, List.getElem?_zipIdx]
  cases l[i]? <;> simp
theorem ready_get {s : Sc} {a b : List Nat} {i : Nat} : (s.ready a b)[i]? = (a[i]?).map fun x => s.readyAt a b x i := zipMap_get _ a i
theorem crossed_get {s : Sc} {R : List (List Nat)} {a b : List Nat} {i : Nat} : (s.crossed R a b)[i]? = (R[i]?).map fun r => if i ∈ s.parts a b then List.replicate (s.takes.getD i 0) (b.getD i 0) else r := zipMap_get _ R i
theorem getD_eq {l : List Nat} {i x : Nat} (h : l[i]? = some x) : l.getD i 0 = x := getD_of h
theorem ready_ok {s : Sc} (h : s.Ok) {a b : List Nat} (ha : IsRow a s.sends) (hb : IsRow b s.sends) : s.rulesOk (s.ready a b) := by
  have hl := ha.length
  refine rulesOk_of (by simp [Sc.ready, hl]) (by simp [Sc.ready, hl, h.tlen]) fun i r n m hr hn hm => ?_
  rw [ready_get] at hr
  obtain ⟨x, hx, rfl⟩ := Option.map_eq_some_iff.mp hr
  obtain ⟨n', h1, h2⟩ := ha.lt hx
  rw [hn] at h1; cases h1
  obtain ⟨y, hy⟩ := hb.get (List.getElem?_eq_some_iff.mp hn).1
  obtain ⟨n', h1, h3⟩ := hb.lt hy
  rw [hn] at h1; cases h1
  rw [isRow_rep]
  unfold Sc.readyAt
  rw [getD_eq hm, getD_eq hx, getD_eq hy]
  split
  · exact ⟨by simp, fun z hz => by rw [(List.mem_replicate.mp hz).2]; exact h2⟩
  · refine ⟨by simp [throughF], fun z hz => ?_⟩
    unfold throughF at hz
    obtain ⟨q, _, rfl⟩ := List.mem_map.mp hz
    split
    · exact h2
    · split
      · exact h3
      · omega
theorem crossed_ok {s : Sc} (h : s.Ok) {R : List (List Nat)} (hR : s.rulesOk R) {a b : List Nat} (hb : IsRow b s.sends) : s.rulesOk (s.crossed R a b) := by
  have hl := RulesOk.length hR
  refine rulesOk_of (by simp [Sc.crossed, hl.1]) (by simp [Sc.crossed, hl.2]) fun i r n m hr hn hm => ?_
  rw [crossed_get] at hr
  obtain ⟨x, hx, rfl⟩ := Option.map_eq_some_iff.mp hr
  obtain ⟨y, hy⟩ := hb.get (List.getElem?_eq_some_iff.mp hn).1
  obtain ⟨n', h1, h3⟩ := hb.lt hy
  rw [hn] at h1; cases h1
  obtain ⟨n', m', h4, h5, h6⟩ := RulesOk.get hR hx
  rw [hn] at h4; cases h4
  rw [hm] at h5; cases h5
  rw [getD_eq hm, getD_eq hy]
  split
  · exact isRow_rep.mpr ⟨by simp, fun z hz => by rw [(List.mem_replicate.mp hz).2]; exact h3⟩
  · exact h6
theorem list_eq {α : Type} {l m : List α} (hl : l.length = m.length) (h : ∀ (i : Nat) x, m[i]? = some x → l[i]? = some x) : l = m := by
  refine List.ext_getElem? fun i => ?_
  cases hm : m[i]? with
  | none =>
    rw [List.getElem?_eq_none_iff] at hm ⊢
    omega
  | some x => exact h i x hm
theorem ans_length {s : Sc} (h : s.Ok) {R : List (List Nat)} (hR : s.rulesOk R) {a : List Nat} (ha : IsRow a s.sends) : (s.ans R a).length = a.length := by
  have h1 := (RulesOk.length hR).2
  have h2 := (h.atRow ha).length
  have h3 := ha.length
  have h4 := h.tlen
  simp [Sc.ans, ansF]
  omega
/-- rules have a story where each rule says so -/
theorem ans_of {s : Sc} (h : s.Ok) {R : List (List Nat)} (hR : s.rulesOk R) {a : List Nat} (ha : IsRow a s.sends) (hs : ∀ (i : Nat) (r : List Nat) x z, R[i]? = some r → a[i]? = some x → (s.at a)[i]? = some z → r[z]? = some x) : s.ans R a = a := by
  refine list_eq (ans_length h hR ha) fun i x hx => ?_
  have hi : i < s.sends.length := ha.length ▸ (List.getElem?_eq_some_iff.mp hx).1
  obtain ⟨r, hr⟩ := get_some (show i < R.length by rw [(RulesOk.length hR).1]; exact hi)
  obtain ⟨z, hz⟩ := (h.atRow ha).get (show i < s.takes.length by rw [h.tlen]; exact hi)
  exact ans_get hr hz (hs i r x z hr hx hz)
theorem ans_at {s : Sc} (h : s.Ok) {R : List (List Nat)} (hR : s.rulesOk R) {a : List Nat} (ha : IsRow a s.sends) (hs : s.ans R a = a) {i : Nat} {r : List Nat} {x z : Nat} (hr : R[i]? = some r) (hx : a[i]? = some x) (hz : (s.at a)[i]? = some z) : r[z]? = some x := by
  obtain ⟨n, m, h1, h2, h3⟩ := RulesOk.get hR hr
  obtain ⟨m', h4, h5⟩ := (h.atRow ha).lt hz
  rw [h2] at h4; cases h4
  obtain ⟨y, hy⟩ := get_some (show z < r.length by rw [h3.length]; simpa using h5)
  have := ans_get hr hz hy
  rw [hs, hx] at this
  rw [hy]; exact this.symm
theorem ready_story {s : Sc} (h : s.Ok) {a b : List Nat} (ha : IsRow a s.sends) (hb : IsRow b s.sends) : s.ans (s.ready a b) a = a := by
  refine ans_of h (ready_ok h ha hb) ha fun i r x z hr hx hz => ?_
  rw [ready_get, hx] at hr
  cases hr
  obtain ⟨m, h1, h2⟩ := (h.atRow ha).lt hz
  unfold Sc.readyAt
  rw [getD_eq h1, getD_eq hx, getD_eq hz]
  split
  · simp [h2]
  · rw [throughF_get h2]; simp
theorem crossed_story {s : Sc} (h : s.Ok) {a b : List Nat} (ha : IsRow a s.sends) (hb : IsRow b s.sends) : s.ans (s.crossed (s.ready a b) a b) b = b := by
  refine ans_of h (crossed_ok h (ready_ok h ha hb) hb) hb fun i r y u hr hy hu => ?_
  have hi : i < s.sends.length := hb.length ▸ (List.getElem?_eq_some_iff.mp hy).1
  obtain ⟨x, hx⟩ := ha.get hi
  obtain ⟨z, hz⟩ := (h.atRow ha).get (show i < s.takes.length by rw [h.tlen]; exact hi)
  obtain ⟨m, h1, h2⟩ := (h.atRow hb).lt hu
  rw [crossed_get, ready_get, hx] at hr
  cases hr
  rw [getD_eq h1, getD_eq hy]
  by_cases hm : i ∈ s.parts a b
  · simp [hm, h2]
  · simp only [hm, if_false, Sc.readyAt]
    rw [getD_eq h1, getD_eq hx, getD_eq hy, getD_eq hz, getD_eq hu, throughF_get h2]
    by_cases hzu : z = u
    · subst hzu
      have : x = y := by
        rcases Classical.em (x = y) with q | q
        · exact q
        · exact absurd (mem_parts.mpr ⟨by rw [ha.length]; exact hi, by rw [hx, hy]; simpa using q, by rw [hz, hu]⟩) hm
      simp [this]
    · simp [hzu]
/-- what a step of binding is -/
def Sc.step (s : Sc) (a b : List Nat) (d : D) : Prop := ∃ R T : List (List Nat), d = .tup [e R, e T] ∧ s.rulesOk R ∧ s.rulesOk T ∧ s.stories R = [a] ∧ s.stories T = [b] ∧ ∀ i, R[i]? ≠ T[i]? → i ∈ s.parts a b
theorem ready_step {s : Sc} (h : s.Ok) (f : s.Fine) {a b : List Nat} (ha : IsRow a s.sends) (hb : IsRow b s.sends) : s.step a b (.tup [e (s.ready a b), e (s.crossed (s.ready a b) a b)]) := by
  refine ⟨_, _, rfl, ready_ok h ha hb, crossed_ok h (ready_ok h ha hb) hb, stories_one f ha (ready_story h ha hb), stories_one f hb (crossed_story h ha hb), fun i hi => ?_⟩
  rcases Classical.em (i ∈ s.parts a b) with q | q
  · exact q
  · exfalso
    apply hi
    rw [crossed_get]
    simp [q]
/-- rules with two such stories are unlike in all rooms that part them -/
theorem unlike_parts {s : Sc} (h : s.Ok) {R T : List (List Nat)} (hR : s.rulesOk R) (hT : s.rulesOk T) {a b : List Nat} (ha : IsRow a s.sends) (hb : IsRow b s.sends) (h1 : s.ans R a = a) (h2 : s.ans T b = b) {i : Nat} (hi : i ∈ s.parts a b) : R[i]? ≠ T[i]? := by
  obtain ⟨p1, p2, p3⟩ := mem_parts.mp hi
  have hlt : i < s.sends.length := ha.length ▸ p1
  obtain ⟨x, hx⟩ := ha.get hlt
  obtain ⟨y, hy⟩ := hb.get hlt
  obtain ⟨z, hz⟩ := (h.atRow ha).get (show i < s.takes.length by rw [h.tlen]; exact hlt)
  obtain ⟨r, hr⟩ := get_some (show i < R.length by rw [(RulesOk.length hR).1]; exact hlt)
  obtain ⟨t, ht⟩ := get_some (show i < T.length by rw [(RulesOk.length hT).1]; exact hlt)
  intro q
  rw [hr, ht] at q
  cases q
  have q1 := ans_at h hR ha h1 hr hx hz
  have q2 := ans_at h hT hb h2 ht hy (by rw [← p3]; exact hz)
  rw [q1] at q2
  exact p2 (by rw [hx, hy]; exact q2)
end On

set_option Elab.async false
set_option linter.all false
set_option maxRecDepth 100000
set_option maxHeartbeats 4000000
/-! P6: what is a step of binding. -/
namespace On
open PySem PySem.Spec L2
open En (e)
/-- the rooms with unlike rules -/
def unlikeF (R T : List (List Nat)) : List Nat := (List.range R.length).filter fun i => decide (R[i]? ≠ T[i]?)
theorem mem_unlike {R T : List (List Nat)} (hl : R.length = T.length) {i : Nat} : i ∈ unlikeF R T ↔ R[i]? ≠ T[i]? := by
  simp [unlikeF]
  intro h
  rcases Nat.lt_or_ge i R.length with q | q
  · exact q
  · exact absurd (by rw [List.getElem?_eq_none q, List.getElem?_eq_none (hl ▸ q)]) h
theorem zipIdx_range {α β : Type} (p : α × Nat → Bool) (f : Nat → β) (l : List α) (q : Nat → Bool) (h : ∀ (i : Nat) a, l[i]? = some a → p (a, i) = q i) : (l.zipIdx.filter p).map (fun x => f x.2) = ((List.range l.length).filter q).map f := by
  have go : ∀ (l : List α) (k : Nat), (∀ (i : Nat) a, l[i]? = some a → p (a, k + i) = q (k + i)) → ((l.zipIdx k).filter p).map (fun x => f x.2) = ((List.range' k l.length).filter q).map f := by
    intro l
    induction l with
    | nil => intro k h; rfl
    | cons a l ih =>
      intro k h
      have h0 := h 0 a rfl
      simp only [Nat.add_zero] at h0
      have hs := ih (k + 1) fun i b hb => by have := h (i + 1) b (by simpa using hb); rwa [Nat.add_assoc, Nat.add_comm 1 i]
      rw [List.zipIdx_cons, List.length_cons, List.range'_succ, List.filter_cons, List.filter_cons, h0]
      cases q k <;> simp [hs]
  have := go l 0 (by simpa using h)
  simpa [List.range_eq_range'] using this
theorem m_law_unlike_spots_e {R T : List (List Nat)} (hl : R.length = T.length) (h6 : R.length ≤ 64) : m_law_unlike_spots [e R, e T] = .ok (eL (unlikeF R T)) [] := by
  apply FR.W_eq
  simp [m_law_unlike_spots, y_law_unlike_spots]
  rw [lcL_fil eI R.zipIdx (fun p => decide (R[p.2]? ≠ T[p.2]?)) (fun p => p.2)]
  · simp only [W_okA, List.length_map]
    refine ⟨Nat.le_trans (List.length_filter_le _ _) (by simp [most_eq]; omega), ?_⟩
    simp
    have := zipIdx_range (fun p : List Nat × Nat => decide (R[p.2]? ≠ T[p.2]?)) id R (fun i => decide (R[i]? ≠ T[i]?)) (fun _ _ _ => rfl)
    simp at this
    rw [this]
    simp [unlikeF]
  · rintro ⟨r, i⟩ hp
    have hi := zipIdx_mem hp
    obtain ⟨t, ht⟩ := get_some (show i < T.length by rw [← hl]; exact (List.getElem?_eq_some_iff.mp hi).1)
    simp [eI, hi, ht]
    by_cases q : r = t <;> simp [q]
theorem gxTup2E {α β : Type} [En α] [En β] {p : (α × β) × Nat} {g1 g2 : Gx} {ρ ρ' : Rho} : gxTup 2 (glCons g1 (glCons g2 glNil)) (eEZ p) ρ = some ρ' ↔ ∃ ρ1, g1 (e p.2) ρ = some ρ1 ∧ g2 (.tup [e p.1.1, e p.1.2]) ρ1 = some ρ' := gxTup2
theorem m_unlike_rooms_e {R T : List (List Nat)} (hl : R.length = T.length) (h6 : R.length ≤ 64) : m_unlike_rooms [e R, e T] = .ok (eL (unlikeF R T)) [] := by
  apply FR.W_eq
  simp [m_unlike_rooms, y_unlike_rooms]
  rw [lcL_fil eEZ (R.zip T).zipIdx (fun p => decide (p.1.1 ≠ p.1.2)) (fun p => p.2)]
  · simp only [W_okA, List.length_map]
    refine ⟨Nat.le_trans (List.length_filter_le _ _) (by simp [most_eq]; omega), ?_⟩
    simp
    have := zipIdx_range (fun p : (List Nat × List Nat) × Nat => decide (p.1.1 ≠ p.1.2)) id (R.zip T) (fun i => decide (R[i]? ≠ T[i]?)) (fun i a h => by
      rw [List.getElem?_zip_eq_some] at h
      simp [h.1, h.2])
    simp at this
    rw [this]
    simp [unlikeF, hl]
  · rintro ⟨⟨r, t⟩, i⟩ hp
    simp [gxTup2E]
    by_cases q : r = t <;> simp [q]
theorem e_inj {α : Type} [EnE α] {a b : α} (h : (e a : D) = e b) : a = b := by
  have h1 := EnE.pyOk a
  rw [h, EnE.pyOk] at h1
  injection h1 with h1
  have h2 := (EnE.same b b).mpr rfl
  rw [← (EnE.same a b), ← h1]
  exact h2
theorem step_pair {s : Sc} {a b : List Nat} {R T : List (List Nat)} : s.step a b (.tup [e R, e T]) ↔ s.rulesOk R ∧ s.rulesOk T ∧ s.stories R = [a] ∧ s.stories T = [b] ∧ ∀ i, R[i]? ≠ T[i]? → i ∈ s.parts a b := by
  constructor
  · rintro ⟨R', T', h, q⟩
    simp at h
    rw [e_inj h.1, e_inj h.2]
    exact q
  · intro h; exact ⟨R, T, rfl, h⟩
theorem step_tup {s : Sc} {a b : List Nat} {d : D} (h : s.step a b d) : ∃ x y, d = .tup [x, y] ∧ x.areRules s = true ∧ y.areRules s = true := by
  obtain ⟨R, T, rfl, hR, hT, _⟩ := h
  exact ⟨_, _, rfl, areRules_iff.mpr ⟨R, rfl, hR⟩, areRules_iff.mpr ⟨T, rfl, hT⟩⟩
theorem dIx0 (x : D) (l : List D) : dIx (.tup (x :: l)) (e 0) = some x := by
  show atI (x :: l) ((0 : Nat) : Int) = _
  rw [atI_nat]; rfl
theorem dIx1 (x y : D) (l : List D) : dIx (.tup (x :: y :: l)) (e 1) = some y := by
  show atI (x :: y :: l) ((1 : Nat) : Int) = _
  rw [atI_nat]; rfl
theorem dAll2 (p q : Bool) : dAll [.lst [.bl p, .bl q]] = some (.bl (p && q)) := by simp [dAll, blsL]
theorem step_iff {s : Sc} {a b : List Nat} {R T : List (List Nat)} (hR : s.rulesOk R) (hT : s.rulesOk T) (hl : R.length = T.length) (hs1 : s.stories R = [a]) (hs2 : s.stories T = [b]) : (∀ i, i ∈ unlikeF R T → i ∈ s.parts a b) ↔ s.step a b (.tup [e R, e T]) := by
  rw [step_pair]
  constructor
  · intro q
    exact ⟨hR, hT, hs1, hs2, fun i hi => q i ((mem_unlike hl).mpr hi)⟩
  · rintro ⟨_, _, _, _, q⟩ i hi
    exact q i ((mem_unlike hl).mp hi)
open Classical in
theorem m_law_is_step_e {s : Sc} (h : s.Ok) {a b : List Nat} (ha : IsRow a s.sends) (hb : IsRow b s.sends) {d : D} (hd : d.any = true) : m_law_is_step [s.d, e a, e b, d] = .ok (.bl (decide (s.step a b d))) [] := by
  apply FR.W_eq
  have h6 := h.six
  simp [m_law_is_step, y_law_is_step, kit_tuple hd, any_sh hd]
  rcases Classical.em (∃ x y, d = .tup [x, y]) with hq | hq
  · obtain ⟨x, y, rfl⟩ := hq
    have hx := any_mem hd (show x ∈ [x, y] by simp)
    have hy := any_mem hd (show y ∈ [x, y] by simp)
    simp [D.isT, dIx0, dIx1, any_sh hx, any_sh hy, m_law_are_rules_e h hx, m_law_are_rules_e h hy]
    cases hX : x.areRules s with
    | false =>
      have : ¬ s.step a b (.tup [x, y]) := fun z => by
        obtain ⟨x', y', e1, e2, e3⟩ := step_tup z
        simp at e1
        rw [e1.1, e2] at hX; cases hX
      simp [this]
    | true =>
      cases hY : y.areRules s with
      | false =>
        have : ¬ s.step a b (.tup [x, y]) := fun z => by
          obtain ⟨x', y', e1, e2, e3⟩ := step_tup z
          simp at e1
          rw [e1.2, e3] at hY; cases hY
        simp [this]
      | true =>
        obtain ⟨R, rfl, hR⟩ := areRules_iff.mp hX
        obtain ⟨T, rfl, hT⟩ := areRules_iff.mp hY
        have hl : R.length = T.length := (RulesOk.length hR).1.trans (RulesOk.length hT).1.symm
        have hRl := (RulesOk.length hR).1
        simp [m_law_stories_e h hR, m_law_stories_e h hT, most_eq, m_law_parts_e h ha hb, m_law_unlike_spots_e hl (by omega), dIx0, dIx1]
        by_cases hs1 : s.stories R = [a]
        · by_cases hs2 : s.stories T = [b]
          · simp [hs1, hs2]
            rw [lcL_fil e (unlikeF R T) (fun i => !decide (i ∈ s.parts a b)) (fun i => i)]
            · have hlen : (unlikeF R T).length ≤ 6 := Nat.le_trans (List.length_filter_le _ _) (by simp; omega)
              simp only [W_okA, List.length_map]
              refine ⟨Nat.le_trans (List.length_filter_le _ _) (by omega), ?_⟩
              simp [dEq_nil (α := Nat) (by decide)]
              exact step_iff hR hT hl hs1 hs2
            · intro i hi
              simp
              exact Classical.em _
          · have : ¬ s.step a b (.tup [e R, e T]) := fun z => hs2 (step_pair.mp z).2.2.2.1
            simp [hs1, hs2, this]
        · have : ¬ s.step a b (.tup [e R, e T]) := fun z => hs1 (step_pair.mp z).2.2.1
          simp [hs1, this]
  · have hn : ¬ s.step a b d := fun z => by
      obtain ⟨x, y, e1, _⟩ := step_tup z
      exact hq ⟨x, y, e1⟩
    cases d with
    | tup l =>
      have hl : ¬ l.length = 2 := fun z => by
        match l, z with
        | [x, y], _ => exact hq ⟨x, y, rfl⟩
      simp [D.isT, hl, hn]
    | _ => simp [D.isT, hn]
open Classical in
theorem m_is_binding_step_e {s : Sc} (h : s.Ok) (f : s.Fine) {a b : List Nat} (ha : IsRow a s.sends) (hb : IsRow b s.sends) {d : D} (hd : d.any = true) : m_is_binding_step [s.tbl, e a, e b, d] = .ok (.bl (decide (s.step a b d))) [] := by
  apply FR.W_eq
  have h6 := h.six
  simp [m_is_binding_step, y_is_binding_step, kit_tuple hd, any_sh hd, m_need_ends_e h f (e_any a) (e_any b), ha, hb]
  rcases Classical.em (∃ x y, d = .tup [x, y]) with hq | hq
  · obtain ⟨x, y, rfl⟩ := hq
    have hx := any_mem hd (show x ∈ [x, y] by simp)
    have hy := any_mem hd (show y ∈ [x, y] by simp)
    have hit : (D.tup [x, y]).items = some ([x, y].map id) := rfl
    simp only [hit]
    simp [D.isT]
    rw [show [x, y] = [x, y].map id from rfl, lcL_allD id [x, y] (fun d => .bl (d.areRules s))]
    · simp only [W_okA, List.length_map]
      refine ⟨by simp [most_eq], ?_⟩
      simp
      cases hX : x.areRules s with
      | false =>
        have : ¬ s.step a b (.tup [x, y]) := fun z => by
          obtain ⟨x', y', e1, e2, e3⟩ := step_tup z
          simp at e1
          rw [e1.1, e2] at hX; cases hX
        simp [dAll2, this]
      | true =>
        cases hY : y.areRules s with
        | false =>
          have : ¬ s.step a b (.tup [x, y]) := fun z => by
            obtain ⟨x', y', e1, e2, e3⟩ := step_tup z
            simp at e1
            rw [e1.2, e3] at hY; cases hY
          simp [dAll2, this]
        | true =>
          obtain ⟨R, rfl, hR⟩ := areRules_iff.mp hX
          obtain ⟨T, rfl, hT⟩ := areRules_iff.mp hY
          have hl : R.length = T.length := (RulesOk.length hR).1.trans (RulesOk.length hT).1.symm
          have hRl := (RulesOk.length hR).1
          simp [dAll2, dIx0, dIx1, m_stories_of_e h hR, m_stories_of_e h hT, most_eq, m_parting_of_e h ha hb, m_unlike_rooms_e hl (by omega)]
          by_cases hs1 : s.stories R = [a]
          · by_cases hs2 : s.stories T = [b]
            · simp [hs1, hs2]
              rw [lcL_allD e (unlikeF R T) (fun i => .bl (decide (i ∈ s.parts a b)))]
              · have hlen : (unlikeF R T).length ≤ 6 := Nat.le_trans (List.length_filter_le _ _) (by simp; omega)
                simp only [W_okA, List.length_map]
                refine ⟨by omega, ?_⟩
                simp
                rw [Bool.eq_iff_iff, List.all_eq_true, decide_eq_true_iff, ← step_iff hR hT hl hs1 hs2]
                simp
              · intro i hi
                simp
            · have : ¬ s.step a b (.tup [e R, e T]) := fun z => hs2 (step_pair.mp z).2.2.2.1
              simp [hs1, hs2, this]
          · have : ¬ s.step a b (.tup [e R, e T]) := fun z => hs1 (step_pair.mp z).2.2.1
            simp [hs1, this]
    · intro d hm
      have hd' := any_mem hd hm
      simp [any_sh hd', m_are_rules_of_e h hd']
  · have hn : ¬ s.step a b d := fun z => by
      obtain ⟨x, y, e1, _⟩ := step_tup z
      exact hq ⟨x, y, e1⟩
    cases d with
    | tup l =>
      have hl : ¬ l.length = 2 := fun z => by
        match l, z with
        | [x, y], _ => exact hq ⟨x, y, rfl⟩
      simp [D.isT, hl, hn]
    | _ => simp [D.isT, hn]
end On

set_option Elab.async false
set_option linter.all false
set_option maxRecDepth 100000
set_option maxHeartbeats 4000000
/-! P7: what the law draws. -/
namespace On
open PySem PySem.Spec L2
open En (e)
/-- the state of the drawing -/
def stD (ls cs : List Nat) (L T : Nat) : D := .od [(.inr "large", eO ls), (.inr "cells", eL cs), (.inr "left", e L), (.inr "turn", e T)]
/-- a state behind at most t draws -/
def StOk (t : Nat) (d : D) : Prop := ∃ ls cs L T, d = stD ls cs L T ∧ ls.length ≤ 63 ∧ cs.length ≤ 63 ∧ T ≤ t
theorem StOk.le {t t' : Nat} {d : D} (h : StOk t d) (hl : t ≤ t') : StOk t' d := by
  obtain ⟨ls, cs, L, T, h1, h2, h3, h4⟩ := h
  exact ⟨ls, cs, L, T, h1, h2, h3, Nat.le_trans h4 hl⟩
section
variable {ls cs : List Nat} {L T n : Nat}
@[simp] theorem st_large : (stD ls cs L T).at_ [.k (.inr "large")] = some (eO ls) := rfl
@[simp] theorem st_cells : (stD ls cs L T).at_ [.k (.inr "cells")] = some (eL cs) := rfl
@[simp] theorem st_left : (stD ls cs L T).at_ [.k (.inr "left")] = some (e L) := rfl
@[simp] theorem st_turn : (stD ls cs L T).at_ [.k (.inr "turn")] = some (e T) := rfl
@[simp] theorem at_nil (d : D) : d.at_ [] = some d := rfl
@[simp] theorem setAt_nil (d x : D) : d.setAt [] x = x := rfl
@[simp] theorem st_setLarge (ls' : List Nat) : (stD ls cs L T).setAt [.k (.inr "large")] (eO ls') = stD ls' cs L T := rfl
@[simp] theorem st_putLeft (k : Nat) : dPut (stD ls cs L T) (.str "left") (e k) = some (stD ls cs k T) := rfl
@[simp] theorem st_putTurn (k : Nat) : dPut (stD ls cs L T) (.str "turn") (e k) = some (stD ls cs L k) := rfl
end
theorem shL_iff {l : List D} : shL l = true ↔ ∀ d ∈ l, d.sh = true := by
  induction l with
  | nil => simp
  | cons d l ih => simp [ih]
theorem mPop_at {α : Type} [En α] {l : List α} {i : Nat} {x : α} (h : l[i]? = some x) (hi : i < 9223372036854775808) : mPopAt (eO l) [e i] = some (eO (l.eraseIdx i), e x) := by
  have hl := (List.getElem?_eq_some_iff.mp h).1
  show mPopAt (.ol (l.map e)) [.int i] = _
  unfold mPopAt
  dsimp only
  rw [if_pos ⟨by omega, by omega, by simp⟩]
  have hs : seqIndex? (i : Int) (l.map e).length = some i := by
    unfold seqIndex?
    simp
    omega
  rw [hs]
  have : (l.map e).eraseIdx i = (l.eraseIdx i).map (e : α → D) := by
    clear hs
    induction l generalizing i with
    | nil => rfl
    | cons y l ih =>
      cases i with
      | zero => rfl
      | succ i =>
        rw [List.map_cons, List.eraseIdx_cons_succ, List.eraseIdx_cons_succ, List.map_cons, ih (by simpa using h) (by omega) (by simpa using hl)]
  simp only [List.getElem?_map, h, Option.map_some, this]
  rfl
theorem dMod_nat {a n : Nat} (h : 0 < n) : dMod (e a) (e n) = some (e (a % n)) := by
  have : CMod (a : Int) (n : Int) := by show (0 : Int) < n; omega
  simp [e_nat, dMod, dI2, this]
theorem dFdiv_nat {a n : Nat} (h : 0 < n) (h2 : n < 1073741824) : dFdiv (e a) (e n) = some (e (a / n)) := by
  have : CDiv (a : Int) (n : Int) := ⟨by omega, by omega⟩
  simp [e_nat, dFdiv, dI2, this]
theorem dPow_nat {a n : Nat} (h : a < 2 ^ 64) (h2 : n ≤ 1000000) : dPow (e a) (e n) = some (e (a ^ n)) := by
  have : CPow (a : Int) (n : Int) := ⟨by omega, by omega, by simpa using h⟩
  simp [e_nat, dPow, dI2, this]
@[simp] theorem dInt_e (n : Nat) : dInt [e n] = some (e n) := rfl
theorem dNe_nil {α : Type} [EnE α] [DecidableEq α] (h : EnE.dep α ≤ 63) (a : List α) : dNe (eL a) (.lst []) = some (.bl (!decide (a = []))) := by unfold dNe; rw [show D.lst [] = eL ([] : List α) from rfl, eqD_eL h]; rfl
@[simp] theorem im_bl (b : Bool) : (D.bl b).im = true := by rw [D.im]
theorem gxPut_nil {i : Nat} {xk : Xx} {d : D} {ρ ρ' : Rho} : gxPut i [] xk d ρ = some ρ' ↔ ∃ d0, ρ[i]? = some (some d0) ∧ (xk (ρ.set i none)).W (fun dk ρ1 => dk.sh = true ∧ ∃ d', dPut d0 dk d = some d' ∧ ρ' = ρ1.set i (some d')) (fun _ _ => False) := by
  unfold gxPut
  cases h : ρ[i]? with
  | none => simp
  | some o =>
    cases o with
    | none => simp
    | some d0 =>
      simp only [at_nil, Option.some.injEq, exists_eq_left']
      cases xk (ρ.set i none) with
      | ok dk ρ1 =>
        simp only [W_okX]
        split
        · rename_i hs
          cases hp : dPut d0 dk d with
          | none => simp
          | some d' => simp [hs, eq_comm]
        · rename_i hs; simp [hs]
      | _ => simp
@[simp] theorem gxPut_str {i : Nat} {x : Str} {d : D} {ρ ρ' : Rho} : gxPut i [] (xC (.str x)) d ρ = some ρ' ↔ ∃ d0, ρ[i]? = some (some d0) ∧ ∃ d', dPut d0 (.str x) d = some d' ∧ ρ' = (ρ.set i none).set i (some d') := by
  rw [gxPut_nil]; simp
theorem draw_W {t n : Nat} {d : D} (h : StOk t d) (ht : t < 1099511627776) (hn : 0 < n) (hn2 : n < 1073741824) {Q : D → List D → Prop} {E : Str → List D → Prop}
    (hq : ∀ k d', k < n → StOk (t + 1) d' → Q (e k) [d']) : (m_law_draw [d, e n]).W Q E := by
  obtain ⟨ls, cs, L, T, rfl, h1, h2, h3⟩ := h
  unfold m_law_draw y_law_draw
  rw [W_runF]
  refine W_seq (P := fun ρ => ∃ ls L, ls.length ≤ 63 ∧ ρ = [some (stD ls cs L T), some (e n), none, none, none, none]) ?_ ?_
  · refine W_while (fun k ρ => ∃ ls L, ls.length = k ∧ k ≤ 63 ∧ ρ = [some (stD ls cs L T), some (e n), none, none, none, none]) (k := ls.length) (by omega) ⟨ls, L, rfl, h1, rfl⟩ ?_
    rintro k ρ ⟨ls, L, hk, hk2, rfl⟩
    simp [most_eq, dNe_nil (α := Nat) (by decide)]
    by_cases hL : L = 0
    · cases ls with
      | nil => simp [hL]; exact ⟨[], by simp, 0, rfl⟩
      | cons x ls =>
        simp [hL]
        rw [mPop_at (l := x :: ls) (i := 0) rfl (by omega)]
        simp
        simp at hk
        exact ⟨ls.length, by omega, ls, rfl, by omega, x, rfl⟩
    · simp [hL]
      exact ⟨ls, by omega, L, rfl⟩
  · rintro ρ ⟨ls, L, hl, rfl⟩
    refine W_seq (P := fun ρ => ρ = [some (stD ls cs L T), some (e n), none, none, none, none]) ?_ ?_
    · simp
      by_cases hL : L = 0
      · simp [hL]
      · simp [hL, show 0 < L by omega, dMod_nat hn, dFdiv_nat hn hn2]
        exact hq _ _ (Nat.mod_lt _ hn) ⟨_, _, _, _, rfl, hl, h2, by omega⟩
    · rintro ρ rfl
      have hlen : ∀ c ∈ cs, cs ≠ [] := fun c hc z => by rw [z] at hc; cases hc
      refine W_seq (P := fun ρ => ρ = [some (stD ls cs L T), some (e n), some (e (T + 1)), none, none, none]) ?_ ?_
      · simp
      rintro ρ rfl
      refine W_seq (P := fun ρ => ρ = [some (stD ls cs L (T + 1)), some (e n), some (e (T + 1)), none, none, none]) ?_ ?_
      · simp
      rintro ρ rfl
      refine W_seq (P := fun ρ => ∃ c : Nat, ρ = [some (stD ls cs L (T + 1)), some (e n), some (e (T + 1)), some (e c), none, none]) ?_ ?_
      · simp [most_eq, dNe_nil (α := Nat) (by decide)]
        by_cases hc : cs = []
        · simp [hc]; exact ⟨0, rfl⟩
        · have hcl : 0 < cs.length := List.length_pos_iff.mpr hc
          obtain ⟨x, hx⟩ := get_some (Nat.mod_lt (T + 1) hcl)
          simp [hc, dMod_nat hcl, hx]; exact ⟨_, rfl⟩
      rintro ρ ⟨c, rfl⟩
      have b1 : c % 2147483563 < 2147483563 := Nat.mod_lt _ (by omega)
      generalize hC : c % 2147483563 = c1 at b1
      refine W_seq (P := fun ρ => ∃ m : Nat, m < 2147483629 ∧ ρ = [some (stD ls cs L (T + 1)), some (e n), some (e (T + 1)), some (e c), some (e m), none]) ?_ ?_
      · have b2 : c1 + 40692 * (T + 1) + 24681 < 2 ^ 64 := by omega
        simp [dMod_nat (show 0 < 2147483563 by omega), hC, dMul_nat (a := 40692) (b := T + 1) (.inl (by omega)), dPow_nat b2 (show 3 ≤ 1000000 by omega), dMod_nat (show 0 < 2147483629 by omega)]
        exact ⟨_, Nat.mod_lt _ (by omega), rfl⟩
      rintro ρ ⟨m, hm, rfl⟩
      have b3 : m + 104917 * (T + 1) < 2 ^ 64 := by omega
      have q1 : dMul (e 104917) (e (T + 1)) = some (e (104917 * (T + 1))) := dMul_nat (.inl (by decide))
      generalize 104917 * (T + 1) = X at q1 b3
      have q2 : dPow (e (m + X)) (e 5) = some (e ((m + X) ^ 5)) := dPow_nat b3 (by decide)
      generalize (m + X) ^ 5 = Y at q2
      have q3 : dMod (e Y) (e 2147483579) = some (e (Y % 2147483579)) := dMod_nat (by decide)
      generalize Y % 2147483579 = Z at q3
      have q4 : dFdiv (e Z) (e 29) = some (e (Z / 29)) := dFdiv_nat (by decide) (by decide)
      generalize Z / 29 = U at q4
      simp [q1, q2, q3, q4, dMod_nat hn]
      exact hq _ _ (Nat.mod_lt _ hn) ⟨_, _, _, _, rfl, hl, h2, by omega⟩
/-- one of several -/
theorem pick_W {α : Type} [En α] {t : Nat} {d : D} (h : StOk t d) (ht : t < 1099511627776) {l : List α} (hl : l ≠ []) (hl2 : l.length < 1073741824) {Q : D → List D → Prop} {E : Str → List D → Prop}
    (hq : ∀ a d', a ∈ l → StOk (t + 1) d' → Q (e a) [d']) : (m_law_pick [d, eL l]).W Q E := by
  simp [m_law_pick, y_law_pick]
  refine draw_W h ht (List.length_pos_iff.mpr hl) hl2 fun k d' hk hd => ?_
  obtain ⟨x, hx⟩ := get_some hk
  simp [hx]
  exact hq _ _ (mem_of hx) hd
/-- one of several values of any kind -/
theorem pickD_W {t : Nat} {d : D} (h : StOk t d) (ht : t < 1099511627776) {l : List D} (hl : l ≠ []) (hl2 : l.length < 1073741824) {Q : D → List D → Prop} {E : Str → List D → Prop}
    (hq : ∀ a d', a ∈ l → StOk (t + 1) d' → Q a [d']) : (m_law_pick [d, .lst l]).W Q E := by
  simp [m_law_pick, y_law_pick]
  refine draw_W h ht (List.length_pos_iff.mpr hl) hl2 fun k d' hk hd => ?_
  obtain ⟨x, hx⟩ := get_some hk
  have : dIx (.lst l) (e k) = some x := by show atI l (k : Int) = _; rw [atI_nat, hx]
  simp [this]
  exact hq _ _ (mem_of hx) hd
theorem eraseIdx_perm {α : Type} {x : α} : ∀ {l : List α} {i : Nat}, l[i]? = some x → l.Perm (x :: l.eraseIdx i)
  | y :: l, 0, h => by simp at h; subst h; exact .refl _
  | y :: l, i + 1, h => by
    have := eraseIdx_perm (l := l) (i := i) (by simpa using h)
    exact (this.cons y).trans (.swap x y _)
/-- several in another order -/
theorem mixed_W {α : Type} [EnE α] [DecidableEq α] (hdep : EnE.dep α ≤ 63) {t : Nat} {d : D} (h : StOk t d) {l : List α} (ht : t + l.length < 1099511627776) (hl : l.length < 200) {Q : D → List D → Prop} {E : Str → List D → Prop}
    (hq : ∀ l' d', l'.Perm l → StOk (t + l.length) d' → Q (eL l') [d']) : (m_law_mixed [d, eL l]).W Q E := by
  simp [m_law_mixed, y_law_mixed, most_eq]
  rw [show D.ol [] = eO ([] : List α) from rfl]
  refine W_while (fun k ρ => ∃ d' l1 l2, ρ = [some d', some (eL l), some (eO l1), some (eO l2)] ∧ l1.length = k ∧ (l2 ++ l1).Perm l ∧ StOk (t + l2.length) d') (k := l.length) hl ⟨d, l, [], rfl, rfl, .refl _, h⟩ ?_
  rintro k ρ ⟨d', l1, l2, rfl, hk, hp, hd⟩
  have hlen := hp.length_eq
  simp at hlen
  simp [most_eq, dNe_nil (α := α) hdep]
  cases l1 with
  | nil =>
    simp
    simp at hp hk
    refine hq _ _ hp (hd.le ?_)
    have := hp.length_eq
    omega
  | cons x l1 =>
    simp
    simp at hlen
    refine draw_W hd (by omega) (by omega) (by omega) fun k2 d2 hk2 hd2 => ?_
    obtain ⟨y, hy⟩ := get_some (show k2 < (x :: l1).length from hk2)
    simp
    rw [mPop_at hy (by omega)]
    simp
    rw [mApp_e _ (by simp [most_eq]; omega)]
    simp
    have hlt := (List.getElem?_eq_some_iff.mp hy).1
    have hel : ((x :: l1).eraseIdx k2).length = l1.length := by rw [List.length_eraseIdx_of_lt hlt]; rfl
    simp at hk
    refine ⟨l1.length, by omega, d2, _, l2 ++ [y], ⟨rfl, rfl, rfl⟩, hel, ?_, by simpa [Nat.add_assoc] using hd2⟩
    refine List.Perm.trans ?_ hp
    rw [List.append_assoc]
    exact List.Perm.append_left l2 (eraseIdx_perm hy).symm
end On

set_option Elab.async false
set_option linter.all false
set_option maxRecDepth 100000
set_option maxHeartbeats 4000000
/-! P8: tables led room by room. -/
namespace On
open PySem PySem.Spec L2
open En (e)
theorem gxPut_iff {i : Nat} {p : List Stp} {xk : Xx} {d : D} {ρ ρ' : Rho} : gxPut i p xk d ρ = some ρ' ↔ ∃ d0, ρ[i]? = some (some d0) ∧ ∃ dp, d0.at_ p = some dp ∧ (xk (ρ.set i none)).W (fun dk ρ1 => dk.sh = true ∧ ∃ d', dPut dp dk d = some d' ∧ ρ' = ρ1.set i (some (d0.setAt p d'))) (fun _ _ => False) := by
  unfold gxPut
  cases h : ρ[i]? with
  | none => simp
  | some o =>
    cases o with
    | none => simp
    | some d0 =>
      simp only [Option.some.injEq, exists_eq_left']
      cases hp : d0.at_ p with
      | none => simp
      | some dp =>
        simp only [Option.some.injEq, exists_eq_left']
        cases xk (ρ.set i none) with
        | ok dk ρ1 =>
          simp only [W_okX]
          split
          · rename_i hs
            cases hp : dPut dp dk d with
            | none => simp
            | some d' => simp [hs, eq_comm]
          · rename_i hs; simp [hs]
        | _ => simp
@[simp] theorem gxPut_var {i j : Nat} {p : List Stp} {d : D} {ρ ρ' : Rho} : gxPut i p (xVar j) d ρ = some ρ' ↔ ∃ d0, ρ[i]? = some (some d0) ∧ ∃ dp, d0.at_ p = some dp ∧ ∃ dk, (ρ.set i none)[j]? = some (some dk) ∧ dk.sh = true ∧ ∃ d', dPut dp dk d = some d' ∧ ρ' = (ρ.set i none).set i (some (d0.setAt p d')) := by
  rw [gxPut_iff]; simp
@[simp] theorem W_xLstR {x : Xx} {ρ : Rho} {Q : D → Rho → Prop} {E : Str → Rho → Prop} : (xLstR x ρ).W Q E ↔ (x ρ).W (fun d ρ1 => ∃ n, d = .int n ∧ -(2 ^ 62) ≤ n ∧ n ≤ 16777216 ∧ Q (.ol (rngD 0 n.toNat)) ρ1) E := by
  unfold xLstR XR.bind
  cases x ρ with
  | ok d ρ1 =>
    cases d with
    | int n =>
      simp only [W_okX]
      split
      · rename_i h; exact ⟨fun q => ⟨n, rfl, h.1, h.2, q⟩, fun ⟨_, z, _, _, q⟩ => by cases z; exact q⟩
      · rename_i h; simp only [W_noX, false_iff]; rintro ⟨_, z, h1, h2, _⟩; cases z; exact h ⟨h1, h2⟩
    | _ => simp
  | ex c ρ => exact .rfl
  | no => exact .rfl
@[simp] theorem rng_simp (n : Nat) : rngD 0 n = (List.range n).map e := rng_e n
@[simp] theorem dIx_dk (l : List (Key × D)) (n : Nat) : dIx (.dk l) (e n) = valD l (kN n) := rfl
@[simp] theorem dDict_dk (l : List (Key × D)) : dDict [.dk l] = some (.od l) := rfl
/-- the law's dict of a table while it is made -/
def scO (sends takes : List Nat) (notes : List (List Nat × List Nat)) : D := .od [(.inr "sends", e sends), (.inr "takes", e takes), (.inr "notes", .ot (notes.map eNote))]
section
variable {sends takes : List Nat} {notes notes' : List (List Nat × List Nat)}
@[simp] theorem sc_sends : (scO sends takes notes).at_ [.k (.inr "sends")] = some (e sends) := rfl
@[simp] theorem sc_takes : (scO sends takes notes).at_ [.k (.inr "takes")] = some (e takes) := rfl
@[simp] theorem sc_notes : (scO sends takes notes).at_ [.k (.inr "notes")] = some (.ot (notes.map eNote)) := rfl
@[simp] theorem sc_set : (scO sends takes notes).setAt [.k (.inr "notes")] (.ot (notes'.map eNote)) = scO sends takes notes' := rfl
theorem fzT_notes : ∀ (l : List (List Nat × List Nat)), fzT (l.map eNote) = l.map eNote
  | [] => by rw [List.map_nil, fzT]
  | p :: l => by rw [List.map_cons]; unfold eNote; rw [fzT, e_fz]; exact congrArg _ (fzT_notes l)
@[simp] theorem scO_fz : (scO sends takes notes).fz = (Sc.mk sends takes notes).d := by
  unfold scO Sc.d notesD
  simp only [D.fz, fzK, e_fz, fzT_notes]
end
theorem putD_new {l : List (List Nat × List Nat)} {r d : List Nat} (h : r ∉ l.map (·.1)) : putD (l.map eNote) (r.map kN) (e d) = (l ++ [(r, d)]).map eNote := by
  unfold putD
  rw [if_neg]
  · simp [eNote]
  · rw [Bool.not_eq_true, List.any_eq_false]
    intro kv hkv
    obtain ⟨p, hp, rfl⟩ := List.mem_map.mp hkv
    intro z
    exact h (List.mem_map.mpr ⟨p, hp, kNs_inj (of_decide_eq_true z)⟩)
theorem dPut_new {l : List (List Nat × List Nat)} {r d : List Nat} (h : r ∉ l.map (·.1)) (hl : l.length < most) : dPut (.ot (l.map eNote)) (e r) (e d) = some (.ot ((l ++ [(r, d)]).map eNote)) := by
  unfold dPut
  dsimp only
  rw [keyT_e]
  dsimp only
  rw [if_pos ⟨by simpa using hl, .inl (by simp)⟩, putD_new h]
/-- what rooms that are out have in a dict -/
structure Dct (l : List (Key × D)) (f : Nat → Nat) (left : List Nat) (n : Nat) : Prop where
  at_ : ∀ i, i < n → i ∉ left → valD l (kN i) = some (e (f i))
  fz : ∀ p ∈ l, p.2.fz = p.2
  len : l.length + left.length ≤ n
theorem putD_length {κ : Type} [DecidableEq κ] (l : List (κ × D)) (k : κ) (v : D) : (putD l k v).length ≤ l.length + 1 := by
  unfold putD
  split <;> simp
def upd1 (f : Nat → Nat) (i x : Nat) : Nat → Nat := fun j => if j = i then x else f j
theorem Dct.put {l : List (Key × D)} {f : Nat → Nat} {left : List Nat} {n i x : Nat} (h : Dct l f left n) (hi : i ∈ left) (hn : left.Nodup) : Dct (putD l (kN i) (e x)) (upd1 f i x) (left.filter fun j => !decide (j = i)) n := by
  refine ⟨fun j hj hm => ?_, fun p hp => ?_, ?_⟩
  · rw [valD_put]
    unfold upd1
    by_cases z : j = i
    · simp [z]
    · have : kN i ≠ kN j := fun q => z (kN_inj q).symm
      rw [if_neg this, if_neg z]
      exact h.at_ j hj fun q => hm (List.mem_filter.mpr ⟨q, by simpa using z⟩)
  · rcases mem_putD hp with z | z
    · rw [z]; simp
    · exact h.fz p z
  · have h1 := putD_length l (kN i) (e x)
    have h2 : (left.filter fun j => !decide (j = i)).length < left.length := by
      refine List.length_filter_lt_length_iff_exists.mpr ⟨i, hi, by simp⟩
    have := h.len
    omega
/-- a row that agrees with what is known -/
def Agr (n : Nat) (left : List Nat) (f : Nat → Nat) (r : List Nat) : Prop := ∀ i, i < n → i ∉ left → r[i]? = some (f i)
/-- what is led from here -/
structure Led (sends takes left : List Nat) (f g : Nat → Nat) (new : List (List Nat × List Nat)) : Prop where
  keys : ∀ r, r ∈ new.map (·.1) ↔ IsRow r sends ∧ Agr sends.length left f r
  nd : (new.map (·.1)).Nodup
  del : ∀ p ∈ new, IsRow p.2 takes ∧ Agr sends.length left g p.2
  fine : ∀ p ∈ new, ∀ q ∈ new, p.1 ≠ q.1 → ∃ i : Nat, p.1[i]? ≠ q.1[i]? ∧ p.2[i]? = q.2[i]?
/-- how many draws at most -/
def costL : Nat → Nat
  | 0 => 0
  | k + 1 => 2 + 64 * costL k
theorem fz_od {l : List (Key × D)} (h : ∀ p ∈ l, p.2.fz = p.2) : (D.od l).fz = .dk l := by unfold D.fz; rw [fzK_all h]
theorem agr_row {sends : List Nat} {f : Nat → Nat} {r : List Nat} (hr : IsRow r sends) (h : Agr sends.length [] f r) : r = (List.range sends.length).map f := by
  refine list_eq (by simp [hr.length]) fun i x hx => ?_
  have hi := (List.getElem?_eq_some_iff.mp hx).1
  simp at hi
  rw [h i hi (by simp)]
  simpa [hi] using hx
theorem nodup_len {α : Type} [DecidableEq α] : ∀ {l m : List α}, l.Nodup → (∀ a ∈ l, a ∈ m) → l.length ≤ m.length
  | [], m, _, _ => Nat.zero_le _
  | a :: l, m, h, hs => by
    have h := List.nodup_cons.mp h
    have ha := hs a List.mem_cons_self
    have := nodup_len (l := l) (m := m.erase a) h.2 fun b hb => (List.mem_erase_of_ne (fun z => h.1 (by rw [← z]; exact hb))).mpr (hs b (List.mem_cons_of_mem _ hb))
    rw [List.length_erase_of_mem ha] at this
    have := List.length_pos_of_mem ha
    simp only [List.length_cons]
    omega
/-- what is led from some of the numbers of a room -/
structure LedP (sends takes left : List Nat) (room note : Nat) (f g : Nat → Nat) (pre : List Nat) (new : List (List Nat × List Nat)) : Prop where
  keys : ∀ r, r ∈ new.map (·.1) ↔ IsRow r sends ∧ ∃ x ∈ pre, Agr sends.length left (upd1 f room x) r
  nd : (new.map (·.1)).Nodup
  del : ∀ p ∈ new, IsRow p.2 takes ∧ Agr sends.length left (upd1 g room note) p.2
  fine : ∀ p ∈ new, ∀ q ∈ new, p.1 ≠ q.1 → ∃ i : Nat, p.1[i]? ≠ q.1[i]? ∧ p.2[i]? = q.2[i]?
theorem LedP.add {sends takes left : List Nat} {room note : Nat} {f g : Nat → Nat} {pre : List Nat} {new new2 : List (List Nat × List Nat)} {x : Nat} (hroom : room < sends.length) (hl : room ∉ left) (hx : x ∉ pre)
    (h : LedP sends takes left room note f g pre new) (h2 : Led sends takes left (upd1 f room x) (upd1 g room note) new2) : LedP sends takes left room note f g (pre ++ [x]) (new ++ new2) := by
  have key1 : ∀ p ∈ new, ∃ y ∈ pre, p.1[room]? = some y := fun p hp => by
    obtain ⟨_, y, hy, ha⟩ := (h.keys p.1).mp (List.mem_map.mpr ⟨p, hp, rfl⟩)
    exact ⟨y, hy, by rw [ha room hroom hl]; simp [upd1]⟩
  have key2 : ∀ p ∈ new2, p.1[room]? = some x := fun p hp => by
    obtain ⟨_, ha⟩ := (h2.keys p.1).mp (List.mem_map.mpr ⟨p, hp, rfl⟩)
    rw [ha room hroom hl]; simp [upd1]
  have n1 : ∀ p ∈ new, p.2[room]? = some note := fun p hp => by rw [(h.del p hp).2 room hroom hl]; simp [upd1]
  have n2 : ∀ p ∈ new2, p.2[room]? = some note := fun p hp => by rw [(h2.del p hp).2 room hroom hl]; simp [upd1]
  have cross : ∀ p ∈ new, ∀ q ∈ new2, p.1[room]? ≠ q.1[room]? := fun p hp q hq z => by
    obtain ⟨y, hy, e1⟩ := key1 p hp
    rw [e1, key2 q hq] at z
    cases z
    exact hx hy
  refine ⟨fun r => ?_, ?_, fun p hp => ?_, fun p hp q hq hne => ?_⟩
  · rw [List.map_append, List.mem_append, h.keys, h2.keys]
    constructor
    · rintro (⟨h1, y, hy, ha⟩ | ⟨h1, ha⟩)
      · exact ⟨h1, y, List.mem_append_left _ hy, ha⟩
      · exact ⟨h1, x, by simp, ha⟩
    · rintro ⟨h1, y, hy, ha⟩
      rcases List.mem_append.mp hy with hy | hy
      · exact .inl ⟨h1, y, hy, ha⟩
      · simp at hy; subst hy; exact .inr ⟨h1, ha⟩
  · rw [List.map_append]
    refine nodup_append' h.nd h2.nd fun a ha hb => ?_
    obtain ⟨p, hp, rfl⟩ := List.mem_map.mp ha
    obtain ⟨q, hq, e1⟩ := List.mem_map.mp hb
    exact cross p hp q hq (by rw [e1])
  · rcases List.mem_append.mp hp with hp | hp
    · exact h.del p hp
    · exact h2.del p hp
  · rcases List.mem_append.mp hp with hp | hp <;> rcases List.mem_append.mp hq with hq | hq
    · exact h.fine p hp q hq hne
    · exact ⟨room, cross p hp q hq, by rw [n1 p hp, n2 q hq]⟩
    · exact ⟨room, fun z => cross q hq p hp z.symm, by rw [n2 p hp, n1 q hq]⟩
    · exact h2.fine p hp q hq hne
theorem LedP.all {sends takes left : List Nat} {room note : Nat} {f g : Nat → Nat} {sn : Nat} {new : List (List Nat × List Nat)} (hroom : room ∈ left) (hn : sends[room]? = some sn)
    (h : LedP sends takes (left.filter fun j => !decide (j = room)) room note f g (List.range sn) new) : Led sends takes left f g new := by
  have sub : ∀ i, i ∉ left → i ∉ left.filter fun j => !decide (j = room) := fun i hi z => hi (List.mem_filter.mp z).1
  have ne : ∀ i, i ∉ left → i ≠ room := fun i hi z => hi (z ▸ hroom)
  refine ⟨fun r => ?_, h.nd, fun p hp => ⟨(h.del p hp).1, fun i hi hl => ?_⟩, h.fine⟩
  · rw [h.keys]
    constructor
    · rintro ⟨h1, x, hx, ha⟩
      refine ⟨h1, fun i hi hl => ?_⟩
      rw [ha i hi (sub i hl)]
      simp [upd1, ne i hl]
    · rintro ⟨h1, ha⟩
      have hrl : room < r.length := h1.length ▸ (List.getElem?_eq_some_iff.mp hn).1
      obtain ⟨x, hx⟩ := get_some hrl
      obtain ⟨m, e1, e2⟩ := h1.lt hx
      rw [hn] at e1
      cases e1
      refine ⟨h1, x, List.mem_range.mpr e2, fun i hi hl => ?_⟩
      by_cases z : i = room
      · subst z; rw [hx]; simp [upd1]
      · rw [ha i hi fun q => hl (List.mem_filter.mpr ⟨q, by simpa using z⟩)]
        simp [upd1, z]
  · rw [(h.del p hp).2 i hi (sub i hl)]
    simp [upd1, ne i hl]
theorem filter_ne_length {left : List Nat} {room : Nat} (hn : left.Nodup) (hr : room ∈ left) : (left.filter fun j => !decide (j = room)).length + 1 = left.length := by
  have := List.length_erase_of_mem hr
  rw [List.Nodup.erase_eq_filter hn] at this
  have hp := List.length_pos_of_mem hr
  have e1 : (left.filter fun j => !decide (j = room)) = left.filter (fun x => x != room) := by
    apply List.filter_congr
    intro x _
    by_cases z : x = room <;> simp [z]
  rw [e1]
  omega
theorem led_by_W {sends takes : List Nat} (hs : Sizes sends) (h6 : sends.length ≤ 6) (ht : takes.length = sends.length) (tpos : ∀ a ∈ takes, 1 ≤ a) (ttop : ∀ a ∈ takes, a ≤ 64) :
    ∀ (k fuel : Nat), k < fuel → ∀ (left : List Nat), left.length = k → left.Nodup → (∀ i ∈ left, i < sends.length) → ∀ (f g : Nat → Nat) (ls lh : List (Key × D)), Dct ls f left sends.length → Dct lh g left sends.length →
      (∀ i (n : Nat), i ∉ left → sends[i]? = some n → f i < n) → (∀ i (n : Nat), i ∉ left → takes[i]? = some n → g i < n) →
      ∀ (t : Nat) (d : D), StOk t d → t + costL k < 1099511627776 → ∀ (notes : List (List Nat × List Nat)), (∀ r ∈ notes.map (·.1), ¬ Agr sends.length left f r) → (notes.map (·.1)).Nodup → (∀ r ∈ notes.map (·.1), IsRow r sends) →
      ∀ {Q : D → List D → Prop} {E : Str → List D → Prop}, (∀ d' new, StOk (t + costL k) d' → Led sends takes left f g new → Q .non [d', scO sends takes (notes ++ new)]) →
      (m_law_led_by fuel [d, scO sends takes notes, eL left, .dk ls, .dk lh]).W Q E := by
  intro k
  induction k with
  | zero =>
    intro fuel hfuel left hk hnd hleft f g ls lh hls hlh hf hg t d hd htt notes hnew hN1 hN2 Q E hq
    obtain ⟨fuel, rfl⟩ : ∃ m, fuel = m + 1 := ⟨fuel - 1, by omega⟩
    have hl : left = [] := List.length_eq_zero_iff.mp hk
    subst hl
    have hlen : notes.length ≤ 64 := by
      have := nodup_len hN1 fun r hr => mem_rows.mpr (hN2 r hr)
      have := rows_le hs (List.append_nil _).symm
      simp at *
      omega
    have hrow : IsRow ((List.range sends.length).map f) sends := isRow_iff.mpr ⟨by simp, fun i x n hx hn => by
      have hi := (List.getElem?_eq_some_iff.mp hn).1
      simp [hi] at hx
      subst hx
      exact hf i n (by simp) hn⟩
    have hdel : IsRow ((List.range sends.length).map g) takes := isRow_iff.mpr ⟨by simp [ht], fun i x n hx hn => by
      have hi := (List.getElem?_eq_some_iff.mp hn).1
      rw [ht] at hi
      simp [hi] at hx
      subst hx
      exact hg i n (by simp) hn⟩
    have hag : Agr sends.length [] f ((List.range sends.length).map f) := fun i hi _ => by simp [hi]
    simp [m_law_led_by, y_law_led_by, most_eq, dEq_nil (α := Nat) (by decide)]
    refine ⟨by omega, ?_⟩
    rw [lcL_all e (List.range sends.length) g]
    · simp [most_eq]
      refine ⟨by omega, ?_⟩
      simp [gxPut_iff]
      rw [lcL_all e (List.range sends.length) f]
      · simp [most_eq]
        rw [dPut_new (fun z => hnew _ z hag) (by rw [most_eq]; omega)]
        refine ⟨_, ⟨by omega, _, rfl, rfl⟩, ?_⟩
        rw [sc_set]
        simp only [muts_true, muts_false, muts_nil, Option.map_some, Option.some.injEq, exists_eq_left']
        refine hq _ _ (hd.le (Nat.le_add_right _ _)) ⟨fun r => ?_, by simp, ?_, ?_⟩
        · simp
          constructor
          · rintro rfl; exact ⟨hrow, hag⟩
          · rintro ⟨h1, h2⟩; exact agr_row h1 h2
        · intro p hp
          simp at hp
          subst hp
          exact ⟨hdel, fun i hi _ => by simp [hi]⟩
        · intro p hp q hq' hne
          simp at hp hq'
          subst hp hq'
          exact absurd rfl hne
      · intro i hi
        simp at hi
        simp [hls.at_ i hi (by simp)]
    · intro i hi
      simp at hi
      simp [hlh.at_ i hi (by simp)]
  | succ k ih =>
    intro fuel hfuel left hk hnd hleft f g ls lh hls hlh hf hg t d hd htt notes hnew hN1 hN2 Q E hq
    obtain ⟨fuel, rfl⟩ : ∃ m, fuel = m + 1 := ⟨fuel - 1, by omega⟩
    have hl : left ≠ [] := fun z => by rw [z] at hk; cases hk
    have hll := hls.len
    have hc : costL (k + 1) = 2 + 64 * costL k := rfl
    unfold m_law_led_by y_law_led_by
    simp [most_eq, dEq_nil (α := Nat) (by decide), hl]
    have hpw : 1 ≤ costL k + 1 := by omega
    refine pick_W hd (by omega) hl (by omega) fun room d1 hroom hd1 => ?_
    have hrn := hleft room hroom
    obtain ⟨tk, htk⟩ := get_some (show room < takes.length by omega)
    obtain ⟨sn, hsn⟩ := get_some hrn
    have htk1 := tpos tk (mem_of htk)
    have htk2 := ttop tk (mem_of htk)
    have hsn2 := hs.top sn (mem_of hsn)
    simp [htk]
    refine draw_W hd1 (by omega) (by omega) (by omega) fun note d2 hnote hd2 => ?_
    have hf1 := fRng1_e sn (by omega)
    simp [hsn, hf1]
    have hfl := filter_ne_length hnd hroom
    have hnl : room ∉ left.filter fun j => !decide (j = room) := fun z => by simpa using (List.mem_filter.mp z).2
    refine W_for (e := e) (List.range sn) (fun pre ρ => ∃ d' new o1 o2 o3, ρ = [some d', some (scO sends takes (notes ++ new)), some (eL left), some (.dk ls), some (.dk lh), none, some (e room), some (e note), o1, o2, o3, none] ∧
      StOk (t + 2 + pre.length * costL k) d' ∧ LedP sends takes (left.filter fun j => !decide (j = room)) room note f g pre new) ⟨d2, [], none, none, none, by simp, by simpa [Nat.add_assoc] using hd2, ⟨by simp, by simp, by simp, by simp⟩⟩ ?_ ?_
    · rintro pre x post hpre ρ ⟨d', new, o1, o2, o3, rfl, hd', hP⟩
      have hxr : x ∈ List.range sn := by rw [hpre]; simp
      have hxs : x < sn := List.mem_range.mp hxr
      have hxp : x ∉ pre := fun z => by
        have := List.nodup_range (n := sn)
        rw [hpre] at this
        exact (List.nodup_append.mp this).2.2 x z x (by simp) rfl
      have hpl : pre.length < sn := by have := congrArg List.length hpre; simp at this; omega
      have hpc : pre.length * costL k + costL k ≤ 64 * costL k := by
        rw [← Nat.succ_mul]
        exact Nat.mul_le_mul_right _ (by omega)
      have put1 : dPut (.od ls) (e room) (e x) = some (.od (putD ls (kN room) (e x))) := by
        unfold dPut
        dsimp only
        rw [key_e]
        dsimp only
        rw [if_pos ⟨by simp [most_eq]; omega, .inl (by simp)⟩]
      have hll2 := hlh.len
      have put2 : dPut (.od lh) (e room) (e note) = some (.od (putD lh (kN room) (e note))) := by
        unfold dPut
        dsimp only
        rw [key_e]
        dsimp only
        rw [if_pos ⟨by simp [most_eq]; omega, .inl (by simp)⟩]
      have hD1 := hls.put (x := x) hroom hnd
      have hD2 := hlh.put (x := note) hroom hnd
      simp [most_eq, put1, put2]
      rw [lcL_fil e left (fun j => !decide (j = room)) (fun j => j)]
      · simp [most_eq, fz_od hD1.fz, fz_od hD2.fz]
        refine ⟨by omega, ?_⟩
        have agrUp : ∀ y r, Agr sends.length (left.filter fun j => !decide (j = room)) (upd1 f room y) r → Agr sends.length left f r := fun y r ha i hi hil => by
          have z : i ≠ room := fun z => hil (z ▸ hroom)
          rw [ha i hi fun q => hil (List.mem_filter.mp q).1]
          simp [upd1, z]
        refine ih fuel (by omega) _ (by omega) (hnd.filter _) (fun i hi => hleft i (List.mem_filter.mp hi).1) (upd1 f room x) (upd1 g room note) _ _ hD1 hD2 ?_ ?_ _ _ hd' (by omega) _ ?_ ?_ ?_ ?_
        · intro i n hi hin
          by_cases z : i = room
          · subst z
            rw [hsn] at hin; cases hin
            simpa [upd1] using hxs
          · have := hf i n (fun q => hi (List.mem_filter.mpr ⟨q, by simpa using z⟩)) hin
            simpa [upd1, z] using this
        · intro i n hi hin
          by_cases z : i = room
          · subst z
            rw [htk] at hin; cases hin
            simpa [upd1] using hnote
          · have := hg i n (fun q => hi (List.mem_filter.mpr ⟨q, by simpa using z⟩)) hin
            simpa [upd1, z] using this
        · intro r hr ha
          rw [List.map_append, List.mem_append] at hr
          rcases hr with hr | hr
          · exact hnew r hr (agrUp x r ha)
          · obtain ⟨_, y, hy, hb⟩ := (hP.keys r).mp hr
            have e1 := ha room hrn hnl
            rw [hb room hrn hnl] at e1
            simp [upd1] at e1
            exact hxp (e1 ▸ hy)
        · rw [List.map_append]
          refine nodup_append' hN1 hP.nd fun r h1 h2 => ?_
          obtain ⟨_, y, _, hb⟩ := (hP.keys r).mp h2
          exact hnew r h1 (agrUp y r hb)
        · intro r hr
          rw [List.map_append, List.mem_append] at hr
          rcases hr with hr | hr
          · exact hN2 r hr
          · exact ((hP.keys r).mp hr).1
        · intro d3 new2 hd3 hL
          simp
          exact ⟨d3, new ++ new2, ⟨rfl, rfl⟩, by rw [Nat.succ_mul]; simpa [Nat.add_assoc] using hd3, hP.add hrn hnl hxp hL⟩
      · intro j hj
        simp
        exact Classical.em _
    · rintro ρ ⟨d', new, o1, o2, o3, rfl, hd', hP⟩
      have hcc : sn * costL k ≤ 64 * costL k := Nat.mul_le_mul_right _ hsn2
      simp
      exact hq _ _ (hd'.le (by simp; omega)) (hP.all hroom hsn)
end On

set_option Elab.async false
set_option linter.all false
set_option maxRecDepth 100000
set_option maxHeartbeats 4000000
/-! P9: how fine tables are drawn. -/
namespace On
open PySem PySem.Spec L2
open En (e)
theorem Sc.at_mem {s : Sc} (nd : (s.notes.map (·.1)).Nodup) {r d : List Nat} (h : (r, d) ∈ s.notes) : s.at r = d := by
  unfold Sc.at
  generalize s.notes = l at nd h
  induction l with
  | nil => cases h
  | cons p l ih =>
    have nd' := List.nodup_cons.mp (by simpa using nd : (p.1 :: l.map (·.1)).Nodup)
    rcases List.mem_cons.mp h with e1 | h'
    · subst e1; simp
    · have : p.1 ≠ r := fun z => nd'.1 (z ▸ List.mem_map.mpr ⟨(r, d), h', rfl⟩)
      rw [List.find?_cons, decide_eq_false this]
      exact ih nd'.2 h'
theorem Sc.Ok.mem {s : Sc} (h : s.Ok) {r : List Nat} (hr : IsRow r s.sends) : (r, s.at r) ∈ s.notes := by
  obtain ⟨p, hp, h1, h2⟩ := h.find hr
  unfold Sc.at
  rw [h2]
  simpa [← h1] using hp
theorem fine_of {s : Sc} (h : s.Ok) (hf : ∀ p ∈ s.notes, ∀ q ∈ s.notes, p.1 ≠ q.1 → ∃ i : Nat, p.1[i]? ≠ q.1[i]? ∧ p.2[i]? = q.2[i]?) : s.Fine := fun a b ha hb hn => hf _ (h.mem ha) _ (h.mem hb) hn
theorem sizes_mem {l : List Nat} (h : prodF l ≤ 64) (hp : ∀ a ∈ l, 1 ≤ a) (ht : ∀ a ∈ l, a ≤ 64) : Sizes l := ⟨hp, ht, h⟩
theorem costL_le : ∀ k, k ≤ 6 → costL k ≤ 3000000000 := by decide
theorem kNodup_sc (a b c : D) : kNodup [(.inr "sends", a), (.inr "takes", b), (.inr "notes", c)] = true := by
  unfold kNodup
  simp only [List.map_cons, List.map_nil]
  decide
theorem led_W {sends takes : List Nat} (hs : Sizes sends) (h1 : 1 ≤ sends.length) (h6 : sends.length ≤ 6) (ht : takes.length = sends.length) (tpos : ∀ a ∈ takes, 1 ≤ a) (ttop : ∀ a ∈ takes, a ≤ 64)
    {t : Nat} {d : D} (hd : StOk t d) (htt : t + 3000000000 < 1099511627776) {Q : D → List D → Prop} {E : Str → List D → Prop}
    (hq : ∀ (d' : D) (s : Sc), StOk (t + 3000000000) d' → s.sends = sends → s.takes = takes → s.Ok → s.Fine → Q s.d [d']) : (m_law_led [d, e sends, e takes]).W Q E := by
  unfold m_law_led y_law_led
  have hc := costL_le sends.length h6
  simp [most_eq]
  have hsh : (D.ot []).sh = false := rfl
  simp [hsh, kNodup_sc]
  refine ⟨by omega, ?_⟩
  rw [show D.od [(.inr "sends", e sends), (.inr "takes", e takes), (.inr "notes", .ot [])] = scO sends takes [] from rfl]
  have hz : (D.od []).fz = .dk [] := fz_od (by simp)
  rw [hz]
  refine led_by_W hs h6 ht tpos ttop sends.length 10 (by omega) (List.range sends.length) (by simp) List.nodup_range (fun i hi => List.mem_range.mp hi) (fun _ => 0) (fun _ => 0) [] [] ⟨fun i hi hn => absurd (List.mem_range.mpr hi) hn, by simp, by simp⟩ ⟨fun i hi hn => absurd (List.mem_range.mpr hi) hn, by simp, by simp⟩
    (fun i n hi hin => absurd (List.mem_range.mpr (List.getElem?_eq_some_iff.mp hin).1) hi) (fun i n hi hin => absurd (List.mem_range.mpr (ht ▸ (List.getElem?_eq_some_iff.mp hin).1)) hi) t d hd (by omega) [] (by simp) (by simp) (by simp) fun d' new hd' hL => ?_
  simp
  have hk : ∀ r, r ∈ new.map (·.1) ↔ IsRow r sends := fun r => by
    rw [hL.keys]
    exact ⟨fun h => h.1, fun h => ⟨h, fun i hi hn => absurd (List.mem_range.mpr hi) hn⟩⟩
  have hok : (Sc.mk sends takes new).Ok := ⟨hs, h1, h6, ht, tpos, ttop, hk, hL.nd, fun p hp => (hL.del p hp).1⟩
  exact hq d' ⟨sends, takes, new⟩ (hd'.le (by omega)) rfl rfl hok (fine_of hok hL.fine)
def sizesL : List (List Nat) := [[2, 2], [2, 2, 2], [2, 2, 2], [3, 2], [3, 2, 2], [2, 1, 3], [4, 3], [3], [2, 2, 2, 2], [2, 3, 2]]
theorem sizes_W {t : Nat} {d : D} (h : StOk t d) (ht : t < 1099511627776) {Q : D → List D → Prop} {E : Str → List D → Prop}
    (hq : ∀ (s : List Nat) (d' : D), s ∈ sizesL → StOk (t + 1) d' → Q (e s) [d']) : (m_law_sizes [d]).W Q E := by
  simp [m_law_sizes, y_law_sizes, most_eq]
  rw [show D.lst [D.tup [e 2, e 2], D.tup [e 2, e 2, e 2], D.tup [e 2, e 2, e 2], D.tup [e 3, e 2], D.tup [e 3, e 2, e 2], D.tup [e 2, e 1, e 3], D.tup [e 4, e 3], e [3], D.tup [e 2, e 2, e 2, e 2], D.tup [e 2, e 3, e 2]] = eL sizesL from rfl]
  refine pick_W h ht (by decide) (by decide) fun s d' hs hd => ?_
  simp
  exact hq s d' hs hd
theorem some_takes_W {s : List Nat} (h6 : s.length ≤ 6) {t : Nat} {d : D} (h : StOk t d) (ht : t + 6 < 1099511627776) {Q : D → List D → Prop} {E : Str → List D → Prop}
    (hq : ∀ (l : List Nat) (d' : D), l.length = s.length → (∀ a ∈ l, 1 ≤ a) → (∀ a ∈ l, a ≤ 64) → StOk (t + 6) d' → Q (e l) [d']) : (m_law_some_takes [d, e s]).W Q E := by
  simp [m_law_some_takes, y_law_some_takes, most_eq]
  refine W_lc e s (fun pre ys ρ => ∃ d' l, ys = (l : List Nat).map e ∧ l.length = pre.length ∧ (∀ a ∈ l, 1 ≤ a) ∧ (∀ a ∈ l, a ≤ 64) ∧ StOk (t + pre.length) d' ∧ ρ = [some d', some (e s), none]) ⟨d, [], by simp, by simp, by simp, by simp, h, rfl⟩ ?_ ?_
  · rintro pre a post hp ys ρ ⟨d', l, rfl, hl, h1, h2, hd, rfl⟩
    have hpl : pre.length < 6 := by have := congrArg List.length hp; simp at this; omega
    simp [most_eq]
    have : D.lst [e 2, e 2, e 2, e 3, e 1, e 4] = eL [2, 2, 2, 3, 1, 4] := rfl
    rw [this]
    refine pick_W hd (by omega) (by simp) (by simp) fun k d2 hk hd2 => ?_
    simp
    refine ⟨d2, l ++ [k], by simp, by simp [hl], ?_, ?_, by simpa [Nat.add_assoc] using hd2, rfl⟩
    · intro a ha
      rcases List.mem_append.mp ha with ha | ha
      · exact h1 a ha
      · simp at ha; subst ha; simp at hk; omega
    · intro a ha
      rcases List.mem_append.mp ha with ha | ha
      · exact h2 a ha
      · simp at ha; subst ha; simp at hk; omega
  · rintro ys ρ ⟨d', l, rfl, hl, h1, h2, hd, rfl⟩
    simp
    exact ⟨by omega, hq l d' hl h1 h2 (hd.le (by omega))⟩
/-- the table of three rooms that turn -/
def turnSc : Sc := ⟨[2, 2, 2], [2, 2, 2], [([0, 0, 0], [0, 0, 0]), ([0, 0, 1], [1, 0, 0]), ([0, 1, 0], [0, 0, 1]), ([0, 1, 1], [0, 0, 1]), ([1, 0, 0], [0, 1, 0]), ([1, 0, 1], [1, 0, 0]), ([1, 1, 0], [0, 1, 0]), ([1, 1, 1], [0, 0, 0])]⟩
theorem m_law_turning_e : m_law_turning [] = .ok turnSc.d [] := by rfl
theorem turn_ok : turnSc.Ok := ⟨⟨by decide, by decide, by decide⟩, by decide, by decide, by decide, by decide, by decide, fun r => by
  have : turnSc.notes.map (·.1) = rowsF turnSc.sends := by decide
  rw [this]; exact mem_rows, by decide, by decide⟩
theorem turn_fine : turnSc.Fine := (left_nil turn_ok).mp (by decide +kernel)
end On

set_option Elab.async false
set_option linter.all false
set_option maxRecDepth 100000
set_option maxHeartbeats 4000000
/-! P10: tables beside each other, rooms mixed, tables seen through maps. -/
namespace On
open PySem PySem.Spec L2
open En (e)
theorem notes_items (l : List (List Nat × List Nat)) : (notesD l).items = some ((l.map (·.1)).map e) := by
  show some ((l.map eNote).map fun p => D.tup (p.1.map kD)) = _
  rw [List.map_map, List.map_map]
  congr 1
  apply List.map_congr_left
  intro p _
  show D.tup ((p.1.map kN).map kD) = D.tup (p.1.map e)
  rw [List.map_map]
  rfl
theorem isRow_append {r q a b : List Nat} (h1 : IsRow r a) (h2 : IsRow q b) : IsRow (r ++ q) (a ++ b) := by
  induction r generalizing a with
  | nil => cases a with
    | nil => exact h2
    | cons x a => exact h1.elim
  | cons x r ih => cases a with
    | nil => exact h1.elim
    | cons y a => exact ⟨h1.1, ih h1.2⟩
theorem isRow_split {x a b : List Nat} (h : IsRow x (a ++ b)) : ∃ r q, x = r ++ q ∧ IsRow r a ∧ IsRow q b := by
  induction a generalizing x with
  | nil => exact ⟨[], x, rfl, trivial, h⟩
  | cons y a ih => cases x with
    | nil => exact h.elim
    | cons z x =>
      obtain ⟨r, q, h1, h2, h3⟩ := ih h.2
      exact ⟨z :: r, q, by rw [h1]; rfl, ⟨h.1, h2⟩, h3⟩
def besideSc (s1 s2 : Sc) : Sc := ⟨s1.sends ++ s2.sends, s1.takes ++ s2.takes, (s1.notes.map (·.1)).flatMap fun r => (s2.notes.map (·.1)).map fun q => (r ++ q, s1.at r ++ s2.at q)⟩
theorem keys_row {s : Sc} (h : s.Ok) {r : List Nat} (hr : r ∈ s.notes.map (·.1)) : IsRow r s.sends := (h.keys r).mp hr
theorem beside_ok {s1 s2 : Sc} (h1 : s1.Ok) (h2 : s2.Ok) (hs : Sizes (s1.sends ++ s2.sends)) (hl : s1.sends.length + s2.sends.length ≤ 6) : (besideSc s1 s2).Ok := by
  refine ⟨hs, by have := h1.one; simp [besideSc]; omega, by simpa [besideSc] using hl, by simp [besideSc, h1.tlen, h2.tlen], ?_, ?_, fun r => ?_, ?_, ?_⟩
  · intro a ha
    rcases List.mem_append.mp ha with ha | ha
    · exact h1.tpos a ha
    · exact h2.tpos a ha
  · intro a ha
    rcases List.mem_append.mp ha with ha | ha
    · exact h1.ttop a ha
    · exact h2.ttop a ha
  · simp only [besideSc, List.mem_map, List.mem_flatMap]
    constructor
    · rintro ⟨p, ⟨r1, ⟨p1, hp1, rfl⟩, q1, ⟨p2, hp2, rfl⟩, rfl⟩, rfl⟩
      exact isRow_append (keys_row h1 (List.mem_map.mpr ⟨p1, hp1, rfl⟩)) (keys_row h2 (List.mem_map.mpr ⟨p2, hp2, rfl⟩))
    · intro hr
      obtain ⟨r1, q1, rfl, hr1, hq1⟩ := isRow_split hr
      obtain ⟨p1, hp1, e1⟩ := List.mem_map.mp ((h1.keys r1).mpr hr1)
      obtain ⟨p2, hp2, e2⟩ := List.mem_map.mp ((h2.keys q1).mpr hq1)
      exact ⟨_, ⟨r1, ⟨p1, hp1, e1⟩, q1, ⟨p2, hp2, e2⟩, rfl⟩, rfl⟩
  · simp only [besideSc, List.map_flatMap, List.map_map]
    refine nodup_flat _ _ h1.nd (fun r hr => ?_) fun a ha b hb x hx hy => ?_
    · have := nodup_map' (f := fun q => r ++ q) (fun a b z => List.append_cancel_left z) h2.nd
      rw [List.map_map] at this
      exact this
    · obtain ⟨c, hc, rfl⟩ := List.mem_map.mp hx
      obtain ⟨c', hc', z⟩ := List.mem_map.mp hy
      have la := (keys_row h1 ha).length
      have lb := (keys_row h1 hb).length
      exact ((List.append_inj z (by omega)).1).symm
  · intro p hp
    simp only [besideSc, List.mem_map, List.mem_flatMap] at hp
    obtain ⟨r1, ⟨p1, hp1, rfl⟩, q1, ⟨p2, hp2, rfl⟩, rfl⟩ := hp
    exact isRow_append (h1.atRow (keys_row h1 (List.mem_map.mpr ⟨p1, hp1, rfl⟩))) (h2.atRow (keys_row h2 (List.mem_map.mpr ⟨p2, hp2, rfl⟩)))
theorem beside_fine {s1 s2 : Sc} (h1 : s1.Ok) (h2 : s2.Ok) (f1 : s1.Fine) (f2 : s2.Fine) (ho : (besideSc s1 s2).Ok) : (besideSc s1 s2).Fine := by
  refine fine_of ho fun p hp q hq hne => ?_
  simp only [besideSc, List.mem_flatMap] at hp hq
  obtain ⟨r, hr, hp⟩ := hp
  obtain ⟨x, hx, rfl⟩ := List.mem_map.mp hp
  obtain ⟨r', hr', hq⟩ := hq
  obtain ⟨x', hx', rfl⟩ := List.mem_map.mp hq
  have hr := keys_row h1 hr
  have hr' := keys_row h1 hr'
  have hx := keys_row h2 hx
  have hx' := keys_row h2 hx'
  have l1 := hr.length
  have l2 := hr'.length
  have l3 := (h1.atRow hr).length
  have l4 := (h1.atRow hr').length
  have l5 := h1.tlen
  by_cases z : r = r'
  · subst z
    have zx : x ≠ x' := fun z => hne (by rw [z])
    obtain ⟨i, i1, i2⟩ := f2 x x' hx hx' zx
    refine ⟨r.length + i, ?_, ?_⟩
    · simpa [List.getElem?_append_right] using i1
    · have e1 : r.length = (s1.at r).length := by omega
      rw [e1]
      simpa [List.getElem?_append_right] using i2
  · obtain ⟨i, i1, i2⟩ := f1 r r' hr hr' z
    have hi : i < r.length := by
      rcases Nat.lt_or_ge i r.length with q | q
      · exact q
      · exact absurd (by rw [List.getElem?_eq_none q, List.getElem?_eq_none (by omega)]) i1
    refine ⟨i, ?_, ?_⟩
    · simpa [List.getElem?_append_left hi, List.getElem?_append_left (show i < r'.length by omega)] using i1
    · simpa [List.getElem?_append_left (show i < (s1.at r).length by omega), List.getElem?_append_left (show i < (s1.at r').length by omega)] using i2
theorem nodup_mid {α β : Type} {f : α → β} {A B : List α} {x : α} (h : ((A ++ x :: B).map f).Nodup) : f x ∉ A.map f := by
  rw [List.map_append, List.map_cons] at h
  intro z
  exact (List.nodup_append.mp h).2.2 _ z _ List.mem_cons_self rfl
theorem m_law_beside_e {s1 s2 : Sc} (h1 : s1.Ok) (h2 : s2.Ok) (hs : Sizes (s1.sends ++ s2.sends)) (hl : s1.sends.length + s2.sends.length ≤ 6) : m_law_beside [s1.d, s2.d] = .ok (besideSc s1 s2).d [] := by
  apply FR.W_eq
  have ho := beside_ok h1 h2 hs hl
  have n1 : s1.notes.length ≤ 64 := by
    have := nodup_len h1.nd fun r hr => mem_rows.mpr (keys_row h1 hr)
    have := h1.rlen
    simp at *; omega
  have n2 : s2.notes.length ≤ 64 := by
    have := nodup_len h2.nd fun r hr => mem_rows.mpr (keys_row h2 hr)
    have := h2.rlen
    simp at *; omega
  have hsh : (D.ot []).sh = false := rfl
  have t1 := h1.tlen
  have t2 := h2.tlen
  have o1 := h1.six
  have o2 := h2.six
  simp [m_law_beside, y_law_beside, dAdd_e (show s1.sends.length + s2.sends.length ≤ most by rw [most_eq]; omega), dAdd_e (show s1.takes.length + s2.takes.length ≤ most by rw [most_eq]; omega), hsh, kNodup_sc, notes_items, -List.map_map]
  rw [show D.od [(.inr "sends", e (s1.sends ++ s2.sends)), (.inr "takes", e (s1.takes ++ s2.takes)), (.inr "notes", .ot [])] = scO (s1.sends ++ s2.sends) (s1.takes ++ s2.takes) [] from rfl]
  have hnd := ho.nd
  have hlen : (besideSc s1 s2).notes.length ≤ 64 := by
    have := nodup_len ho.nd fun r hr => mem_rows.mpr (keys_row ho hr)
    have := ho.rlen
    simp at *; omega
  have hk1 := fun r (hr : r ∈ s1.notes.map (·.1)) => keys_row h1 hr
  have hk2 := fun r (hr : r ∈ s2.notes.map (·.1)) => keys_row h2 hr
  have hN : (besideSc s1 s2).notes = (s1.notes.map (·.1)).flatMap fun r => (s2.notes.map (·.1)).map fun q => (r ++ q, s1.at r ++ s2.at q) := rfl
  rw [hN] at hnd hlen
  have hE : (besideSc s1 s2).d = (Sc.mk (s1.sends ++ s2.sends) (s1.takes ++ s2.takes) ((s1.notes.map (·.1)).flatMap fun r => (s2.notes.map (·.1)).map fun q => (r ++ q, s1.at r ++ s2.at q))).d := rfl
  rw [hE]
  generalize s1.notes.map (·.1) = K1 at hnd hk1 hlen ⊢
  generalize hK2 : s2.notes.map (·.1) = K2 at hnd hk2 hlen ⊢
  refine W_for (e := e) K1 (fun pre ρ => ∃ o1 o2, ρ = [some s1.d, some s2.d, some (scO (s1.sends ++ s2.sends) (s1.takes ++ s2.takes) (pre.flatMap fun r => K2.map fun q => (r ++ q, s1.at r ++ s2.at q))), o1, o2]) ⟨none, none, rfl⟩ ?_ ?_
  · rintro pre r post hp ρ ⟨o1, o2, rfl⟩
    have hr := hk1 r (by rw [hp]; simp)
    simp [notes_items, hK2, -List.map_map]
    refine W_for (e := e) K2 (fun pre2 ρ => ∃ o2, ρ = [some s1.d, some s2.d, some (scO (s1.sends ++ s2.sends) (s1.takes ++ s2.takes) ((pre.flatMap fun r => K2.map fun q => (r ++ q, s1.at r ++ s2.at q)) ++ pre2.map fun q => (r ++ q, s1.at r ++ s2.at q))), some (e r), o2]) ⟨o2, by simp⟩ ?_ ?_
    · rintro pre2 q post2 hp2 ρ ⟨o2, rfl⟩
      have hq := hk2 q (by rw [hp2]; simp)
      have hsplit : (K1.flatMap fun r => K2.map fun q => (r ++ q, s1.at r ++ s2.at q)) = ((pre.flatMap fun r => K2.map fun q => (r ++ q, s1.at r ++ s2.at q)) ++ pre2.map fun q => (r ++ q, s1.at r ++ s2.at q)) ++ (r ++ q, s1.at r ++ s2.at q) :: ((post2.map fun q => (r ++ q, s1.at r ++ s2.at q)) ++ post.flatMap fun r => K2.map fun q => (r ++ q, s1.at r ++ s2.at q)) := by
        rw [hp, List.flatMap_append, List.flatMap_cons]
        have e2 : (K2.map fun q => (r ++ q, s1.at r ++ s2.at q)) = (pre2.map fun q => (r ++ q, s1.at r ++ s2.at q)) ++ (r ++ q, s1.at r ++ s2.at q) :: (post2.map fun q => (r ++ q, s1.at r ++ s2.at q)) := by rw [hp2]; simp
        generalize (pre.flatMap fun r => K2.map fun q => (r ++ q, s1.at r ++ s2.at q)) = A
        generalize (post.flatMap fun r => K2.map fun q => (r ++ q, s1.at r ++ s2.at q)) = B
        rw [e2]
        simp
      have la := (h1.atRow hr).length
      have lb := (h2.atRow hq).length
      have lr := hr.length
      have lq := hq.length
      simp [notes_at h1 hr, notes_at h2 hq, dAdd_e (show (s1.at r).length + (s2.at q).length ≤ most by rw [most_eq]; omega), gxPut_iff, dAdd_e (show r.length + q.length ≤ most by rw [most_eq]; omega), -List.map_append, -List.map_map]
      have hnew : r ++ q ∉ (((pre.flatMap fun r => K2.map fun q => (r ++ q, s1.at r ++ s2.at q)) ++ pre2.map fun q => (r ++ q, s1.at r ++ s2.at q)).map (·.1)) := by
        rw [hsplit] at hnd
        exact nodup_mid hnd
      rw [dPut_new hnew (by rw [hsplit] at hlen; rw [List.length_append, List.length_cons] at hlen; rw [most_eq]; omega)]
      refine ⟨_, ⟨_, rfl, rfl⟩, ?_⟩
      rw [sc_set]
      simp
    · rintro ρ ⟨o2, rfl⟩
      simp
  · rintro ρ ⟨o1, o2, rfl⟩
    simp
/-! rooms in another order -/
def permF (o r : List Nat) : List Nat := o.map fun i => r.getD i 0
theorem prodF_cons (a : Nat) (l : List Nat) : prodF (a :: l) = a * prodF l := by rw [show a :: l = [a] ++ l from rfl, prodF_append]; simp [prodF]
theorem prodF_perm {l m : List Nat} (h : l.Perm m) : prodF l = prodF m := by
  induction h with
  | nil => rfl
  | cons x _ ih => rw [prodF_cons, prodF_cons, ih]
  | swap x y l => rw [prodF_cons, prodF_cons, prodF_cons, prodF_cons, Nat.mul_left_comm]
  | trans _ _ h1 h2 => exact h1.trans h2
theorem permF_perm {o r : List Nat} (ho : o.Perm (List.range r.length)) : (permF o r).Perm r := by
  have h1 : (permF o r).Perm (permF (List.range r.length) r) := ho.map _
  have h2 : permF (List.range r.length) r = r := by
    unfold permF
    refine list_eq (by simp) fun i x hx => ?_
    have hi := (List.getElem?_eq_some_iff.mp hx).1
    simp [hi, hx]
    have := (List.getElem?_eq_some_iff.mp hx).2
    exact this
  rw [h2] at h1
  exact h1
theorem permF_get {o r : List Nat} {k i x : Nat} (hk : o[k]? = some i) (hx : r[i]? = some x) : (permF o r)[k]? = some x := by
  unfold permF
  rw [List.getElem?_map, hk]
  simp [hx]
theorem permF_row {o r s : List Nat} (ho : o.Perm (List.range s.length)) (h : IsRow r s) : IsRow (permF o r) (permF o s) := by
  refine isRow_iff.mpr ⟨by simp [permF], fun k x n hx hn => ?_⟩
  obtain ⟨i, hi⟩ := get_some (show k < o.length by have := (List.getElem?_eq_some_iff.mp hn).1; simpa [permF] using this)
  have hir : i < s.length := List.mem_range.mp (ho.mem_iff.mp (mem_of hi))
  obtain ⟨m, hm⟩ := get_some hir
  obtain ⟨y, hy⟩ := h.get hir
  rw [permF_get hi hm] at hn
  rw [permF_get hi hy] at hx
  cases hn; cases hx
  exact (isRow_iff.mp h).2 i _ _ hy hm
theorem permF_inj {o r r' : List Nat} {n : Nat} (ho : o.Perm (List.range n)) (h1 : r.length = n) (h2 : r'.length = n) (h : permF o r = permF o r') : r = r' := by
  refine list_eq (by omega) fun i x hx => ?_
  have hi : i < n := h2 ▸ (List.getElem?_eq_some_iff.mp hx).1
  obtain ⟨k, hk⟩ := List.mem_iff_getElem?.mp (ho.mem_iff.mpr (List.mem_range.mpr hi))
  obtain ⟨y, hy⟩ := get_some (show i < r.length by omega)
  have e1 := permF_get hk hx
  rw [← h, permF_get hk hy] at e1
  rw [hy]; exact e1
theorem nodup_full {α : Type} [DecidableEq α] {l m : List α} (hl : l.Nodup) (hs : ∀ a ∈ l, a ∈ m) (hn : m.length ≤ l.length) : ∀ a ∈ m, a ∈ l := by
  intro a ha
  rcases Classical.em (a ∈ l) with h | h
  · exact h
  · exfalso
    have := nodup_len (l := a :: l) (m := m) (List.nodup_cons.mpr ⟨h, hl⟩) fun b hb => by
      rcases List.mem_cons.mp hb with z | hb
      · exact z ▸ ha
      · exact hs b hb
    simp at this
    omega
def permSc (o : List Nat) (s : Sc) : Sc := ⟨permF o s.sends, permF o s.takes, (s.notes.map (·.1)).map fun r => (permF o r, permF o (s.at r))⟩
theorem perm_ok {o : List Nat} {s : Sc} (h : s.Ok) (ho : o.Perm (List.range s.sends.length)) : (permSc o s).Ok := by
  have hp := permF_perm ho
  have hp2 : (permF o s.takes).Perm s.takes := permF_perm (h.tlen ▸ ho)
  have hnd : ((permSc o s).notes.map (·.1)).Nodup := by
    simp only [permSc, List.map_map]
    have : ∀ l : List (List Nat), l.Nodup → (∀ r ∈ l, r.length = s.sends.length) → (l.map (permF o)).Nodup := by
      intro l hl hlen
      induction l with
      | nil => simp
      | cons a l ih =>
        have hl := List.nodup_cons.mp hl
        rw [List.map_cons]
        refine List.nodup_cons.mpr ⟨fun z => ?_, ih hl.2 fun r hr => hlen r (List.mem_cons_of_mem _ hr)⟩
        obtain ⟨b, hb, e1⟩ := List.mem_map.mp z
        have := permF_inj ho (hlen b (List.mem_cons_of_mem _ hb)) (hlen a List.mem_cons_self) e1
        exact hl.1 (this ▸ hb)
    have := this _ h.nd fun r hr => (keys_row h hr).length
    rw [List.map_map] at this
    exact this
  have hsub : ∀ r ∈ (permSc o s).notes.map (·.1), IsRow r (permF o s.sends) := by
    intro r hr
    simp only [permSc, List.map_map, List.mem_map] at hr
    obtain ⟨p, hp, rfl⟩ := hr
    exact permF_row ho (keys_row h (List.mem_map.mpr ⟨p, hp, rfl⟩))
  have hlen : (rowsF (permF o s.sends)).length ≤ ((permSc o s).notes.map (·.1)).length := by
    rw [rowsF_length, prodF_perm hp, ← rowsF_length]
    have := nodup_len (nodup_rows s.sends) fun r hr => (h.keys r).mpr (mem_rows.mp hr)
    simpa [permSc] using this
  refine ⟨⟨fun a ha => h.sz.pos a (hp.mem_iff.mp ha), fun a ha => h.sz.top a (hp.mem_iff.mp ha), by show prodF (permF o s.sends) ≤ 64; rw [prodF_perm hp]; exact h.sz.prod⟩, by show 1 ≤ (permF o s.sends).length; rw [hp.length_eq]; exact h.one, by show (permF o s.sends).length ≤ 6; rw [hp.length_eq]; exact h.six, by simp [permSc, permF], fun a ha => h.tpos a (hp2.mem_iff.mp ha), fun a ha => h.ttop a (hp2.mem_iff.mp ha), fun r => ⟨hsub r, fun hr => ?_⟩, hnd, fun p hp => ?_⟩
  · exact nodup_full hnd (fun r hr => mem_rows.mpr (hsub r hr)) hlen r (mem_rows.mpr hr)
  · simp only [permSc, List.mem_map] at hp
    obtain ⟨r, ⟨q, hq, rfl⟩, rfl⟩ := hp
    exact permF_row (h.tlen ▸ ho) (h.atRow (keys_row h (List.mem_map.mpr ⟨q, hq, rfl⟩)))
theorem perm_fine {o : List Nat} {s : Sc} (h : s.Ok) (f : s.Fine) (ho : o.Perm (List.range s.sends.length)) : (permSc o s).Fine := by
  refine fine_of (perm_ok h ho) fun p hp q hq hne => ?_
  simp only [permSc] at hp hq
  obtain ⟨r, hr, rfl⟩ := List.mem_map.mp hp
  obtain ⟨r', hr', rfl⟩ := List.mem_map.mp hq
  have hr := keys_row h hr
  have hr' := keys_row h hr'
  obtain ⟨i, i1, i2⟩ := f r r' hr hr' fun z => hne (by rw [z])
  have hi : i < s.sends.length := by
    rcases Nat.lt_or_ge i s.sends.length with q | q
    · exact q
    · exact absurd (by rw [List.getElem?_eq_none (hr.length ▸ q), List.getElem?_eq_none (hr'.length ▸ q)]) i1
  obtain ⟨k, hk⟩ := List.mem_iff_getElem?.mp (ho.mem_iff.mpr (List.mem_range.mpr hi))
  obtain ⟨x, hx⟩ := hr.get hi
  obtain ⟨y, hy⟩ := hr'.get hi
  obtain ⟨z, hz⟩ := (h.atRow hr).get (show i < s.takes.length by rw [h.tlen]; exact hi)
  refine ⟨k, ?_, ?_⟩
  · show (permF o r)[k]? ≠ (permF o r')[k]?
    rw [permF_get hk hx, permF_get hk hy, ← hx, ← hy]; exact i1
  · show (permF o (s.at r))[k]? = (permF o (s.at r'))[k]?
    rw [permF_get hk hz, permF_get hk (i2 ▸ hz)]
end On

set_option Elab.async false
set_option linter.all false
set_option maxRecDepth 100000
set_option maxHeartbeats 4000000
/-! P11: how fine tables are drawn, on. -/
namespace On
open PySem PySem.Spec L2
open En (e)
theorem dPut_notes (s t : D) : dPut (.od [(.inr "sends", s), (.inr "takes", t)]) (.str "notes") (.ot []) = some (.od [(.inr "sends", s), (.inr "takes", t), (.inr "notes", .ot [])]) := rfl
theorem xDisp2 (a b : D) : mergeD [] [((.inr "sends" : Key), a), (.inr "takes", b)] = [(.inr "sends", a), (.inr "takes", b)] := rfl
theorem notes_le {s : Sc} (h : s.Ok) : s.notes.length ≤ 64 := by
  have := nodup_len h.nd fun r hr => mem_rows.mpr (keys_row h hr)
  have := h.rlen
  simp at *; omega
theorem lc_perm {ρ : Rho} {o r : List Nat} (hr : ∀ i ∈ o, i < r.length) {x : Xx} {vs : List Nat} {g : Gx} {t : Bx}
    (hs : ∀ i ∈ o, ∃ ρ1, g (e i) ρ = some ρ1 ∧ (t ρ1).W (fun k ρ2 => k = true ∧ (x ρ2).W (fun y ρ3 => some y = (r[i]?).map e ∧ wipeR ρ3 vs = ρ) (fun _ _ => False)) (fun _ _ => False)) : lcL vs g t x (o.map e) ρ = .ok ((permF o r).map e) ρ := by
  refine lcL_all e o (fun i => r.getD i 0) fun i hi => ?_
  obtain ⟨ρ1, h1, h2⟩ := hs i hi
  obtain ⟨y, hy⟩ := get_some (hr i hi)
  refine ⟨ρ1, h1, h2.mono (fun k ρ2 q => ⟨q.1, q.2.mono (fun z ρ3 q => ⟨?_, q.2⟩) fun _ _ q => q⟩) fun _ _ q => q⟩
  rw [hy] at q
  simp [hy]
  simpa using q.1
theorem rooms_mixed_W {s : Sc} (h : s.Ok) (f : s.Fine) {t : Nat} {d : D} (hd : StOk t d) (htt : t + 6 < 1099511627776) {Q : D → List D → Prop} {E : Str → List D → Prop}
    (hq : ∀ (d' : D) (o : List Nat), StOk (t + 6) d' → o.Perm (List.range s.sends.length) → Q (permSc o s).d [d']) : (m_law_rooms_mixed [d, s.d]).W Q E := by
  have h6 := h.six
  have htl := h.tlen
  have hnl := notes_le h
  unfold m_law_rooms_mixed y_law_rooms_mixed
  rw [W_runF]
  refine W_seq (P := fun ρ => ∃ d' o, StOk (t + 6) d' ∧ o.Perm (List.range s.sends.length) ∧ ρ = [some d', some s.d, some (eL o), none, none, none, none]) ?_ ?_
  · simp
    refine ⟨by omega, ?_⟩
    refine mixed_W (α := Nat) (by decide) hd (l := List.range s.sends.length) (by simp; omega) (by simp; omega) fun o d' ho hd' => ?_
    simp
    exact ⟨d', hd'.le (by simp; omega), o, ho, rfl, rfl⟩
  rintro ρ ⟨d', o, hd', ho, rfl⟩
  have hol : o.length = s.sends.length := by simpa using ho.length_eq
  have hoi : ∀ i ∈ o, i < s.sends.length := fun i hi => List.mem_range.mp (ho.mem_iff.mp hi)
  refine W_seq (P := fun ρ => ρ = [some d', some s.d, some (eL o), some (.od [(.inr "sends", e (permF o s.sends)), (.inr "takes", e (permF o s.takes))]), none, none, none]) ?_ ?_
  · simp
    rw [lc_perm hoi]
    · simp [most_eq]
      refine ⟨by simp [permF]; omega, ?_⟩
      rw [lc_perm (r := s.takes) (fun i hi => by have := hoi i hi; omega)]
      · simp [most_eq, permF, xDisp2]
        omega
      · intro i hi
        obtain ⟨y, hy⟩ := get_some (show i < s.takes.length by have := hoi i hi; omega)
        simp [hy]
    · intro i hi
      obtain ⟨y, hy⟩ := get_some (hoi i hi)
      simp [hy]
  rintro ρ rfl
  refine W_seq (P := fun ρ => ρ = [some d', some s.d, some (eL o), some (scO (permF o s.sends) (permF o s.takes) []), none, none, none]) ?_ ?_
  · simp [dPut_notes]
    rfl
  rintro ρ rfl
  simp [notes_items, -List.map_map]
  have hok := perm_ok h ho
  have hnd := hok.nd
  have hlen := notes_le hok
  have hE : (permSc o s).d = (Sc.mk (permF o s.sends) (permF o s.takes) ((s.notes.map (·.1)).map fun r => (permF o r, permF o (s.at r)))).d := rfl
  have hN : (permSc o s).notes = (s.notes.map (·.1)).map fun r => (permF o r, permF o (s.at r)) := rfl
  rw [hN] at hnd hlen
  have hq := hq d' o hd' ho
  rw [hE] at hq
  have hk := fun r (hr : r ∈ s.notes.map (·.1)) => keys_row h hr
  generalize s.notes.map (·.1) = K at hnd hk hlen hq ⊢
  refine W_for (e := e) K (fun pre ρ => ∃ o1 o2, ρ = [some d', some s.d, some (eL o), some (scO (permF o s.sends) (permF o s.takes) (pre.map fun r => (permF o r, permF o (s.at r)))), o1, o2, none]) ⟨none, none, rfl⟩ ?_ ?_
  · rintro pre r post hp ρ ⟨o1, o2, rfl⟩
    have hr := hk r (by rw [hp]; simp)
    have hrl := hr.length
    have har := h.atRow hr
    have hal := har.length
    have hsp : (K.map fun r => (permF o r, permF o (s.at r))) = (pre.map fun r => (permF o r, permF o (s.at r))) ++ (permF o r, permF o (s.at r)) :: (post.map fun r => (permF o r, permF o (s.at r))) := by rw [hp]; simp
    rw [hsp] at hnd hlen
    simp only [List.map_append, List.map_cons, List.map_nil]
    generalize (pre.map fun r => (permF o r, permF o (s.at r))) = A at hnd hlen ⊢
    simp [notes_at h hr]
    rw [lc_perm (r := s.at r) (fun i hi => by have := hoi i hi; omega)]
    · simp [most_eq, gxPut_iff]
      refine ⟨by simp [permF]; omega, ?_⟩
      rw [lc_perm (r := r) (fun i hi => by have := hoi i hi; omega)]
      · simp [most_eq, -List.map_map]
        rw [dPut_new (nodup_mid hnd) (by rw [List.length_append, List.length_cons] at hlen; rw [most_eq]; omega)]
        refine ⟨_, ⟨by simp [permF]; omega, _, rfl, rfl⟩, ?_⟩
        rw [sc_set]
        simp
      · intro i hi
        obtain ⟨y, hy⟩ := get_some (show i < r.length by have := hoi i hi; omega)
        simp [hy]
    · intro i hi
      obtain ⟨y, hy⟩ := get_some (show i < (s.at r).length by have := hoi i hi; omega)
      simp [hy]
  · rintro ρ ⟨o1, o2, rfl⟩
    simp
    exact hq
end On

set_option Elab.async false
set_option linter.all false
set_option maxRecDepth 100000
set_option maxHeartbeats 4000000
/-! P12: tables seen through maps. -/
namespace On
open PySem PySem.Spec L2
open En (e)
theorem lc_draws {ρ' : Rho} {w n b t : Nat} {xb : Xx} {d : D} (hw : w < ρ'.length) (hr : ρ'.set w none = ρ') (hb : ∀ d' a, xb (some d' :: ρ'.set w (some a)) = .ok (e b) (some d' :: ρ'.set w (some a)))
    (hd : StOk t d) (ht : t + n < 1099511627776) (b0 : 0 < b) (b1 : b < 1073741824) {QA : List D → Rho → Prop} {E : Str → Rho → Prop}
    (hq : ∀ (l : List Nat) (d' : D), l.length = n → (∀ a ∈ l, a < b) → StOk (t + n) d' → QA (l.map e) (some d' :: ρ')) :
    (lcL [w + 1] (gxName (w + 1)) bYes (xCall m_law_draw [some 0, none] (aMut 0 (aCons xb aNil))) ((List.range n).map e) (some d :: ρ')).W QA E := by
  refine W_lc e (List.range n) (fun pre ys ρ => ∃ d' l, ys = (l : List Nat).map e ∧ l.length = pre.length ∧ (∀ a ∈ l, a < b) ∧ StOk (t + pre.length) d' ∧ ρ = some d' :: ρ') ⟨d, [], by simp, by simp, by simp, by simpa using hd, rfl⟩ ?_ ?_
  · rintro pre a post hp ys ρ ⟨d', l, rfl, hl, h1, hd', rfl⟩
    have hpl : pre.length < n := by have := congrArg List.length hp; simp at this; omega
    simp [hb, hw]
    refine draw_W hd' (by omega) b0 b1 fun k d2 hk hd2 => ?_
    simp [hr]
    refine ⟨d2, l ++ [k], by simp, by simp [hl], ?_, by simpa [Nat.add_assoc] using hd2, rfl⟩
    intro a ha
    rcases List.mem_append.mp ha with ha | ha
    · exact h1 a ha
    · simp at ha; subst ha; exact hk
  · rintro ys ρ ⟨d', l, rfl, hl, h1, hd', rfl⟩
    simp at hl hd'
    exact hq l d' hl h1 hd'
theorem dCut_to {α : Type} [En α] (l : List α) (i : Nat) : dCut (eL l) none (some (i : Int)) = some (eO (l.take i)) := by
  unfold eL dCut cutD eO
  simp only [HT.sIx_nat, HT.sIx_none, List.length_map]
  congr 2
  rw [← List.map_drop, ← List.map_take]
  congr 1
  simp
theorem map_W {many old t : Nat} {d : D} (hm : many ≤ 64) (ho : 1 ≤ old) (ho2 : old ≤ 64) (hd : StOk t d) (ht : t + 300 < 1099511627776) {Q : D → List D → Prop} {E : Str → List D → Prop}
    (hq : ∀ (l : List Nat) (d' : D), l.length = many → (∀ a ∈ l, a < old) → StOk (t + 300) d' → Q (eL l) [d']) : (m_law_map [d, e many, e old]).W Q E := by
  unfold m_law_map y_law_map
  rw [W_runF]
  have hf := fRng1_e many (by omega)
  refine W_seq (P := fun ρ => ∃ d', StOk (t + 100) d' ∧ ρ = [some d', some (e many), some (e old), none]) ?_ ?_
  · simp
    refine draw_W hd (by omega) (by omega) (by omega) fun k d1 hk hd1 => ?_
    simp [hf]
    cases k with
    | zero =>
      simp
      refine lc_draws (w := 2) (ρ' := [some (e many), some (e old), none]) (b := old) (by simp) rfl (fun d' a => XR.W_eq (by simp)) hd1 (by omega) (by omega) (by omega) fun l d2 hl hlt hd2 => ?_
      simp [most_eq]
      exact ⟨by omega, hq l d2 hl hlt (hd2.le (by omega))⟩
    | succ k =>
      simp
      exact hd1.le (by omega)
  rintro ρ ⟨d', hd', rfl⟩
  simp
  refine ⟨by omega, ?_⟩
  refine mixed_W (α := Nat) (by decide) hd' (l := List.range old) (by simp; omega) (by simp; omega) fun l1 d1 hp1 hd1 => ?_
  simp at hd1
  have hl1 := hp1.length_eq
  simp at hl1
  simp [hf]
  refine lc_draws (w := 2) (ρ' := [some (e many), some (e old), none]) (b := old) (by simp) rfl (fun d' a => XR.W_eq (by simp)) hd1 (by omega) (by omega) (by omega) fun l2 d2 hl2 hlt hd2 => ?_
  simp [most_eq]
  refine ⟨by omega, ?_⟩
  rw [dAdd_eL (by rw [most_eq]; omega)]
  simp [dCut_to]
  have hlen : ((l1 ++ l2).take many).length = many := by simp; omega
  refine mixed_W (α := Nat) (by decide) hd2 (by omega) (by omega) fun l3 d3 hp3 hd3 => ?_
  simp
  refine hq l3 d3 (hp3.length_eq.trans hlen) (fun a ha => ?_) (hd3.le (by omega))
  have := List.mem_of_mem_take (hp3.mem_iff.mp ha)
  rcases List.mem_append.mp this with h | h
  · exact List.mem_range.mp (hp1.mem_iff.mp h)
  · exact hlt a h
/-! through maps -/
def thrF (m : List (List Nat)) (r : List Nat) : List Nat := (m.zip r).map fun p => p.1.getD p.2 0
/-- maps: one for each size, into the old ones -/
def MapsOk : List (List Nat) → List Nat → List Nat → Prop
  | [], [], [] => True
  | m :: ms, n :: s, o :: old => (m.length = n ∧ ∀ a ∈ m, a < o) ∧ MapsOk ms s old
  | _, _, _ => False
theorem MapsOk.row : ∀ {m : List (List Nat)} {s old r : List Nat}, MapsOk m s old → IsRow r s → IsRow (thrF m r) old
  | [], [], [], [], _, _ => trivial
  | m :: ms, n :: s, o :: old, x :: r, h, hr => by
    obtain ⟨y, hy⟩ := get_some (show x < m.length by rw [h.1.1]; exact hr.1)
    refine ⟨?_, MapsOk.row (m := ms) (r := r) h.2 hr.2⟩
    show m.getD x 0 < o
    rw [getD_of hy]
    exact h.1.2 y (mem_of hy)
  | [], [], [], _ :: _, _, h => h.elim
  | _ :: _, _ :: _, _ :: _, [], _, h => h.elim
  | [], [], _ :: _, _, h, _ => h.elim
  | [], _ :: _, [], _, h, _ => h.elim
  | [], _ :: _, _ :: _, _, h, _ => h.elim
  | _ :: _, [], [], _, h, _ => h.elim
  | _ :: _, [], _ :: _, _, h, _ => h.elim
  | _ :: _, _ :: _, [], _, h, _ => h.elim
theorem MapsOk.note : ∀ {m : List (List Nat)} {s old r : List Nat}, MapsOk m s old → IsRow r s → ∀ p ∈ m.zip r, ∃ y, p.1[p.2]? = some y
  | m :: ms, n :: s, o :: old, x :: r, h, hr, p, hp => by
    rw [List.zip_cons_cons] at hp
    rcases List.mem_cons.mp hp with e1 | hp
    · rw [e1]; exact get_some (show x < m.length by rw [h.1.1]; exact hr.1)
    · exact MapsOk.note h.2 hr.2 p hp
  | [], _, _, r, _, _, p, hp => by simp at hp
  | _ :: _, _, _, [], _, _, p, hp => by simp at hp
  | _ :: _, [], _, _ :: _, _, h, _, _ => h.elim
  | _ :: _, _ :: _, [], _, h, _, _, _ => h.elim
theorem MapsOk.length : ∀ {m : List (List Nat)} {s old : List Nat}, MapsOk m s old → m.length = s.length ∧ old.length = s.length
  | [], [], [], _ => ⟨rfl, rfl⟩
  | _ :: ms, _ :: s, _ :: old, h => by have := MapsOk.length (m := ms) (s := s) (old := old) h.2; simp [this.1, this.2]
  | [], [], _ :: _, h => h.elim
  | [], _ :: _, [], h => h.elim
  | [], _ :: _, _ :: _, h => h.elim
  | _ :: _, [], [], h => h.elim
  | _ :: _, [], _ :: _, h => h.elim
  | _ :: _, _ :: _, [], h => h.elim
theorem thrF_get {m : List (List Nat)} {r : List Nat} {i : Nat} {a : List Nat} {x : Nat} (h1 : m[i]? = some a) (h2 : r[i]? = some x) : (thrF m r)[i]? = some (a.getD x 0) := by
  unfold thrF
  rw [List.getElem?_map, List.getElem?_zip_eq_some.mpr (show m[i]? = some (a, x).1 ∧ r[i]? = some (a, x).2 from ⟨h1, h2⟩)]
  rfl
def throughSc (s : Sc) (sends takes : List Nat) (inner outer : List (List Nat)) : Sc := ⟨sends, takes, (rowsF sends).map fun r => (r, thrF outer (s.at (thrF inner r)))⟩
theorem through_ok {s : Sc} (h : s.Ok) {sends takes : List Nat} {inner outer : List (List Nat)} (hs : Sizes sends) (h1 : 1 ≤ sends.length) (h6 : sends.length ≤ 6) (ht : takes.length = sends.length) (tp : ∀ a ∈ takes, 1 ≤ a) (tt : ∀ a ∈ takes, a ≤ 64)
    (hi : MapsOk inner sends s.sends) (ho : MapsOk outer s.takes takes) : (throughSc s sends takes inner outer).Ok := by
  have hk : (throughSc s sends takes inner outer).notes.map (·.1) = rowsF sends := by simp [throughSc, Function.comp_def]
  refine ⟨hs, h1, h6, ht, tp, tt, fun r => by rw [hk]; exact mem_rows, by rw [hk]; exact nodup_rows _, fun p hp => ?_⟩
  simp only [throughSc, List.mem_map] at hp
  obtain ⟨r, hr, rfl⟩ := hp
  exact ho.row (h.atRow (hi.row (mem_rows.mp hr)))
theorem through_fine {s : Sc} (h : s.Ok) (f : s.Fine) {sends takes : List Nat} {inner outer : List (List Nat)} (hi : MapsOk inner sends s.sends) (ho : MapsOk outer s.takes takes) (hok : (throughSc s sends takes inner outer).Ok) : (throughSc s sends takes inner outer).Fine := by
  refine fine_of hok fun p hp q hq hne => ?_
  simp only [throughSc] at hp hq
  obtain ⟨r, hr, rfl⟩ := List.mem_map.mp hp
  obtain ⟨r', hr', rfl⟩ := List.mem_map.mp hq
  have hr := mem_rows.mp hr
  have hr' := mem_rows.mp hr'
  have hne : r ≠ r' := hne
  have hlr := hr.length
  have hlr' := hr'.length
  by_cases z : thrF inner r = thrF inner r'
  · rcases Classical.em (∃ i : Nat, r[i]? ≠ r'[i]?) with ⟨i, hi⟩ | hn
    · exact ⟨i, hi, by simp only; rw [z]⟩
    · exact absurd (List.ext_getElem? fun i => Classical.byContradiction fun q => hn ⟨i, q⟩) hne
  · obtain ⟨i, i1, i2⟩ := f _ _ (hi.row hr) (hi.row hr') z
    have hil := hi.length
    have hlt : i < sends.length := by
      rcases Nat.lt_or_ge i sends.length with q | q
      · exact q
      · refine absurd ?_ i1
        rw [List.getElem?_eq_none (by rw [(hi.row hr).length]; omega), List.getElem?_eq_none (by rw [(hi.row hr').length]; omega)]
    obtain ⟨a, ha⟩ := get_some (show i < inner.length by omega)
    obtain ⟨x, hx⟩ := hr.get hlt
    obtain ⟨y, hy⟩ := hr'.get hlt
    rw [thrF_get ha hx, thrF_get ha hy] at i1
    have hol := ho.length
    have htl := h.tlen
    obtain ⟨b, hb⟩ := get_some (show i < outer.length by omega)
    obtain ⟨u, hu⟩ := (h.atRow (hi.row hr)).get (show i < s.takes.length by omega)
    refine ⟨i, ?_, ?_⟩
    · simp only
      rw [hx, hy]
      intro q
      cases q
      exact i1 rfl
    · simp only
      rw [thrF_get hb hu, thrF_get hb (i2 ▸ hu)]
end On

set_option Elab.async false
set_option linter.all false
set_option maxRecDepth 100000
set_option maxHeartbeats 4000000
/-! P13: the fine tables of the law. -/
namespace On
open PySem PySem.Spec L2
open En (e)
theorem mApp_raw {l : List D} (d : D) (h : l.length < most) : mApp (.ol l) [d] = some (.ol (l ++ [d]), .non) := by simp [mApp, h]
theorem fz_maps (m : List (List Nat)) : (D.ol (m.map eL)).fz = .lst (m.map eL) := by
  rw [fz_ol, fzL_sh]
  intro d hd
  obtain ⟨a, _, rfl⟩ := List.mem_map.mp hd
  simp
def eMN (p : List Nat × Nat) : D := .tup [eL p.1, e p.2]
theorem fZip_maps (m : List (List Nat)) (r : List Nat) : fZip [.lst (m.map eL), e r] = some ((m.zip r).map eMN) := by
  show some (((m.map eL).zip (r.map e)).map pair2) = _
  rw [List.zip_map, List.map_map]; rfl
theorem MapsOk.snoc : ∀ {m : List (List Nat)} {s old : List Nat} {x : List Nat} {n o : Nat}, MapsOk m s old → x.length = n → (∀ a ∈ x, a < o) → MapsOk (m ++ [x]) (s ++ [n]) (old ++ [o])
  | [], [], [], _, _, _, _, h1, h2 => ⟨⟨h1, h2⟩, trivial⟩
  | _ :: ms, _ :: s, _ :: old, _, _, _, h, h1, h2 => ⟨h.1, MapsOk.snoc (m := ms) (s := s) (old := old) h.2 h1 h2⟩
  | [], [], _ :: _, _, _, _, h, _, _ => h.elim
  | [], _ :: _, [], _, _, _, h, _, _ => h.elim
  | [], _ :: _, _ :: _, _, _, _, h, _, _ => h.elim
  | _ :: _, [], [], _, _, _, h, _, _ => h.elim
  | _ :: _, [], _ :: _, _, _, _, h, _, _ => h.elim
  | _ :: _, _ :: _, [], _, _, _, h, _, _ => h.elim
theorem zip_fst {α β : Type} {l : List α} {m : List β} (h : l.length = m.length) : (l.zip m).map (·.1) = l := List.map_fst_zip (Nat.le_of_eq h)
theorem zip_snd {α β : Type} {l : List α} {m : List β} (h : l.length = m.length) : (l.zip m).map (·.2) = m := List.map_snd_zip (Nat.le_of_eq h.symm)
theorem through_W {s : Sc} (h : s.Ok) {sends takes : List Nat} (hs : Sizes sends) (h1 : 1 ≤ sends.length) (h6 : sends.length = s.sends.length) (ht : takes.length = s.takes.length) (tp : ∀ a ∈ takes, 1 ≤ a) (tt : ∀ a ∈ takes, a ≤ 64)
    {t : Nat} {d : D} (hd : StOk t d) (htt : t + 4000 < 1099511627776) {Q : D → List D → Prop} {E : Str → List D → Prop}
    (hq : ∀ (d' : D) (inner outer : List (List Nat)), StOk (t + 4000) d' → MapsOk inner sends s.sends → MapsOk outer s.takes takes → Q (throughSc s sends takes inner outer).d [d']) : (m_law_through [d, s.d, e sends, e takes]).W Q E := by
  have o6 := h.six
  have otl := h.tlen
  unfold m_law_through y_law_through
  rw [W_runF]
  refine W_seq (P := fun ρ => ρ = [some d, some s.d, some (e sends), some (e takes), some (.ol []), none, none, none, none, none, none, none, none, none]) (by simp [most_eq]) ?_
  rintro ρ rfl
  refine W_seq (P := fun ρ => ∃ d' inner o8 o9, StOk (t + 2000) d' ∧ MapsOk inner sends s.sends ∧ ρ = [some d', some s.d, some (e sends), some (e takes), some (.ol (inner.map eL)), none, none, none, o8, o9, none, none, none, none]) ?_ ?_
  · simp
    refine W_for (e := e) (sends.zip s.sends) (fun pre ρ => ∃ d' inner o8 o9, StOk (t + 300 * pre.length) d' ∧ MapsOk inner (pre.map (·.1)) (pre.map (·.2)) ∧ ρ = [some d', some s.d, some (e sends), some (e takes), some (.ol (inner.map eL)), none, none, none, o8, o9, none, none, none, none]) ⟨d, [], none, none, by simpa using hd, trivial, rfl⟩ ?_ ?_
    · rintro pre ⟨n, o⟩ post hp ρ ⟨d', inner, o8, o9, hd', hm, rfl⟩
      have hmem : (n, o) ∈ sends.zip s.sends := by rw [hp]; simp
      have hn := hs.top n (List.of_mem_zip hmem).1
      have ho := h.sz.top o (List.of_mem_zip hmem).2
      have ho1 := h.sz.pos o (List.of_mem_zip hmem).2
      have hpl : pre.length < 6 := by have := congrArg List.length hp; simp at this; omega
      have hil := hm.length.1
      simp at hil
      simp [e_pair]
      refine map_W hn ho1 ho hd' (by omega) fun l d2 hl hlt hd2 => ?_
      simp
      rw [mApp_raw _ (by rw [most_eq]; simp; omega)]
      simp
      exact ⟨d2, by rw [Nat.mul_add]; simpa [Nat.add_assoc] using hd2, inner ++ [l], by simpa using hm.snoc hl hlt, rfl, by simp⟩
    · rintro ρ ⟨d', inner, o8, o9, hd', hm, rfl⟩
      rw [zip_fst h6, zip_snd h6] at hm
      refine ⟨d', hd'.le (by have := zip_le sends s.sends; omega), inner, hm, o8, o9, rfl⟩
  rintro ρ ⟨d1, inner, o8, o9, hd1, hin, rfl⟩
  refine W_seq (P := fun ρ => ρ = [some d1, some s.d, some (e sends), some (e takes), some (.ol (inner.map eL)), some (.ol []), none, none, o8, o9, none, none, none, none]) (by simp [most_eq]) ?_
  rintro ρ rfl
  refine W_seq (P := fun ρ => ∃ d' outer o8 o9, StOk (t + 4000) d' ∧ MapsOk outer s.takes takes ∧ ρ = [some d', some s.d, some (e sends), some (e takes), some (.ol (inner.map eL)), some (.ol (outer.map eL)), none, none, o8, o9, none, none, none, none]) ?_ ?_
  · simp
    refine W_for (e := e) (takes.zip s.takes) (fun pre ρ => ∃ d' outer o8 o9, StOk (t + 2000 + 300 * pre.length) d' ∧ MapsOk outer (pre.map (·.2)) (pre.map (·.1)) ∧ ρ = [some d', some s.d, some (e sends), some (e takes), some (.ol (inner.map eL)), some (.ol (outer.map eL)), none, none, o8, o9, none, none, none, none]) ⟨d1, [], o8, o9, by simpa using hd1, trivial, rfl⟩ ?_ ?_
    · rintro pre ⟨n, o⟩ post hp ρ ⟨d', outer, o8, o9, hd', hm, rfl⟩
      have hmem : (n, o) ∈ takes.zip s.takes := by rw [hp]; simp
      have hn := tt n (List.of_mem_zip hmem).1
      have hn1 := tp n (List.of_mem_zip hmem).1
      have ho := h.ttop o (List.of_mem_zip hmem).2
      have hpl : pre.length < 6 := by have := congrArg List.length hp; simp at this; omega
      have hil := hm.length.1
      simp at hil
      simp [e_pair]
      refine map_W ho hn1 hn hd' (by omega) fun l d2 hl hlt hd2 => ?_
      simp
      rw [mApp_raw _ (by rw [most_eq]; simp; omega)]
      simp
      exact ⟨d2, by rw [Nat.mul_add]; simpa [Nat.add_assoc] using hd2, outer ++ [l], by simpa using hm.snoc hl hlt, rfl, by simp⟩
    · rintro ρ ⟨d', outer, o8, o9, hd', hm, rfl⟩
      rw [zip_fst ht, zip_snd ht] at hm
      refine ⟨d', hd'.le (by have := zip_le takes s.takes; omega), outer, hm, o8, o9, rfl⟩
  rintro ρ ⟨d2, outer, o8', o9', hd2, hou, rfl⟩
  refine W_seq (P := fun ρ => ρ = [some d2, some s.d, some (e sends), some (e takes), some (.ol (inner.map eL)), some (.ol (outer.map eL)), some (scO sends takes []), none, o8', o9', none, none, none, none]) ?_ ?_
  · have hsh : (D.ot []).sh = false := rfl
    simp [hsh, kNodup_sc]
    rfl
  rintro ρ rfl
  have hok := through_ok h hs h1 (by omega) (by omega) tp tt hin hou
  have hlen := notes_le hok
  have hrl := rowsF_length sends
  have hE : (throughSc s sends takes inner outer).d = (Sc.mk sends takes ((rowsF sends).map fun r => (r, thrF outer (s.at (thrF inner r))))).d := rfl
  have hN : (throughSc s sends takes inner outer).notes = (rowsF sends).map fun r => (r, thrF outer (s.at (thrF inner r))) := rfl
  rw [hN] at hlen
  have hq := hq d2 inner outer hd2 hin hou
  rw [hE] at hq
  have hk := fun r (hr : r ∈ rowsF sends) => mem_rows.mp hr
  have hnd := nodup_rows sends
  simp [m_law_rows_e hs (show sends.length ≤ 6 by omega)]
  generalize rowsF sends = K at hk hnd hlen hq ⊢
  refine W_for (e := e) K (fun pre ρ => ∃ d4 d5 o7 o10, d4.fz = .lst (inner.map eL) ∧ d5.fz = .lst (outer.map eL) ∧ ρ = [some d2, some s.d, some (e sends), some (e takes), some d4, some d5, some (scO sends takes (pre.map fun r => (r, thrF outer (s.at (thrF inner r))))), o7, o8', o9', o10, none, none, none]) ⟨_, _, none, none, fz_maps inner, fz_maps outer, rfl⟩ ?_ ?_
  · rintro pre r post hp ρ ⟨d4, d5, o7, o10, hd4, hd5, rfl⟩
    have hr := hk r (by rw [hp]; simp)
    have hnr := hin.row hr
    have har := h.atRow hnr
    have hor := hou.row har
    have lin := hin.length
    have lou := hou.length
    have l1 : (thrF inner r).length ≤ 6 := by rw [hnr.length]; omega
    have l2 : (thrF outer (s.at (thrF inner r))).length ≤ 6 := by rw [hor.length]; omega
    have hnew : r ∉ pre := by
      rw [hp] at hnd
      intro z
      exact (List.nodup_append.mp hnd).2.2 r z r (by simp) rfl
    have hpl : pre.length ≤ 64 := by rw [hp] at hlen; simp at hlen; omega
    simp only [List.map_append, List.map_cons, List.map_nil]
    have hnew2 : r ∉ (pre.map fun r => (r, thrF outer (s.at (thrF inner r)))).map (·.1) := by simpa [Function.comp_def] using hnew
    have hpl2 : (pre.map fun r => (r, thrF outer (s.at (thrF inner r)))).length ≤ 64 := by simpa using hpl
    generalize (pre.map fun r => (r, thrF outer (s.at (thrF inner r)))) = A at hnew2 hpl2 ⊢
    simp [hd4, fZip_maps]
    rw [lcL_all eMN (inner.zip r) (fun p => p.1.getD p.2 0)]
    · simp only [W_okA, List.length_map]
      have hzl := zip_le inner r
      have hrlen := hr.length
      refine ⟨by rw [most_eq]; omega, ?_⟩
      rw [show (inner.zip r).map (fun p => p.1.getD p.2 0) = thrF inner r from rfl]
      simp [notes_at h hnr, hd5, fZip_maps]
      rw [lcL_all eMN (outer.zip (s.at (thrF inner r))) (fun p => p.1.getD p.2 0)]
      · simp only [W_okA, List.length_map]
        have hzl2 := zip_le outer (s.at (thrF inner r))
        have hal := har.length
        refine ⟨by rw [most_eq]; omega, ?_⟩
        rw [show (outer.zip (s.at (thrF inner r))).map (fun p => p.1.getD p.2 0) = thrF outer (s.at (thrF inner r)) from rfl]
        simp [dPut_new hnew2 (show A.length < most by rw [most_eq]; omega), -List.map_append]
      · rintro ⟨m, x⟩ hm
        obtain ⟨y, hy⟩ := hou.note har _ hm
        simp at hy
        simp [eMN, hy]
    · rintro ⟨m, x⟩ hm
      obtain ⟨y, hy⟩ := hin.note hr _ hm
      simp at hy
      simp [eMN, hy]
  · rintro ρ ⟨d4, d5, o7, o10, hd4, hd5, rfl⟩
    simp
    exact hq
end On

set_option Elab.async false
set_option linter.all false
set_option maxRecDepth 100000
set_option maxHeartbeats 4000000
/-! P14: the law's fine table. -/
namespace On
open PySem PySem.Spec L2
open En (e)
def allS : List (List Nat) := [[2, 2], [2, 2, 2], [3, 2], [3, 2, 2], [2, 1, 3], [4, 3], [3], [2, 2, 2, 2], [2, 3, 2], [2, 2, 3]]
theorem allS_sizes : ∀ s ∈ allS, (prodF s ≤ 64 ∧ (∀ a ∈ s, 1 ≤ a) ∧ (∀ a ∈ s, a ≤ 64)) ∧ 1 ≤ s.length ∧ s.length ≤ 6 := by decide
theorem allS_ok {s : List Nat} (h : s ∈ allS) : Sizes s ∧ 1 ≤ s.length ∧ s.length ≤ 6 := by
  have := allS_sizes s h
  exact ⟨⟨this.1.2.1, this.1.2.2, this.1.1⟩, this.2⟩
theorem sizes_all : ∀ s ∈ sizesL, s ∈ allS := by decide
theorem fine_W {t : Nat} {d : D} (hd : StOk t d) (htt : t + 4000000000 < 1099511627776) {Q : D → List D → Prop} {E : Str → List D → Prop}
    (hq : ∀ (d' : D) (s : Sc), StOk (t + 4000000000) d' → s.Ok → s.Fine → s.sends ∈ allS → Q s.d [d']) : (m_law_fine [d]).W Q E := by
  unfold m_law_fine y_law_fine
  rw [W_runF]
  refine W_seq (P := fun ρ => ∃ k d', StOk (t + 1) d' ∧ ρ = [some d', some (e (k : Nat)), none]) ?_ ?_
  · simp
    refine draw_W hd (by omega) (by omega) (by omega) fun k d1 hk hd1 => ?_
    simp
    exact ⟨k, d1, hd1, rfl, rfl⟩
  rintro ρ ⟨k, d1, hd1, rfl⟩
  refine W_seq (P := fun ρ => ρ = [some d1, some (e k), none]) ?_ ?_
  · simp
    by_cases z : k = 0
    · simp [z]
      refine sizes_W hd1 (by omega) fun s d2 hs hd2 => ?_
      obtain ⟨z1, z2, z3⟩ := allS_ok (sizes_all s hs)
      simp
      refine some_takes_W z3 hd2 (by omega) fun l d3 hl hl1 hl2 hd3 => ?_
      simp
      refine led_W z1 z2 z3 hl hl1 hl2 hd3 (by omega) fun d4 s4 hd4 e1 e2 h4 f4 => ?_
      simp
      exact hq d4 s4 (hd4.le (by omega)) h4 f4 (by rw [e1]; exact sizes_all s hs)
    · simp [z]
  rintro ρ rfl
  refine W_seq (P := fun ρ => ρ = [some d1, some (e k), none]) ?_ ?_
  · simp
    by_cases z : k = 1
    · simp [z, m_law_turning_e, most_eq]
      have z1 : Sizes [2] := ⟨by decide, by decide, by decide⟩
      refine led_W (sends := [2]) (takes := [2]) z1 (by decide) (by decide) rfl (by decide) (by decide) hd1 (by omega) fun d4 s4 hd4 e1 e2 h4 f4 => ?_
      have z2 : Sizes (turnSc.sends ++ s4.sends) := by rw [e1]; exact ⟨by decide, by decide, by decide⟩
      have z3 : turnSc.sends.length + s4.sends.length ≤ 6 := by rw [e1]; decide
      simp [m_law_beside_e turn_ok h4 z2 z3]
      have hb := beside_ok turn_ok h4 z2 z3
      have fb := beside_fine turn_ok h4 turn_fine f4 hb
      generalize ht4 : t + 1 + 3000000000 = t4 at hd4
      have hlt : t4 + 6 < 1099511627776 := by omega
      have hlt2 : t4 + 6 ≤ t + 4000000000 := by omega
      clear ht4
      have hs : (besideSc turnSc s4).sends = [2, 2, 2, 2] := by show turnSc.sends ++ s4.sends = _; rw [e1]; rfl
      generalize besideSc turnSc s4 = sb at hb fb hs ⊢
      refine rooms_mixed_W hb fb hd4 hlt fun d5 o hd5 ho => ?_
      simp
      refine hq d5 _ (hd5.le hlt2) (perm_ok hb ho) (perm_fine hb fb ho) ?_
      have : (permSc o sb).sends = [2, 2, 2, 2] := by
        show permF o sb.sends = _
        rw [hs] at ho ⊢
        have hp : (permF o [2, 2, 2, 2]).Perm (List.replicate 4 2) := permF_perm ho
        rw [List.perm_replicate] at hp
        exact hp
      rw [this]; decide
    · simp [z]
  rintro ρ rfl
  refine W_seq (P := fun ρ => ρ = [some d1, some (e k), none]) ?_ ?_
  · simp
    by_cases z : k = 2
    · simp [z, m_law_turning_e, most_eq]
      have z1 : Sizes [2, 2, 2] := ⟨by decide, by decide, by decide⟩
      rw [show D.tup [e 2, e 2, e 2] = e [2, 2, 2] from rfl]
      refine through_W (s := turnSc) (takes := [2, 2, 2]) turn_ok z1 (by decide) rfl rfl (by decide) (by decide) hd1 (by omega) fun d4 inner outer hd4 hi ho => ?_
      simp
      have hok := through_ok turn_ok z1 (by decide) (by decide) rfl (by decide) (by decide) hi ho
      exact hq d4 _ (hd4.le (by omega)) hok (through_fine turn_ok turn_fine hi ho hok) (show [2, 2, 2] ∈ allS by decide)
    · simp [z]
  rintro ρ rfl
  simp [m_law_turning_e, most_eq]
  have hL : D.lst [D.tup [e 2, e 2, e 2], D.tup [e 3, e 2, e 2], D.tup [e 2, e 2, e 3]] = eL [[2, 2, 2], [3, 2, 2], [2, 2, 3]] := rfl
  rw [hL]
  refine pick_W hd1 (by omega) (by simp) (by simp) fun s d2 hs hd2 => ?_
  simp
  rw [show D.tup [e 2, e 2, e 3] = e [2, 2, 3] from rfl]
  have hsA : ∀ s ∈ [[2, 2, 2], [3, 2, 2], [2, 2, 3]], s ∈ allS ∧ s.length = 3 := by decide
  obtain ⟨hsA, hs3⟩ := hsA s hs
  obtain ⟨z1, z2, z3⟩ := allS_ok hsA
  refine through_W (s := turnSc) (takes := [2, 2, 3]) turn_ok z1 z2 hs3 rfl (by decide) (by decide) hd2 (by omega) fun d4 inner outer hd4 hi ho => ?_
  simp
  have hok := through_ok (takes := [2, 2, 3]) turn_ok z1 z2 z3 (by rw [hs3]; rfl) (by decide) (by decide) hi ho
  exact hq d4 _ (hd4.le (by omega)) hok (through_fine turn_ok turn_fine hi ho hok) hsA
/-! rules that are drawn -/
theorem RulesOk.snoc : ∀ {R : List (List Nat)} {s t : List Nat} {x : List Nat} {n m : Nat}, RulesOk R s t → x.length = m → (∀ a ∈ x, a < n) → RulesOk (R ++ [x]) (s ++ [n]) (t ++ [m])
  | [], [], [], _, _, _, _, h1, h2 => ⟨isRow_rep.mpr ⟨h1, h2⟩, trivial⟩
  | _ :: R, _ :: s, _ :: t, _, _, _, h, h1, h2 => ⟨h.1, RulesOk.snoc (R := R) (s := s) (t := t) h.2 h1 h2⟩
  | [], [], _ :: _, _, _, _, h, _, _ => h.elim
  | [], _ :: _, [], _, _, _, h, _, _ => h.elim
  | [], _ :: _, _ :: _, _, _, _, h, _, _ => h.elim
  | _ :: _, [], [], _, _, _, h, _, _ => h.elim
  | _ :: _, [], _ :: _, _, _, _, h, _, _ => h.elim
  | _ :: _, _ :: _, [], _, _, _, h, _, _ => h.elim
theorem rule_W {s : Sc} (h : s.Ok) {i : Nat} (hi : i < s.sends.length) {t : Nat} {d : D} (hd : StOk t d) (htt : t + 64 < 1099511627776) {Q : D → List D → Prop} {E : Str → List D → Prop}
    (hq : ∀ (d' : D) (r : List Nat), StOk (t + 64) d' → IsRow r (List.replicate (s.takes.getD i 0) (s.sends.getD i 0)) → Q (e r) [d']) : (m_law_rule [d, s.d, e i]).W Q E := by
  obtain ⟨n, hn⟩ := get_some hi
  obtain ⟨m, hm⟩ := get_some (show i < s.takes.length by rw [h.tlen]; exact hi)
  have n1 := h.sz.pos n (mem_of hn)
  have n2 := h.sz.top n (mem_of hn)
  have m2 := h.ttop m (mem_of hm)
  have hf := fRng1_e m (by omega)
  simp [m_law_rule, y_law_rule, hm, hf]
  refine lc_draws (w := 2) (ρ' := [some s.d, some (e i), none]) (b := n) (by simp) rfl (fun d' a => XR.W_eq (by simp [hn])) hd (by omega) (by omega) (by omega) fun l d2 hl hlt hd2 => ?_
  simp [most_eq]
  exact ⟨by omega, hq d2 l (hd2.le (by omega)) (by rw [getD_of hn, getD_of hm]; exact isRow_rep.mpr ⟨hl, hlt⟩)⟩
theorem rules_W {s : Sc} (h : s.Ok) {t : Nat} {d : D} (hd : StOk t d) (htt : t + 400 < 1099511627776) {Q : D → List D → Prop} {E : Str → List D → Prop}
    (hq : ∀ (d' : D) (R : List (List Nat)), StOk (t + 400) d' → s.rulesOk R → Q (e R) [d']) : (m_law_rules [d, s.d]).W Q E := by
  have h6 := h.six
  have htl := h.tlen
  simp [m_law_rules, y_law_rules, most_eq]
  rw [show D.ol [] = eO ([] : List (List Nat)) from rfl]
  refine W_for (e := e) (s.sends.zip s.takes) (fun pre ρ => ∃ d' R o3 o4, StOk (t + 64 * pre.length) d' ∧ RulesOk R (pre.map (·.1)) (pre.map (·.2)) ∧ ρ = [some d', some s.d, some (eO R), o3, o4, none]) ⟨d, [], none, none, by simpa using hd, trivial, rfl⟩ ?_ ?_
  · rintro pre ⟨n, m⟩ post hp ρ ⟨d', R, o3, o4, hd', hR, rfl⟩
    have hmem : (n, m) ∈ s.sends.zip s.takes := by rw [hp]; simp
    have n1 := h.sz.pos n (List.of_mem_zip hmem).1
    have n2 := h.sz.top n (List.of_mem_zip hmem).1
    have m2 := h.ttop m (List.of_mem_zip hmem).2
    have hpl : pre.length < 6 := by have := congrArg List.length hp; simp at this; omega
    have hf := fRng1_e m (by omega)
    have hRl := hR.length.1
    simp at hRl
    simp [e_pair, hf]
    refine lc_draws (w := 4) (ρ' := [some s.d, some (eO R), some (e n), some (e m), none]) (b := n) (by simp) rfl (fun d' a => XR.W_eq (by simp)) hd' (by omega) (by omega) (by omega) fun l d2 hl hlt hd2 => ?_
    simp [most_eq]
    rw [mApp_e _ (by rw [most_eq]; omega)]
    simp
    exact ⟨by omega, d2, hd2.le (by omega), R ++ [l], hR.snoc hl hlt, rfl, rfl⟩
  · rintro ρ ⟨d', R, o3, o4, hd', hR, rfl⟩
    have hz := zip_le s.sends s.takes
    rw [zip_fst htl.symm, zip_snd htl.symm] at hR
    simp
    exact hq d' R (hd'.le (by omega)) hR
end On

set_option Elab.async false
set_option linter.all false
set_option maxRecDepth 100000
set_option maxHeartbeats 4000000
/-! P15: what is near, and what is bad. -/
namespace On
open PySem PySem.Spec L2
open En (e)
theorem cut_to {l : List D} {i : Nat} (h : i < l.length) : dCut (.tup l) none (some (i : Int)) = some (.tup (l.take i)) := by
  unfold dCut cutD
  simp only [HT.sIx_nat, HT.sIx_none]
  rw [if_neg (by omega)]
  simp
theorem cut_from {l : List D} {i : Nat} (h : i < l.length) : dCut (.tup l) (some ((i : Int) + 1)) none = some (.tup (l.drop (i + 1))) := by
  have e1 : (i : Int) + 1 = ((i + 1 : Nat) : Int) := by omega
  unfold dCut cutD
  rw [e1]
  simp only [HT.sIx_nat, HT.sIx_none]
  rw [if_neg (by omega), Nat.min_eq_left (by omega), List.take_of_length_le (by simp)]
theorem cut_last {l : List D} (h : 0 < l.length) : dCut (.tup l) none (some (-1)) = some (.tup (l.take (l.length - 1))) := by
  unfold dCut cutD
  have e1 : HT.sIx l.length l.length (some (-1)) = l.length - 1 := by
    unfold HT.sIx
    simp
    omega
  simp only [HT.sIx_none, e1]
  rw [if_neg (by omega)]
  simp
theorem set_cut {α : Type} {l : List α} {i : Nat} {x : α} (h : i < l.length) : (l.take i ++ [x]) ++ l.drop (i + 1) = l.set i x := by
  rw [List.set_eq_take_append_cons_drop, if_pos h]; simp
theorem setD {l : List D} {i : Nat} (x : D) (h : i < l.length) : l.take i ++ x :: l.drop (i + 1) = l.set i x := by rw [← set_cut h]; simp
section
variable {α : Type} [En α]
theorem cutE_to {l : List α} {i : Nat} (h : i < l.length) : dCut (e l) none (some (i : Int)) = some (e (l.take i)) := by
  rw [e_list, cut_to (by simpa using h), e_list, List.map_take]
theorem cutE_from {l : List α} {i : Nat} (h : i < l.length) : dCut (e l) (some ((i : Int) + 1)) none = some (e (l.drop (i + 1))) := by
  rw [e_list, cut_from (by simpa using h), e_list, List.map_drop]
theorem cutE_last {l : List α} (h : 0 < l.length) : dCut (e l) none (some (-1)) = some (e (l.take (l.length - 1))) := by
  rw [e_list, cut_last (by simpa using h), e_list, List.map_take]; simp
theorem addT {a b : List D} (h : a.length + b.length ≤ most) : dAdd (.tup a) (.tup b) = some (.tup (a ++ b)) := by simp [dAdd, h]
theorem addET {a : List α} {b : List D} (h : a.length + b.length ≤ most) : dAdd (e a) (.tup b) = some (.tup (a.map e ++ b)) := by rw [e_list, addT (by simpa using h)]
theorem addTE {a : List D} {b : List α} (h : a.length + b.length ≤ most) : dAdd (.tup a) (e b) = some (.tup (a ++ b.map e)) := by rw [e_list, addT (by simpa using h)]
theorem addL {a b : List D} (h : a.length + b.length ≤ most) : dAdd (.lst a) (.lst b) = some (.ol (a ++ b)) := by simp [dAdd, h]
end
theorem setT {l : List Nat} {i : Nat} (x : D) (h : i < l.length) : ((l.take i).map e ++ [x]) ++ (l.drop (i + 1)).map e = (l.map (e : Nat → D)).set i x := by
  rw [← set_cut (by simpa using h), List.map_take, List.map_drop]
theorem m_law_with_e {α : Type} [En α] {l : List α} {i : Nat} {x : α} (h : i < l.length) (hl : l.length ≤ 1000) : m_law_with [e l, e i, e x] = .ok (e (l.set i x)) [] := by
  apply FR.W_eq
  simp [m_law_with, y_law_with, most_eq, cutE_to h, cutE_from h]
  rw [dAdd_e (by rw [most_eq]; simp; omega)]
  simp
  rw [dAdd_e (by rw [most_eq]; simp; omega)]
  simp [← set_cut h]
theorem dNeg1 : dNeg (e 1) = some (.int (-1)) := rfl
@[simp] theorem eL_any {α : Type} [En α] (l : List α) : (eL l).any = true := any_lst _
theorem mul3 (x : D) : dMul (.lst [x]) (e 3) = some (.ol [x, x, x]) := rfl
@[simp] theorem fz_od0 : (D.od []).fz = .dk [] := fz_od (by simp)
/-! what is a row, place by place -/
theorem rowB_at : ∀ {l : List D} {s : List Nat} {i : Nat} {d : D} {n : Nat}, rowB l s = true → l[i]? = some d → s[i]? = some n → d.between 0 (n - 1 : Int) = true
  | x :: l, m :: s, 0, d, n, h, h1, h2 => by
    simp at h1 h2; subst h1 h2
    rw [rowB, Bool.and_eq_true] at h; exact h.1
  | x :: l, m :: s, i + 1, d, n, h, h1, h2 => by
    rw [rowB, Bool.and_eq_true] at h
    exact rowB_at (i := i) h.2 (by simpa using h1) (by simpa using h2)
  | [], _, i, _, _, _, h1, _ => by simp at h1
  | _ :: _, [], i, _, _, h, _, _ => by simp [rowB] at h
theorem not_row_len {l : List D} {s : List Nat} (h : l.length ≠ s.length) : (D.tup l).isRow s = false := by
  show rowB l s = false
  cases hr : rowB l s with
  | false => rfl
  | true => exact absurd (rowB_length hr) h
theorem not_row_at {l : List D} {s : List Nat} {i : Nat} {d : D} {n : Nat} (h1 : l[i]? = some d) (h2 : s[i]? = some n) (h3 : d.between 0 (n - 1 : Int) = false) : (D.tup l).isRow s = false := by
  show rowB l s = false
  cases hr : rowB l s with
  | false => rfl
  | true => rw [rowB_at hr h1 h2] at h3; cases h3
theorem anyL_set : ∀ {l : List D} {i : Nat} {x : D}, anyL l = true → x.any = true → anyL (l.set i x) = true
  | [], _, _, _, _ => by simp
  | d :: l, 0, x, h, hx => by simp at h ⊢; exact ⟨hx, h.2⟩
  | d :: l, i + 1, x, h, hx => by simp at h ⊢; exact ⟨h.1, anyL_set h.2 hx⟩
theorem bool_row_W {r s : List Nat} (hr : IsRow r s) (hn : r ≠ []) (hl : r.length ≤ 64) {t : Nat} {d : D} (hd : StOk t d) (htt : t + 1 < 1099511627776) {Q : D → List D → Prop} {E : Str → List D → Prop}
    (hq : ∀ (d' x : D), StOk (t + 1) d' → x.any = true → x.isRow s = false → Q x [d']) : (m_law_bool_row [d, e r]).W Q E := by
  have hpos := List.length_pos_iff.mpr hn
  have hrl := hr.length
  simp [m_law_bool_row, y_law_bool_row]
  rw [lcL_fil eI r.zipIdx (fun p => decide (p.1 < 2)) (fun p => p.2)]
  · simp only [W_okA, List.length_map]
    refine ⟨Nat.le_trans (List.length_filter_le _ _) (by rw [most_eq]; simp; omega), ?_⟩
    generalize hS : (List.filter (fun p => decide (p.1 < 2)) r.zipIdx).map (fun p : Nat × Nat => p.2) = S
    have hSm : ∀ i ∈ S, i < r.length := by
      intro i hi
      rw [← hS] at hi
      obtain ⟨p, hp, rfl⟩ := List.mem_map.mp hi
      exact (List.getElem?_eq_some_iff.mp (zipIdx_mem (List.mem_filter.mp hp).1)).1
    have hSl : S.length ≤ 64 := by
      rw [← hS]
      simp
      exact Nat.le_trans (List.length_filter_le _ _) (by simp; omega)
    simp [most_eq, dEq_nil (α := Nat) (by decide), dNeg1]
    by_cases hS0 : S = []
    · right
      refine ⟨hS0, e (r.take (r.length - 1)), cutE_last hpos, ?_⟩
      simp
      refine hq d _ (hd.le (by omega)) (by simp) ?_
      rw [e_list]
      exact not_row_len (by simp; omega)
    · left
      refine ⟨hS0, pick_W hd (by omega) hS0 (by omega) fun i d2 hi hd2 => ?_⟩
      have hir := hSm i hi
      obtain ⟨x, hx⟩ := get_some hir
      obtain ⟨n, hn2⟩ := get_some (show i < s.length by omega)
      simp [cutE_to hir, cutE_from hir, hx]
      rw [addET (by rw [most_eq]; simp; omega)]
      simp
      rw [addTE (by rw [most_eq]; simp; omega)]
      simp
      rw [setD _ (by simpa using hir)]
      refine hq d2 _ hd2 (by simp [anyL_set]) (not_row_at (i := i) (d := .bl (decide (x = 1))) (by simp [hir]) hn2 rfl)
  · rintro ⟨x, i⟩ hp
    simp [eI]
    omega
theorem bad_row_W {r s : List Nat} (hr : IsRow r s) (hn : r ≠ []) (hl : r.length ≤ 64) {t : Nat} {d : D} (hd : StOk t d) (htt : t + 3 < 1099511627776) {Q : D → List D → Prop} {E : Str → List D → Prop}
    (hq : ∀ (d' x : D), StOk (t + 3) d' → x.any = true → x.isRow s = false → Q x [d']) : (m_law_bad_row [d, e r, e s]).W Q E := by
  have hpos := List.length_pos_iff.mpr hn
  have hrl := hr.length
  unfold m_law_bad_row y_law_bad_row
  rw [W_runF]
  refine W_seq (P := fun ρ => ∃ d' i, StOk (t + 1) d' ∧ i < r.length ∧ ρ = [some d', some (e r), some (e s), some (e (i : Nat)), none, none]) ?_ ?_
  · simp
    refine draw_W hd (by omega) (by omega) (by omega) fun i d1 hi hd1 => ?_
    simp
    exact ⟨d1, hd1, i, by omega, rfl, rfl⟩
  rintro ρ ⟨d1, i, hd1, hir, rfl⟩
  obtain ⟨n, hn2⟩ := get_some (show i < s.length by omega)
  refine W_seq (P := fun ρ => ρ = [some d1, some (e r), some (e s), some (e i), some (.lst ([D.int (-1), e n, .non, .str "0"].map fun x => .tup ((r.map e).set i x))), none]) ?_ ?_
  · simp [most_eq, dNeg1, hn2]
    have hit : (D.lst [D.int (-1), e n, .non, .str "0"]).items = some ([D.int (-1), e n, .non, .str "0"].map id) := rfl
    refine ⟨_, hit, ?_⟩
    rw [lcL_allD id [D.int (-1), e n, .non, .str "0"] (fun x => .tup ((r.map e).set i x))]
    · simp
    · intro x hx
      have hxs : x.sh = true := by
        simp at hx
        rcases hx with rfl | rfl | rfl | rfl <;> simp
      simp [cutE_to hir, cutE_from hir, hxs]
      rw [addET (by rw [most_eq]; simp; omega)]
      simp
      rw [addTE (by rw [most_eq]; simp; omega)]
      simp
      rw [setD _ (by simpa using hir)]
      exact ⟨by rw [most_eq]; omega, rfl⟩
  rintro ρ rfl
  simp [dNeg1, most_eq, cutE_last hpos]
  rw [dAdd_e (by rw [most_eq]; simp; omega)]
  simp
  refine bool_row_W hr hn hl hd1 (by omega) fun d2 x hd2 hx1 hx2 => ?_
  simp [any_sh hx1, any_fz hx1]
  rw [addL (by rw [most_eq]; simp)]
  simp [any_fz hx1]
  refine pickD_W hd2 (by omega) (by simp) (by simp) fun y d3 hy hd3 => ?_
  simp
  have hd3 := hd3.le (show t + 1 + 1 + 1 ≤ t + 3 by omega)
  have ha : anyL (r.map e) = true := by simp
  have hi : ∀ x : D, ((r.map e).set i x)[i]? = some x := fun x => by simp [hir]
  simp only [List.mem_cons, List.not_mem_nil, or_false] at hy
  rcases hy with rfl | rfl | rfl | rfl | rfl | rfl | rfl | rfl | rfl | rfl
  · exact hq d3 _ hd3 (by simp [anyL_set ha]) (not_row_at (hi _) hn2 rfl)
  · refine hq d3 _ hd3 (by simp [anyL_set ha]) (not_row_at (hi _) hn2 ?_)
    simp [e_nat, D.between]
    omega
  · exact hq d3 _ hd3 (by simp [anyL_set ha]) (not_row_at (hi _) hn2 rfl)
  · exact hq d3 _ hd3 (by simp [anyL_set ha]) (not_row_at (hi _) hn2 rfl)
  · exact hq d3 _ hd3 (by simp) rfl
  · refine hq d3 _ hd3 (by simp) ?_
    rw [e_list]; exact not_row_len (by simp; omega)
  · refine hq d3 _ hd3 (by simp) ?_
    rw [e_list]; exact not_row_len (by simp; omega)
  · exact hq d3 _ hd3 (by simp) rfl
  · exact hq d3 _ hd3 (by simp) rfl
  · exact hq d3 _ hd3 hx1 hx2
theorem bad_rules_W {s : Sc} (h : s.Ok) {t : Nat} {d : D} (hd : StOk t d) (htt : t + 500 < 1099511627776) {Q : D → List D → Prop} {E : Str → List D → Prop}
    (hq : ∀ (d' x : D), StOk (t + 500) d' → x.any = true → Q x [d']) : (m_law_bad_rules [d, s.d]).W Q E := by
  have h6 := h.six
  have h1 := h.one
  have htl := h.tlen
  unfold m_law_bad_rules y_law_bad_rules
  rw [W_runF]
  refine W_seq (P := fun ρ => ∃ d' R, StOk (t + 400) d' ∧ s.rulesOk R ∧ ρ = [some d', some s.d, some (e R), none, none, none]) ?_ ?_
  · simp
    refine rules_W h hd (by omega) fun d1 R hd1 hR => ?_
    simp
    exact ⟨d1, hd1, R, hR, rfl, rfl⟩
  rintro ρ ⟨d1, R, hd1, hR, rfl⟩
  have hRl := (RulesOk.length hR).1
  refine W_seq (P := fun ρ => ∃ d' i, StOk (t + 401) d' ∧ i < R.length ∧ ρ = [some d', some s.d, some (e R), some (e (i : Nat)), none, none]) ?_ ?_
  · simp
    refine draw_W hd1 (by omega) (by omega) (by omega) fun i d2 hi hd2 => ?_
    simp
    exact ⟨d2, hd2, i, hi, rfl, rfl⟩
  rintro ρ ⟨d2, i, hd2, hi, rfl⟩
  obtain ⟨r, hr⟩ := get_some hi
  obtain ⟨n, m, hn, hm, hrow⟩ := RulesOk.get hR hr
  have m1 := h.tpos m (mem_of hm)
  have m2 := h.ttop m (mem_of hm)
  have hrl : r.length = m := by rw [hrow.length]; simp
  refine W_seq (P := fun ρ => ∃ d' x, StOk (t + 404) d' ∧ x.any = true ∧ ρ = [some d', some s.d, some (e R), some (e i), some x, none]) ?_ ?_
  · simp [hr, hn, hm, most_eq, dMul_one n m m1 (by omega)]
    refine bad_row_W hrow (fun z => by rw [z] at hrl; simp at hrl; omega) (by omega) hd2 (by omega) fun d3 x hd3 hx _ => ?_
    simp
    exact ⟨hd3, hx⟩
  rintro ρ ⟨d3, x, hd3, hx, rfl⟩
  refine W_seq (P := fun ρ => ρ = [some d3, some s.d, some (e R), some (e i), some x, some (.lst (List.replicate 3 (.tup ((R.map e).set i x))))]) ?_ ?_
  · simp [any_sh hx, most_eq, cutE_to hi, cutE_from hi]
    rw [addET (by rw [most_eq]; simp; omega)]
    simp
    rw [addTE (by rw [most_eq]; simp; omega)]
    simp
    rw [setD _ (by simpa using hi)]
    refine ⟨_, mul3 _, ?_⟩
    simp
  rintro ρ rfl
  simp [dNeg1, most_eq, cutE_last (show 0 < R.length by omega)]
  rw [dAdd_e (by rw [most_eq]; simp; omega)]
  simp
  rw [addL (by rw [most_eq]; simp)]
  simp
  refine pickD_W hd3 (by omega) (by simp) (by simp) fun y d4 hy hd4 => ?_
  simp
  refine hq d4 y (hd4.le (by omega)) ?_
  have ha : anyL (R.map e) = true := by simp
  simp only [List.mem_cons, List.not_mem_nil, or_false] at hy
  rcases hy with rfl | rfl | rfl | rfl | rfl | rfl | rfl | rfl | rfl <;> simp [anyL_set ha hx]
theorem through_row_W {s : Sc} (h : s.Ok) {r : List Nat} (hr : IsRow r s.sends) {t : Nat} {d : D} (hd : StOk t d) (htt : t + 400 < 1099511627776) {Q : D → List D → Prop} {E : Str → List D → Prop}
    (hq : ∀ (d' : D) (R : List (List Nat)), StOk (t + 400) d' → s.rulesOk R → s.ans R r = r → Q (e R) [d']) : (m_law_through_row [d, s.d, e r]).W Q E := by
  have h6 := h.six
  have htl := h.tlen
  have hrl := hr.length
  simp [m_law_through_row, y_law_through_row, most_eq]
  rw [show D.ol [] = eO ([] : List (List Nat)) from rfl]
  refine W_for (e := eI) r.zipIdx (fun pre ρ => ∃ d' R o4 o5, StOk (t + 64 * pre.length) d' ∧ RulesOk R (s.sends.take pre.length) (s.takes.take pre.length) ∧ (∀ (i : Nat) q x z, R[i]? = some q → r[i]? = some x → (s.at r)[i]? = some z → q[z]? = some x) ∧ ρ = [some d', some s.d, some (e r), some (eO R), o4, o5]) ⟨d, [], none, none, by simpa using hd, by simp; trivial, by simp, rfl⟩ ?_ ?_
  · rintro pre ⟨x, i⟩ post hp ρ ⟨d', R, o4, o5, hd', hR, hS, rfl⟩
    have hpl : pre.length < r.length := by have := congrArg List.length hp; simp at this; omega
    have hi := zipIdx_mem (show (x, i) ∈ r.zipIdx by rw [hp]; simp)
    have hip : i = pre.length := by
      have h1 : (r.zipIdx)[pre.length]? = some (x, i) := by rw [hp]; simp
      rw [List.getElem?_zipIdx] at h1
      cases hq2 : r[pre.length]? with
      | none => rw [hq2] at h1; cases h1
      | some y => rw [hq2] at h1; simp at h1; exact h1.2.symm
    have his : i < s.sends.length := by omega
    have hRl : R.length = pre.length := by have := (RulesOk.length hR).1; simp at this; omega
    obtain ⟨z, hz⟩ := (h.atRow hr).get (show i < s.takes.length by omega)
    obtain ⟨m, hm, hzm⟩ := (h.atRow hr).lt hz
    obtain ⟨n, hn, hxn⟩ := hr.lt hi
    have m2 := h.ttop m (mem_of hm)
    simp [eI]
    refine rule_W h his hd' (by omega) fun d2 q hd2 hq2 => ?_
    rw [getD_of hn, getD_of hm] at hq2
    have hql : q.length = m := by rw [hq2.length]; simp
    simp [notes_at h hr, hz, m_law_with_e (show z < q.length by omega) (show q.length ≤ 1000 by omega)]
    rw [mApp_e _ (by rw [most_eq]; omega)]
    simp
    refine ⟨d2, by rw [Nat.mul_add]; simpa [Nat.add_assoc] using hd2, R ++ [q.set z x], ?_, ?_, rfl, rfl⟩
    · rw [← hip]
      rw [← hip] at hR
      rw [List.take_succ, List.take_succ, hn, hm]
      refine hR.snoc (by simpa using hql) fun a ha => ?_
      rcases List.mem_or_eq_of_mem_set ha with ha | rfl
      · exact (isRow_rep.mp hq2).2 a ha
      · exact hxn
    · intro j q' x' z' h1 h2 h3
      rcases Nat.lt_or_ge j R.length with hj | hj
      · rw [List.getElem?_append_left hj] at h1
        exact hS j q' x' z' h1 h2 h3
      · rw [List.getElem?_append_right hj] at h1
        have hj0 : j - R.length = 0 := by
          rcases Nat.eq_zero_or_pos (j - R.length) with q | q
          · exact q
          · rw [List.getElem?_eq_none (by simp; omega)] at h1; cases h1
        have : j = i := by omega
        subst this
        rw [hj0] at h1
        simp at h1
        subst h1
        rw [hi] at h2; cases h2
        rw [hz] at h3; cases h3
        rw [List.getElem?_set_self (by omega)]
  · rintro ρ ⟨d', R, o4, o5, hd', hR, hS, rfl⟩
    have hRs : s.rulesOk R := by
      simp at hR
      rwa [List.take_of_length_le (by omega), List.take_of_length_le (by omega)] at hR
    simp
    exact hq d' R (hd'.le (by simp; omega)) hRs (ans_of h hRs hr hS)
end On

set_option Elab.async false
set_option linter.all false
set_option maxRecDepth 100000
set_option maxHeartbeats 4000000
/-! P16: near tables, odd things, near steps. -/
namespace On
open PySem PySem.Spec L2
open En (e)
def hN (r : List Nat) : Int := reduceHash (Builtin.Tuple.tupleHashOf (r.map fun (n : Nat) => hashInt (n : Int)))
theorem hashK_e (r : List Nat) : hashK (r.map kN) = some (hN r) := by
  unfold hashK hN
  have : ((r.map kN).mapM fun (k : Key) => match k with
    | .inl i => some (hashInt i)
    | .inr _ => none) = some (r.map fun (n : Nat) => hashInt (n : Int)) := by
    induction r with
    | nil => rfl
    | cons x r ih =>
      rw [List.map_cons, List.mapM_cons, ih]
      rfl
  exact congrArg (Option.map fun l => reduceHash (Builtin.Tuple.tupleHashOf l)) this
theorem inj_of_nodup {α β : Type} {f : α → β} : ∀ {l : List α}, (l.map f).Nodup → ∀ {a b : α}, a ∈ l → b ∈ l → f a = f b → a = b
  | c :: l, h, a, b, ha, hb, e1 => by
    rw [List.map_cons] at h
    have h := List.nodup_cons.mp h
    rcases List.mem_cons.mp ha with z | ha'
    · rcases List.mem_cons.mp hb with y | hb'
      · rw [z, y]
      · exact absurd (List.mem_map.mpr ⟨b, hb', by rw [← e1, z]⟩) h.1
    · rcases List.mem_cons.mp hb with y | hb'
      · exact absurd (List.mem_map.mpr ⟨a, ha', by rw [e1, y]⟩) h.1
      · exact inj_of_nodup h.2 ha' hb' e1
theorem nodup_map_on {α β : Type} {f : α → β} : ∀ {l : List α}, (∀ a ∈ l, ∀ b ∈ l, f a = f b → a = b) → l.Nodup → (l.map f).Nodup
  | [], _, _ => by simp
  | a :: l, hf, h => by
    have h' := List.nodup_cons.mp h
    rw [List.map_cons]
    refine List.nodup_cons.mpr ⟨fun z => ?_, nodup_map_on (fun a ha b hb => hf a (List.mem_cons_of_mem _ ha) b (List.mem_cons_of_mem _ hb)) h'.2⟩
    obtain ⟨b, hb, e⟩ := List.mem_map.mp z
    exact h'.1 (hf _ (List.mem_cons_of_mem _ hb) _ List.mem_cons_self e ▸ hb)
theorem allS_hash : ∀ s ∈ allS, ((rowsF s).map hN).Nodup := by decide +kernel
theorem apart_of {s : Sc} (h : s.Ok) (ha : s.sends ∈ allS) : apartK (s.notes.map eNote) = true := by
  have hm : (s.notes.map eNote).mapM (fun kv => hashK kv.1) = some (s.notes.map fun p => hN p.1) := by
    generalize s.notes = l
    induction l with
    | nil => rfl
    | cons p l ih =>
      rw [List.map_cons, List.mapM_cons, ih]
      show (do let x ← hashK (p.1.map kN); _) = _
      rw [hashK_e]
      rfl
  unfold apartK
  rw [hm]
  simp only [decide_eq_true_eq]
  have := nodup_map_on (f := hN) (l := s.notes.map (·.1)) (fun a ha' b hb e1 => inj_of_nodup (allS_hash _ ha) (mem_rows.mpr (keys_row h ha')) (mem_rows.mpr (keys_row h hb)) e1) h.nd
  rw [List.map_map] at this
  exact this
def putN (l : List (List Nat × List Nat)) (r d : List Nat) : List (List Nat × List Nat) := l.map fun p => if p.1 = r then (p.1, d) else p
theorem putN_keys (l : List (List Nat × List Nat)) (r d : List Nat) : (putN l r d).map (·.1) = l.map (·.1) := by
  unfold putN
  rw [List.map_map]
  apply List.map_congr_left
  intro p _
  simp only [Function.comp]
  split <;> rfl
theorem putD_old {l : List (List Nat × List Nat)} {r d : List Nat} (h : r ∈ l.map (·.1)) : putD (l.map eNote) (r.map kN) (e d) = (putN l r d).map eNote := by
  unfold putD putN
  rw [if_pos]
  · rw [List.map_map, List.map_map]
    apply List.map_congr_left
    intro p _
    by_cases z : p.1 = r
    · simp [eNote, z]
    · have h2 : ¬ p.1.map kN = r.map kN := fun q => z (kNs_inj q)
      simp [eNote, z, h2]
  · rw [List.any_eq_true]
    obtain ⟨p, hp, rfl⟩ := List.mem_map.mp h
    exact ⟨eNote p, List.mem_map.mpr ⟨p, hp, rfl⟩, by simp [eNote]⟩
theorem dPut_old {l : List (List Nat × List Nat)} {r d : List Nat} (h : r ∈ l.map (·.1)) (hl : l.length < most) : dPut (.ot (l.map eNote)) (e r) (e d) = some (.ot ((putN l r d).map eNote)) := by
  unfold dPut
  dsimp only
  rw [keyT_e]
  dsimp only
  rw [if_pos ⟨by simpa using hl, .inl (by simp)⟩, putD_old h]
theorem putN_ok {s : Sc} (h : s.Ok) {r d : List Nat} (hd : IsRow d s.takes) : (Sc.mk s.sends s.takes (putN s.notes r d)).Ok := by
  refine ⟨h.sz, h.one, h.six, h.tlen, h.tpos, h.ttop, fun q => by rw [putN_keys]; exact h.keys q, by rw [putN_keys]; exact h.nd, fun p hp => ?_⟩
  simp only [putN, List.mem_map] at hp
  obtain ⟨q, hq, rfl⟩ := hp
  split
  · exact hd
  · exact h.del q hq
theorem near_W {s : Sc} (h : s.Ok) (ha : s.sends ∈ allS) {t : Nat} {d : D} (hd : StOk t d) (htt : t + 100 < 1099511627776) {Q : D → List D → Prop} {E : Str → List D → Prop}
    (hq : ∀ (d' : D) (s' : Sc), StOk (t + 100) d' → s'.Ok → s'.sends = s.sends → Q s'.d [d']) : (m_law_near [d, s.d]).W Q E := by
  have h6 := h.six
  have htl := h.tlen
  have hrl := h.rlen
  have h1 := h.one
  unfold m_law_near y_law_near
  rw [W_runF]
  refine W_seq (P := fun ρ => ρ = [some d, some s.d, some (scO s.sends s.takes s.notes), none, none, none, none]) ?_ ?_
  · have hdd : dDict [notesD s.notes] = some (.ot (s.notes.map eNote)) := by
      show (if apartK (s.notes.map eNote) = true then some (D.ot (s.notes.map eNote)) else none) = _
      rw [if_pos (apart_of h ha)]
    have hsh : (D.ot (s.notes.map eNote)).sh = false := rfl
    simp [hdd, hsh, kNodup_sc]
    rfl
  rintro ρ rfl
  refine W_seq (P := fun ρ => ∃ d' s' o3 o4 o5 o6, StOk (t + 100) d' ∧ Sc.Ok s' ∧ s'.sends = s.sends ∧ s'.takes = s.takes ∧ ρ = [some d', some s.d, some (scO s'.sends s'.takes s'.notes), o3, o4, o5, o6]) ?_ ?_
  · simp
    refine draw_W hd (by omega) (by omega) (by omega) fun k d1 hk hd1 => ?_
    have hf := fRng1_e (1 + k) (by omega)
    simp [hf]
    refine W_for (e := e) (List.range (1 + k)) (fun pre ρ => ∃ d' s' o3 o4 o5 o6, StOk (t + 1 + 3 * pre.length) d' ∧ Sc.Ok s' ∧ s'.sends = s.sends ∧ s'.takes = s.takes ∧ ρ = [some d', some s.d, some (scO s'.sends s'.takes s'.notes), o3, o4, o5, o6]) ⟨d1, s, none, none, none, none, by simpa using hd1, h, rfl, rfl, rfl⟩ ?_ ?_
    · rintro pre x post hp ρ ⟨d', s', o3, o4, o5, o6, hd', hs', e1, e2, rfl⟩
      have hpl : pre.length < 2 := by have := congrArg List.length hp; simp at this; omega
      have hne : rowsF s.sends ≠ [] := fun z => by
        have := prodF_pos s.sends h.sz.pos
        rw [← rowsF_length, z] at this
        simp at this
      simp [m_law_rows_e h.sz h6]
      refine pick_W hd' (by omega) hne (by omega) fun r d2 hr hd2 => ?_
      simp
      refine draw_W hd2 (by omega) (by omega) (by omega) fun i d3 hi hd3 => ?_
      have hr' : IsRow r s'.sends := by rw [e1]; exact mem_rows.mp hr
      have hat := hs'.atRow hr'
      have hal := hat.length
      have htl' := hs'.tlen
      have hia : i < (s'.at r).length := by rw [hal, htl', e1]; exact hi
      obtain ⟨m, hm⟩ := get_some (show i < s.takes.length by omega)
      have m1 := h.tpos m (mem_of hm)
      have m2 := h.ttop m (mem_of hm)
      have hfzT : (D.ot (s'.notes.map eNote)).fz = notesD s'.notes := by unfold D.fz; rw [fzT_notes]; rfl
      have h6' := hs'.six
      have hrm : r ∈ s'.notes.map (·.1) := (hs'.keys r).mpr hr'
      have hnl := notes_le hs'
      simp [hfzT, notes_at hs' hr', cutE_to hia, cutE_from hia, hm]
      refine draw_W hd3 (by omega) (by omega) (by omega) fun x d4 hx hd4 => ?_
      simp [most_eq]
      rw [dAdd_e (by rw [most_eq]; simp; omega)]
      simp [cutE_from hia]
      rw [dAdd_e (by rw [most_eq]; simp; omega)]
      have hsd : (s'.at r).take i ++ [x] ++ (s'.at r).drop (i + 1) = (s'.at r).set i x := set_cut hia
      simp [dPut_old hrm (show s'.notes.length < most by rw [most_eq]; omega), -List.append_assoc, hsd]
      refine ⟨d4, by rw [Nat.mul_add]; simpa [Nat.add_assoc] using hd4, Sc.mk s'.sends s'.takes (putN s'.notes r ((s'.at r).set i x)), putN_ok hs' ?_, e1, e2, rfl, rfl⟩
      refine isRow_iff.mpr ⟨by simp [hal], fun j y n hy hn => ?_⟩
      by_cases z : i = j
      · subst z
        rw [List.getElem?_set_self hia] at hy
        cases hy
        rw [e2, hm] at hn
        cases hn
        exact hx
      · rw [List.getElem?_set_ne z] at hy
        exact (isRow_iff.mp hat).2 j y n hy hn
    · rintro ρ ⟨d', s', o3, o4, o5, o6, hd', hs', e1, e2, rfl⟩
      simp at hd'
      exact ⟨d', hd'.le (by omega), s', hs', e1, e2, o3, o4, o5, o6, rfl⟩
  rintro ρ ⟨d', s', o3, o4, o5, o6, hd', hs', e1, e2, rfl⟩
  simp
  exact hq d' s' hd' hs' e1
theorem kit_tableN {d : D} (h : d.any = true) : kitD csL esL tabL d (.o "Table") = some false := by
  cases d <;> first | rfl | (unfold D.any at h; cases h)
theorem odd_W {t : Nat} {d : D} (hd : StOk t d) (htt : t + 1 < 1099511627776) {Q : D → List D → Prop} {E : Str → List D → Prop}
    (hq : ∀ (d' x : D), StOk (t + 1) d' → x.any = true → Q x [d']) : (m_law_odd [d]).W Q E := by
  have hz : ∀ l : List (Key × D), shK l = true → (D.od (mergeD [] l)).fz.any = true := fun l _ => by unfold D.fz; simp
  simp [m_law_odd, y_law_odd, most_eq]
  refine pickD_W hd (by omega) (by simp) (by simp) fun x d2 hx hd2 => ?_
  simp
  refine hq d2 x hd2 ?_
  simp only [List.mem_cons, List.not_mem_nil, or_false] at hx
  rcases hx with rfl | rfl | rfl | rfl | rfl | rfl | rfl | rfl | rfl | rfl | rfl | rfl
  all_goals first | (simp; done) | exact hz _ rfl
theorem alike_nat (n a : Nat) : m_law_alike (n + 1) [e a, e a] = .ok (.bl true) [] := by
  have k1 : kitD2 csL esL tabL (e a) (.b "tuple") (.b "list") = some false := rfl
  have k2 : kitD csL esL tabL (e a) (.b "dict") = some false := rfl
  have k3 : kitD csL esL tabL (e a) (.b "bool") = some false := rfl
  have k4 : dIsN (e a) .non = some (.bl false) := rfl
  apply FR.W_eq
  simp [m_law_alike, y_law_alike, k1, k2, k3, k4, m_law_is_whole_e (e_any a)]
  exact .inr rfl
theorem alike_row (n : Nat) (l : List Nat) (hl : l.length ≤ 1000) : m_law_alike (n + 2) [e l, e l] = .ok (.bl true) [] := by
  have k1 : kitD2 csL esL tabL (e l) (.b "tuple") (.b "list") = some true := rfl
  have k2 : kitD csL esL tabL (e l) (.b "list") = some false := rfl
  have k3 : kitD csL esL tabL (e l) (.b "tuple") = some true := rfl
  apply FR.W_eq
  unfold m_law_alike
  simp [y_law_alike, k1, k2, k3]
  rw [lcL_fil e (l.zip l) (fun _ => false) (fun _ => 1)]
  · have hz : List.filter (fun _ => false) (l.zip l) = [] := List.filter_eq_nil_iff.mpr (by simp)
    rw [hz]
    simp
    exact dEq_nil (α := Nat) (by decide) []
  · rintro ⟨a, b⟩ hm
    have : a = b := by
      obtain ⟨i, hi⟩ := List.mem_iff_getElem?.mp hm
      rw [List.getElem?_zip_eq_some] at hi
      have := hi.1.symm.trans hi.2
      simpa using this
    subst this
    simp [e_pair, alike_nat]
theorem alike_bool (n : Nat) (b : Bool) : m_law_alike (n + 1) [.bl b, .bl b] = .ok (.bl true) [] := by
  cases b <;> rfl
end On

set_option Elab.async false
set_option linter.all false
set_option maxRecDepth 100000
set_option maxHeartbeats 4000000
/-! P17: near steps. -/
namespace On
open PySem PySem.Spec L2
open En (e)
theorem near_step_W {s : Sc} (h : s.Ok) {a b : List Nat} (ha : IsRow a s.sends) (hb : IsRow b s.sends) {R T : List (List Nat)} (hR : s.rulesOk R) (hT : s.rulesOk T) {t : Nat} {d : D} (hd : StOk t d) (htt : t + 2000 < 1099511627776) {Q : D → List D → Prop} {E : Str → List D → Prop}
    (hq : ∀ (d' x : D), StOk (t + 2000) d' → x.any = true → Q x [d']) : (m_law_near_step [d, s.d, e a, e b, .tup [e R, e T]]).W Q E := by
  have h6 := h.six
  have h1 := h.one
  have hal := ha.length
  have hRl := (RulesOk.length hR).1
  have hTl := (RulesOk.length hT).1
  unfold m_law_near_step y_law_near_step
  rw [W_runF]
  refine W_seq (P := fun ρ => ∃ d' w i, StOk (t + 2) d' ∧ i < a.length ∧ ρ = [some d', some s.d, some (e a), some (e b), some (.tup [e R, e T]), none, some (e (w : Nat)), some (e (i : Nat)), none, none]) ?_ ?_
  · simp
    refine draw_W hd (by omega) (by omega) (by omega) fun w d1 hw hd1 => ?_
    simp
    refine draw_W hd1 (by omega) (by omega) (by omega) fun i d2 hi hd2 => ?_
    simp
    exact ⟨d2, hd2, w, i, hi, rfl, rfl, rfl⟩
  rintro ρ ⟨d1, w, i, hd1, hi, rfl⟩
  refine W_seq (P := fun ρ => ρ = [some d1, some s.d, some (e a), some (e b), some (.tup [e R, e T]), none, some (e w), some (e i), some (e R), some (e T)]) (by simp) ?_
  rintro ρ rfl
  refine W_seq (P := fun ρ => ∃ d' q, StOk (t + 100) d' ∧ ρ = [some d', some s.d, some (e a), some (e b), some (.tup [e R, e T]), some (e (q : List Nat)), some (e w), some (e i), some (e R), some (e T)]) ?_ ?_
  · simp
    refine rule_W h (by omega) hd1 (by omega) fun d2 q hd2 hq2 => ?_
    simp
    exact ⟨d2, hd2.le (by omega), rfl, q, rfl⟩
  rintro ρ ⟨d2, q, hd2, rfl⟩
  have hiR : i < R.length := by omega
  have hiT : i < T.length := by omega
  obtain ⟨x, hx⟩ := get_some hiR
  have wR := fun x : List Nat => m_law_with_e (x := x) hiR (by omega)
  have wT := fun x : List Nat => m_law_with_e (x := x) hiT (by omega)
  have hd3 := hd2.le (show t + 100 ≤ t + 2000 by omega)
  refine W_seq (P := fun ρ => ρ = [some d2, some s.d, some (e a), some (e b), some (.tup [e R, e T]), some (e q), some (e w), some (e i), some (e R), some (e T)]) ?_ ?_
  · simp [most_eq]
    by_cases z : w = 0
    · simp [z]
      refine bad_rules_W h hd2 (by omega) fun d3 x hd3 hx => ?_
      simp [any_sh hx]
      refine bad_rules_W h hd3 (by omega) fun d4 y hd4 hy => ?_
      simp [any_sh hx, any_sh hy, any_fz hx, any_fz hy]
      refine pickD_W hd4 (by omega) (by simp) (by simp) fun u d5 hu hd5 => ?_
      simp
      refine hq d5 u (hd5.le (by omega)) ?_
      simp only [List.mem_cons, List.not_mem_nil, or_false] at hu
      rcases hu with rfl | rfl | rfl | rfl | rfl | rfl | rfl <;> simp [hx, hy]
    · simp [z]
  rintro ρ rfl
  refine W_seq (P := fun ρ => ρ = [some d2, some s.d, some (e a), some (e b), some (.tup [e R, e T]), some (e q), some (e w), some (e i), some (e R), some (e T)]) ?_ ?_
  · simp [most_eq]
    by_cases z : w = 1
    · simp [z]; exact hq d2 _ hd3 (by simp)
    · simp [z]
  rintro ρ rfl
  refine W_seq (P := fun ρ => ρ = [some d2, some s.d, some (e a), some (e b), some (.tup [e R, e T]), some (e q), some (e w), some (e i), some (e R), some (e T)]) ?_ ?_
  · simp [most_eq, wR, wT]
    by_cases z : w = 2
    · simp [z]; exact hq d2 _ hd3 (by simp)
    · simp [z]
  rintro ρ rfl
  refine W_seq (P := fun ρ => ρ = [some d2, some s.d, some (e a), some (e b), some (.tup [e R, e T]), some (e q), some (e w), some (e i), some (e R), some (e T)]) ?_ ?_
  · simp [most_eq, wR, wT]
    by_cases z : w = 3
    · simp [z]; exact hq d2 _ hd3 (by simp)
    · simp [z]
  rintro ρ rfl
  refine W_seq (P := fun ρ => ρ = [some d2, some s.d, some (e a), some (e b), some (.tup [e R, e T]), some (e q), some (e w), some (e i), some (e R), some (e T)]) ?_ ?_
  · simp [most_eq, wR, wT]
    by_cases z : w = 4
    · simp [z]; exact hq d2 _ hd3 (by simp)
    · simp [z]
  rintro ρ rfl
  refine W_seq (P := fun ρ => ρ = [some d2, some s.d, some (e a), some (e b), some (.tup [e R, e T]), some (e q), some (e w), some (e i), some (e R), some (e T)]) ?_ ?_
  · simp [most_eq]
    by_cases z : w = 5
    · simp [z]
      refine through_row_W h ha hd2 (by omega) fun d3 R3 hd3 _ _ => ?_
      simp
      refine through_row_W h hb hd3 (by omega) fun d4 R4 hd4 _ _ => ?_
      simp
      exact hq d4 _ (hd4.le (by omega)) (by simp)
    · simp [z]
  rintro ρ rfl
  simp [most_eq, hx, wT]
  by_cases z : w = 6
  · simp [z]; exact hq d2 _ hd3 (by simp)
  · simp [z]; exact hq d2 _ hd3 (by simp)
end On

set_option Elab.async false
set_option linter.all false
set_option maxRecDepth 100000
set_option maxHeartbeats 4000000
/-! P18: the law's steps are right. -/
namespace On
open PySem PySem.Spec L2
open En (e)
theorem m_parting_e {s : Sc} (h : s.Ok) (f : s.Fine) {a b : List Nat} (ha : IsRow a s.sends) (hb : IsRow b s.sends) : m_parting [s.tbl, e a, e b] = .ok (e (s.parts a b)) [] := by
  apply FR.W_eq
  simp [m_parting, y_parting, m_need_ends_e h f (e_any a) (e_any b), ha, hb, m_parting_of_e h ha hb]
theorem m_binding_step_e {s : Sc} (h : s.Ok) (f : s.Fine) {a b : List Nat} (ha : IsRow a s.sends) (hb : IsRow b s.sends) : m_binding_step [s.tbl, e a, e b] = .ok (.tup [e (s.ready a b), e (s.crossed (s.ready a b) a b)]) [] := by
  apply FR.W_eq
  have hrl : (s.ready a b).length = s.sends.length := by simp [Sc.ready, ha.length]
  simp [m_binding_step, y_binding_step, m_need_ends_e h f (e_any a) (e_any b), ha, hb, m_ready_rules_e h ha hb, m_crossed_rules_e h ha hb hrl, most_eq]
theorem parts_nil {s : Sc} (f : s.Fine) {a b : List Nat} (ha : IsRow a s.sends) (hb : IsRow b s.sends) : s.parts a b = [] ↔ a = b := by
  constructor
  · intro z
    rcases Classical.em (a = b) with q | q
    · exact q
    · exact absurd z ((Sc.parted_iff (ha.length.trans hb.length.symm)).mp (f a b ha hb q))
  · rintro rfl
    unfold Sc.parts partsP
    rw [List.filter_eq_nil_iff]
    simp
theorem parts_le (s : Sc) (a b : List Nat) : (s.parts a b).length ≤ a.length := Nat.le_trans (List.length_filter_le _ _) (by simp)
/-- to bind one room less is never enough -/
theorem less_not {s : Sc} (h : s.Ok) {R T : List (List Nat)} (hR : s.rulesOk R) (hT : s.rulesOk T) {a b : List Nat} (ha : IsRow a s.sends) (hb : IsRow b s.sends) (h1 : s.ans R a = a) {i : Nat} {r : List Nat} (hi : i ∈ s.parts a b) (hr : R[i]? = some r) (hL : s.rulesOk (T.set i r)) : s.stories (T.set i r) ≠ [b] := by
  intro z
  have := unlike_parts h hR hL ha hb h1 (story_of z).2 hi
  apply this
  have hl := (RulesOk.length hR).1
  have hl2 := (RulesOk.length hT).1
  have hil := (List.getElem?_eq_some_iff.mp hr).1
  rw [List.getElem?_set_self (by omega), hr]
theorem rules_set {s : Sc} {R T : List (List Nat)} (hR : s.rulesOk R) (hT : s.rulesOk T) {i : Nat} {r : List Nat} (hr : R[i]? = some r) : s.rulesOk (T.set i r) := by
  have hl := RulesOk.length hT
  refine rulesOk_of (by simp [hl.1]) (by simp [hl.2]) fun j q n m hq hn hm => ?_
  by_cases z : i = j
  · subst z
    have hil : i < T.length := by rw [hl.1]; exact (List.getElem?_eq_some_iff.mp hn).1
    rw [List.getElem?_set_self hil] at hq
    cases hq
    obtain ⟨n', m', e1, e2, e3⟩ := RulesOk.get hR hr
    rw [hn] at e1; rw [hm] at e2
    cases e1; cases e2
    exact e3
  · rw [List.getElem?_set_ne z] at hq
    obtain ⟨n', m', e1, e2, e3⟩ := RulesOk.get hT hq
    rw [hn] at e1; rw [hm] at e2
    cases e1; cases e2
    exact e3
theorem steps_right_W {s : Sc} (h : s.Ok) (f : s.Fine) {a b : List Nat} (ha : IsRow a s.sends) (hb : IsRow b s.sends) {t : Nat} {d : D} (hd : StOk t d) (htt : t + 10000 < 1099511627776) {Q : D → List D → Prop} {E : Str → List D → Prop}
    (hq : ∀ (d' : D), StOk (t + 10000) d' → Q (.bl true) [d']) : (m_law_steps_right [d, s.d, s.tbl, e a, e b]).W Q E := by
  have h6 := h.six
  have hal := ha.length
  have hbl := hb.length
  have hpl := parts_le s a b
  have hrdy := ready_ok h ha hb
  have hcrs := crossed_ok h hrdy (a := a) hb
  have hsR := ready_story h ha hb
  have hstep := ready_step h f ha hb
  have hrl := (RulesOk.length hrdy).1
  have hcl := (RulesOk.length hcrs).1
  unfold m_law_steps_right y_law_steps_right
  rw [W_runF]
  refine W_seq (P := fun ρ => ρ = [some d, some s.d, some s.tbl, some (e a), some (e b), some (eL (s.parts a b)), none, none, none, none, none, none, none, none]) (by simp [m_law_parts_e h ha hb]) ?_
  rintro ρ rfl
  refine W_seq (P := fun ρ => ρ = [some d, some s.d, some s.tbl, some (e a), some (e b), some (eL (s.parts a b)), none, none, none, none, none, none, none, none]) ?_ ?_
  · have hb1 : ∀ p q : Bool, dNe (.bl p) (.bl q) = some (.bl (!(decide (p = q)))) := by intro p q; cases p <;> cases q <;> rfl
    simp [m_parting_e h f ha hb, alike_row 8 (s.parts a b) (by omega), most_eq, dEq_nil (α := Nat) (by decide), hb1, parts_nil f ha hb]
  rintro ρ rfl
  refine W_seq (P := fun ρ => ρ = [some d, some s.d, some s.tbl, some (e a), some (e b), some (eL (s.parts a b)), some (.tup [e (s.ready a b), e (s.crossed (s.ready a b) a b)]), none, none, none, none, none, none, none]) (by simp [m_binding_step_e h f ha hb]) ?_
  rintro ρ rfl
  generalize s.crossed (s.ready a b) a b = T at *
  generalize s.ready a b = R at *
  refine W_seq (P := fun ρ => ρ = [some d, some s.d, some s.tbl, some (e a), some (e b), some (eL (s.parts a b)), some (.tup [e R, e T]), none, none, none, none, none, none, none]) ?_ ?_
  · simp [m_law_is_step_e h ha hb (show (D.tup [e R, e T]).any = true by simp), hstep]
  rintro ρ rfl
  refine W_seq (P := fun ρ => ∃ d' o7 o10, StOk (t + 8000) d' ∧ ρ = [some d', some s.d, some s.tbl, some (e a), some (e b), some (eL (s.parts a b)), some (.tup [e R, e T]), o7, none, none, o10, none, none, none]) ?_ ?_
  · have hf := fRng1_e 4 (by omega)
    simp [hf]
    refine W_for (e := e) (List.range 4) (fun pre ρ => ∃ d' o7 o10, StOk (t + 2000 * pre.length) d' ∧ ρ = [some d', some s.d, some s.tbl, some (e a), some (e b), some (eL (s.parts a b)), some (.tup [e R, e T]), o7, none, none, o10, none, none, none]) ⟨d, none, none, by simpa using hd, rfl⟩ ?_ ?_
    · rintro pre x post hp ρ ⟨d', o7, o10, hd', rfl⟩
      have hpl4 : pre.length < 4 := by have := congrArg List.length hp; simp at this; omega
      simp
      refine near_step_W h ha hb hrdy hcrs hd' (by omega) fun d2 u hd2 hu => ?_
      simp [any_sh hu, m_is_binding_step_e h f ha hb hu, m_law_is_step_e h ha hb hu, alike_bool]
      rw [Nat.mul_add]; simpa [Nat.add_assoc] using hd2
    · rintro ρ ⟨d', o7, o10, hd', rfl⟩
      simp at hd'
      simp
      exact hd'
  rintro ρ ⟨d1, o7, o10, hd1, rfl⟩
  refine W_seq (P := fun ρ => ∃ d' U V, StOk (t + 10000) d' ∧ s.rulesOk U ∧ s.rulesOk V ∧ s.ans U a = a ∧ s.ans V b = b ∧ ρ = [some d', some s.d, some s.tbl, some (e a), some (e b), some (eL (s.parts a b)), some (.tup [e R, e T]), o7, none, none, o10, some (e U), some (e V), none]) ?_ ?_
  · simp
    refine through_row_W h ha hd1 (by omega) fun d2 U hd2 hU hUa => ?_
    simp
    refine through_row_W h hb hd2 (by omega) fun d3 V hd3 hV hVb => ?_
    simp
    exact ⟨d3, hd3.le (by omega), U, hU, V, hV, hUa, hVb, rfl, rfl, rfl⟩
  rintro ρ ⟨d2, U, V, hd2, hU, hV, hUa, hVb, rfl⟩
  have hul : U.length = V.length := (RulesOk.length hU).1.trans (RulesOk.length hV).1.symm
  have hU6 := (RulesOk.length hU).1
  refine W_seq (P := fun ρ => ρ = [some d2, some s.d, some s.tbl, some (e a), some (e b), some (eL (s.parts a b)), some (.tup [e R, e T]), o7, some (eL (unlikeF U V)), none, o10, some (e U), some (e V), none]) (by simp [m_law_unlike_spots_e hul (by omega)]) ?_
  rintro ρ rfl
  refine W_seq (P := fun ρ => ρ = [some d2, some s.d, some s.tbl, some (e a), some (e b), some (eL (s.parts a b)), some (.tup [e R, e T]), o7, some (eL (unlikeF U V)), none, o10, some (e U), some (e V), none]) ?_ ?_
  · simp
    rw [lcL_fil e (s.parts a b) (fun i => !decide (i ∈ unlikeF U V)) (fun i => i)]
    · have hz : (s.parts a b).filter (fun i => !decide (i ∈ unlikeF U V)) = [] := by
        rw [List.filter_eq_nil_iff]
        intro i hi
        simpa using (mem_unlike hul).mpr (unlike_parts h hU hV ha hb hUa hVb hi)
      rw [hz]
      simp [most_eq]
      rw [show D.lst [] = eL ([] : List Nat) from rfl]
      simp
    · intro i hi
      simp
      exact Classical.em _
  rintro ρ rfl
  refine W_seq (P := fun ρ => ∃ o9 o13, ρ = [some d2, some s.d, some s.tbl, some (e a), some (e b), some (eL (s.parts a b)), some (.tup [e R, e T]), o7, some (eL (unlikeF U V)), o9, o10, some (e U), some (e V), o13]) ?_ ?_
  · simp
    refine W_for (e := e) (s.parts a b) (fun pre ρ => ∃ o9 o13, ρ = [some d2, some s.d, some s.tbl, some (e a), some (e b), some (eL (s.parts a b)), some (.tup [e R, e T]), o7, some (eL (unlikeF U V)), o9, o10, some (e U), some (e V), o13]) ⟨none, none, rfl⟩ ?_ ?_
    · rintro pre i post hp ρ ⟨o9, o13, rfl⟩
      have hi : i ∈ s.parts a b := by rw [hp]; simp
      have hia := (mem_parts.mp hi).1
      obtain ⟨r, hr⟩ := get_some (show i < R.length by omega)
      have hL := rules_set hrdy hcrs hr
      have hne := less_not h hrdy hcrs ha hb hsR hi hr hL
      simp [dIx0, dIx1, hr, m_law_with_e (show i < T.length by omega) (show T.length ≤ 1000 by omega), m_law_stories_e h hL, most_eq, hne]
    · rintro ρ ⟨o9, o13, rfl⟩
      simp
  rintro ρ ⟨o9, o13, rfl⟩
  simp
  exact hq d2 hd2
end On

set_option Elab.async false
set_option linter.all false
set_option maxRecDepth 100000
set_option maxHeartbeats 4000000
/-! P19: what is refused; the law. -/
namespace On
open PySem PySem.Spec L2
open En (e)
/-- what is judged right: no table, no fine one, no sendings -/
structure Refuses (m : Fx) : Prop where
  odd : ∀ x y z : D, x.any = true → y.any = true → z.any = true → m [x, y, z] = .ex "BadTable" []
  loud : ∀ (s : Sc) (y z : D), s.Ok → ¬ s.Fine → y.any = true → z.any = true → m [s.tbl, y, z] = .ex "NotFine" []
  bad : ∀ (s : Sc) (y z : D), s.Ok → s.Fine → y.any = true → z.any = true → ¬ (y.isRow s.sends = true ∧ z.isRow s.sends = true) → m [s.tbl, y, z] = .ex "BadSending" []
theorem need_ends_odd {x y z : D} (hx : x.any = true) (hy : y.any = true) (hz : z.any = true) : m_need_ends [x, y, z] = .ex "BadTable" [] := by
  apply FR.W_exeq
  simp [m_need_ends, y_need_ends, m_need_fine_table, y_need_fine_table, m_need_table, y_need_table, kit_tableN hx, any_sh hx]
theorem need_ends_loud {s : Sc} (h : s.Ok) (f : ¬ s.Fine) {y z : D} (hy : y.any = true) (hz : z.any = true) : m_need_ends [s.tbl, y, z] = .ex "NotFine" [] := by
  apply FR.W_exeq
  simp [m_need_ends, y_need_ends, m_need_fine_table_not h f]
theorem need_ends_bad {s : Sc} (h : s.Ok) (f : s.Fine) {y z : D} (hy : y.any = true) (hz : z.any = true) (hb : ¬ (y.isRow s.sends = true ∧ z.isRow s.sends = true)) : m_need_ends [s.tbl, y, z] = .ex "BadSending" [] := by
  rw [m_need_ends_e h f hy hz, if_neg hb]
theorem refuses_parting : Refuses m_parting := by
  refine ⟨fun x y z hx hy hz => ?_, fun s y z h f hy hz => ?_, fun s y z h f hy hz hb => ?_⟩ <;> apply FR.W_exeq
  · simp [m_parting, y_parting, any_sh hx, any_sh hy, any_sh hz, need_ends_odd hx hy hz]
  · simp [m_parting, y_parting, any_sh hy, any_sh hz, need_ends_loud h f hy hz]
  · simp [m_parting, y_parting, any_sh hy, any_sh hz, need_ends_bad h f hy hz hb]
theorem refuses_step : Refuses m_binding_step := by
  refine ⟨fun x y z hx hy hz => ?_, fun s y z h f hy hz => ?_, fun s y z h f hy hz hb => ?_⟩ <;> apply FR.W_exeq
  · simp [m_binding_step, y_binding_step, any_sh hx, any_sh hy, any_sh hz, need_ends_odd hx hy hz]
  · simp [m_binding_step, y_binding_step, any_sh hy, any_sh hz, need_ends_loud h f hy hz]
  · simp [m_binding_step, y_binding_step, any_sh hy, any_sh hz, need_ends_bad h f hy hz hb]
theorem refuses_lam : Refuses ml_0 := by
  refine ⟨fun x y z hx hy hz => ?_, fun s y z h f hy hz => ?_, fun s y z h f hy hz hb => ?_⟩ <;> apply FR.W_exeq
  · simp [ml_0, m_is_binding_step, y_is_binding_step, any_sh hx, any_sh hy, any_sh hz, need_ends_odd hx hy hz]
  · simp [ml_0, m_is_binding_step, y_is_binding_step, any_sh hy, any_sh hz, need_ends_loud h f hy hz]
  · simp [ml_0, m_is_binding_step, y_is_binding_step, any_sh hy, any_sh hz, need_ends_bad h f hy hz hb]
theorem m_law_pairs_e {s : Sc} (h : s.Ok) : m_law_pairs [s.d] = .ok (eL (pairsL (rowsF s.sends))) [] := by
  apply FR.W_eq
  have h6 := h.six
  have hr := h.rlen
  simp [m_law_pairs, y_law_pairs, m_law_rows_e h.sz h6, most_eq]
  generalize rowsF s.sends = K at hr ⊢
  rw [show pairsL K = K.zipIdx.flatMap fun p => (K.drop (p.2 + 1)).map fun q => (p.1, q) from by rw [pairs_zip (fun p q => (p, q)) K]; simp]
  rw [show D.lst [] = eL ([] : List (List Nat × List Nat)) from rfl]
  refine W_for (e := eI) K.zipIdx (fun pre ρ => ∃ o3 o4, ρ = [some s.d, some (eL K), some (eL (pre.flatMap fun p => (K.drop (p.2 + 1)).map fun q => (p.1, q))), o3, o4, none]) ⟨none, none, rfl⟩ ?_ ?_
  · rintro pre ⟨a, i⟩ post hl ρ ⟨o3, o4, rfl⟩
    have hpl : pre.length ≤ 64 := by have := congrArg List.length hl; simp at this; omega
    have hfl := flat_le (fun p : List Nat × Nat => (K.drop (p.2 + 1)).map fun q => (p.1, q)) 64 pre (by intro p _; simp; omega)
    simp [eI, dCut_from1, -List.map_drop]
    generalize pre.flatMap (fun p : List Nat × Nat => (K.drop (p.2 + 1)).map fun q => (p.1, q)) = acc at hfl ⊢
    rw [lcL_all e (K.drop (i + 1)) (fun q => (a, q))]
    · simp only [W_okA, List.length_map]
      refine ⟨by simp [most_eq]; omega, ?_⟩
      simp [-List.map_drop, -List.map_map]
      rw [dAdd_eL (by simp [most_eq]; omega)]
      simp
    · intro b hb
      simp [e_pair, most_eq]
  · rintro ρ ⟨o3, o4, rfl⟩
    simp
theorem m_law_unparted_e {s : Sc} (h : s.Ok) : m_law_unparted [s.d] = .ok (eL s.left) [] := by
  apply FR.W_eq
  have hr := h.rlen
  have hp := pairsL_length (rowsF s.sends)
  have hm := mul_le hr hr
  simp [m_law_unparted, y_law_unparted, m_law_pairs_e h]
  rw [lcL_fil e _ (fun q : List Nat × List Nat => decide (s.parts q.1 q.2 = [])) (fun q => q)]
  · have hl : s.left.length ≤ 64 * 64 := Nat.le_trans (List.length_filter_le _ _) (Nat.le_trans hp hm)
    have hE : (pairsL (rowsF s.sends)).filter (fun q : List Nat × List Nat => decide (s.parts q.1 q.2 = [])) = s.left := rfl
    rw [hE]
    simp [most_eq]
    omega
  · rintro ⟨a, b⟩ hb
    have hm := mem_pairsL hb
    have ha := mem_rows.mp hm.1
    have hb := mem_rows.mp hm.2
    simp [e_pair, dIx0, dIx1, m_law_parts_e h ha hb, most_eq, dEq_nil (α := Nat) (by decide)]
    exact (Classical.em _).symm
end On

set_option Elab.async false
set_option linter.all false
set_option maxRecDepth 100000
set_option maxHeartbeats 4000000
/-! P20: the law k87. -/
namespace On
open PySem PySem.Spec L2
open En (e)
theorem refused_W {s : Sc} (h : s.Ok) (f : s.Fine) (hA : s.sends ∈ allS) {t : Nat} {d : D} (hd : StOk t d) (htt : t + 1000 < 1099511627776) {Q : D → List D → Prop} {E : Str → List D → Prop}
    (hq : ∀ (d' : D), StOk (t + 1000) d' → Q (.bl true) [d']) : (m_law_refused [d, s.d, s.tbl]).W Q E := by
  have h6 := h.six
  have h1 := h.one
  have hrl := h.rlen
  unfold m_law_refused y_law_refused
  rw [W_runF]
  refine W_seq (P := fun ρ => ∃ d' x s', StOk (t + 200) d' ∧ D.any x = true ∧ Sc.Ok s' ∧ s'.sends = s.sends ∧ ρ = [some d', some s.d, some s.tbl, none, none, some (eL (rowsF s.sends)), some x, some s'.d, none, none]) ?_ ?_
  · simp [m_law_rows_e h.sz h6]
    refine odd_W hd (by omega) fun d1 x hd1 hx => ?_
    simp
    refine near_W h hA hd1 (by omega) fun d2 s' hd2 hs' e1 => ?_
    simp [any_sh hx, most_eq]
    exact ⟨d2, hd2.le (by omega), x, hx, s', hs', e1, rfl, rfl, rfl⟩
  rintro ρ ⟨d1, x, s', hd1, hx, hs', e1, rfl⟩
  refine W_seq (P := fun ρ => ∃ d' r, StOk (t + 300) d' ∧ IsRow r s.sends ∧ ρ = [some d', some s.d, some s.tbl, some (e r), none, some (eL (rowsF s.sends)), some x, some s'.d, none, none]) ?_ ?_
  · have hne : rowsF s.sends ≠ [] := fun z => by
      have := prodF_pos s.sends h.sz.pos
      rw [← rowsF_length, z] at this
      simp at this
    simp
    refine pick_W hd1 (by omega) hne (by omega) fun r d2 hr hd2 => ?_
    simp
    exact ⟨d2, hd2.le (by omega), r, mem_rows.mp hr, rfl, rfl⟩
  rintro ρ ⟨d2, r, hd2, hr, rfl⟩
  have hrlen := hr.length
  refine W_seq (P := fun ρ => ∃ d' y, StOk (t + 400) d' ∧ D.any y = true ∧ D.isRow y s.sends = false ∧ ρ = [some d', some s.d, some s.tbl, some (e r), none, some (eL (rowsF s.sends)), some x, some s'.d, some y, some s'.tbl]) ?_ ?_
  · simp
    refine bad_row_W hr (fun z => by rw [z] at hrlen; simp at hrlen; omega) (by omega) hd2 (by omega) fun d3 y hd3 hy1 hy2 => ?_
    simp [m_law_made_e hs', any_sh hy1, most_eq]
    exact ⟨d3, hd3.le (by omega), y, hy1, hy2, rfl, rfl⟩
  rintro ρ ⟨d3, y, hd3, hy1, hy2, rfl⟩
  have hyF : ¬ y.isRow s.sends = true := by rw [hy2]; simp
  refine W_seq (P := fun ρ => ∃ o4, ρ = [some d3, some s.d, some s.tbl, some (e r), o4, some (eL (rowsF s.sends)), some x, some s'.d, some y, some s'.tbl]) ?_ ?_
  · have hit : (D.tup [.gl "parting", .gl "binding_step", .cl 0]).items = some ([D.gl "parting", .gl "binding_step", .cl 0].map id) := rfl
    simp [most_eq]
    refine ⟨_, hit, ?_⟩
    refine W_for (e := id) [D.gl "parting", .gl "binding_step", .cl 0] (fun pre ρ => ∃ o4, ρ = [some d3, some s.d, some s.tbl, some (e r), o4, some (eL (rowsF s.sends)), some x, some s'.d, some y, some s'.tbl]) ⟨none, rfl⟩ ?_ ?_
    · rintro pre w post hp ρ ⟨o4, rfl⟩
      have hw : w ∈ [D.gl "parting", .gl "binding_step", .cl 0] := by rw [hp]; simp
      obtain ⟨m, hm, hR⟩ : ∃ m, cv_law_refused w = some m ∧ Refuses m := by
        simp at hw
        rcases hw with rfl | rfl | rfl
        · exact ⟨_, rfl, refuses_parting⟩
        · exact ⟨_, rfl, refuses_step⟩
        · exact ⟨_, rfl, refuses_lam⟩
      have k1 : kitD csL esL tabL (.exc "BadTable") (.o "BadTable") = some true := by decide
      have k2 : kitD csL esL tabL (.exc "NotFine") (.o "NotFine") = some true := by decide
      have k3 : kitD csL esL tabL (.exc "BadSending") (.o "BadSending") = some true := by decide
      have q1 : ("BadTable" : Str) ∈ esL := by decide
      have q2 : ("NotFine" : Str) ∈ esL := by decide
      have q3 : ("BadSending" : Str) ∈ esL := by decide
      refine ⟨[some d3, some s.d, some s.tbl, some (e r), some w, some (eL (rowsF s.sends)), some x, some s'.d, some y, some s'.tbl], by simp, ?_⟩
      refine W_seq (P := fun ρ => ρ = [some d3, some s.d, some s.tbl, some (e r), some w, some (eL (rowsF s.sends)), some x, some s'.d, some y, some s'.tbl]) ?_ ?_
      · simp [hm, any_sh hx, any_sh hy1, hR.odd x y y hx hy1 hy1, k1, q1]
      rintro ρ rfl
      refine W_seq (P := fun ρ => ρ = [some d3, some s.d, some s.tbl, some (e r), some w, some (eL (rowsF s.sends)), some x, some s'.d, some y, some s'.tbl]) ?_ ?_
      · simp [hm, any_sh hy1, m_law_unparted_e hs', most_eq, dNe_nil (α := List Nat × List Nat) (by decide)]
        by_cases hfn : s'.Fine
        · simp [(left_nil hs').mpr hfn]
        · simp [hR.loud s' y y hs' hfn hy1 hy1, k2, q2, mt (left_nil hs').mp hfn]
      rintro ρ rfl
      refine W_seq (P := fun ρ => ρ = [some d3, some s.d, some s.tbl, some (e r), some w, some (eL (rowsF s.sends)), some x, some s'.d, some y, some s'.tbl]) ?_ ?_
      · simp [hm, any_sh hy1, hR.bad s y (e r) h f hy1 (e_any r) (fun z => hyF z.1), k3, q3]
      rintro ρ rfl
      simp [hm, any_sh hy1, hR.bad s (e r) y h f (e_any r) hy1 (fun z => hyF z.2), k3, q3]
    · rintro ρ ⟨o4, rfl⟩
      simp
  rintro ρ ⟨o4, rfl⟩
  simp
  exact hq d3 (hd3.le (by omega))
theorem begun_W {ns : List Int} (hl : ns.length ≤ 63) {d : D} (hd : D.items d = some (ns.map .int)) (hs : d.sh = true) : ∃ st, m_law_begun [d] = .ok st [] ∧ StOk 0 st := by
  refine ⟨stD (((ns.map Int.natAbs).filter fun c => decide (10 ^ 18 ≤ c)).map fun c => c - 10 ^ 18) (ns.map Int.natAbs) 0 0, ?_, _, _, 0, 0, rfl, ?_, ?_, Nat.le_refl _⟩
  · apply FR.W_eq
    have hp : dPow (e 10) (e 18) = some (e (10 ^ 18)) := dPow_nat (by decide) (by decide)
    generalize (10 ^ 18 : Nat) = K at hp ⊢
    simp [m_law_begun, y_law_begun, hd, hs, hp]
    rw [lcL_all D.int ns Int.natAbs]
    · simp [-List.map_map]
      refine ⟨by rw [most_eq]; omega, ?_⟩
      generalize hc : ns.map Int.natAbs = cs
      have hcl : cs.length ≤ 63 := by rw [← hc]; simpa using hl
      rw [lcL_fil e cs (fun c => decide (K ≤ c)) (fun c => c - K)]
      · simp only [W_okA, List.length_map]
        refine ⟨Nat.le_trans (List.length_filter_le _ _) (by rw [most_eq]; omega), ?_⟩
        have hsh : (eO ((cs.filter fun c => decide (K ≤ c)).map fun c => c - K)).sh = false := rfl
        have hkn : ∀ a b c d : D, kNodup [(.inr "large", a), (.inr "cells", b), (.inr "left", c), (.inr "turn", d)] = true := by
          intro a b c d
          unfold kNodup
          simp only [List.map_cons, List.map_nil]
          decide
        simp [hsh, hkn]
        rfl
      · intro c hc
        simp [hp]
        by_cases z : K ≤ c
        · simp [z]
          right
          rw [e_nat]
          congr 1
          omega
        · simp [z]
          omega
    · intro i hi
      have : dAbs [D.int i] = some (e i.natAbs) := by
        show some (D.int (if i < 0 then -i else i)) = _
        rw [e_nat]
        congr 2
        split <;> omega
      simp [this]
  · rw [List.length_map]
    exact Nat.le_trans (List.length_filter_le _ _) (by simpa using hl)
  · simpa using hl
theorem math_law (ns : List Int) (hl : ns.length ≤ 63) (d : D) (hd : D.items d = some (ns.map .int)) (hs : d.sh = true) : ∃ ms, m_law [d] = .ok (.bl true) ms := by
  have key : (m_law [d]).W (fun r _ => r = .bl true) (fun _ _ => False) := by
    obtain ⟨st, h1, h2⟩ := begun_W hl hd hs
    unfold m_law y_law
    rw [W_runF]
    refine W_seq (P := fun ρ => ρ = [some d, some st, none, none, none, none, none, none]) (by simp [hs, h1]) ?_
    rintro ρ rfl
    refine W_seq (P := fun ρ => ∃ st s, StOk 4000000000 st ∧ Sc.Ok s ∧ s.Fine ∧ s.sends ∈ allS ∧ ρ = [some d, some st, some s.d, none, none, none, none, none]) ?_ ?_
    · simp
      refine fine_W h2 (by omega) fun d1 s hd1 hok hf hA => ?_
      simp
      rw [Nat.zero_add] at hd1
      exact ⟨d1, hd1, s, hok, hf, hA, rfl, rfl⟩
    rintro ρ ⟨st1, s, hst1, h, f, hA, rfl⟩
    have hrl := h.rlen
    refine W_seq (P := fun ρ => ρ = [some d, some st1, some s.d, none, some s.tbl, some (eL (rowsF s.sends)), none, none]) ?_ ?_
    · simp [m_law_made_e h, m_law_rows_e h.sz h.six]
    rintro ρ rfl
    generalize hT : 4000000000 = T at hst1
    refine W_seq (P := fun ρ => ∃ st o3 o6 o7, StOk (T + 100000) st ∧ ρ = [some d, some st, some s.d, o3, some s.tbl, some (eL (rowsF s.sends)), o6, o7]) ?_ ?_
    · have hf := fRng1_e 6 (by omega)
      have hne : rowsF s.sends ≠ [] := fun z => by
        have := prodF_pos s.sends h.sz.pos
        rw [← rowsF_length, z] at this
        simp at this
      simp [hf]
      refine W_for (e := e) (List.range 6) (fun pre ρ => ∃ st o3 o6 o7, StOk (T + 11000 * pre.length) st ∧ ρ = [some d, some st, some s.d, o3, some s.tbl, some (eL (rowsF s.sends)), o6, o7]) ⟨st1, none, none, none, by simpa using hst1, rfl⟩ ?_ ?_
      · rintro pre x post hp ρ ⟨st2, o3, o6, o7, hst2, rfl⟩
        have hpl : pre.length < 6 := by have := congrArg List.length hp; simp at this; omega
        simp
        refine pick_W hst2 (by omega) hne (by omega) fun a st3 ha hst3 => ?_
        simp
        refine pick_W hst3 (by omega) hne (by omega) fun b st4 hb hst4 => ?_
        simp
        refine steps_right_W h f (mem_rows.mp ha) (mem_rows.mp hb) hst4 (by omega) fun st5 hst5 => ?_
        simp
        exact hst5.le (by omega)
      · rintro ρ ⟨st2, o3, o6, o7, hst2, rfl⟩
        simp at hst2
        simp
        exact hst2.le (by omega)
    rintro ρ ⟨st2, o3, o6, o7, hst2, rfl⟩
    simp
    refine refused_W h f hA hst2 (by omega) fun st3 hst3 => ?_
    simp
  cases hr : m_law [d] with
  | ok r ms => rw [hr] at key; exact ⟨ms, by rw [show r = .bl true from key]⟩
  | ex c ms => rw [hr] at key; exact key.elim
  | no => rw [hr] at key; exact key.elim
end On

set_option Elab.async false
set_option linter.all false
set_option maxRecDepth 100000
set_option maxHeartbeats 0
namespace On
open PySem PySem.Spec PyProof.Rows L2
def MathLaw : Prop := ∀ (ns : List Int), ns.length ≤ 63 → (∀ z ∈ ns, Builtin.Int.intBits z ≤ 1048576) → ∀ d, D.items d = some (ns.map .int) → d.sh = true → ∃ ms, m_law [d] = .ok (.bl true) ms
theorem law_at (hmath : MathLaw) {w : World} {K : PySem.W.Frag} {h : Heap} {mg : Str → Option Value} {f : Addr} (X : K.In h) (N : h.Ns mainGlobals mg) (hf : mg ("law" : Str) = some (.ref f)) (c : He.SaysX hfa hfn [] htf hex w h K) :
    LamX.LawAtS PySem.Challenge.rw_onestory_k87_binding_steps w K (L2.CX (PySem.Challenge.rw_onestory_k87_binding_steps).prog w) 16 63 "_law_script" mg f h := by
  have g : ∀ {base : Heap}, K.In base → base.Ns mainGlobals mg → (∀ p ∈ htf.map (He.cT K), LamX.TabB base mg p.1 p.2) → Fk (PySem.Challenge.rw_onestory_k87_binding_steps).prog w K mg base (gsOf K htf hlm) := fun X N TB => fk_of c X N TB
  obtain ⟨fd, F⟩ := c.t.d.def_ 72 (d := hd_law) rfl
  have e : f = He.ga K "law" := by
    have z := hf.symm.trans (He.glo_ok X N (c.t.d.fact 72 (f := .glo "law") rfl))
    cases z
    rfl
  subst e
  have b := FunD.bindsA (ps := ["_law_script"]) F fun _ _ _ _ _ _ us hl => match us, hl with | [_], _ => rfl
  have mm := (He.ba (He.ba (He.ba (He.ba c.more).2).2).2).2
  refine ⟨fd, htf.map (He.cT K), spF (gsOf K htf hlm) m_law [false], ?_, ?_, ?_, fun s v => b s [v] rfl, ?_, fun base X' N' TB => fn_law (g X' N' TB) F⟩
  · intro p hp
    obtain ⟨q, hq, rfl⟩ := List.mem_map.mp hp
    exact c.empty q hq
  · intro p hp
    obtain ⟨q, hq, rfl⟩ := List.mem_map.mp hp
    exact c.out q hq
  · intro p hp
    obtain ⟨q, hq, rfl⟩ := List.mem_map.mp hp
    exact PySem.W.codeHd_of_K X (c.hd q hq)
  · intro H a ns hl hb hH hS
    refine law_sp mm (fun p hp => ?_) hS (hmath ns hl hb)
    obtain ⟨q, hq, rfl⟩ := List.mem_map.mp hp
    exact LamX.TabS.nil (hH (He.cT K q) (List.mem_map.mpr ⟨q, hq, rfl⟩))
end On
open PySem PySem.W PySem.Calls PyProof.Rows
theorem holds_of (hmath : On.MathLaw) : PySem.Challenge.rw_onestory_k87_binding_steps.Holds := by
  w_on; o_law
  refine HandSHeadRun.head_any (r := OpenLaw.row PySem.Challenge.rw_onestory_k87_binding_steps) (q := view (OpenLaw.row PySem.Challenge.rw_onestory_k87_binding_steps).prog [92]) (H := On.hk) (ob := On.hob) (M := 6000) (loose := On.loose) (d := HandSHeadRun.topDef (OpenLaw.row PySem.Challenge.rw_onestory_k87_binding_steps).prog 92) (kwd := []) On.hob_eq
    (by kernel_rfl) (fun s => by kernel_rfl) On.hrun (by kernel_rfl) (by kernel_rfl) (by kernel_rfl) (by rfl) (by first | assumption | decide +kernel) (by decide +kernel) ⟨rfl, rfl, rfl, rfl, rfl, by decide +kernel⟩ ?hw ?hc
  case hw => w_witness2
  case hc =>
    refine LamX.walk_ofTsE (l := PySem.Challenge.rw_onestory_k87_binding_steps) (n := 63) (k := 16) (x := "_law_script") (CX := fun w => L2.CX (PySem.Challenge.rw_onestory_k87_binding_steps).prog w) rfl (by decide) (by kernel_rfl) ⟨rfl, by decide, by decide⟩ ?F (fun _ _ _ _ _ z => On.cx_none z)
    intro w mg fa h Y G hmg0
    obtain ⟨K, KX, c⟩ := Y
    have hmg : mg ("law" : PySem.Str) = some (.ref fa) := by
      have e : (HandSHeadRun.topDef (OpenLaw.row PySem.Challenge.rw_onestory_k87_binding_steps).prog 92).name = ("law" : PySem.Str) := by kernel_rfl
      rw [← e]
      exact hmg0
    exact ⟨K, KX, On.law_at hmath KX G hmg c⟩

set_option maxRecDepth 100000
set_option maxHeartbeats 0
theorem PySem.Challenge.cw_onestory_k87_binding_steps_holds : PySem.Challenge.rw_onestory_k87_binding_steps.Holds :=
  holds_of fun ns hl _ d hd hs => On.math_law ns hl d hd hs

