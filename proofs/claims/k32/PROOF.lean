import PyProof.Rows.All
import Wide.All
import OpenK.AllK
import Wide.FinOn
import PyProof.EqAt
import PyProof.EqKinds
import PyProof.TupleCall
import HandS.Base
import HandS.Call
import HandS.List
import HandS.Comp
import HandS.Ends
import HandS.Dict
import HandS.Iter
import HandS.Text
import HandS.Words
import HandS.WordsList
import HandS.WordsExc
import HandS.Exc
import HandS.ExcOwn
import HandS.Wide
import HandS.IsInst
import HandS.TupAny
import HandS.TupMul
import HandS.Lambda
import HandS.EndTab
import HandS.HeadWalk
import HandS.HeadHook1
import HandS.HeadHook2
import HandS.Defaults
import HandS.NoneIn
import HandS.Style
import KE.KDictDisplayH
import HandS.HeadEnd
import HandS.Head0
import HandS.Head1
import HandS.Head2
import HandS.HeadHook3
import HandS.HeadHook4
import HandS.Replace
import HandS.ExcIs
import HandS.Flt
import HandS.More
import HandS.TryMany
import HandS.CallLocal
import HandS.Strs
import HandS.ReplaceLit
import HandS.ReplaceList
import HandS.Zip
import PyProof.ReprRoads
import HandS.Deep
import HandS.Small
import PyProof.DictUpdate
import KE.GoesMore
import KE.KItemsList
import HandS.DictTup
import KE.KDictZip
import HandS.ReplaceDef
import KE.IntTextLaws
import PySem.Challenge.RW_pocketpile_k32_whole_steps
set_option Elab.async false
set_option linter.all false
set_option maxRecDepth 100000
set_option maxHeartbeats 4000000
namespace LW
open PySem PySem.Spec PyProof.Rows L2
def topS (i : Nat) : Stmt := PySem.Challenge.pw_pocketpile_k32_whole_steps.main.body.getD i (.Pass ⟨0, 0, 0, 0⟩)
abbrev s_ten : Stmt := topS 8
abbrev s_figures_of : Stmt := topS 9
abbrev s_height : Stmt := topS 10
abbrev s_taken : Stmt := topS 11
abbrev s_by_size : Stmt := topS 12
abbrev s_fitted : Stmt := topS 13
abbrev s_power_for : Stmt := topS 14
abbrev s_exact : Stmt := topS 15
abbrev s_level : Stmt := topS 17
abbrev s_of_power : Stmt := topS 18
abbrev s_plus : Stmt := topS 19
abbrev s_turned : Stmt := topS 20
abbrev s_minus : Stmt := topS 21
abbrev s_times : Stmt := topS 22
abbrev s_over : Stmt := topS 23
abbrev s_less : Stmt := topS 24
abbrev s_whole_root : Stmt := topS 25
abbrev s_root : Stmt := topS 26
abbrev s_is_key : Stmt := topS 33
abbrev s_begin : Stmt := topS 34
abbrev s_told_by : Stmt := topS 35
abbrev s_lifted : Stmt := topS 36
abbrev s_if_due : Stmt := topS 37
abbrev s_typed : Stmt := topS 38
abbrev s_signed : Stmt := topS 39
abbrev s_told_of : Stmt := topS 40
abbrev s_with_deed : Stmt := topS 41
abbrev s_with_box : Stmt := topS 42
abbrev s_moved : Stmt := topS 43
abbrev s_pressed : Stmt := topS 44
abbrev s_run : Stmt := topS 45
abbrev s_behind_mark : Stmt := topS 48
abbrev s_is_so : Stmt := topS 49
abbrev s_led : Stmt := topS 50
abbrev s_step : Stmt := topS 51
abbrev s__law_cell_at : Stmt := topS 53
abbrev s__law_mixed : Stmt := topS 54
abbrev s__law_drawn : Stmt := topS 55
abbrev s__law_ten : Stmt := topS 56
abbrev s__law_height : Stmt := topS 57
abbrev s__law_tidy : Stmt := topS 58
abbrev s__law_exact : Stmt := topS 60
abbrev s__law_manner : Stmt := topS 61
abbrev s__law_deed : Stmt := topS 62
abbrev s__law_state : Stmt := topS 64
abbrev s__law_push : Stmt := topS 65
abbrev s__law_end : Stmt := topS 66
abbrev s__law_typed : Stmt := topS 67
abbrev s__law_reckoned : Stmt := topS 68
abbrev s__law_press : Stmt := topS 69
abbrev s__law_key : Stmt := topS 70
abbrev s__law_row : Stmt := topS 71
abbrev s__law_line : Stmt := topS 72
abbrev s__law_program : Stmt := topS 73
abbrev s__law_open : Stmt := topS 74
abbrev s__law_led : Stmt := topS 75
abbrev s__law_holds : Stmt := topS 76
abbrev s__law_due : Stmt := topS 77
abbrev s_law : Stmt := topS 78
def k_PLAIN_KEYS : List Str := ["sign", "enter", "root", "swap", "roll", "last", "clear"]
def dd_ten : He.DefD := ⟨("ten", none), "ten", "ten", defArgs s_ten, defBody s_ten, defScope s_ten, [], []⟩
def dd_figures_of : He.DefD := ⟨("figures_of", none), "figures_of", "figures_of", defArgs s_figures_of, defBody s_figures_of, defScope s_figures_of, [], []⟩
def dd_height : He.DefD := ⟨("height", none), "height", "height", defArgs s_height, defBody s_height, defScope s_height, [], []⟩
def dd_taken : He.DefD := ⟨("taken", none), "taken", "taken", defArgs s_taken, defBody s_taken, defScope s_taken, [], []⟩
def dd_by_size : He.DefD := ⟨("by_size", none), "by_size", "by_size", defArgs s_by_size, defBody s_by_size, defScope s_by_size, [], []⟩
def dd_fitted : He.DefD := ⟨("fitted", none), "fitted", "fitted", defArgs s_fitted, defBody s_fitted, defScope s_fitted, [], []⟩
def dd_power_for : He.DefD := ⟨("power_for", none), "power_for", "power_for", defArgs s_power_for, defBody s_power_for, defScope s_power_for, [], []⟩
def dd_exact : He.DefD := ⟨("exact", none), "exact", "exact", defArgs s_exact, defBody s_exact, defScope s_exact, [], []⟩
def dd_level : He.DefD := ⟨("level", none), "level", "level", defArgs s_level, defBody s_level, defScope s_level, [], []⟩
def dd_of_power : He.DefD := ⟨("of_power", none), "of_power", "of_power", defArgs s_of_power, defBody s_of_power, defScope s_of_power, [], []⟩
def dd_plus : He.DefD := ⟨("plus", none), "plus", "plus", defArgs s_plus, defBody s_plus, defScope s_plus, [], []⟩
def dd_turned : He.DefD := ⟨("turned", none), "turned", "turned", defArgs s_turned, defBody s_turned, defScope s_turned, [], []⟩
def dd_minus : He.DefD := ⟨("minus", none), "minus", "minus", defArgs s_minus, defBody s_minus, defScope s_minus, [], []⟩
def dd_times : He.DefD := ⟨("times", none), "times", "times", defArgs s_times, defBody s_times, defScope s_times, [], []⟩
def dd_over : He.DefD := ⟨("over", none), "over", "over", defArgs s_over, defBody s_over, defScope s_over, [], []⟩
def dd_less : He.DefD := ⟨("less", none), "less", "less", defArgs s_less, defBody s_less, defScope s_less, [], []⟩
def dd_whole_root : He.DefD := ⟨("whole_root", none), "whole_root", "whole_root", defArgs s_whole_root, defBody s_whole_root, defScope s_whole_root, [], []⟩
def dd_root : He.DefD := ⟨("root", none), "root", "root", defArgs s_root, defBody s_root, defScope s_root, [], []⟩
def dd_is_key : He.DefD := ⟨("is_key", none), "is_key", "is_key", defArgs s_is_key, defBody s_is_key, defScope s_is_key, [], []⟩
def dd_begin : He.DefD := ⟨("begin", none), "begin", "begin", defArgs s_begin, defBody s_begin, defScope s_begin, [], []⟩
def dd_told_by : He.DefD := ⟨("told_by", none), "told_by", "told_by", defArgs s_told_by, defBody s_told_by, defScope s_told_by, [], []⟩
def dd_lifted : He.DefD := ⟨("lifted", none), "lifted", "lifted", defArgs s_lifted, defBody s_lifted, defScope s_lifted, [], []⟩
def dd_if_due : He.DefD := ⟨("if_due", none), "if_due", "if_due", defArgs s_if_due, defBody s_if_due, defScope s_if_due, [], []⟩
def dd_typed : He.DefD := ⟨("typed", none), "typed", "typed", defArgs s_typed, defBody s_typed, defScope s_typed, [], []⟩
def dd_signed : He.DefD := ⟨("signed", none), "signed", "signed", defArgs s_signed, defBody s_signed, defScope s_signed, [], []⟩
def dd_told_of : He.DefD := ⟨("told_of", none), "told_of", "told_of", defArgs s_told_of, defBody s_told_of, defScope s_told_of, [], []⟩
def dd_with_deed : He.DefD := ⟨("with_deed", none), "with_deed", "with_deed", defArgs s_with_deed, defBody s_with_deed, defScope s_with_deed, [], []⟩
def dd_with_box : He.DefD := ⟨("with_box", none), "with_box", "with_box", defArgs s_with_box, defBody s_with_box, defScope s_with_box, [], []⟩
def dd_moved : He.DefD := ⟨("moved", none), "moved", "moved", defArgs s_moved, defBody s_moved, defScope s_moved, [], []⟩
def dd_pressed : He.DefD := ⟨("pressed", none), "pressed", "pressed", defArgs s_pressed, defBody s_pressed, defScope s_pressed, [], []⟩
def dd_run : He.DefD := ⟨("run", none), "run", "run", defArgs s_run, defBody s_run, defScope s_run, [], []⟩
def dd_behind_mark : He.DefD := ⟨("behind_mark", none), "behind_mark", "behind_mark", defArgs s_behind_mark, defBody s_behind_mark, defScope s_behind_mark, [], []⟩
def dd_is_so : He.DefD := ⟨("is_so", none), "is_so", "is_so", defArgs s_is_so, defBody s_is_so, defScope s_is_so, [], []⟩
def dd_led : He.DefD := ⟨("led", none), "led", "led", defArgs s_led, defBody s_led, defScope s_led, [], []⟩
def dd_step : He.DefD := ⟨("step", none), "step", "step", defArgs s_step, defBody s_step, defScope s_step, [], []⟩
def dd__law_cell_at : He.DefD := ⟨("_law_cell_at", none), "_law_cell_at", "_law_cell_at", defArgs s__law_cell_at, defBody s__law_cell_at, defScope s__law_cell_at, [], []⟩
def dd__law_mixed : He.DefD := ⟨("_law_mixed", none), "_law_mixed", "_law_mixed", defArgs s__law_mixed, defBody s__law_mixed, defScope s__law_mixed, [], []⟩
def dd__law_drawn : He.DefD := ⟨("_law_drawn", none), "_law_drawn", "_law_drawn", defArgs s__law_drawn, defBody s__law_drawn, defScope s__law_drawn, [], []⟩
def dd__law_ten : He.DefD := ⟨("_law_ten", none), "_law_ten", "_law_ten", defArgs s__law_ten, defBody s__law_ten, defScope s__law_ten, [], []⟩
def dd__law_height : He.DefD := ⟨("_law_height", none), "_law_height", "_law_height", defArgs s__law_height, defBody s__law_height, defScope s__law_height, [], []⟩
def dd__law_tidy : He.DefD := ⟨("_law_tidy", none), "_law_tidy", "_law_tidy", defArgs s__law_tidy, defBody s__law_tidy, defScope s__law_tidy, [], []⟩
def dd__law_exact : He.DefD := ⟨("_law_exact", none), "_law_exact", "_law_exact", defArgs s__law_exact, defBody s__law_exact, defScope s__law_exact, [], []⟩
def dd__law_manner : He.DefD := ⟨("_law_manner", none), "_law_manner", "_law_manner", defArgs s__law_manner, defBody s__law_manner, defScope s__law_manner, [], []⟩
def dd__law_deed : He.DefD := ⟨("_law_deed", none), "_law_deed", "_law_deed", defArgs s__law_deed, defBody s__law_deed, defScope s__law_deed, [], []⟩
def dd__law_state : He.DefD := ⟨("_law_state", none), "_law_state", "_law_state", defArgs s__law_state, defBody s__law_state, defScope s__law_state, [], []⟩
def dd__law_push : He.DefD := ⟨("_law_push", none), "_law_push", "_law_push", defArgs s__law_push, defBody s__law_push, defScope s__law_push, [], []⟩
def dd__law_end : He.DefD := ⟨("_law_end", none), "_law_end", "_law_end", defArgs s__law_end, defBody s__law_end, defScope s__law_end, [], []⟩
def dd__law_typed : He.DefD := ⟨("_law_typed", none), "_law_typed", "_law_typed", defArgs s__law_typed, defBody s__law_typed, defScope s__law_typed, [], []⟩
def dd__law_reckoned : He.DefD := ⟨("_law_reckoned", none), "_law_reckoned", "_law_reckoned", defArgs s__law_reckoned, defBody s__law_reckoned, defScope s__law_reckoned, [], []⟩
def dd__law_press : He.DefD := ⟨("_law_press", none), "_law_press", "_law_press", defArgs s__law_press, defBody s__law_press, defScope s__law_press, [], []⟩
def dd__law_key : He.DefD := ⟨("_law_key", none), "_law_key", "_law_key", defArgs s__law_key, defBody s__law_key, defScope s__law_key, [], []⟩
def dd__law_row : He.DefD := ⟨("_law_row", none), "_law_row", "_law_row", defArgs s__law_row, defBody s__law_row, defScope s__law_row, [], []⟩
def dd__law_line : He.DefD := ⟨("_law_line", none), "_law_line", "_law_line", defArgs s__law_line, defBody s__law_line, defScope s__law_line, [], []⟩
def dd__law_program : He.DefD := ⟨("_law_program", none), "_law_program", "_law_program", defArgs s__law_program, defBody s__law_program, defScope s__law_program, [], []⟩
def dd__law_open : He.DefD := ⟨("_law_open", none), "_law_open", "_law_open", defArgs s__law_open, defBody s__law_open, defScope s__law_open, [], []⟩
def dd__law_led : He.DefD := ⟨("_law_led", none), "_law_led", "_law_led", defArgs s__law_led, defBody s__law_led, defScope s__law_led, [], []⟩
def dd__law_holds : He.DefD := ⟨("_law_holds", none), "_law_holds", "_law_holds", defArgs s__law_holds, defBody s__law_holds, defScope s__law_holds, [], []⟩
def dd__law_due : He.DefD := ⟨("_law_due", none), "_law_due", "_law_due", defArgs s__law_due, defBody s__law_due, defScope s__law_due, [], []⟩
def dd_law : He.DefD := ⟨("law", none), "law", "law", defArgs s_law, defBody s_law, defScope s_law, [], []⟩
def fn : List He.DefD := [dd_ten, dd_figures_of, dd_height, dd_taken, dd_by_size, dd_fitted, dd_power_for, dd_exact, dd_level, dd_of_power, dd_plus, dd_turned, dd_minus, dd_times, dd_over, dd_less, dd_whole_root, dd_root, dd_is_key, dd_begin, dd_told_by, dd_lifted, dd_if_due, dd_typed, dd_signed, dd_told_of, dd_with_deed, dd_with_box, dd_moved, dd_pressed, dd_run, dd_behind_mark, dd_is_so, dd_led, dd_step, dd__law_cell_at, dd__law_mixed, dd__law_drawn, dd__law_ten, dd__law_height, dd__law_tidy, dd__law_exact, dd__law_manner, dd__law_deed, dd__law_state, dd__law_push, dd__law_end, dd__law_typed, dd__law_reckoned, dd__law_press, dd__law_key, dd__law_row, dd__law_line, dd__law_program, dd__law_open, dd__law_led, dd__law_holds, dd__law_due, dd_law]
def fa : List He.Fa := [.glo "ten", .glo "figures_of", .glo "height", .glo "taken", .glo "by_size", .glo "fitted", .glo "power_for", .glo "exact", .glo "level", .glo "of_power", .glo "plus", .glo "turned", .glo "minus", .glo "times", .glo "over", .glo "less", .glo "whole_root", .glo "root", .glo "is_key", .glo "begin", .glo "told_by", .glo "lifted", .glo "if_due", .glo "typed", .glo "signed", .glo "told_of", .glo "with_deed", .glo "with_box", .glo "moved", .glo "pressed", .glo "run", .glo "behind_mark", .glo "is_so", .glo "led", .glo "step", .glo "_law_cell_at", .glo "_law_mixed", .glo "_law_drawn", .glo "_law_ten", .glo "_law_height", .glo "_law_tidy", .glo "_law_exact", .glo "_law_manner", .glo "_law_deed", .glo "_law_state", .glo "_law_push", .glo "_law_end", .glo "_law_typed", .glo "_law_reckoned", .glo "_law_press", .glo "_law_key", .glo "_law_row", .glo "_law_line", .glo "_law_program", .glo "_law_open", .glo "_law_led", .glo "_law_holds", .glo "_law_due", .glo "law", .free "int", .free "abs", .free "str", .free "len", .free "max", .free "min", .free "isinstance", .free "range", .free "tuple", .free "dict", .free "list", .free "zip", .int "HIGHEST" (40), .int "MOST" (8), .int "BOXES" (10), .int "MOST_CALLS" (4), .str "FIGURES" "0123456789", .glo "PLAIN_KEYS", .glo "ZERO", .glo "DEEDS", .glo "NoDeed", .glo "TooGreat", .exm "NoDeed" "NoDeed" true, .exm "TooGreat" "NoDeed" false, .exm "TooGreat" "TooGreat" true, .exc "TooGreat", .exc "NoDeed", .glo "NoKey", .exc "NoKey"]
def ts : List He.Tab := [((fun K => He.ga K "DEEDS"), ["plus", "minus", "times", "over"])]
def tf : List He.Defn := []
def ex (K : PySem.W.Frag) : Bool := (He.tupB K "PLAIN_KEYS" (k_PLAIN_KEYS.map He.Dv.str) && (He.tupB K "ZERO" (([0, 0] : List Int).map He.Dv.int) && (He.valsB K (He.ga K "DEEDS") [("plus", He.Dv.glo "plus"), ("minus", He.Dv.glo "minus"), ("times", He.Dv.glo "times"), ("over", He.Dv.glo "over")] && true)))
abbrev R : PySem.W.OpenRow := PySem.W.OpenLaw.row PySem.Challenge.rw_pocketpile_k32_whole_steps
abbrev hk : PySem.W.Hook := He.hookX 5 fa fn ts tf ex
def ob (s : PySem.W.SharedT) : He.AlX := He.obsX 5 fa fn ts tf ex (HandSHeadRun.getT s)
theorem ob_eq (s : PySem.W.SharedT) : ob s = hk.obs s.abs := He.obsX_eq (HandSHeadRun.getT_eq s)
def names : List PySem.Str := (["PileError", "TooGreat", "NoDeed", "NoKey", "MOST", "HIGHEST", "ten", "figures_of", "height", "taken", "by_size", "fitted", "power_for", "exact", "level", "of_power", "plus", "turned", "minus", "times"] : List PySem.Str) ++ (["over", "less", "whole_root", "root", "FIGURES", "ZERO", "DEEDS", "PLAIN_KEYS", "BOXES", "is_key", "begin", "told_by", "lifted", "if_due", "typed", "signed", "told_of", "with_deed", "with_box", "moved"] : List PySem.Str) ++ (["pressed", "run", "MOST_CALLS", "behind_mark", "is_so", "led", "step", "_law_cell_at", "_law_mixed", "_law_drawn", "_law_ten", "_law_height", "_law_tidy", "_law_number", "_law_exact", "_law_manner", "_law_deed", "_law_begin", "_law_state", "_law_push"] : List PySem.Str) ++ (["_law_end", "_law_typed", "_law_reckoned", "_law_press", "_law_key", "_law_row", "_law_line", "_law_program", "_law_open", "_law_led", "_law_holds", "_law_due"] : List PySem.Str)
theorem run_f (w : World) : HandSHeadRun.RunEq R (PySem.W.view R.prog [78]) hk ob 5000 names (w.withFollow "special-get-raises" false) := by
  intro os
  kernel_rfl
theorem run_t (w : World) : HandSHeadRun.RunEq R (PySem.W.view R.prog [78]) hk ob 5000 names (w.withFollow "special-get-raises" true) := by
  intro os
  kernel_rfl
end LW
/-! DN: a program's defs as plain functions of data. The heap is dealt with here, once. -/
namespace DN
open PySem PySem.Spec PyProof.Rows L2
open LamX (Tabs ExtN)

/-- data -/
inductive D where
  | non | bl (b : Bool) | int (i : Int) | str (x : Str) | lst (xs : List D) | tup (xs : List D) | fn (x : Str) | ty (n : String)
  | dK (kvs : List (Key × V)) | dT (kvs : List (List Key × V)) | arr (ns : List Int)
  /-- a tuple of texts that has no dict of its own -/
  | pro (xs : List Str)
  /-- a dict whose keys are nested tuples (an object of the frame's own) -/
  | dic (P : Program) (w : World) (ks vs : List D)
  /-- a thing known by its address alone -/
  | adr (a : Addr)
  /-- an instance of the class c, its attributes (an object of the frame's own) -/
  | ins (c : Str) (ns : List Str) (vs : List D)
  /-- a dict of text keys, frozen; where its address is known, that one -/
  | tab (o : Option Addr) (ks : List Str) (vs : List D)
  /-- a tuple of ints, made at run time -/
  | pw (ks : List Int)
  /-- a tuple that has no dict of its own -/
  | frm (ds : List D)
def kvK (ks : List Str) (vs : List V) : List (Key × V) := (ks.zip vs).map fun q => (Sum.inr q.1, q.2)

/-- what comes: a value, an own error by its class's name, or nothing is promised -/
inductive Res (α : Type) where
  | ok (a : α) | ex (n : Str) | bad
def Res.bind {α β : Type} : Res α → (α → Res β) → Res β
  | .ok a, f => f a
  | .ex n, _ => .ex n
  | .bad, _ => .bad
def Res.map {α β : Type} (r : Res α) (f : α → β) : Res β := r.bind fun a => .ok (f a)
def ofO {α : Type} : Option α → Res α
  | some a => .ok a
  | none => .bad

mutual
inductive Rp (K : PySem.W.Frag) (H : Hp) : V → D → Prop
  | non : Rp K H .non .non
  | bl (b : Bool) : Rp K H (.bl b) (.bl b)
  | int (i : Int) : Rp K H (.int i) (.int i)
  | str (x : Str) : Rp K H (.str x) (.str x)
  | fn (x : Str) : Rp K H (.ref (He.ga K x)) (.fn x)
  | ty (n : String) : Rp K H (.ty n) (.ty n)
  | lst {a : Addr} {xs : List V} {ds : List D} : H a = some (.lst xs) → RpAll K H xs ds → Rp K H (.ref a) (.lst ds)
  | tup {a : Addr} {xs : List V} {ds : List D} : SqT K H a xs → RpAll K H xs ds → Rp K H (.ref a) (.tup ds)
  | dK {a : Addr} {kvs : List (Key × V)} : H a = some (.dK kvs) → Rp K H (.ref a) (.dK kvs)
  | dT {a : Addr} {kvs : List (List Key × V)} : (∃ od, H a = some (.frz od (.dT kvs))) → Rp K H (.ref a) (.dT kvs)
  | arr {a : Addr} {ns : List Int} : SqL K H a (ns.map V.int) → Rp K H (.ref a) (.arr ns)
  | pro {a : Addr} {xs : List Str} : (∃ o : Obj, o.cls = .type "tuple" ∧ o.dict = none ∧ H a = some (.frz o (.tup (xs.map V.str)))) → Rp K H (.ref a) (.pro xs)
  | adr (a : Addr) : Rp K H (.ref a) (.adr a)
  | tab {a : Addr} {o : Option Addr} {ks : List Str} {ws : List V} {ds : List D} : (∀ p, o = some p → a = p) → H a = some (.dK (kvK ks ws)) → ks.length = ws.length → RpAll K H ws ds → Rp K H (.ref a) (.tab o ks ds)
  | pw {a : Addr} {ks : List Int} : H a = some (.tup (ks.map V.int)) → Rp K H (.ref a) (.pw ks)
  | frm {a : Addr} {xs : List V} {ds : List D} : (∃ o : Obj, o.cls = .type "tuple" ∧ o.dict = none ∧ H a = some (.frz o (.tup xs))) → RpAll K H xs ds → Rp K H (.ref a) (.frm ds)
inductive RpAll (K : PySem.W.Frag) (H : Hp) : List V → List D → Prop
  | nil : RpAll K H [] []
  | cons {v : V} {vs : List V} {d : D} {ds : List D} : Rp K H v d → RpAll K H vs ds → RpAll K H (v :: vs) (d :: ds)
end

def Sub (F H : Hp) : Prop := ∀ a o, F a = some o → H a = some o
theorem Sub.refl (F : Hp) : Sub F F := fun _ _ h => h
theorem Sub.trans {F G H : Hp} (a : Sub F G) (b : Sub G H) : Sub F H := fun x o h => b x o (a x o h)
theorem Sub.rd {F H : Hp} {a : Addr} {u : HO} (e : Sub F H) (h : Rd F a u) : Rd H a u := by
  rcases h with h | ⟨o, h⟩
  · exact .inl (e _ _ h)
  · exact .inr ⟨o, e _ _ h⟩
theorem Sub.sl {K : PySem.W.Frag} {F H : Hp} {a : Addr} {xs : List V} (e : Sub F H) (h : SqL K F a xs) : SqL K H a xs := h.elim (fun h => .inl (e.rd h)) .inr
theorem Sub.st {K : PySem.W.Frag} {F H : Hp} {a : Addr} {xs : List V} (e : Sub F H) (h : SqT K F a xs) : SqT K H a xs := h.elim (fun h => .inl (e.rd h)) .inr
mutual
theorem Rp.mono {K : PySem.W.Frag} {F H : Hp} (e : Sub F H) : ∀ {v : V} {d : D}, Rp K F v d → Rp K H v d
  | _, _, .non => .non
  | _, _, .bl b => .bl b
  | _, _, .int i => .int i
  | _, _, .str x => .str x
  | _, _, .fn x => .fn x
  | _, _, .ty n => .ty n
  | _, _, .lst h t => .lst (e _ _ h) (RpAll.mono e t)
  | _, _, .tup h t => .tup (e.st h) (RpAll.mono e t)
  | _, _, .dK h => .dK (e _ _ h)
  | _, _, .dT ⟨od, h⟩ => .dT ⟨od, e _ _ h⟩
  | _, _, .arr h => .arr (e.sl h)
  | _, _, .pro ⟨o, h1, h2, h3⟩ => .pro ⟨o, h1, h2, e _ _ h3⟩
  | _, _, .adr a => .adr a
  | _, _, .tab h1 h2 h3 t => .tab h1 (e _ _ h2) h3 (RpAll.mono e t)
  | _, _, .pw h => .pw (e _ _ h)
  | _, _, .frm ⟨o, h1, h2, h3⟩ t => .frm ⟨o, h1, h2, e _ _ h3⟩ (RpAll.mono e t)
theorem RpAll.mono {K : PySem.W.Frag} {F H : Hp} (e : Sub F H) : ∀ {vs : List V} {ds : List D}, RpAll K F vs ds → RpAll K H vs ds
  | _, _, .nil => .nil
  | _, _, .cons h t => .cons (Rp.mono e h) (RpAll.mono e t)
end
section
variable {K : PySem.W.Frag} {F H : Hp}
theorem RpAll.length : ∀ {vs : List V} {ds : List D}, RpAll K F vs ds → vs.length = ds.length
  | _, _, .nil => rfl
  | _, _, .cons _ t => by rw [List.length_cons, List.length_cons, RpAll.length t]
theorem RpAll.get : ∀ {vs : List V} {ds : List D} {i : Nat} {d : D}, RpAll K F vs ds → ds[i]? = some d → ∃ v, vs[i]? = some v ∧ Rp K F v d
  | _, _, _, _, .nil, e => by simp at e
  | _, _, 0, _, .cons h _, e => by
    simp at e; subst e; exact ⟨_, rfl, h⟩
  | _, _, i + 1, d, .cons _ t, e => by
    obtain ⟨v, h1, h2⟩ := RpAll.get (i := i) (d := d) t (by simpa using e)
    exact ⟨v, by simpa using h1, h2⟩
theorem RpAll.append : ∀ {vs ws : List V} {ds es : List D}, RpAll K F vs ds → RpAll K F ws es → RpAll K F (vs ++ ws) (ds ++ es)
  | _, _, _, _, .nil, s => s
  | _, _, _, _, .cons h t, s => .cons h (RpAll.append t s)
theorem RpAll.take : ∀ {vs : List V} {ds : List D} (n : Nat), RpAll K F vs ds → RpAll K F (vs.take n) (ds.take n)
  | _, _, 0, _ => by simp; exact .nil
  | _, _, _ + 1, .nil => .nil
  | _, _, n + 1, .cons h t => .cons h (RpAll.take n t)
theorem RpAll.drop : ∀ {vs : List V} {ds : List D} (n : Nat), RpAll K F vs ds → RpAll K F (vs.drop n) (ds.drop n)
  | _, _, 0, r => r
  | _, _, _ + 1, .nil => .nil
  | _, _, n + 1, .cons _ t => RpAll.drop n t
theorem RpAll.ints : ∀ (ns : List Int), RpAll K F (ns.map V.int) (ns.map D.int)
  | [] => .nil
  | n :: ns => .cons (.int n) (RpAll.ints ns)
end

/-- the frozen part F of H -/
structure Fz (F H : Hp) : Prop where
  sub : Sub F H
  nt : ∀ a ps, F a ≠ some (.tbl ps)
/-- a table, or a tuple (which no one changes) -/
def Sd (o : HO) : Prop := (∃ ps, o = .tbl ps) ∨ ∃ xs, o = .tup xs
/-- from (F, H) to (F', H') -/
structure Nx (T : List (Addr × Str)) (F H F' H' : Hp) : Prop where
  f : Sub F F'
  z : Fz F' H'
  h : ExtN H H'
  new : ∀ a o, F' a = some o → F a = some o ∨ ∀ o', H a = some o' → Sd o'
  tab : Tabs T H → Tabs T H'
section
variable {T : List (Addr × Str)} {F H F1 H1 F2 H2 : Hp}
theorem Nx.refl (z : Fz F H) : Nx T F H F H := ⟨Sub.refl F, z, ExtN.refl H, fun _ _ h => .inl h, fun h => h⟩
theorem Nx.trans (a : Nx T F H F1 H1) (b : Nx T F1 H1 F2 H2) : Nx T F H F2 H2 where
  f := a.f.trans b.f
  z := b.z
  h := a.h.trans b.h
  new := fun x o e => by
    rcases b.new x o e with h | h
    · exact a.new x o h
    · refine .inr fun o' e' => ?_
      by_cases q : ∃ ps, o' = .tbl ps
      · exact .inl q
      · exact h o' (a.h x o' e' fun ps z => q ⟨ps, z⟩)
  tab := fun h => b.tab (a.tab h)
/-- a new object that is frozen from its begin -/
theorem Nx.push {p : Addr} {o : HO} (z : Fz F H) (hp : H p = none) (ho : ∀ ps, o ≠ .tbl ps) : Nx T F H (upd F p o) (upd H p o) := by
  have fp : F p = none := by
    cases q : F p with
    | none => rfl
    | some u =>
      have := z.sub _ _ q
      rw [hp] at this; cases this
  refine ⟨fun a u e => ?_, ⟨fun a u e => ?_, fun a ps e => ?_⟩, fun b u e _ => ?_, fun a u e => ?_, fun t => t.ext fun b u e => ?_⟩
  · rw [upd_ne (ne_of_none e fp)]; exact e
  · by_cases h : a = p
    · subst h; rw [upd_same] at e ⊢; exact e
    · rw [upd_ne h] at e ⊢; exact z.sub _ _ e
  · by_cases h : a = p
    · subst h; rw [upd_same] at e; exact ho ps (Option.some.inj e)
    · rw [upd_ne h] at e; exact z.nt _ _ e
  · rw [upd_ne (ne_of_none e hp)]; exact e
  · by_cases h : a = p
    · subst h; exact .inr fun o' e' => by rw [hp] at e'; cases e'
    · rw [upd_ne h] at e; exact .inl e
  · rw [upd_ne (ne_of_none e hp)]; exact e
/-- a new object that is not frozen -/
theorem Nx.lay {p : Addr} {o : HO} (z : Fz F H) (hp : H p = none) : Nx T F H F (upd H p o) := by
  refine ⟨Sub.refl F, ⟨fun a u e => ?_, z.nt⟩, fun b u e _ => ?_, fun a u e => .inl e, fun t => t.ext fun b u e => ?_⟩
  · rw [upd_ne (ne_of_none (z.sub _ _ e) hp)]; exact z.sub _ _ e
  · rw [upd_ne (ne_of_none e hp)]; exact e
  · rw [upd_ne (ne_of_none e hp)]; exact e
theorem Nx.keep (n : Nx T F H F1 H1) {a : Addr} {o : HO} (e : H a = some o) (ho : ∀ ps, o ≠ .tbl ps) : H1 a = some o := n.h a o e ho
theorem Nx.out (n : Nx T F H F1 H1) {a : Addr} {o : HO} (e : H a = some o) (ho : ∀ ps, o ≠ .tbl ps) (hf : F a = none) (hx : ∀ xs, o ≠ .tup xs := by intro _ z; cases z) : F1 a = none := by
  cases q : F1 a with
  | none => rfl
  | some u =>
    rcases n.new a u q with h | h
    · rw [hf] at h; cases h
    · rcases h o e with ⟨ps, z⟩ | ⟨xs, z⟩
      · exact absurd z (ho ps)
      · exact absurd z (hx xs)
end

/-- a slot: nothing is known; frozen data; an object of the frame's own -/
inductive En where
  | u | z (d : D) | o (d : D)
abbrev Rho := List En
/-! dicts of nested keys -/
mutual
def D.key : D → Option NestedKey
  | .non => some .none
  | .bl b => some (.num (if b = true then 1 else 0))
  | .int i => some (.num i)
  | .str x => some (.text x)
  | .tup ds => (D.keys ds).map .tup
  | _ => none
def D.keys : List D → Option (List NestedKey)
  | [] => some []
  | d :: ds => (D.key d).bind fun k => (D.keys ds).map fun ks => k :: ks
end
def EntR (p : NestedKey × Addr × V) (q : NestedKey × Addr × Value) : Prop := p.1 = q.1 ∧ p.2.1 = q.2.1 ∧ RelV p.2.2 q.2.2
/-- the dict at a: its keys (the tuples' addresses) and values -/
def DicO (P : Program) (w : World) (a : Addr) (es : List (NestedKey × Addr × V)) : HO := .ext fun h => (a == sysModules) = false ∧ es.length ≤ sizeLine ∧ ∃ xs : List (NestedKey × Addr × Value), Paired EntR es xs ∧
  ∃ o ents ep, h.get? a = some o ∧ o.ExactDict ∧ o.data = .dict ents ep ∧ ents.toList = xs.map (entryOfKey (nestedKind P w)) ∧ (xs.map (·.1)).Nodup
inductive DicR (K : PySem.W.Frag) (F : Hp) : List (NestedKey × Addr × V) → List D → List D → Prop
  | nil : DicR K F [] [] []
  | cons {n : NestedKey} {a : Addr} {v : V} {es : List (NestedKey × Addr × V)} {k d : D} {ks vs : List D} : k.key = some n → n.depth ≤ 8 → Rp K F (.ref a) k → Rp K F v d → DicR K F es ks vs → DicR K F ((n, a, v) :: es) (k :: ks) (d :: vs)
theorem DicR.mono {K : PySem.W.Frag} {F F' : Hp} (e : Sub F F') {es : List (NestedKey × Addr × V)} {ks vs : List D} (h : DicR K F es ks vs) : DicR K F' es ks vs := by
  induction h with
  | nil => exact .nil
  | cons h1 h2 h3 h4 _ ih => exact .cons h1 h2 (h3.mono e) (h4.mono e) ih
/-- the object at p, not frozen, is d -/
def OwnAt (K : PySem.W.Frag) (F H : Hp) (p : Addr) : D → Prop
  | .lst ds => ∃ xs, H p = some (.lst xs) ∧ RpAll K F xs ds
  | .dK kvs => H p = some (.dK kvs)
  | .dT kvs => H p = some (.dT kvs)
  | .dic P w ks vs => ∃ es, H p = some (DicO P w p es) ∧ DicR K F es ks vs
  | .ins c ns vs => ∃ dx ws, H p = some (.ins (He.ga K c) dx (ns.zip ws)) ∧ RpAll K F ws vs
  | _ => False
theorem OwnAt.solid {K : PySem.W.Frag} {F H : Hp} {p : Addr} : ∀ {d : D}, OwnAt K F H p d → ∃ o, H p = some o ∧ ∀ ps, o ≠ .tbl ps
  | .lst ds, ⟨xs, h, _⟩ => ⟨_, h, fun ps z => by cases z⟩
  | .dK kvs, h => ⟨_, h, fun ps z => by cases z⟩
  | .dT kvs, h => ⟨_, h, fun ps z => by cases z⟩
  | .dic P w ks vs, ⟨es, h, _⟩ => ⟨_, h, fun ps z => by unfold DicO at z; cases z⟩
  | .ins c ns vs, ⟨dx, ws, h, _⟩ => ⟨_, h, fun ps z => by cases z⟩
  | .non, h => h.elim
  | .bl _, h => h.elim
  | .int _, h => h.elim
  | .str _, h => h.elim
  | .tup _, h => h.elim
  | .fn _, h => h.elim
  | .ty _, h => h.elim
  | .arr _, h => h.elim
  | .pro _, h => h.elim
  | .adr _, h => h.elim
  | .tab _ _ _, h => h.elim
theorem OwnAt.notTup {K : PySem.W.Frag} {F H : Hp} {p : Addr} {d : D} {xs : List V} (h : OwnAt K F H p d) (e : H p = some (.tup xs)) : False := by
  cases d with
  | lst ds => obtain ⟨ys, q, _⟩ := h; rw [e] at q; cases q
  | dK kvs => have q : H p = some (.dK kvs) := h; rw [e] at q; cases q
  | dT kvs => have q : H p = some (.dT kvs) := h; rw [e] at q; cases q
  | dic P w ks vs => obtain ⟨es, q, _⟩ := h; rw [e] at q; unfold DicO at q; cases q
  | ins c ns vs => obtain ⟨dx, ws, q, _⟩ := h; rw [e] at q; cases q
  | _ => exact h
theorem OwnAt.mono {K : PySem.W.Frag} {T : List (Addr × Str)} {F H F' H' : Hp} {p : Addr} (n : Nx T F H F' H') : ∀ {d : D}, OwnAt K F H p d → OwnAt K F' H' p d
  | .lst ds, ⟨xs, h, r⟩ => ⟨xs, n.keep h fun ps z => (by cases z), RpAll.mono n.f r⟩
  | .dK kvs, h => n.keep h fun ps z => (by cases z)
  | .dT kvs, h => n.keep h fun ps z => (by cases z)
  | .dic P w ks vs, ⟨es, h, r⟩ => ⟨es, n.keep h fun ps z => (by unfold DicO at z; cases z), r.mono n.f⟩
  | .ins c ns vs, ⟨dx, ws, h, r⟩ => ⟨dx, ws, n.keep h fun ps z => (by cases z), r.mono n.f⟩
  | .non, h => h.elim
  | .bl _, h => h.elim
  | .int _, h => h.elim
  | .str _, h => h.elim
  | .tup _, h => h.elim
  | .fn _, h => h.elim
  | .ty _, h => h.elim
  | .arr _, h => h.elim
  | .pro _, h => h.elim
  | .adr _, h => h.elim
  | .tab _ _ _, h => h.elim
structure Rl (K : PySem.W.Frag) (F H : Hp) (σ : L2.St) (ρ : Rho) : Prop where
  len : σ.length = ρ.length
  z : ∀ (i : Nat) (d : D), ρ[i]? = some (En.z d) → ∃ v, σ[i]? = some (some v) ∧ Rp K F v d
  o : ∀ (i : Nat) (d : D), ρ[i]? = some (En.o d) → ∃ p, σ[i]? = some (some (V.ref p)) ∧ F p = none ∧ OwnAt K F H p d
  ne : ∀ (i j : Nat) (d e : D) (p q : Addr), i ≠ j → ρ[i]? = some (En.o d) → ρ[j]? = some (En.o e) → σ[i]? = some (some (V.ref p)) → σ[j]? = some (some (V.ref q)) → p ≠ q
section
variable {K : PySem.W.Frag} {T : List (Addr × Str)} {F H F' H' : Hp} {σ : L2.St} {ρ : Rho}
theorem Rl.mono (n : Nx T F H F' H') (r : Rl K F H σ ρ) : Rl K F' H' σ ρ where
  len := r.len
  z := fun i d e => let ⟨v, h1, h2⟩ := r.z i d e; ⟨v, h1, h2.mono n.f⟩
  o := fun i d e => by
    obtain ⟨p, h1, h2, h3⟩ := r.o i d e
    obtain ⟨o, h4, h5⟩ := h3.solid
    exact ⟨p, h1, n.out h4 h5 h2 (fun xs z => h3.notTup (by rw [h4, z])), h3.mono n⟩
  ne := r.ne
theorem Rl.set {i : Nat} {v : V} {d : D} (r : Rl K F H σ ρ) (h : Rp K F v d) : Rl K F H (σ.set i (some v)) (ρ.set i (.z d)) where
  len := by rw [List.length_set, List.length_set]; exact r.len
  z := fun j e hj => by
    rw [List.getElem?_set] at hj ⊢
    by_cases hij : i = j
    · subst hij
      rw [if_pos rfl] at hj ⊢
      by_cases hl : i < ρ.length
      · rw [if_pos hl] at hj
        rw [if_pos (by rw [r.len]; exact hl)]
        cases hj
        exact ⟨v, rfl, h⟩
      · rw [if_neg hl] at hj; cases hj
    · rw [if_neg hij] at hj ⊢
      exact r.z j e hj
  o := fun j e hj => by
    rw [List.getElem?_set] at hj ⊢
    by_cases hij : i = j
    · subst hij
      rw [if_pos rfl] at hj
      by_cases hl : i < ρ.length
      · rw [if_pos hl] at hj; cases hj
      · rw [if_neg hl] at hj; cases hj
    · rw [if_neg hij] at hj ⊢
      exact r.o j e hj
  ne := fun j k a b p q hn h1 h2 h3 h4 => by
    rw [List.getElem?_set] at h1 h2 h3 h4
    have fj : i ≠ j := fun z => by
      rw [if_pos z] at h1; split at h1 <;> cases h1
    have fk : i ≠ k := fun z => by
      rw [if_pos z] at h2; split at h2 <;> cases h2
    rw [if_neg fj] at h1 h3
    rw [if_neg fk] at h2 h4
    exact r.ne j k a b p q hn h1 h2 h3 h4
theorem Rl.wipe1 {i : Nat} (r : Rl K F H σ ρ) : Rl K F H (σ.set i none) (ρ.set i .u) where
  len := by rw [List.length_set, List.length_set]; exact r.len
  z := fun j e hj => by
    rw [List.getElem?_set] at hj ⊢
    by_cases hij : i = j
    · subst hij
      rw [if_pos rfl] at hj
      split at hj <;> cases hj
    · rw [if_neg hij] at hj ⊢
      exact r.z j e hj
  o := fun j e hj => by
    rw [List.getElem?_set] at hj ⊢
    by_cases hij : i = j
    · subst hij
      rw [if_pos rfl] at hj
      split at hj <;> cases hj
    · rw [if_neg hij] at hj ⊢
      exact r.o j e hj
  ne := fun j k a b p q hn h1 h2 h3 h4 => by
    rw [List.getElem?_set] at h1 h2 h3 h4
    have fj : i ≠ j := fun z => by
      rw [if_pos z] at h1; split at h1 <;> cases h1
    have fk : i ≠ k := fun z => by
      rw [if_pos z] at h2; split at h2 <;> cases h2
    rw [if_neg fj] at h1 h3
    rw [if_neg fk] at h2 h4
    exact r.ne j k a b p q hn h1 h2 h3 h4
end

/-! ### readings by functions of data -/
/-- what is wanted behind: of an α that stands for the β -/
def aft {α β : Type} (R : Hp → α → β → Prop) (K : PySem.W.Frag) (T : List (Addr × Str)) (W : WX) (σ : L2.St) (F H : Hp) (Q : α → Hp → Prop) : Res β → Prop
  | .ok b => ∀ a F' H', Nx T F H F' H' → R F' a b → Q a H'
  | .ex n => ∀ F' H', Nx T F H F' H' → W (.ref (He.ga K n)) none σ H'
  | .bad => False
abbrev RBool : Hp → Bool → Bool → Prop := fun _ a b => a = b
/-- where one stands -/
structure At (K : PySem.W.Frag) (T : List (Addr × Str)) (F H : Hp) (σ : L2.St) (ρ : Rho) : Prop where
  z : Fz F H
  t : Tabs T H
  r : Rl K F H σ ρ
theorem At.nx {K : PySem.W.Frag} {T : List (Addr × Str)} {F H F' H' : Hp} {σ : L2.St} {ρ : Rho} (a : At K T F H σ ρ) (n : Nx T F H F' H') : At K T F' H' σ ρ := ⟨n.z, n.tab a.t, a.r.mono n⟩
def tG {α β : Type} (R : PySem.W.Frag → Hp → α → β → Prop) (K : PySem.W.Frag) (T : List (Addr × Str)) (W : WX) (f : Rho → Res β) : L2.St → Hp → (α → Hp → Prop) → Prop :=
  fun σ H Q => ∃ ρ F, At K T F H σ ρ ∧ aft (R K) K T W σ F H Q (f ρ)
def tE (K : PySem.W.Frag) (T : List (Addr × Str)) (W : WX) (f : Rho → Res D) : TE := tG Rp K T W f
def tA (K : PySem.W.Frag) (T : List (Addr × Str)) (W : WX) (f : Rho → Res (List D)) : TA := tG RpAll K T W f
def tT (K : PySem.W.Frag) (T : List (Addr × Str)) (W : WX) (f : Rho → Res Bool) : TT := tG (fun _ => RBool) K T W f
section
variable {K : PySem.W.Frag} {T : List (Addr × Str)} {W : WX} {σ : L2.St} {F H F' H' : Hp}
theorem aft.mono {α β : Type} {R : Hp → α → β → Prop} {Q : α → Hp → Prop} {r : Res β} (n : Nx T F H F' H') (h : aft R K T W σ F H Q r) : aft R K T W σ F' H' Q r := by
  cases r with
  | ok b => exact fun a F2 H2 n2 ra => h a F2 H2 (n.trans n2) ra
  | ex m => exact fun F2 H2 n2 => h F2 H2 (n.trans n2)
  | bad => exact h
theorem aft.imp {α β : Type} {R : Hp → α → β → Prop} {Q Q' : α → Hp → Prop} {r : Res β} (h : aft R K T W σ F H Q r) (hq : ∀ b, r = .ok b → ∀ a F' H', Nx T F H F' H' → R F' a b → Q a H' → Q' a H') : aft R K T W σ F H Q' r := by
  cases r with
  | ok b => exact fun a F2 H2 n ra => hq b rfl a F2 H2 n ra (h a F2 H2 n ra)
  | ex m => exact h
  | bad => exact h
/-- one thing behind another -/
theorem aft.bind {α β γ δ : Type} {R : Hp → α → β → Prop} {S : Hp → γ → δ → Prop} {Q : γ → Hp → Prop} {r : Res β} {k : β → Res δ} (h : aft S K T W σ F H Q (r.bind k)) :
    aft R K T W σ F H (fun a H1 => ∃ b F1, r = .ok b ∧ Nx T F H F1 H1 ∧ R F1 a b ∧ aft S K T W σ F1 H1 Q (k b)) r := by
  cases r with
  | ok b => exact fun a F2 H2 n ra => ⟨b, F2, rfl, n, ra, aft.mono n h⟩
  | ex m => exact h
  | bad => exact h
theorem aft.ok {α β : Type} {R : Hp → α → β → Prop} {Q : α → Hp → Prop} {b : β} {a : α} {F1 H1 : Hp} (h : aft R K T W σ F H Q (.ok b)) (n : Nx T F H F1 H1) (ra : R F1 a b) : Q a H1 := h a F1 H1 n ra
end
/-- a judgement is weakened -/
theorem _root_.L2.PE.to {X : Cx} {e : Expr} {t u : TE} (h : PE X e t) (k : ∀ σ H Q, u σ H Q → t σ H Q) : PE X e u := ⟨fun pins s σ H Q I q => h.run pins s σ H Q I (k σ H Q q)⟩
theorem _root_.L2.PT.to {X : Cx} {e : Expr} {t u : TT} (h : PT X e t) (k : ∀ σ H Q, u σ H Q → t σ H Q) : PT X e u := ⟨fun pins s σ H Q I q => h.run pins s σ H Q I (k σ H Q q)⟩
theorem _root_.L2.PW.to {X : Cx} {e : Expr} {t u : TT} (h : PW X e t) (k : ∀ σ H Q, u σ H Q → t σ H Q) : PW X e u := ⟨fun whole pins s σ H Q I q => h.run whole pins s σ H Q I (k σ H Q q)⟩
theorem _root_.L2.PA.to {X : Cx} {es : List Expr} {t u : TA} (h : PA X es t) (k : ∀ σ H Q, u σ H Q → t σ H Q) : PA X es u := ⟨fun pos pins s σ H Q I q => h.run pos pins s σ H Q I (k σ H Q q)⟩
theorem _root_.L2.PS.to {X : Cx} {st : Stmt} {t u : TS} (h : PS X st t) (k : ∀ D σ H, u D σ H → t D σ H) : PS X st u := ⟨fun pins s σ H D I q => h.run pins s σ H D I (k D σ H q)⟩
theorem _root_.L2.PSs.to {X : Cx} {st : List Stmt} {t u : TS} (h : PSs X st t) (k : ∀ D σ H, u D σ H → t D σ H) : PSs X st u := ⟨fun pins s σ H D I q => h.run pins s σ H D I (k D σ H q)⟩

/-! ### names, constants, arguments -/
section
variable {X : Cx} {T : List (Addr × Str)} {W : WX}
abbrev DE (X : Cx) (T : List (Addr × Str)) (W : WX) (e : Expr) (f : Rho → Res D) : Prop := PE X e (tE X.K T W f)
abbrev DQ (X : Cx) (T : List (Addr × Str)) (W : WX) (e : Expr) (f : Rho → Res Bool) : Prop := PT X e (tT X.K T W f)
abbrev DW (X : Cx) (T : List (Addr × Str)) (W : WX) (e : Expr) (f : Rho → Res Bool) : Prop := PW X e (tT X.K T W f)
abbrev DA (X : Cx) (T : List (Addr × Str)) (W : WX) (es : List Expr) (f : Rho → Res (List D)) : Prop := PA X es (tA X.K T W f)

def var (i : Nat) : Rho → Res D := fun ρ => match ρ[i]? with
  | some (.z d) => .ok d
  | _ => .bad
theorem e_var {i : Nat} {x : Str} {pos : Pos} (h : PE X (.Name x pos) (tVar i)) : DE X T W (.Name x pos) (var i) := h.to fun σ H Q hq => by
  obtain ⟨ρ, F, a, h⟩ := hq
  unfold var at h
  cases e : ρ[i]? with
  | none => rw [e] at h; exact h.elim
  | some en =>
    rw [e] at h
    cases en with
    | u => exact h.elim
    | o d => exact h.elim
    | z d =>
      obtain ⟨v, h1, h2⟩ := a.r.z i d e
      exact ⟨v, h1, h v F H (Nx.refl a.z) h2⟩
def con (d : D) : Rho → Res D := fun _ => .ok d
theorem e_c {e : Expr} {v : V} {d : D} (h : PE X e (tC v)) (r : ∀ F, Rp X.K F v d) : DE X T W e (con d) := h.to fun σ H Q ⟨ρ, F, a, h⟩ => h v F H (Nx.refl a.z) (r F)
theorem e_int {i j pos} : DE X T W (.Constant (.int i) j pos) (con (.int i)) := e_c pe_int fun _ => .int i
theorem e_bl {b j pos} : DE X T W (.Constant (.bool b) j pos) (con (.bl b)) := e_c pe_bl fun _ => .bl b
theorem e_non {j pos} : DE X T W (.Constant .none j pos) (con .non) := e_c pe_non fun _ => .non
theorem e_str {x j pos} : DE X T W (.Constant (.str x) j pos) (con (.str x)) := e_c pe_str fun _ => .str x

def anil : Rho → Res (List D) := fun _ => .ok []
def acons (f : Rho → Res D) (g : Rho → Res (List D)) : Rho → Res (List D) := fun ρ => (f ρ).bind fun d => (g ρ).bind fun ds => .ok (d :: ds)
theorem a_nil : DA X T W [] anil := pa_nil.to fun σ H Q ⟨ρ, F, a, h⟩ => h [] F H (Nx.refl a.z) .nil
theorem a_cons {e : Expr} {es : List Expr} {f : Rho → Res D} {g : Rho → Res (List D)} (he : DE X T W e f) (hs : DA X T W es g) (hstar : starEach (e :: es) X.env = (false, eval e X.env) :: starEach es X.env := by rfl) : DA X T W (e :: es) (acons f g) :=
  (pa_cons he hs hstar).to fun σ H Q ⟨ρ, F, a, h⟩ => by
    refine ⟨ρ, F, a, (aft.bind (R := Rp X.K) h).imp fun d _ v F1 H1 _ _ q => ?_⟩
    obtain ⟨b, F2, _, n, rv, q⟩ := q
    refine ⟨ρ, F2, a.nx n, (aft.bind (R := RpAll X.K) q).imp fun ds _ vs F3 H3 _ _ q => ?_⟩
    obtain ⟨ds', F4, _, n2, rs, q⟩ := q
    exact q.ok (Nx.refl n2.z) (.cons (rv.mono n2.f) rs)
end
end DN
namespace DN
open PySem PySem.Spec PyProof.Rows L2
open LamX (Tabs ExtN)
open PySem.Builtin.Str (tooLong)

/-! ### operators -/
/-- an operation on values, by a function of data -/
def rD2 (K : PySem.W.Frag) (T : List (Addr × Str)) (G : D → D → Option D) : R2 := fun x y H Q =>
  ∃ F d e z, Fz F H ∧ Rp K F x d ∧ Rp K F y e ∧ G d e = some z ∧ ∀ v F' H', Nx T F H F' H' → Rp K F' v z → Q v H'
def rD1 (K : PySem.W.Frag) (T : List (Addr × Str)) (G : D → Option D) : V → Hp → VK → Prop := fun x H Q =>
  ∃ F d z, Fz F H ∧ Rp K F x d ∧ G d = some z ∧ ∀ v F' H', Nx T F H F' H' → Rp K F' v z → Q v H'
def rDn (K : PySem.W.Frag) (T : List (Addr × Str)) (G : List D → Option D) : List V → Hp → VK → Prop := fun xs H Q =>
  ∃ F ds z, Fz F H ∧ RpAll K F xs ds ∧ G ds = some z ∧ ∀ v F' H', Nx T F H F' H' → Rp K F' v z → Q v H'
def bop (G : D → D → Option D) (f g : Rho → Res D) : Rho → Res D := fun ρ => (f ρ).bind fun d => (g ρ).bind fun e => ofO (G d e)
def una (G : D → Option D) (f : Rho → Res D) : Rho → Res D := fun ρ => (f ρ).bind fun d => ofO (G d)
def cal (G : List D → Option D) (f : Rho → Res (List D)) : Rho → Res D := fun ρ => (f ρ).bind fun ds => ofO (G ds)
section
variable {X : Cx} {T : List (Addr × Str)} {W : WX}
theorem ofO_ok {α : Type} {o : Option α} {K : PySem.W.Frag} {σ : L2.St} {F H : Hp} {β : Type} {R : Hp → β → α → Prop} {Q : β → Hp → Prop} (h : aft R K T W σ F H Q (ofO o)) : ∃ a, o = some a ∧ ∀ b F' H', Nx T F H F' H' → R F' b a → Q b H' := by
  cases o with
  | none => exact h.elim
  | some a => exact ⟨a, rfl, h⟩
theorem bin_to {K : PySem.W.Frag} {G : D → D → Option D} {f g : Rho → Res D} {σ : L2.St} {H : Hp} {Q : VK} (h : tE K T W (bop G f g) σ H Q) : tOp (rD2 K T G) (tE K T W f) (tE K T W g) σ H Q := by
  obtain ⟨ρ, F, a, h⟩ := h
  refine ⟨ρ, F, a, (aft.bind (R := Rp K) h).imp fun d _ v F1 H1 _ _ q => ?_⟩
  obtain ⟨b, F2, _, n, rv, q⟩ := q
  refine ⟨ρ, F2, a.nx n, (aft.bind (R := Rp K) q).imp fun ds _ vs F3 H3 _ _ q => ?_⟩
  obtain ⟨e, F4, _, n2, rs, q⟩ := q
  obtain ⟨z, hz, q⟩ := ofO_ok q
  exact ⟨F4, b, e, z, n2.z, rv.mono n2.f, rs, hz, q⟩
theorem e_bin {op : Operator} {G : D → D → Option D} {a b : Expr} {f g : Rho → Res D} {pos : Pos} (ho : OpR X (binaryOp op) (rD2 X.K T G)) (ha : DE X T W a f) (hb : DE X T W b g) : DE X T W (.BinOp a op b pos) (bop G f g) :=
  (pe_op ho ha hb).to fun _ _ _ h => bin_to h
theorem e_una {op : UnaryOp} {G : D → Option D} {a : Expr} {f : Rho → Res D} {pos : Pos} (ho : UnR X (unaryOp op) (rD1 X.K T G)) (ha : DE X T W a f) : DE X T W (.UnaryOp op a pos) (una G f) :=
  (pe_un ho ha).to fun σ H Q ⟨ρ, F, a, h⟩ => by
    refine ⟨ρ, F, a, (aft.bind (R := Rp X.K) h).imp fun d _ v F1 H1 _ _ q => ?_⟩
    obtain ⟨b, F2, _, n, rv, q⟩ := q
    obtain ⟨z, hz, q⟩ := ofO_ok q
    exact ⟨F2, b, z, n.z, rv, hz, q⟩
theorem e_cmp {op : CmpOp} {G : D → D → Option D} {a b : Expr} {f g : Rho → Res D} {pos : Pos} (ho : OpR X (compareOp op) (rD2 X.K T G)) (ha : DE X T W a f) (hb : DE X T W b g) (hm : behindInMarks op b = false) : DE X T W (.Compare a [op] [b] pos) (bop G f g) :=
  (pe_cmpR ho ha hb hm).to fun _ _ _ h => bin_to h
/-- a comparison's answer -/
def ans : D → Res Bool
  | .bl b => .ok b
  | _ => .bad
def tst (f : Rho → Res D) : Rho → Res Bool := fun ρ => (f ρ).bind ans
theorem tst_to {K : PySem.W.Frag} {f : Rho → Res D} {σ : L2.St} {H : Hp} {Q : Bool → Hp → Prop} (h : tT K T W (tst f) σ H Q) : tE K T W f σ H fun x H' => ∃ k, x = .bl k ∧ Q k H' := by
  obtain ⟨ρ, F, a, h⟩ := h
  refine ⟨ρ, F, a, (aft.bind (R := Rp K) h).imp fun d _ v F1 H1 _ _ q => ?_⟩
  obtain ⟨b, F2, _, n, rv, q⟩ := q
  cases b with
  | bl k =>
    cases rv
    exact ⟨k, rfl, q k F2 H1 (Nx.refl n.z) rfl⟩
  | _ => exact q.elim
theorem q_cmp {op : CmpOp} {G : D → D → Option D} {a b : Expr} {f g : Rho → Res D} {pos : Pos} (ho : OpR X (compareOp op) (rD2 X.K T G)) (ha : DE X T W a f) (hb : DE X T W b g) (hm : behindInMarks op b = false) : DQ X T W (.Compare a [op] [b] pos) (tst (bop G f g)) :=
  (pt_cmpR ho ha hb hm).to fun σ H Q h => by
    have h2 := tst_to h
    exact bin_to h2
end

/-! the operators' functions -/
def CMulD (i j : Int) : Prop := CMul i j ∨ CMulW i j
instance : Decidable (CMulD i j) := by unfold CMulD CMul CMulW; infer_instance
instance : Decidable (CDivW i j) := by unfold CDivW; infer_instance
def repS (x : Str) (n : Int) : Str := ⟨((List.replicate n.toNat x.cps.toList).flatten).toArray⟩
def addD : D → D → Option D
  | .int i, .int j => some (.int (i + j))
  | .str x, .str y => if x.length + y.length ≤ sizeLine then some (.str (x ++ y)) else none
  | .tup xs, .tup ys => if xs.length + ys.length ≤ sizeLine then some (.tup (xs ++ ys)) else none
  | .lst xs, .lst ys => if xs.length + ys.length ≤ sizeLine then some (.lst (xs ++ ys)) else none
  | _, _ => none
def subD : D → D → Option D
  | .int i, .int j => some (.int (i - j))
  | _, _ => none
def mulD : D → D → Option D
  | .int i, .int j => if CMulD i j then some (.int (i * j)) else none
  | .str x, .int n => if n ≤ 1000000 ∧ -1000000 ≤ n ∧ x.length * n.toNat ≤ 1000000 then some (.str (repS x n)) else none
  | .tup xs, .int k => if 2 ≤ k ∧ k ≤ 1000 ∧ xs.isEmpty = false ∧ xs.length ≤ 1000 then some (.tup (List.replicate k.toNat xs).flatten) else none
  | _, _ => none
def divD : D → D → Option D
  | .int i, .int j => if CDivW i j then some (.int (i / j)) else none
  | _, _ => none
def modD : D → D → Option D
  | .int i, .int j => if 0 < j then some (.int (i % j)) else none
  | _, _ => none
def negD : D → Option D
  | .int i => some (.int (-i))
  | _ => none
def ltD : D → D → Option D
  | .int i, .int j => some (.bl (decide (i < j)))
  | _, _ => none
def leD : D → D → Option D
  | .int i, .int j => some (.bl (decide (i ≤ j)))
  | _, _ => none
def gtD : D → D → Option D
  | .int i, .int j => some (.bl (decide (j < i)))
  | _, _ => none
def geD : D → D → Option D
  | .int i, .int j => some (.bl (decide (j ≤ i)))
  | _, _ => none
def isN : D → D → Option D
  | .non, .non => some (.bl true)
  | _, .non => some (.bl false)
  | _, _ => none
def isNotN : D → D → Option D
  | .non, .non => some (.bl false)
  | _, .non => some (.bl true)
  | _, _ => none
section
variable {X : Cx} {T : List (Addr × Str)} {W : WX}
theorem done0 {K : PySem.W.Frag} {F H : Hp} {z : D} {v : V} {Q : VK} (hz : Fz F H) (q : ∀ v F' H', Nx T F H F' H' → Rp K F' v z → Q v H') (r : Rp K F v z) : Q v H := q v F H (Nx.refl hz) r
theorem donep {K : PySem.W.Frag} {F H : Hp} {z : D} {p : Addr} {o : HO} {Q : VK} (hz : Fz F H) (hp : H p = none) (ho : ∀ ps, o ≠ .tbl ps) (q : ∀ v F' H', Nx T F H F' H' → Rp K F' v z → Q v H') (r : Rp K (upd F p o) (.ref p) z) : Q (.ref p) (upd H p o) :=
  q _ _ _ (Nx.push hz hp ho) r
theorem rp_tup {K : PySem.W.Frag} {F H : Hp} {p : Addr} {xs : List V} {ds : List D} (hz : Fz F H) (hp : H p = none) (r : RpAll K F xs ds) : Rp K (upd F p (.tup xs)) (.ref p) (.tup ds) :=
  .tup (.inl (.inl upd_same)) (r.mono (Nx.push (T := []) (o := .tup xs) hz hp (fun ps z => by cases z)).f)
theorem rp_lst {K : PySem.W.Frag} {F H : Hp} {p : Addr} {xs : List V} {ds : List D} (hz : Fz F H) (hp : H p = none) (r : RpAll K F xs ds) : Rp K (upd F p (.lst xs)) (.ref p) (.lst ds) :=
  .lst upd_same (r.mono (Nx.push (T := []) (o := .lst xs) hz hp (fun ps z => by cases z)).f)
theorem ntT {xs : List V} : ∀ ps, HO.tup xs ≠ .tbl ps := fun _ z => by cases z
theorem ntL {xs : List V} : ∀ ps, HO.lst xs ≠ .tbl ps := fun _ z => by cases z
theorem RpAll.nil_iff {K : PySem.W.Frag} {F : Hp} {xs : List V} {ds : List D} (r : RpAll K F xs ds) : xs = [] ↔ ds = [] := by
  cases r with
  | nil => simp
  | cons _ _ => simp
theorem o_add : OpR X (binaryOp .Add) (rD2 X.K T addD) := by
  intro pins s σ H x y v u Q I rx ry h
  obtain ⟨F, d, e, z, hz, rd, re, hG, q⟩ := h
  cases rd with
  | int i =>
    cases re with
    | int j => cases hG; exact op_add pins s σ H _ _ v u Q I rx ry ⟨i, j, rfl, rfl, done0 hz q (.int _)⟩
    | _ => cases hG
  | str i =>
    cases re with
    | str j =>
      have hG : (if i.length + j.length ≤ sizeLine then some (D.str (i ++ j)) else none) = some z := hG
      split at hG
      · rename_i hl
        cases hG
        exact op_add_str pins s σ H _ _ v u Q I rx ry ⟨i, j, rfl, rfl, hl, done0 hz q (.str _)⟩
      · cases hG
    | _ => cases hG
  | tup h1 r1 =>
    cases re with
    | tup h2 r2 =>
      rename_i a xs ds b ys es
      have hG : (if ds.length + es.length ≤ sizeLine then some (D.tup (ds ++ es)) else none) = some z := hG
      split at hG
      · rename_i hl
        cases hG
        refine op_catA pins s σ H _ _ v u Q I rx ry ⟨a, b, xs, ys, rfl, rfl, hz.sub.st h1, hz.sub.st h2, by rw [r1.length, r2.length]; exact hl, fun e => ?_, fun e1 e2 => ?_, fun e1 e2 p hp => ?_⟩
        · have e' := r1.nil_iff.mp e
          subst e'
          exact done0 hz q (.tup h2 r2)
        · have e' := r2.nil_iff.mp e2
          subst e'
          rw [List.append_nil] at q
          exact done0 hz q (.tup h1 r1)
        · exact donep hz hp ntT q (rp_tup hz hp (r1.append r2))
      · cases hG
    | _ => cases hG
  | lst h1 r1 =>
    cases re with
    | lst h2 r2 =>
      rename_i a xs ds b ys es
      have hG : (if ds.length + es.length ≤ sizeLine then some (D.lst (ds ++ es)) else none) = some z := hG
      split at hG
      · rename_i hl
        cases hG
        exact op_cat pins s σ H _ _ v u Q I rx ry ⟨a, b, xs, ys, rfl, rfl, hz.sub _ _ h1, hz.sub _ _ h2, by rw [r1.length, r2.length]; exact hl, fun p hp => donep hz hp ntL q (rp_lst hz hp (r1.append r2))⟩
      · cases hG
    | _ => cases hG
  | _ => cases hG
theorem o_sub : OpR X (binaryOp .Sub) (rD2 X.K T subD) := by
  intro pins s σ H x y v u Q I rx ry h
  obtain ⟨F, d, e, z, hz, rd, re, hG, q⟩ := h
  cases rd with
  | int i =>
    cases re with
    | int j => cases hG; exact op_sub pins s σ H _ _ v u Q I rx ry ⟨i, j, rfl, rfl, done0 hz q (.int _)⟩
    | _ => cases hG
  | _ => cases hG
theorem foldA (x : Array Nat) : ∀ (n : Nat) (acc : Array Nat), (List.replicate n x).foldl (· ++ ·) acc = (acc.toList ++ (List.replicate n x.toList).flatten).toArray
  | 0, acc => by simp
  | n + 1, acc => by
    rw [List.replicate_succ, List.foldl_cons, foldA x n]
    simp [List.replicate_succ]
theorem fold_rep (x : Array Nat) (n : Nat) : (List.replicate n x).foldl (· ++ ·) #[] = ((List.replicate n x.toList).flatten).toArray := by
  rw [foldA]; simp
theorem sizeLine_val : (sizeLine : Nat) = 16777216 := sizeLine_eq
theorem o_mul_str {pins : List (Addr × Obj)} {s : Shared} {σ : L2.St} {H : Hp} {Q : VK} {x : Str} {n : Int} {t u : Tok} (I : Inv X pins σ H s) (h1 : n ≤ 1000000) (h2 : -1000000 ≤ n) (h3 : x.length * n.toNat ≤ 1000000) (q : Q (.str (repS x n)) H) :
    wpAny (model X.prog X.w) X.A (binaryOp .Mult (.str x t) (.int n u)) (EP X pins σ Q) X.xe s := by
  have tl : tooLong (x.length * n.toNat) = false := by
    unfold tooLong
    refine decide_eq_false ?_
    rw [sizeLine_val]
    omega
  refine PySem.P.mul_str (by rw [decide_eq_false (by omega), decide_eq_false (by omega)]; rfl) (fun g1 g2 => ?_) (fun _ _ => tl) ?_
  · intro hgt
    have hx : x.length ≤ 1000000 := by
      have hn : 1 ≤ n.toNat := by omega
      have := Nat.mul_le_mul_left x.length hn
      omega
    have hd : (2 ^ 63 - 1) / 1000000 ≤ (2 ^ 63 - 1 : Int) / n := by
      apply Int.le_ediv_of_mul_le (by omega)
      have : ((2 ^ 63 - 1 : Int) / 1000000) * n ≤ ((2 ^ 63 - 1 : Int) / 1000000) * 1000000 := Int.mul_le_mul_of_nonneg_left h1 (by decide)
      exact Int.le_trans this (by decide)
    have h0 : (1000000 : Int) ≤ (2 ^ 63 - 1) / 1000000 := by decide
    omega
  · by_cases g1 : n < 1
    · rw [if_pos g1]
      have e : repS x n = Str.empty := by
        unfold repS
        rw [show n.toNat = 0 by omega] <;> rfl
      rw [e] at q
      exact ⟨by decide, ⟨.str Str.empty, H, I.tok _, ⟨_, rfl⟩, q⟩⟩
    · rw [if_neg g1]
      by_cases g2 : (n == 1 || x.length == 0) = true
      · rw [if_pos g2]
        have e : repS x n = x := by
          unfold repS
          rw [Bool.or_eq_true, beq_iff_eq, beq_iff_eq] at g2
          rcases g2 with g | g
          · subst g
            show (⟨(([x.cps.toList] : List (List Nat)).flatten).toArray⟩ : Str) = x
            simp
          · have : x.cps = #[] := Array.eq_empty_of_size_eq_zero g
            cases x
            simp only at this
            subst this
            simp
        rw [e] at q
        exact ⟨.str x, H, I, ⟨_, rfl⟩, q⟩
      · rw [if_neg g2, fold_rep]
        refine ⟨?_, ⟨.str (repS x n), H, I.tok _, ⟨_, rfl⟩, q⟩⟩
        rw [sizeLine_val]
        show ((List.replicate n.toNat x.cps.toList).flatten).toArray.size ≤ _
        rw [List.size_toArray, List.length_flatten]
        simp
        have e : n.toNat * x.cps.size = x.length * n.toNat := Nat.mul_comm _ _
        rw [e]
        omega
theorem o_mul : OpR X (binaryOp .Mult) (rD2 X.K T mulD) := by
  intro pins s σ H x y v u Q I rx ry h
  obtain ⟨F, d, e, z, hz, rd, re, hG, q⟩ := h
  cases rd with
  | int i =>
    cases re with
    | int j =>
      have hG : (if CMulD i j then some (D.int (i * j)) else none) = some z := hG
      split at hG
      · rename_i hc
        cases hG
        rcases hc with hc | hc
        · exact op_mul pins s σ H _ _ v u Q I rx ry ⟨i, j, rfl, rfl, hc, done0 hz q (.int _)⟩
        · exact op_mulW pins s σ H _ _ v u Q I rx ry ⟨i, j, rfl, rfl, hc, done0 hz q (.int _)⟩
      · cases hG
    | _ => cases hG
  | str x =>
    cases re with
    | int n =>
      have hG : (if n ≤ 1000000 ∧ -1000000 ≤ n ∧ x.length * n.toNat ≤ 1000000 then some (D.str (repS x n)) else none) = some z := hG
      split at hG
      · rename_i hc
        cases hG
        obtain ⟨t, rfl⟩ := rx
        obtain ⟨t', rfl⟩ := ry
        exact o_mul_str I hc.1 hc.2.1 hc.2.2 (done0 hz q (.str _))
      · cases hG
    | _ => cases hG
  | tup h1 r1 =>
    cases re with
    | int k =>
      rename_i a xs ds
      have hG : (if 2 ≤ k ∧ k ≤ 1000 ∧ ds.isEmpty = false ∧ ds.length ≤ 1000 then some (D.tup (List.replicate k.toNat ds).flatten) else none) = some z := hG
      split at hG
      · rename_i hc
        cases hG
        obtain ⟨c1, c2, c3, c4⟩ := hc
        have many : ∀ n, RpAll X.K F (List.replicate n xs).flatten (List.replicate n ds).flatten := fun n => by
          induction n with
          | zero => exact .nil
          | succ n ih => simpa [List.replicate_succ] using r1.append ih
        have some_ : xs ≠ [] := fun z => by
          subst z
          cases r1
          cases c3
        exact op_repT pins s σ H _ _ v u Q I rx ry ⟨a, k, xs, rfl, rfl, hz.sub.st h1, some_, c1, c2, by rw [r1.length]; exact c4, fun p hp => donep hz hp ntT q (rp_tup hz hp (many _))⟩
      · cases hG
    | _ => cases hG
  | _ => cases hG
theorem o_div : OpR X (binaryOp .FloorDiv) (rD2 X.K T divD) := by
  intro pins s σ H x y v u Q I rx ry h
  obtain ⟨F, d, e, z, hz, rd, re, hG, q⟩ := h
  cases rd with
  | int i =>
    cases re with
    | int j =>
      have hG : (if CDivW i j then some (D.int (i / j)) else none) = some z := hG
      split at hG
      · rename_i hc
        cases hG
        exact op_fdivW pins s σ H _ _ v u Q I rx ry ⟨i, j, rfl, rfl, hc, done0 hz q (.int _)⟩
      · cases hG
    | _ => cases hG
  | _ => cases hG
theorem o_mod : OpR X (binaryOp .Mod) (rD2 X.K T modD) := by
  intro pins s σ H x y v u Q I rx ry h
  obtain ⟨F, d, e, z, hz, rd, re, hG, q⟩ := h
  cases rd with
  | int i =>
    cases re with
    | int j =>
      have hG : (if 0 < j then some (D.int (i % j)) else none) = some z := hG
      split at hG
      · rename_i hc
        cases hG
        exact op_mod pins s σ H _ _ v u Q I rx ry ⟨i, j, rfl, rfl, hc, done0 hz q (.int _)⟩
      · cases hG
    | _ => cases hG
  | _ => cases hG
theorem u_neg : UnR X (unaryOp .USub) (rD1 X.K T negD) := by
  intro pins s σ H x v Q I rx h
  obtain ⟨F, d, z, hz, rd, hG, q⟩ := h
  cases rd with
  | int i => cases hG; exact un_neg pins s σ H _ v Q I rx ⟨i, rfl, done0 hz q (.int _)⟩
  | _ => cases hG
theorem o_lt : OpR X (compareOp .Lt) (rD2 X.K T ltD) := by
  intro pins s σ H x y v u Q I rx ry h
  obtain ⟨F, d, e, z, hz, rd, re, hG, q⟩ := h
  cases rd with
  | int i =>
    cases re with
    | int j => cases hG; exact op_lt pins s σ H _ _ v u Q I rx ry ⟨i, j, rfl, rfl, done0 hz q (.bl _)⟩
    | _ => cases hG
  | _ => cases hG
theorem o_le : OpR X (compareOp .LtE) (rD2 X.K T leD) := by
  intro pins s σ H x y v u Q I rx ry h
  obtain ⟨F, d, e, z, hz, rd, re, hG, q⟩ := h
  cases rd with
  | int i =>
    cases re with
    | int j => cases hG; exact op_le pins s σ H _ _ v u Q I rx ry ⟨i, j, rfl, rfl, done0 hz q (.bl _)⟩
    | _ => cases hG
  | _ => cases hG
theorem o_gt : OpR X (compareOp .Gt) (rD2 X.K T gtD) := by
  intro pins s σ H x y v u Q I rx ry h
  obtain ⟨F, d, e, z, hz, rd, re, hG, q⟩ := h
  cases rd with
  | int i =>
    cases re with
    | int j => cases hG; exact op_gt pins s σ H _ _ v u Q I rx ry ⟨i, j, rfl, rfl, done0 hz q (.bl _)⟩
    | _ => cases hG
  | _ => cases hG
theorem o_ge : OpR X (compareOp .GtE) (rD2 X.K T geD) := by
  intro pins s σ H x y v u Q I rx ry h
  obtain ⟨F, d, e, z, hz, rd, re, hG, q⟩ := h
  cases rd with
  | int i =>
    cases re with
    | int j => cases hG; exact op_ge pins s σ H _ _ v u Q I rx ry ⟨i, j, rfl, rfl, done0 hz q (.bl _)⟩
    | _ => cases hG
  | _ => cases hG
theorem o_is : OpR X (compareOp .Is) (rD2 X.K T isN) := by
  intro pins s σ H x y v u Q I rx ry h
  obtain ⟨F, d, e, z, hz, rd, re, hG, q⟩ := h
  cases re with
  | non => cases rd <;> cases hG <;> exact op_isN pins s σ H _ _ v u Q I rx ry ⟨rfl, done0 hz q (.bl _)⟩
  | _ => cases rd <;> cases hG
theorem o_isNot : OpR X (compareOp .IsNot) (rD2 X.K T isNotN) := by
  intro pins s σ H x y v u Q I rx ry h
  obtain ⟨F, d, e, z, hz, rd, re, hG, q⟩ := h
  cases re with
  | non => cases rd <;> cases hG <;> exact op_notN pins s σ H _ _ v u Q I rx ry ⟨rfl, done0 hz q (.bl _)⟩
  | _ => cases rd <;> cases hG
end
end DN
namespace DN
open PySem PySem.Spec PyProof.Rows L2
open LamX (Tabs ExtN)

/-! ### tests, and, or, not, chains -/
def andQ (f g : Rho → Res Bool) : Rho → Res Bool := fun ρ => (f ρ).bind fun b => if b = true then g ρ else .ok false
def orQ (f g : Rho → Res Bool) : Rho → Res Bool := fun ρ => (f ρ).bind fun b => if b = true then .ok true else g ρ
def notQ (f : Rho → Res Bool) : Rho → Res Bool := fun ρ => (f ρ).bind fun b => .ok (!b)
def andE (f g : Rho → Res D) : Rho → Res D := fun ρ => (f ρ).bind fun d => (ans d).bind fun b => if b = true then g ρ else .ok (.bl false)
def orE (f g : Rho → Res D) : Rho → Res D := fun ρ => (f ρ).bind fun d => (ans d).bind fun b => if b = true then .ok (.bl true) else g ρ
def notE (f : Rho → Res D) : Rho → Res D := fun ρ => (f ρ).bind fun d => (ans d).bind fun b => .ok (.bl (!b))
def chn (G G' : D → D → Option D) (f g h : Rho → Res D) : Rho → Res D := fun ρ => (f ρ).bind fun d => (g ρ).bind fun e => (ofO (G d e)).bind fun z => (ans z).bind fun k => if k = true then (h ρ).bind fun c => ofO (G' e c) else .ok (.bl false)
section
variable {X : Cx} {T : List (Addr × Str)} {W : WX}
theorem q_val {e : Expr} {f : Rho → Res D} (h : DE X T W e f) (he : ∀ whole, isTrue e X.env whole = (do let v ← whole; standAt e.pos; holding [v] (truthy v)) := by intro _; rfl) : DQ X T W e (tst f) :=
  (pt_val h he).to fun _ _ _ h => tst_to h
theorem w_and1 {a : Expr} {pos : Pos} {f : Rho → Res Bool} (h : DQ X T W a f) : DW X T W (.BoolOp .And [a] pos) f := pw_and1 h
theorem w_or1 {a : Expr} {pos : Pos} {f : Rho → Res Bool} (h : DQ X T W a f) : DW X T W (.BoolOp .Or [a] pos) f := pw_or1 h
theorem w_and {a b : Expr} {rest : List Expr} {pos : Pos} {f g : Rho → Res Bool} (h : DQ X T W a f) (h2 : DW X T W (.BoolOp .And (b :: rest) pos) g) : DW X T W (.BoolOp .And (a :: b :: rest) pos) (andQ f g) :=
  (pw_and h h2).to fun σ H Q ⟨ρ, F, a, h⟩ => by
    refine ⟨ρ, F, a, (aft.bind (R := RBool) h).imp fun d _ v F1 H1 _ _ q => ?_⟩
    obtain ⟨b, F2, _, n, rv, q⟩ := q
    obtain rfl : v = b := rv
    cases v with
    | true => exact ⟨ρ, F2, a.nx n, q⟩
    | false => exact q.ok (Nx.refl n.z) rfl
theorem w_or {a b : Expr} {rest : List Expr} {pos : Pos} {f g : Rho → Res Bool} (h : DQ X T W a f) (h2 : DW X T W (.BoolOp .Or (b :: rest) pos) g) : DW X T W (.BoolOp .Or (a :: b :: rest) pos) (orQ f g) :=
  (pw_or h h2).to fun σ H Q ⟨ρ, F, a, h⟩ => by
    refine ⟨ρ, F, a, (aft.bind (R := RBool) h).imp fun d _ v F1 H1 _ _ q => ?_⟩
    obtain ⟨b, F2, _, n, rv, q⟩ := q
    obtain rfl : v = b := rv
    cases v with
    | true => exact q.ok (Nx.refl n.z) rfl
    | false => exact ⟨ρ, F2, a.nx n, q⟩
theorem q_w {e : Expr} {f : Rho → Res Bool} (h : DW X T W e f) : DQ X T W e f := PW.pt h
theorem q_not {a : Expr} {pos : Pos} {f : Rho → Res Bool} (h : DQ X T W a f) : DQ X T W (.UnaryOp .Not a pos) (notQ f) :=
  (pt_not h).to fun σ H Q ⟨ρ, F, a, h⟩ => by
    refine ⟨ρ, F, a, (aft.bind (R := RBool) h).imp fun d _ v F1 H1 _ _ q => ?_⟩
    obtain ⟨b, F2, _, n, rv, q⟩ := q
    obtain rfl : v = b := rv
    exact q.ok (Nx.refl n.z) rfl
theorem e_one {op} {a : Expr} {pos : Pos} {f : Rho → Res D} (h : DE X T W a f) : DE X T W (.BoolOp op [a] pos) f := pe_one h
theorem bool_of {K : PySem.W.Frag} {σ : L2.St} {F H : Hp} {α β : Type} {R : Hp → α → β → Prop} {Q : α → Hp → Prop} {d : D} {v : V} {k : Bool → Res β} (rv : Rp K F v d) (q : aft R K T W σ F H Q ((ans d).bind k)) : ∃ c, v = .bl c ∧ d = .bl c ∧ aft R K T W σ F H Q (k c) := by
  cases rv with
  | bl c => exact ⟨c, rfl, rfl, q⟩
  | _ => exact q.elim
theorem e_and {a b : Expr} {rest : List Expr} {pos : Pos} {f g : Rho → Res D} (h : DE X T W a f) (h2 : DE X T W (.BoolOp .And (b :: rest) pos) g) : DE X T W (.BoolOp .And (a :: b :: rest) pos) (andE f g) :=
  (pe_and h h2).to fun σ H Q ⟨ρ, F, a, h⟩ => by
    refine ⟨ρ, F, a, (aft.bind (R := Rp X.K) h).imp fun d _ v F1 H1 _ _ q => ?_⟩
    obtain ⟨b, F2, _, n, rv, q⟩ := q
    obtain ⟨c, rfl, rfl, q⟩ := bool_of rv q
    refine ⟨c, rfl, ?_⟩
    cases c with
    | true => exact ⟨ρ, F2, a.nx n, q⟩
    | false => exact q.ok (Nx.refl n.z) (.bl false)
theorem e_or {a b : Expr} {rest : List Expr} {pos : Pos} {f g : Rho → Res D} (h : DE X T W a f) (h2 : DE X T W (.BoolOp .Or (b :: rest) pos) g) : DE X T W (.BoolOp .Or (a :: b :: rest) pos) (orE f g) :=
  (pe_or h h2).to fun σ H Q ⟨ρ, F, a, h⟩ => by
    refine ⟨ρ, F, a, (aft.bind (R := Rp X.K) h).imp fun d _ v F1 H1 _ _ q => ?_⟩
    obtain ⟨b, F2, _, n, rv, q⟩ := q
    obtain ⟨c, rfl, rfl, q⟩ := bool_of rv q
    refine ⟨c, rfl, ?_⟩
    cases c with
    | true => exact q.ok (Nx.refl n.z) (.bl true)
    | false => exact ⟨ρ, F2, a.nx n, q⟩
theorem chn_to {G G' : D → D → Option D} {K : PySem.W.Frag} {f g h : Rho → Res D} {σ : L2.St} {H : Hp} {Q : VK} (hh : tE K T W (chn G G' f g h) σ H Q) : tChain (rD2 K T G) (rD2 K T G') (tE K T W f) (tE K T W g) (tE K T W h) σ H Q := by
  obtain ⟨ρ, F, a, h⟩ := hh
  refine ⟨ρ, F, a, (aft.bind (R := Rp K) h).imp fun d _ v F1 H1 _ _ q => ?_⟩
  obtain ⟨b, F2, _, n, rv, q⟩ := q
  refine ⟨ρ, F2, a.nx n, (aft.bind (R := Rp K) q).imp fun ds _ vs F3 H3 _ _ q => ?_⟩
  obtain ⟨e, F4, _, n2, rs, q⟩ := q
  have q1 := aft.bind (R := Rp K) q
  obtain ⟨z, hz, q2⟩ := ofO_ok q1
  refine ⟨F4, b, e, z, n2.z, rv.mono n2.f, rs, hz, fun v' F' H' n3 rz => ?_⟩
  obtain ⟨z', F5, ez, n4, rz', q3⟩ := q2 v' F' H' n3 rz
  rw [hz] at ez
  obtain rfl : z = z' := by injection ez
  obtain ⟨k, rfl, rfl, q4⟩ := bool_of rz' q3
  refine ⟨k, rfl, ?_⟩
  cases k with
  | false => exact q4.ok (Nx.refl n4.z) (.bl false)
  | true =>
    refine ⟨ρ, F5, (a.nx (n.trans (n2.trans n4))), (aft.bind (R := Rp K) q4).imp fun c _ w F6 H6 _ _ q => ?_⟩
    obtain ⟨c', F7, _, n5, rc, q⟩ := q
    obtain ⟨z2, hz2, q⟩ := ofO_ok q
    exact ⟨F7, e, c', z2, n5.z, rs.mono (n4.trans n5).f, rc, hz2, q⟩
theorem q_chn {op op' : CmpOp} {G G' : D → D → Option D} {a b c : Expr} {f g h : Rho → Res D} {pos : Pos} (ho : OpR X (compareOp op) (rD2 X.K T G)) (ho' : OpR X (compareOp op') (rD2 X.K T G')) (ha : DE X T W a f) (hb : DE X T W b g) (hc : DE X T W c h)
    (hm : lastMarks [op, op'] [b, c] = false := by with_unfolding_all rfl) : DQ X T W (.Compare a [op, op'] [b, c] pos) (tst (chn G G' f g h)) :=
  (pt_chain ho ho' ha hb hc hm).to fun σ H Q h => by
    have h2 := tst_to h
    exact chn_to h2
end

/-! ### displays, subscripts, slices -/
def mkT (f : Rho → Res (List D)) : Rho → Res D := fun ρ => (f ρ).bind fun ds => if ds.length ≤ sizeLine then .ok (.tup ds) else .bad
def mkL (f : Rho → Res (List D)) : Rho → Res D := fun ρ => (f ρ).bind fun ds => if ds.length ≤ sizeLine then .ok (.lst ds) else .bad
def ixD : D → D → Option D
  | .tup xs, .int i => atI xs i
  | .lst xs, .int i => atI xs i
  | .arr ns, .int i => (atI ns i).map .int
  | .str x, .int i => if x.length ≤ sizeLine then (atI x.cps.toList i).map fun c => .str ⟨#[c]⟩ else none
  | _, _ => none
def cutD (xs : List D) (lo hi : Option Int) : List D := (xs.drop (HT.sIx xs.length 0 lo)).take (HT.sIx xs.length xs.length hi - HT.sIx xs.length 0 lo)
def slD : D → Option Int → Option Int → Option D
  | .tup xs, lo, hi => some (.tup (cutD xs lo hi))
  | .lst xs, lo, hi => some (.lst (cutD xs lo hi))
  | .str x, lo, hi => if x.length ≤ sizeLine then some (.str (cutS x lo hi)) else none
  | _, _, _ => none
def pno : Rho → Res (Option Int) := fun _ => .ok none
def intO : D → Res (Option Int)
  | .int i => .ok (some i)
  | _ => .bad
def psm (f : Rho → Res D) : Rho → Res (Option Int) := fun ρ => (f ρ).bind intO
def slc (f : Rho → Res D) (g h : Rho → Res (Option Int)) : Rho → Res D := fun ρ => (f ρ).bind fun d => (g ρ).bind fun lo => (h ρ).bind fun hi => ofO (slD d lo hi)
section
variable {X : Cx} {T : List (Addr × Str)} {W : WX}
theorem e_tup {es : List Expr} {x1} {pos : Pos} {f : Rho → Res (List D)} (h : DA X T W es f) : DE X T W (.Tuple es x1 pos) (mkT f) :=
  (pe_tup h).to fun σ H Q ⟨ρ, F, a, h⟩ => by
    refine ⟨ρ, F, a, (aft.bind (R := RpAll X.K) h).imp fun d _ v F1 H1 _ _ q => ?_⟩
    obtain ⟨ds, F2, _, n, rv, q⟩ := q
    have q : aft (Rp X.K) X.K T W σ F2 H1 Q (if ds.length ≤ sizeLine then .ok (.tup ds) else .bad) := q
    split at q
    · rename_i hl
      exact ⟨by rw [rv.length]; exact hl, fun p hp => q _ _ _ (Nx.push n.z hp ntT) (rp_tup n.z hp rv)⟩
    · exact q.elim
theorem e_lst {es : List Expr} {pos : Pos} {f : Rho → Res (List D)} (h : DA X T W es f) : DE X T W (.List es pos) (mkL f) :=
  (pe_lst h).to fun σ H Q ⟨ρ, F, a, h⟩ => by
    refine ⟨ρ, F, a, (aft.bind (R := RpAll X.K) h).imp fun d _ v F1 H1 _ _ q => ?_⟩
    obtain ⟨ds, F2, _, n, rv, q⟩ := q
    have q : aft (Rp X.K) X.K T W σ F2 H1 Q (if ds.length ≤ sizeLine then .ok (.lst ds) else .bad) := q
    split at q
    · rename_i hl
      exact ⟨by rw [rv.length]; exact hl, fun p hp => q _ _ _ (Nx.push n.z hp ntL) (rp_lst n.z hp rv)⟩
    · exact q.elim
theorem atI_get {K : PySem.W.Frag} {F : Hp} {xs : List V} {ds : List D} {i : Int} {d : D} (r : RpAll K F xs ds) (h : atI ds i = some d) : ∃ v, atI xs i = some v ∧ Rp K F v d := by
  unfold atI at h ⊢
  rw [r.length]
  cases e : ixN ds.length i with
  | none => rw [e] at h; cases h
  | some j =>
    rw [e] at h
    exact r.get h
theorem atI_int {ns : List Int} {i : Int} {z : D} (h : (atI ns i).map D.int = some z) : ∃ n, atI (ns.map V.int) i = some (.int n) ∧ z = .int n := by
  unfold atI at h ⊢
  rw [List.length_map]
  cases e : ixN ns.length i with
  | none => rw [e] at h; cases h
  | some j =>
    rw [e] at h
    have h : (ns[j]?).map D.int = some z := h
    show ∃ n, (ns.map V.int)[j]? = some (.int n) ∧ z = .int n
    rw [List.getElem?_map]
    cases q : ns[j]? with
    | none => rw [q] at h; cases h
    | some n =>
      rw [q] at h
      cases h
      exact ⟨n, rfl, rfl⟩
theorem x_ix : IxR X (rD2 X.K T ixD) := by
  intro value slice pins s σ H x y v u Q I rx ry h hs
  obtain ⟨F, d, e, z, hz, rd, re, hG, q⟩ := h
  cases rd with
  | tup h1 r1 =>
    cases re with
    | int i =>
      obtain ⟨w, hw, rw'⟩ := atI_get r1 hG
      exact ix_tup value slice pins s σ H _ _ v u Q I rx ry ⟨_, _, i, w, rfl, rfl, hz.sub.st h1, hw, done0 hz q rw'⟩ hs
    | _ => cases hG
  | lst h1 r1 =>
    cases re with
    | int i =>
      obtain ⟨w, hw, rw'⟩ := atI_get r1 hG
      exact ix_list value slice pins s σ H _ _ v u Q I rx ry ⟨_, _, i, w, rfl, rfl, SqL.of (hz.sub _ _ h1), hw, done0 hz q rw'⟩ hs
    | _ => cases hG
  | arr h1 =>
    cases re with
    | int i =>
      obtain ⟨n, hn, rfl⟩ := atI_int hG
      exact ix_list value slice pins s σ H _ _ v u Q I rx ry ⟨_, _, i, .int n, rfl, rfl, hz.sub.sl h1, hn, done0 hz q (.int n)⟩ hs
    | _ => cases hG
  | str x =>
    cases re with
    | int i =>
      have hG : (if x.length ≤ sizeLine then (atI x.cps.toList i).map fun c => D.str ⟨#[c]⟩ else none) = some z := hG
      split at hG
      · rename_i hl
        cases e : atI x.cps.toList i with
        | none => rw [e] at hG; cases hG
        | some c =>
          rw [e] at hG
          cases hG
          exact ix_str value slice pins s σ H _ _ v u Q I rx ry ⟨x, i, c, rfl, rfl, hl, e, done0 hz q (.str _)⟩ hs
      · cases hG
    | _ => cases hG
  | _ => cases hG
theorem e_ix {a b : Expr} {f g : Rho → Res D} {pos : Pos} (ha : DE X T W a f) (hb : DE X T W b g) (hs : PlainIx b := by exact fun _ _ => rfl) : DE X T W (.Subscript a b pos) (bop ixD f g) :=
  (pe_ix x_ix ha hb hs).to fun _ _ _ h => bin_to h
abbrev DO (X : Cx) (T : List (Addr × Str)) (W : WX) (e : Option Expr) (f : Rho → Res (Option Int)) : Prop := PO X e (tG (fun _ _ a b => a = b) X.K T W f)
theorem _root_.L2.PO.to {X : Cx} {e : Option Expr} {t u : TO} (h : PO X e t) (k : ∀ σ H Q, u σ H Q → t σ H Q) : PO X e u := ⟨fun pins s σ H Q I q => h.run pins s σ H Q I (k σ H Q q)⟩
theorem p_none : DO X T W none pno := po_none.to fun σ H Q ⟨ρ, F, a, h⟩ => h _ F H (Nx.refl a.z) rfl
theorem p_some {e : Expr} {f : Rho → Res D} (h : DE X T W e f) : DO X T W (some e) (psm f) :=
  (po_some h).to fun σ H Q ⟨ρ, F, a, h⟩ => by
    refine ⟨ρ, F, a, (aft.bind (R := Rp X.K) h).imp fun d _ v F1 H1 _ _ q => ?_⟩
    obtain ⟨b, F2, _, n, rv, q⟩ := q
    cases rv with
    | int i => exact ⟨i, rfl, q.ok (Nx.refl n.z) rfl⟩
    | _ => exact q.elim
theorem RpAll.cut {K : PySem.W.Frag} {F : Hp} {xs : List V} {ds : List D} (r : RpAll K F xs ds) (lo hi : Option Int) : RpAll K F (cutV xs lo hi) (cutD ds lo hi) := by
  unfold cutV cutD
  rw [r.length]
  exact (r.drop _).take _
theorem cut_whole {ds : List D} {lo hi : Option Int} (h : HT.sIx ds.length 0 lo = 0 ∧ HT.sIx ds.length ds.length hi = ds.length) : cutD ds lo hi = ds := by
  unfold cutD
  rw [h.1, h.2]
  simp
def rSlD (K : PySem.W.Frag) (T : List (Addr × Str)) : V → Option Int → Option Int → Hp → VK → Prop := fun x lo hi H Q =>
  ∃ F d z, Fz F H ∧ Rp K F x d ∧ slD d lo hi = some z ∧ ∀ v F' H', Nx T F H F' H' → Rp K F' v z → Q v H'
theorem x_sl : SlR X (rSlD X.K T) := by
  intro pins s σ H x v vl vu lo hi sl Q I rx hs pl pu h
  obtain ⟨F, d, z, hz, rd, hG, q⟩ := h
  cases rd with
  | tup h1 r1 =>
    cases hG
    refine sl_tupA pins s σ H _ v vl vu lo hi sl Q I rx hs pl pu ⟨_, _, rfl, hz.sub.st h1, fun hw => ?_, fun _ p hp => donep hz hp ntT q (rp_tup hz hp (r1.cut lo hi))⟩
    rw [r1.length] at hw
    rw [cut_whole hw] at q
    exact done0 hz q (.tup h1 r1)
  | lst h1 r1 =>
    cases hG
    exact sl_list pins s σ H _ v vl vu lo hi sl Q I rx hs pl pu ⟨_, _, rfl, SqL.of (hz.sub _ _ h1), fun p hp => donep hz hp ntL q (rp_lst hz hp (r1.cut lo hi))⟩
  | str x =>
    have hG : (if x.length ≤ sizeLine then some (D.str (cutS x lo hi)) else none) = some z := hG
    split at hG
    · rename_i hl
      cases hG
      exact sl_str pins s σ H _ v vl vu lo hi sl Q I rx hs pl pu ⟨x, rfl, hl, done0 hz q (.str _)⟩
    · cases hG
  | _ => cases hG
theorem e_sl {e : Expr} {lo hi : Option Expr} {f : Rho → Res D} {g h : Rho → Res (Option Int)} {p2 pos : Pos} (he : DE X T W e f) (hl : DO X T W lo g) (hh : DO X T W hi h) : DE X T W (.Subscript e (.Slice lo hi none p2) pos) (slc f g h) :=
  (pe_slice x_sl he hl hh).to fun σ H Q ⟨ρ, F, a, h⟩ => by
    refine ⟨ρ, F, a, (aft.bind (R := Rp X.K) h).imp fun d _ v F1 H1 _ _ q => ?_⟩
    obtain ⟨b, F2, _, n, rv, q⟩ := q
    refine ⟨ρ, F2, a.nx n, (aft.bind (R := fun _ a b => a = b) q).imp fun lo _ v' F3 H3 _ _ q => ?_⟩
    obtain ⟨lo', F4, _, n2, rl, q⟩ := q
    subst rl
    refine ⟨ρ, F4, a.nx (n.trans n2), (aft.bind (R := fun _ a b => a = b) q).imp fun hi _ v'' F5 H5 _ _ q => ?_⟩
    obtain ⟨hi', F6, _, n3, rh, q⟩ := q
    subst rh
    obtain ⟨z, hz, q⟩ := ofO_ok q
    exact ⟨F6, b, z, n3.z, rv.mono (n2.trans n3).f, hz, q⟩
end

/-! ### calls of built-ins -/
section
variable {X : Cx} {T : List (Addr × Str)} {W : WX}
theorem cal_to {K : PySem.W.Frag} {G : List D → Option D} {f : Rho → Res (List D)} {σ : L2.St} {H : Hp} {Q : VK} (h : tE K T W (cal G f) σ H Q) : tCB (rDn K T G) (tA K T W f) σ H Q := by
  obtain ⟨ρ, F, a, h⟩ := h
  refine ⟨ρ, F, a, (aft.bind (R := RpAll K) h).imp fun d _ v F1 H1 _ _ q => ?_⟩
  obtain ⟨b, F2, _, n, rv, q⟩ := q
  obtain ⟨z, hz, q⟩ := ofO_ok q
  exact ⟨F2, b, z, n.z, rv, hz, q⟩
theorem e_callB {id : String} {x : Str} {G : List D → Option D} {e : Expr} {es : List Expr} {p pos : Pos} {f : Rho → Res (List D)} (hc : CallR X (.builtin id) (rDn X.K T G)) (hg : Gl X x) (hm : X.mg x = none) (hv : bootBuiltins x = some (.builtin id)) (ha : DA X T W (e :: es) f)
    (hn : x ≠ "__name__" := by decide) (hdb : (x == ("__debug__" : Str)) = false := by decide) (hpl : starEach (e :: es) X.env = (false, eval e X.env) :: starEach es X.env := by rfl) (hpl2 : (backTo pos (starEach es X.env)).any (·.1) = false := by rfl) : DE X T W (.Call (.Name x p) (e :: es) [] pos) (cal G f) :=
  (pe_callB hc hg hm hv ha hn hdb hpl hpl2).to fun _ _ _ h => cal_to h
theorem e_callTy {T' : String} {x : Str} {G : List D → Option D} {e : Expr} {es : List Expr} {p pos : Pos} {f : Rho → Res (List D)} (hc : CallR X (.type T') (rDn X.K T G)) (hg : Gl X x) (hm : X.mg x = none) (hv : bootBuiltins x = some (.type T')) (ha : DA X T W (e :: es) f)
    (hn : x ≠ "__name__" := by decide) (hdb : (x == ("__debug__" : Str)) = false := by decide) (hpl : starEach (e :: es) X.env = (false, eval e X.env) :: starEach es X.env := by rfl) (hpl2 : (backTo pos (starEach es X.env)).any (·.1) = false := by rfl) : DE X T W (.Call (.Name x p) (e :: es) [] pos) (cal G f) :=
  (pe_callTy hc hg hm hv ha hn hdb hpl hpl2).to fun _ _ _ h => cal_to h
end
def lenD : List D → Option D
  | [.str x] => if x.length ≤ sizeLine then some (.int x.length) else none
  | [.tup xs] => some (.int xs.length)
  | [.lst xs] => some (.int xs.length)
  | [.arr ns] => some (.int ns.length)
  | _ => none
def absD : List D → Option D
  | [.int i] => some (.int (if i < 0 then -i else i))
  | _ => none
def maxD : List D → Option D
  | [.int i, .int j] => some (.int (if j > i then j else i))
  | _ => none
def minD : List D → Option D
  | [.int i, .int j] => some (.int (if j < i then j else i))
  | _ => none
def intD : List D → Option D
  | [.int i] => some (.int i)
  | [.bl k] => some (.int (if k then 1 else 0))
  | [.str x] => if x.length ≤ 640 then (PySem.intText? x).map .int else none
  | _ => none
def strD : List D → Option D
  | [.int i] => if i.natAbs.log2 < 1920 then some (.str (toString i)) else none
  | _ => none
def tupD : List D → Option D
  | [.lst xs] => some (.tup xs)
  | [.tup xs] => some (.tup xs)
  | _ => none
def tyD : D → Option String
  | .non => some "NoneType"
  | .bl _ => some "bool"
  | .int _ => some "int"
  | .str _ => some "str"
  | .lst _ => some "list"
  | .tup _ => some "tuple"
  | _ => none
def isiD : List D → Option D
  | [d, .ty n] => (tyD d).bind fun t => (kitB t n).map .bl
  | _ => none
section
variable {X : Cx} {T : List (Addr × Str)} {W : WX}
theorem all1 {K : PySem.W.Frag} {F : Hp} {xs : List V} {d : D} (r : RpAll K F xs [d]) : ∃ v, xs = [v] ∧ Rp K F v d := by
  cases r with
  | cons h t => cases t; exact ⟨_, rfl, h⟩
theorem all2 {K : PySem.W.Frag} {F : Hp} {xs : List V} {d e : D} (r : RpAll K F xs [d, e]) : ∃ v w, xs = [v, w] ∧ Rp K F v d ∧ Rp K F w e := by
  cases r with
  | cons h t =>
    obtain ⟨w, rfl, h2⟩ := all1 t
    exact ⟨_, w, rfl, h, h2⟩
theorem c_len : CallR X (.builtin "len") (rDn X.K T lenD) := by
  intro pins s σ H xs us Q I r h
  obtain ⟨F, ds, z, hz, rs, hG, q⟩ := h
  unfold lenD at hG
  split at hG
  · rename_i x
    obtain ⟨v, rfl, rv⟩ := all1 rs
    cases rv
    split at hG
    · rename_i hl
      cases hG
      exact call_len_str pins s σ H _ us Q I r ⟨x, rfl, hl, done0 hz q (.int _)⟩
    · cases hG
  · obtain ⟨v, rfl, rv⟩ := all1 rs
    cases hG
    cases rv with
    | tup h1 r1 => exact call_len_seq pins s σ H _ us Q I r ⟨_, _, rfl, .inr (hz.sub.st h1), by rw [r1.length]; exact done0 hz q (.int _)⟩
  · obtain ⟨v, rfl, rv⟩ := all1 rs
    cases hG
    cases rv with
    | lst h1 r1 => exact call_len_seq pins s σ H _ us Q I r ⟨_, _, rfl, .inl (SqL.of (hz.sub _ _ h1)), by rw [r1.length]; exact done0 hz q (.int _)⟩
  · obtain ⟨v, rfl, rv⟩ := all1 rs
    cases hG
    cases rv with
    | arr h1 => exact call_len_seq pins s σ H _ us Q I r ⟨_, _, rfl, .inl (hz.sub.sl h1), by rw [List.length_map]; exact done0 hz q (.int _)⟩
  · cases hG
theorem c_abs : CallR X (.builtin "abs") (rDn X.K T absD) := by
  intro pins s σ H xs us Q I r h
  obtain ⟨F, ds, z, hz, rs, hG, q⟩ := h
  unfold absD at hG
  split at hG
  · obtain ⟨v, rfl, rv⟩ := all1 rs
    cases rv
    cases hG
    exact call_abs pins s σ H _ us Q I r ⟨_, rfl, done0 hz q (.int _)⟩
  · cases hG
theorem c_max (hc : X.calm = true) : CallR X (.builtin "max") (rDn X.K T maxD) := by
  intro pins s σ H xs us Q I r h
  obtain ⟨F, ds, z, hz, rs, hG, q⟩ := h
  unfold maxD at hG
  split at hG
  · obtain ⟨v, w, rfl, rv, rw'⟩ := all2 rs
    cases rv
    cases rw'
    cases hG
    exact call_max2 hc pins s σ H _ us Q I r ⟨_, _, rfl, done0 hz q (.int _)⟩
  · cases hG
theorem c_min (hc : X.calm = true) : CallR X (.builtin "min") (rDn X.K T minD) := by
  intro pins s σ H xs us Q I r h
  obtain ⟨F, ds, z, hz, rs, hG, q⟩ := h
  unfold minD at hG
  split at hG
  · obtain ⟨v, w, rfl, rv, rw'⟩ := all2 rs
    cases rv
    cases rw'
    cases hG
    exact call_min2 hc pins s σ H _ us Q I r ⟨_, _, rfl, done0 hz q (.int _)⟩
  · cases hG
theorem c_int : CallR X (.type "int") (rDn X.K T intD) := by
  intro pins s σ H xs us Q I r h
  obtain ⟨F, ds, z, hz, rs, hG, q⟩ := h
  unfold intD at hG
  split at hG
  · obtain ⟨v, rfl, rv⟩ := all1 rs
    cases rv
    cases hG
    exact call_int1 pins s σ H _ us Q I r (.inl ⟨_, rfl, done0 hz q (.int _)⟩)
  · obtain ⟨v, rfl, rv⟩ := all1 rs
    cases rv
    cases hG
    exact call_int1 pins s σ H _ us Q I r (.inr ⟨_, rfl, done0 hz q (.int _)⟩)
  · rename_i x
    obtain ⟨v, rfl, rv⟩ := all1 rs
    cases rv
    split at hG
    · rename_i hl
      cases e : PySem.intText? x with
      | none => rw [e] at hG; cases hG
      | some n =>
        rw [e] at hG
        cases hG
        exact call_int_str pins s σ H _ us Q I r ⟨x, n, rfl, e, hl, done0 hz q (.int _)⟩
    · cases hG
  · cases hG
theorem c_str : CallR X (.type "str") (rDn X.K T strD) := by
  intro pins s σ H xs us Q I r h
  obtain ⟨F, ds, z, hz, rs, hG, q⟩ := h
  unfold strD at hG
  split at hG
  · obtain ⟨v, rfl, rv⟩ := all1 rs
    cases rv
    split at hG
    · rename_i hl
      cases hG
      exact call_str_int pins s σ H _ us Q I r ⟨_, rfl, hl, done0 hz q (.str _)⟩
    · cases hG
  · cases hG
theorem c_tup : CallR X (.type "tuple") (rDn X.K T tupD) := by
  intro pins s σ H xs us Q I r h
  obtain ⟨F, ds, z, hz, rs, hG, q⟩ := h
  unfold tupD at hG
  split at hG
  · obtain ⟨v, rfl, rv⟩ := all1 rs
    cases hG
    cases rv with
    | lst h1 r1 => exact call_tuple_of pins s σ H _ us Q I r ⟨_, _, rfl, .inl ⟨SqL.of (hz.sub _ _ h1), fun p hp => donep hz hp ntT q (rp_tup hz hp r1)⟩⟩
  · obtain ⟨v, rfl, rv⟩ := all1 rs
    cases hG
    cases rv with
    | tup h1 r1 => exact call_tuple_of pins s σ H _ us Q I r ⟨_, _, rfl, .inr ⟨hz.sub.st h1, done0 hz q (.tup h1 r1)⟩⟩
  · cases hG
theorem ty_of {K : PySem.W.Frag} {F H : Hp} {v : V} {d : D} {t : String} (hz : Fz F H) (r : Rp K F v d) (h : tyD d = some t) : TyX K H v (.type t) := by
  cases r with
  | non => cases h; exact .base .non
  | bl b => cases h; exact .base (.bl b)
  | int i => cases h; exact .base (.int i)
  | str x => cases h; exact .base (.str x)
  | lst h1 _ => cases h; exact .base (.lst (hz.sub _ _ h1))
  | tup h1 _ =>
    cases h
    rcases h1 with (h1 | ⟨o, h1⟩) | ⟨o, its, n, hk, hc, _⟩
    · exact .base (.tup (hz.sub _ _ h1))
    · exact .fTuple (hz.sub _ _ h1)
    · exact .kTuple hk hc
  | _ => cases h
theorem c_isi : CallR X (.builtin "isinstance") (rDn X.K T isiD) := by
  intro pins s σ H xs us Q I r h
  obtain ⟨F, ds, z, hz, rs, hG, q⟩ := h
  unfold isiD at hG
  split at hG
  · rename_i d n
    obtain ⟨v, w, rfl, rv, rw'⟩ := all2 rs
    cases rw'
    cases e : tyD d with
    | none => rw [e] at hG; cases hG
    | some t =>
      rw [e] at hG
      have hG : (kitB t n).map D.bl = some z := hG
      cases e2 : kitB t n with
      | none => rw [e2] at hG; cases hG
      | some b =>
        rw [e2] at hG
        cases hG
        exact call_isi pins s σ H _ us Q I r ⟨v, _, _, _, b, rfl, .ty n, ty_of hz rv e, kit_ty e2, done0 hz q (.bl b)⟩
  · cases hG
end
end DN
namespace DN
open PySem PySem.Spec PyProof.Rows L2
open LamX (Tabs ExtN)

/-! ### == and != of data -/
def flatD : D → Bool
  | .non => true
  | .bl _ => true
  | .int _ => true
  | .str _ => true
  | _ => false
mutual
def eqd : D → D → Bool
  | .non, .non => true
  | .bl a, .bl b => a == b
  | .bl a, .int j => (if a then 1 else 0) == j
  | .int i, .bl b => i == (if b then 1 else 0)
  | .int i, .int j => i == j
  | .str x, .str y => x == y
  | .lst xs, .lst ys => eqds xs ys
  | .tup xs, .tup ys => eqds xs ys
  | _, _ => false
def eqds : List D → List D → Bool
  | [], [] => true
  | x :: xs, y :: ys => eqd x y && eqds xs ys
  | _, _ => false
end
mutual
/-- plain data that is no deeper than n -/
def plain : Nat → D → Bool
  | _, .non => true
  | _, .bl _ => true
  | _, .int _ => true
  | _, .str x => PyData.strOk x
  | n + 1, .lst xs => plains n xs
  | n + 1, .tup xs => plains n xs
  | _, _ => false
def plains : Nat → List D → Bool
  | _, [] => true
  | n, x :: xs => plain n x && plains n xs
end
mutual
def pyO : D → PyData
  | .non => .none
  | .bl b => .bool b
  | .int i => .int i
  | .str x => .str x
  | .lst xs => .list (pyA xs)
  | .tup xs => .tuple (pyA xs)
  | _ => .none
def pyA : List D → List PyData
  | [] => []
  | x :: xs => pyO x :: pyA xs
end
mutual
theorem plain_py {K : PySem.W.Frag} {H : Hp} : ∀ (n : Nat) (d : D) (v : V), plain n d = true → Rp K H v d → Dp K H v (pyO d) ∧ (pyO d).canLay0 = true ∧ (pyO d).depth ≤ n
  | n, .non, _, _, .non => by
    unfold pyO
    exact ⟨.non, by simp [PyData.canLay0], by simp [PyData.depth]⟩
  | n, .bl b, _, _, .bl _ => by
    unfold pyO
    exact ⟨.bl b, by simp [PyData.canLay0], by simp [PyData.depth]⟩
  | n, .int b, _, _, .int _ => by
    unfold pyO
    exact ⟨.int b, by simp [PyData.canLay0], by simp [PyData.depth]⟩
  | n, .str b, _, h, .str _ => by
    unfold plain at h
    unfold pyO
    exact ⟨.str b, by simpa [PyData.canLay0] using h, by simp [PyData.depth]⟩
  | n + 1, .lst xs, _, h, .lst h1 r => by
    unfold plain at h
    obtain ⟨a, b, c⟩ := plains_py n xs _ h r
    unfold pyO
    exact ⟨.lst (SqL.of h1) a, by simpa [PyData.canLay0] using b, by simp only [PyData.depth]; omega⟩
  | n + 1, .tup xs, _, h, .tup h1 r => by
    unfold plain at h
    obtain ⟨a, b, c⟩ := plains_py n xs _ h r
    unfold pyO
    exact ⟨.tup h1 a, by simpa [PyData.canLay0] using b, by simp only [PyData.depth]; omega⟩
  | 0, .lst xs, _, h, _ => by simp [plain] at h
  | 0, .tup xs, _, h, _ => by simp [plain] at h
  | _, .fn _, _, h, _ => by simp [plain] at h
  | _, .ty _, _, h, _ => by simp [plain] at h
  | _, .dK _, _, h, _ => by simp [plain] at h
  | _, .dT _, _, h, _ => by simp [plain] at h
  | _, .arr _, _, h, _ => by simp [plain] at h
  | _, .pro _, _, h, _ => by simp [plain] at h
  | _, .dic _ _ _ _, _, h, _ => by simp [plain] at h
  | _, .adr _, _, h, _ => by simp [plain] at h
  | _, .ins _ _ _, _, h, _ => by simp [plain] at h
  | _, .tab _ _ _, _, h, _ => by simp [plain] at h
theorem plains_py {K : PySem.W.Frag} {H : Hp} : ∀ (n : Nat) (ds : List D) (vs : List V), plains n ds = true → RpAll K H vs ds → DpAll K H vs (pyA ds) ∧ PyData.canLayAll0 (pyA ds) = true ∧ PyData.depthAll (pyA ds) ≤ n
  | n, [], _, _, .nil => by
    unfold pyA
    exact ⟨.nil, by simp [PyData.canLayAll0], by simp [PyData.depthAll]⟩
  | n, d :: ds, _, h, .cons r t => by
    unfold plains at h
    rw [Bool.and_eq_true] at h
    obtain ⟨a, b, c⟩ := plain_py n d _ h.1 r
    obtain ⟨a2, b2, c2⟩ := plains_py n ds _ h.2 t
    unfold pyA
    exact ⟨.cons a a2, by simp [PyData.canLayAll0, b, b2], by simp only [PyData.depthAll]; omega⟩
end
mutual
theorem eqd_py : ∀ (n m : Nat) (d e : D), plain n d = true → plain m e = true → PyData.eqv (pyO d) (pyO e) = eqd d e
  | n, m, d, e, hd, he => by
    cases d <;> cases e <;> first
      | (simp only [pyO, PyData.eqv, eqd]; done)
      | (cases n <;> simp [plain] at hd; done)
      | (cases m <;> simp [plain] at he; done)
      | (cases n with
         | zero => simp [plain] at hd
         | succ n =>
           cases m with
           | zero => simp [plain] at he
           | succ m =>
             unfold plain at hd he
             simp only [pyO, PyData.eqv, eqd]
             exact eqds_py n m _ _ hd he)
theorem eqds_py : ∀ (n m : Nat) (d e : List D), plains n d = true → plains m e = true → PyData.eqvAll (pyA d) (pyA e) = eqds d e
  | n, m, [], [], _, _ => by simp [pyA, PyData.eqvAll, eqds]
  | n, m, [], _ :: _, _, _ => by simp [pyA, PyData.eqvAll, eqds]
  | n, m, _ :: _, [], _, _ => by simp [pyA, PyData.eqvAll, eqds]
  | n, m, x :: xs, y :: ys, hd, he => by
    unfold plains at hd he
    rw [Bool.and_eq_true] at hd he
    simp only [pyA, PyData.eqvAll, eqds]
    rw [eqd_py n m x y hd.1 he.1, eqds_py n m xs ys hd.2 he.2]
end
def eqOk (d e : D) : Bool := (flatD d && flatD e) || (plain 64 d && plain 64 e)
def eqD (d e : D) : Option D := if eqOk d e = true then some (.bl (eqd d e)) else none
def neD (d e : D) : Option D := if eqOk d e = true then some (.bl (!eqd d e)) else none
section
variable {X : Cx} {T : List (Addr × Str)} {W : WX}
/-- either two scalars that == tells apart, or plain data -/
theorem eq_cases {K : PySem.W.Frag} {F H : Hp} {x y : V} {d e : D} (hz : Fz F H) (rd : Rp K F x d) (re : Rp K F y e) (h : eqOk d e = true) :
    (scal x y = true ∧ decide (x = y) = eqd d e) ∨ (∃ a b, Dp K H x a ∧ Dp K H y b ∧ SeqAt.shaped a = true ∧ SeqAt.shaped b = true ∧ PyData.eqv a b = eqd d e) := by
  have deep : plain 64 d = true → plain 64 e = true → ∃ a b, Dp K H x a ∧ Dp K H y b ∧ SeqAt.shaped a = true ∧ SeqAt.shaped b = true ∧ PyData.eqv a b = eqd d e := fun hd he => by
    obtain ⟨a1, a2, a3⟩ := plain_py 64 d x hd (rd.mono hz.sub)
    obtain ⟨b1, b2, b3⟩ := plain_py 64 e y he (re.mono hz.sub)
    refine ⟨_, _, a1, b1, ?_, ?_, eqd_py 64 64 d e hd he⟩
    · unfold SeqAt.shaped
      rw [a2, decide_eq_true a3] <;> rfl
    · unfold SeqAt.shaped
      rw [b2, decide_eq_true b3] <;> rfl
  unfold eqOk at h
  rw [Bool.or_eq_true, Bool.and_eq_true, Bool.and_eq_true] at h
  rcases h with ⟨h1, h2⟩ | ⟨h1, h2⟩
  · cases rd <;> cases re <;> first
      | (cases h1; done)
      | (cases h2; done)
      | (refine .inr (deep ?_ ?_) <;> simp [plain] <;> done)
      | (refine .inl ⟨rfl, ?_⟩; simp only [eqd]; first | exact dec_str | (simp; done))
  · exact .inr (deep h1 h2)
theorem o_eq (hu : X.A.units + 64 < cLine) : OpR X (compareOp .Eq) (rD2 X.K T eqD) := by
  intro pins s σ H x y v u Q I rx ry h
  obtain ⟨F, d, e, z, hz, rd, re, hG, q⟩ := h
  unfold eqD at hG
  split at hG
  · rename_i hk
    cases hG
    rcases eq_cases hz rd re hk with ⟨h1, h2⟩ | ⟨a, b, h1, h2, h3, h4, h5⟩
    · exact op_eq pins s σ H x y v u Q I rx ry ⟨h1, by rw [h2]; exact done0 hz q (.bl _)⟩
    · exact op_eqD hu pins s σ H x y v u Q I rx ry ⟨a, b, h1, h2, h3, h4, by rw [h5]; exact done0 hz q (.bl _)⟩
  · cases hG
theorem o_ne (hu : X.A.units + 64 < cLine) : OpR X (compareOp .NotEq) (rD2 X.K T neD) := by
  intro pins s σ H x y v u Q I rx ry h
  obtain ⟨F, d, e, z, hz, rd, re, hG, q⟩ := h
  unfold neD at hG
  split at hG
  · rename_i hk
    cases hG
    rcases eq_cases hz rd re hk with ⟨h1, h2⟩ | ⟨a, b, h1, h2, h3, h4, h5⟩
    · exact op_ne pins s σ H x y v u Q I rx ry ⟨h1, by rw [h2]; exact done0 hz q (.bl _)⟩
    · exact op_neD hu pins s σ H x y v u Q I rx ry ⟨a, b, h1, h2, h3, h4, by rw [h5]; exact done0 hz q (.bl _)⟩
  · cases hG
end

/-! ### in, not in -/
def hasS (x y : Str) : Bool := if x.cps.size = 1 then decide (x.cps.getD 0 0 ∈ y.cps.toList) else !(Builtin.Str.occurrences y x 0 y.length 1).isEmpty
def inL (d : D) (xs : List D) : Option Bool := if (flatD d && xs.all flatD) = true then some (xs.any fun y => eqd y d) else if (plain 60 d && plains 60 xs) = true then some (xs.any fun y => eqd y d) else none
def inB : D → D → Option Bool
  | .str x, .str y => some (hasS x y)
  | d, .tup xs => inL d xs
  | d, .lst xs => inL d xs
  | _, _ => none
def inD (d e : D) : Option D := (inB d e).map .bl
def niD (d e : D) : Option D := (inB d e).map fun b => .bl (!b)
section
variable {X : Cx} {T : List (Addr × Str)} {W : WX}
theorem flat_rp {K : PySem.W.Frag} {F : Hp} {v : V} {d : D} (r : Rp K F v d) (h : flatD d = true) : flatV v = true := by
  cases r <;> first | rfl | cases h
theorem flat_all {K : PySem.W.Frag} {F : Hp} : ∀ {vs : List V} {ds : List D}, RpAll K F vs ds → ds.all flatD = true → vs.all flatV = true
  | _, _, .nil, _ => rfl
  | _, _, .cons r t, h => by
    rw [List.all_cons, Bool.and_eq_true] at h
    rw [List.all_cons, flat_rp r h.1, flat_all t h.2] <;> rfl
theorem eqV_eqd {K : PySem.W.Frag} {F : Hp} {v w : V} {d e : D} (r : Rp K F v d) (q : Rp K F w e) (h : flatD d = true) (h2 : flatD e = true) : eqV v w = eqd d e := by
  cases r <;> first
    | (cases h; done)
    | (cases q <;> first | (cases h2; done) | (simp [eqV, eqd]; done))
theorem inV_eq {K : PySem.W.Frag} {F : Hp} {w : V} {e : D} (q : Rp K F w e) (h2 : flatD e = true) : ∀ {vs : List V} {ds : List D}, RpAll K F vs ds → ds.all flatD = true → inV w vs = ds.any fun y => eqd y e
  | _, _, .nil, _ => rfl
  | v :: vs, d :: ds, .cons r t, h => by
    rw [List.all_cons, Bool.and_eq_true] at h
    have ih := inV_eq q h2 t h.2
    unfold inV at ih ⊢
    rw [List.any_cons, List.any_cons, ih, eqV_eqd r q h.1 h2]
theorem one_of {x : Str} (h : x.cps.size = 1) : x = ⟨#[x.cps.getD 0 0]⟩ := by
  obtain ⟨cps⟩ := x
  simp only at h ⊢
  congr 1
  apply Array.ext
  · simp [h]
  · intro i h1 h2
    have : i = 0 := by omega
    subst this
    simp [Array.getD, h]
theorem any_py (d : D) (hd : plain 60 d = true) : ∀ ds : List D, plains 60 ds = true → ((pyA ds).any fun z => PyData.eqv z (pyO d)) = ds.any fun y => eqd y d
  | [], _ => rfl
  | y :: ds, h => by
    have h : (plain 60 y && plains 60 ds) = true := h
    rw [Bool.and_eq_true] at h
    show (PyData.eqv (pyO y) (pyO d) || (pyA ds).any fun z => PyData.eqv z (pyO d)) = _
    rw [eqd_py 60 60 y d h.1 hd, any_py d hd ds h.2]
    rfl
theorem in_deep {pins : List (Addr × Obj)} {s : Shared} {σ : L2.St} {H F : Hp} {x : V} {v u : Value} {a : Addr} {xs : List V} {d : D} {ds : List D} {Q : VK} (hu : X.A.units + 64 < cLine) (I : Inv X pins σ H s) (hz : Fz F H) (rx : RelV x v) (ry : RelV (.ref a) u) (rd : Rp X.K F x d) (hs : SqT X.K F a xs ∨ F a = some (.lst xs)) (r1 : RpAll X.K F xs ds) (hd : plain 60 d = true) (hds : plains 60 ds = true) :
    (Q (.bl (ds.any fun y => eqd y d)) H → wpAny (model X.prog X.w) X.A (compareOp .In v u) (EP X pins σ Q) X.xe s) ∧ (Q (.bl (!ds.any fun y => eqd y d)) H → wpAny (model X.prog X.w) X.A (compareOp .NotIn v u) (EP X pins σ Q) X.xe s) := by
  obtain ⟨a1, a2, a3⟩ := plain_py 60 d x hd (rd.mono hz.sub)
  obtain ⟨b1, b2, b3⟩ := plains_py 60 ds xs hds (r1.mono hz.sub)
  obtain ⟨as, q1⟩ := Dp.reads I _ x v a1 rx
  have room : X.A.units + 1 + min (PyData.depthAll (pyA ds)) (pyO d).depth < cLine := by omega
  rw [← any_py d hd ds hds]
  rcases hs with hs | hs
  · have c1 : Dp X.K H (.ref a) (.tuple (pyA ds)) := Dp.tup (hz.sub.st hs) b1
    obtain ⟨bs, q2⟩ := Dp.reads I _ (.ref a) u c1 ry
    exact ⟨fun q => SeqAt.in_tuple_reads q2 q1 b2 a2 room ⟨.bl _, H, I, rfl, q⟩, fun q => SeqAt.notIn_tuple_reads q2 q1 b2 a2 room ⟨.bl _, H, I, rfl, q⟩⟩
  · have c1 : Dp X.K H (.ref a) (.list (pyA ds)) := Dp.lst (SqL.of (hz.sub _ _ hs)) b1
    obtain ⟨bs, q2⟩ := Dp.reads I _ (.ref a) u c1 ry
    exact ⟨fun q => SeqAt.in_list_reads q2 q1 b2 a2 room ⟨.bl _, H, I, rfl, q⟩, fun q => SeqAt.notIn_list_reads q2 q1 b2 a2 room ⟨.bl _, H, I, rfl, q⟩⟩
theorem o_in (hu : X.A.units + 64 < cLine) : OpR X (compareOp .In) (rD2 X.K T inD) := by
  intro pins s σ H x y v u Q I rx ry h
  obtain ⟨F, d, e, z, hz, rd, re, hG, q⟩ := h
  unfold inD at hG
  cases hb : inB d e with
  | none => rw [hb] at hG; cases hG
  | some b =>
    rw [hb] at hG
    cases hG
    cases re with
    | str y =>
      cases rd with
      | str x =>
        have hb : some (hasS x y) = some b := hb
        unfold hasS at hb
        split at hb
        · rename_i h1
          cases hb
          exact op_in_sign pins s σ H _ _ v u Q I rx ry ⟨x.cps.getD 0 0, y, congrArg V.str (one_of h1), rfl, done0 hz q (.bl _)⟩
        · cases hb
          exact op_in_str pins s σ H _ _ v u Q I rx ry ⟨x, y, rfl, rfl, done0 hz q (.bl _)⟩
      | _ => cases hb
    | tup h1 r1 =>
      rename_i a xs ds
      have hb : inL d ds = some b := by
        cases d <;> exact hb
      unfold inL at hb
      split at hb
      · rename_i hf
        rw [Bool.and_eq_true] at hf
        cases hb
        refine op_in_seq pins s σ H _ _ v u Q I rx ry ⟨a, xs, rfl, .inr (hz.sub.st h1), flat_rp rd hf.1, flat_all r1 hf.2, ?_⟩
        rw [inV_eq rd hf.1 r1 hf.2]
        exact done0 hz q (.bl _)
      · split at hb
        · rename_i hf
          rw [Bool.and_eq_true] at hf
          cases hb
          exact (in_deep hu I hz rx ry rd (.inl h1) r1 hf.1 hf.2).1 (done0 hz q (.bl _))
        · cases hb
    | lst h1 r1 =>
      rename_i a xs ds
      have hb : inL d ds = some b := by
        cases d <;> exact hb
      unfold inL at hb
      split at hb
      · rename_i hf
        rw [Bool.and_eq_true] at hf
        cases hb
        refine op_in_seq pins s σ H _ _ v u Q I rx ry ⟨a, xs, rfl, .inl (SqL.of (hz.sub _ _ h1)), flat_rp rd hf.1, flat_all r1 hf.2, ?_⟩
        rw [inV_eq rd hf.1 r1 hf.2]
        exact done0 hz q (.bl _)
      · split at hb
        · rename_i hf
          rw [Bool.and_eq_true] at hf
          cases hb
          exact (in_deep hu I hz rx ry rd (.inr h1) r1 hf.1 hf.2).1 (done0 hz q (.bl _))
        · cases hb
    | _ => cases rd <;> cases hb
theorem o_ni (hu : X.A.units + 64 < cLine) : OpR X (compareOp .NotIn) (rD2 X.K T niD) := by
  intro pins s σ H x y v u Q I rx ry h
  obtain ⟨F, d, e, z, hz, rd, re, hG, q⟩ := h
  unfold niD at hG
  cases hb : inB d e with
  | none => rw [hb] at hG; cases hG
  | some b =>
    rw [hb] at hG
    cases hG
    cases re with
    | str y =>
      cases rd with
      | str x =>
        have hb : some (hasS x y) = some b := hb
        unfold hasS at hb
        split at hb
        · rename_i h1
          cases hb
          exact op_notIn_sign pins s σ H _ _ v u Q I rx ry ⟨x.cps.getD 0 0, y, congrArg V.str (one_of h1), rfl, done0 hz q (.bl _)⟩
        · cases hb
          exact op_notin_str pins s σ H _ _ v u Q I rx ry ⟨x, y, rfl, rfl, done0 hz q (.bl _)⟩
      | _ => cases hb
    | tup h1 r1 =>
      rename_i a xs ds
      have hb : inL d ds = some b := by
        cases d <;> exact hb
      unfold inL at hb
      split at hb
      · rename_i hf
        rw [Bool.and_eq_true] at hf
        cases hb
        refine op_notIn_seq pins s σ H _ _ v u Q I rx ry ⟨a, xs, rfl, .inr (hz.sub.st h1), flat_rp rd hf.1, flat_all r1 hf.2, ?_⟩
        rw [inV_eq rd hf.1 r1 hf.2]
        exact done0 hz q (.bl _)
      · split at hb
        · rename_i hf
          rw [Bool.and_eq_true] at hf
          cases hb
          exact (in_deep hu I hz rx ry rd (.inl h1) r1 hf.1 hf.2).2 (done0 hz q (.bl _))
        · cases hb
    | lst h1 r1 =>
      rename_i a xs ds
      have hb : inL d ds = some b := by
        cases d <;> exact hb
      unfold inL at hb
      split at hb
      · rename_i hf
        rw [Bool.and_eq_true] at hf
        cases hb
        refine op_notIn_seq pins s σ H _ _ v u Q I rx ry ⟨a, xs, rfl, .inl (SqL.of (hz.sub _ _ h1)), flat_rp rd hf.1, flat_all r1 hf.2, ?_⟩
        rw [inV_eq rd hf.1 r1 hf.2]
        exact done0 hz q (.bl _)
      · split at hb
        · rename_i hf
          rw [Bool.and_eq_true] at hf
          cases hb
          exact (in_deep hu I hz rx ry rd (.inr h1) r1 hf.1 hf.2).2 (done0 hz q (.bl _))
        · cases hb
    | _ => cases rd <;> cases hb
end
end DN
namespace DN
open PySem PySem.Spec PyProof.Rows L2
open LamX (Tabs ExtN)

/-! ### statements -/
inductive SR where
  | nx (ρ : Rho) | rt (d : D) | bk (ρ : Rho) | ct (ρ : Rho) | ex (n : Str) (ρ : Rho) | bad
def bindS {α : Type} (r : Res α) (ρ : Rho) (k : α → SR) : SR := match r with
  | .ok a => k a
  | .ex n => .ex n ρ
  | .bad => .bad
/-- the frame's own objects are new since the entry -/
def Ow (H0 : Hp) (σ : L2.St) (ρ : Rho) : Prop := ∀ (i : Nat) (d : D) (p : Addr), ρ[i]? = some (En.o d) → σ[i]? = some (some (V.ref p)) → ∀ o, H0 p = some o → ∃ ps, o = .tbl ps
structure Sg (K : PySem.W.Frag) (T : List (Addr × Str)) (F0 H0 F H : Hp) (σ : L2.St) (ρ : Rho) : Prop where
  at_ : At K T F H σ ρ
  nx : Nx T F0 H0 F H
  ow : Ow H0 σ ρ
def aftS (K : PySem.W.Frag) (T : List (Addr × Str)) (W : WX) (F0 H0 F : Hp) (Z : Ends) : SR → Prop
  | .nx ρ => ∀ σ F' H', Sg K T F0 H0 F' H' σ ρ → Sub F F' → Z.nx σ H'
  | .bk ρ => ∀ σ F' H', Sg K T F0 H0 F' H' σ ρ → Sub F F' → Z.bk σ H'
  | .ct ρ => ∀ σ F' H', Sg K T F0 H0 F' H' σ ρ → Sub F F' → Z.ct σ H'
  | .rt d => ∀ v F' H', Nx T F0 H0 F' H' → Rp K F' v d → Z.rt v H'
  | .ex n ρ => ∀ σ F' H', Sg K T F0 H0 F' H' σ ρ → Sub F F' → W (.ref (He.ga K n)) none σ H'
  | .bad => False
def tS (K : PySem.W.Frag) (T : List (Addr × Str)) (W : WX) (F0 H0 : Hp) (s : Rho → SR) : TS := fun Z σ H => ∃ ρ F, Sg K T F0 H0 F H σ ρ ∧ aftS K T W F0 H0 F Z (s ρ)
abbrev DS (X : Cx) (T : List (Addr × Str)) (W : WX) (F0 H0 : Hp) (st : Stmt) (s : Rho → SR) : Prop := PS X st (tS X.K T W F0 H0 s)
abbrev DSs (X : Cx) (T : List (Addr × Str)) (W : WX) (F0 H0 : Hp) (st : List Stmt) (s : Rho → SR) : Prop := PSs X st (tS X.K T W F0 H0 s)
section
variable {K : PySem.W.Frag} {T : List (Addr × Str)} {W : WX} {F0 H0 F H F1 H1 : Hp} {σ : L2.St} {ρ : Rho} {Z : Ends}
theorem Sg.step (g : Sg K T F0 H0 F H σ ρ) (n : Nx T F H F1 H1) : Sg K T F0 H0 F1 H1 σ ρ := ⟨g.at_.nx n, g.nx.trans n, g.ow⟩
theorem aftS.mono {r : SR} (e : Sub F F1) (h : aftS K T W F0 H0 F Z r) : aftS K T W F0 H0 F1 Z r := by
  cases r with
  | nx ρ => exact fun σ F' H' g s => h σ F' H' g (e.trans s)
  | bk ρ => exact fun σ F' H' g s => h σ F' H' g (e.trans s)
  | ct ρ => exact fun σ F' H' g s => h σ F' H' g (e.trans s)
  | ex n ρ => exact fun σ F' H' g s => h σ F' H' g (e.trans s)
  | rt d => exact h
  | bad => exact h
theorem aftS.bind {α β : Type} {R : Hp → α → β → Prop} {r : Res β} {k : β → SR} (g : Sg K T F0 H0 F H σ ρ) (h : aftS K T W F0 H0 F Z (bindS r ρ k)) :
    aft R K T W σ F H (fun a H1 => ∃ b F1, r = .ok b ∧ Nx T F H F1 H1 ∧ Sg K T F0 H0 F1 H1 σ ρ ∧ R F1 a b ∧ aftS K T W F0 H0 F1 Z (k b)) r := by
  cases r with
  | ok b => exact fun a F2 H2 n ra => ⟨b, F2, rfl, n, g.step n, ra, aftS.mono n.f h⟩
  | ex m => exact fun F' H' n => h σ F' H' (g.step n) n.f
  | bad => exact h
theorem Ow.set {i : Nat} {v : V} {d : D} (o : Ow H0 σ ρ) : Ow H0 (σ.set i (some v)) (ρ.set i (.z d)) := fun j e p h1 h2 => by
  rw [List.getElem?_set] at h1 h2
  by_cases hij : i = j
  · rw [if_pos hij] at h1
    split at h1 <;> cases h1
  · rw [if_neg hij] at h1 h2
    exact o j e p h1 h2
end
def sskip : Rho → SR := fun ρ => .nx ρ
def sseq (s t : Rho → SR) : Rho → SR := fun ρ => match s ρ with
  | .nx ρ' => t ρ'
  | r => r
def sret (f : Rho → Res D) : Rho → SR := fun ρ => bindS (f ρ) ρ .rt
def sif (c : Rho → Res Bool) (s t : Rho → SR) : Rho → SR := fun ρ => bindS (c ρ) ρ fun b => if b = true then s ρ else t ρ
/-- targets -/
abbrev Tg := Rho → D → Option Rho
abbrev Tgs := Rho → List D → Option Rho
def gn (i : Nat) : Tg := fun ρ d => some (ρ.set i (.z d))
def gsn : Tgs := fun ρ ds => match ds with
  | [] => some ρ
  | _ => none
def gsc (g : Tg) (h : Tgs) : Tgs := fun ρ ds => match ds with
  | d :: r => (g ρ d).bind fun ρ' => h ρ' r
  | [] => none
def gt (n : Nat) (h : Tgs) : Tg := fun ρ d => match d with
  | .tup ds => if ds.length = n then h ρ ds else none
  | .lst ds => if ds.length = n then h ρ ds else none
  | _ => none
def sasg (f : Rho → Res D) (g : Tg) : Rho → SR := fun ρ => bindS (f ρ) ρ fun d => match g ρ d with
  | some ρ' => .nx ρ'
  | none => .bad
def tGd (K : PySem.W.Frag) (T : List (Addr × Str)) (g : Tg) : TG := fun v σ H Q => ∃ ρ F d ρ', At K T F H σ ρ ∧ Rp K F v d ∧ g ρ d = some ρ' ∧ ∀ σ', At K T F H σ' ρ' → (∀ H0, Ow H0 σ ρ → Ow H0 σ' ρ') → Q σ' H
def tGs (K : PySem.W.Frag) (T : List (Addr × Str)) (g : Tgs) : TGs := fun vs σ H Q => ∃ ρ F ds ρ', At K T F H σ ρ ∧ RpAll K F vs ds ∧ g ρ ds = some ρ' ∧ ∀ σ', At K T F H σ' ρ' → (∀ H0, Ow H0 σ ρ → Ow H0 σ' ρ') → Q σ' H
theorem _root_.L2.PG.to {X : Cx} {e : Expr} {t u : TG} (h : PG X e t) (k : ∀ v σ H Q, u v σ H Q → t v σ H Q) : PG X e u := ⟨fun pins s σ H v w Q I r q => h.run pins s σ H v w Q I r (k v σ H Q q)⟩
theorem _root_.L2.PG.or {X : Cx} {e : Expr} {t u : TG} (h : PG X e t) (h2 : PG X e u) : PG X e (fun v σ H Q => t v σ H Q ∨ u v σ H Q) := ⟨fun pins s σ H v w Q I r q => q.elim (h.run pins s σ H v w Q I r) (h2.run pins s σ H v w Q I r)⟩
theorem _root_.L2.PGs.to {X : Cx} {es : List Expr} {t u : TGs} (h : PGs X es t) (k : ∀ v σ H Q, u v σ H Q → t v σ H Q) : PGs X es u := ⟨fun pins s σ H v w Q I r q => h.run pins s σ H v w Q I r (k v σ H Q q)⟩
section
variable {X : Cx} {T : List (Addr × Str)} {W : WX} {F0 H0 : Hp}
abbrev DG (X : Cx) (T : List (Addr × Str)) (e : Expr) (g : Tg) : Prop := PG X e (tGd X.K T g)
abbrev DGs (X : Cx) (T : List (Addr × Str)) (es : List Expr) (g : Tgs) : Prop := PGs X es (tGs X.K T g)
theorem g_name {i : Nat} {e : Expr} (h : PG X e (gName i)) : DG X T e (gn i) := h.to fun v σ H Q ⟨ρ, F, d, ρ', a, r, hg, q⟩ => by
  cases hg
  exact q _ ⟨a.z, a.t, a.r.set r⟩ fun H0 o => o.set
theorem gs_nil : DGs X T [] gsn := pgs_nil.to fun v σ H Q ⟨ρ, F, d, ρ', a, r, hg, q⟩ => by
  cases d with
  | nil =>
    cases r
    cases hg
    exact ⟨rfl, q σ a fun _ o => o⟩
  | cons _ _ => cases hg
theorem gs_cons {e : Expr} {es : List Expr} {g : Tg} {h : Tgs} (h1 : DG X T e g) (h2 : DGs X T es h) (hs : (assignEach (e :: es) X.env).map (·.2) = assign e X.env :: (assignEach es X.env).map (·.2) := by rfl) : DGs X T (e :: es) (gsc g h) :=
  (pgs_cons h1 h2 hs).to fun v σ H Q ⟨ρ, F, d, ρ', a, r, hg, q⟩ => by
    cases d with
    | nil => cases hg
    | cons d ds =>
      cases r with
      | cons r1 r2 =>
        have hg : (g ρ d).bind (fun ρ' => h ρ' ds) = some ρ' := hg
        cases e1 : g ρ d with
        | none => rw [e1] at hg; cases hg
        | some ρ1 =>
          rw [e1] at hg
          have hg : h ρ1 ds = some ρ' := hg
          refine ⟨_, _, rfl, ρ, F, d, ρ1, a, r1, e1, fun σ1 a1 o1 => ?_⟩
          exact ⟨ρ1, F, ds, ρ', a1, r2, hg, fun σ2 a2 o2 => q σ2 a2 fun H0 o => o2 H0 (o1 H0 o)⟩
theorem g_tup {es : List Expr} {k : Nat} {pos : Pos} {h : Tgs} {n : Nat} (hc : X.calm = true) (h1 : DGs X T es h) (hn : (assignEach es X.env).length = n := by rfl) (hst : (assignEach es X.env).findIdx? (·.1) = none := by rfl) : DG X T (.Tuple es k pos) (gt n h) :=
  (PG.or (pg_tup hc h1 hn hst) (pg_unl hc h1 hn hst)).to fun v σ H Q ⟨ρ, F, d, ρ', a, r, hg, q⟩ => by
    cases r with
    | @tup ad xs ds h1 r1 =>
      have hg : (if ds.length = n then h ρ ds else none) = some ρ' := hg
      split at hg
      · rename_i hl
        exact .inl ⟨ad, xs, rfl, a.z.sub.st h1, by rw [r1.length]; exact hl, ρ, F, ds, ρ', a, r1, hg, q⟩
      · cases hg
    | @lst ad xs ds h1 r1 =>
      have hg : (if ds.length = n then h ρ ds else none) = some ρ' := hg
      split at hg
      · rename_i hl
        exact .inr ⟨ad, xs, rfl, SqL.of (a.z.sub _ _ h1), by rw [r1.length]; exact hl, ρ, F, ds, ρ', a, r1, hg, q⟩
      · cases hg
    | _ => cases hg
theorem s_nil : DSs X T W F0 H0 [] sskip := pss_nil.to fun Z σ H ⟨ρ, F, g, h⟩ => h σ F H g (Sub.refl F)
theorem s_one {st : Stmt} {s : Rho → SR} (h : DS X T W F0 H0 st s) : DSs X T W F0 H0 [st] s := pss_one h
theorem s_cons {st : Stmt} {rest : List Stmt} {s t : Rho → SR} (h : DS X T W F0 H0 st s) (h2 : DSs X T W F0 H0 rest t) : DSs X T W F0 H0 (st :: rest) (sseq s t) :=
  (pss_cons h h2).to fun Z σ H ⟨ρ, F, g, h⟩ => by
    refine ⟨ρ, F, g, ?_⟩
    unfold sseq at h
    cases e : s ρ with
    | nx ρ' =>
      rw [e] at h
      exact fun σ' F' H' g' sb => ⟨ρ', F', g', aftS.mono sb h⟩
    | bk ρ' => rw [e] at h; exact h
    | ct ρ' => rw [e] at h; exact h
    | rt d => rw [e] at h; exact h
    | ex n ρ' => rw [e] at h; exact h
    | bad => rw [e] at h; exact h
theorem s_ret {e : Expr} {pos : Pos} {f : Rho → Res D} (h : DE X T W e f) : DS X T W F0 H0 (.Return (some e) pos) (sret f) :=
  (ps_ret h).to fun Z σ H ⟨ρ, F, g, h⟩ => by
    refine ⟨ρ, F, g.at_, (aftS.bind (R := Rp X.K) g h).imp fun d _ v F1 H1 _ _ q => ?_⟩
    obtain ⟨b, F2, _, n, g2, rv, q⟩ := q
    exact q v F2 H1 g2.nx rv
theorem s_if {c : Expr} {a b : List Stmt} {pos : Pos} {f : Rho → Res Bool} {s t : Rho → SR} (hc : DQ X T W c f) (ha : DSs X T W F0 H0 a s) (hb : DSs X T W F0 H0 b t) : DS X T W F0 H0 (.If c a b pos) (sif f s t) :=
  (ps_if hc ha hb).to fun Z σ H ⟨ρ, F, g, h⟩ => by
    refine ⟨ρ, F, g.at_, (aftS.bind (R := RBool) g h).imp fun d _ v F1 H1 _ _ q => ?_⟩
    obtain ⟨b, F2, _, n, g2, rv, q⟩ := q
    obtain rfl : v = b := rv
    cases v with
    | true => exact ⟨ρ, F2, g2, q⟩
    | false => exact ⟨ρ, F2, g2, q⟩
theorem sasg_to {f : Rho → Res D} {g : Tg} {K : PySem.W.Frag} {Z : Ends} {σ : L2.St} {H : Hp} (h : tS K T W F0 H0 (sasg f g) Z σ H) : tAsg (tE K T W f) (tGd K T g) Z σ H := by
  obtain ⟨ρ, F, gg, h⟩ := h
  refine ⟨ρ, F, gg.at_, (aftS.bind (R := Rp K) gg h).imp fun d _ v F1 H1 _ _ q => ?_⟩
  obtain ⟨b, F2, _, n, g2, rv, q⟩ := q
  cases e : g ρ b with
  | none => rw [e] at q; exact q.elim
  | some ρ' =>
    rw [e] at q
    exact ⟨ρ, F2, b, ρ', g2.at_, rv, e, fun σ' a' o' => q σ' F2 H1 ⟨a', g2.nx, o' H0 g2.ow⟩ (Sub.refl F2)⟩
theorem s_asg {tg e : Expr} {pos : Pos} {f : Rho → Res D} {g : Tg} (he : DE X T W e f) (hg : DG X T tg g) (hs : swapsWithSole [tg] e pos.line X.env = pure false := by rfl) (hw : swappedStores [tg] e X.env = pure none := by rfl)
    (h1 : (assignEach [tg] X.env).map (·.2) = [assign tg X.env] := by rfl) : DS X T W F0 H0 (.Assign [tg] e pos) (sasg f g) :=
  (ps_asg he hg hs hw h1).to fun Z σ H h => sasg_to h
end

/-! ### while -/
def whileD (c : Rho → Res Bool) (s : Rho → SR) : Nat → Rho → SR
  | 0, _ => .bad
  | n + 1, ρ => bindS (c ρ) ρ fun b => if b = true then (match s ρ with
    | .nx ρ' => whileD c s n ρ'
    | .ct ρ' => whileD c s n ρ'
    | .bk ρ' => .nx ρ'
    | r => r) else .nx ρ
section
variable {X : Cx} {T : List (Addr × Str)} {W : WX} {F0 H0 : Hp}
theorem s_while {c : Expr} {body : List Stmt} {pos : Pos} {f : Rho → Res Bool} {s : Rho → SR} (N : Nat) (hp : PassesOwn (model X.prog X.w) X.A X.env X.xe) (hc : DQ X T W c f) (hb : DSs X T W F0 H0 body s) : DS X T W F0 H0 (.While c body [] pos) (whileD f s N) :=
  (ps_while hp hc hb).to fun Z σ H ⟨ρ, F, g, h⟩ => by
    refine ⟨fun m σ H => ∃ ρ F', Sg X.K T F0 H0 F' H σ ρ ∧ aftS X.K T W F0 H0 F' Z (whileD f s m ρ), ⟨N, ρ, F, g, h⟩, ?_⟩
    rintro m σ H ⟨ρ, F1, g, h⟩
    cases m with
    | zero => exact h.elim
    | succ m =>
      refine ⟨ρ, F1, g.at_, (aftS.bind (R := RBool) g h).imp fun d _ v F2 H2 _ _ q => ?_⟩
      obtain ⟨b, F3, _, n, g2, rv, q⟩ := q
      obtain rfl : v = b := rv
      cases v with
      | false => exact q σ F3 H2 g2 (Sub.refl F3)
      | true =>
        refine ⟨fun σ' H' => ∃ ρ' F', Sg X.K T F0 H0 F' H' σ' ρ' ∧ aftS X.K T W F0 H0 F' Z (whileD f s m ρ'), fun σ' H' w => ⟨m, Nat.lt_succ_self m, w⟩, ρ, F3, g2, ?_⟩
        have q : aftS X.K T W F0 H0 F3 Z (match s ρ with
          | .nx ρ' => whileD f s m ρ'
          | .ct ρ' => whileD f s m ρ'
          | .bk ρ' => .nx ρ'
          | r => r) := q
        cases e : s ρ with
        | nx ρ' => rw [e] at q; exact fun σ' F' H' g' sb => ⟨ρ', F', g', aftS.mono sb q⟩
        | ct ρ' => rw [e] at q; exact fun σ' F' H' g' sb => ⟨ρ', F', g', aftS.mono sb q⟩
        | bk ρ' => rw [e] at q; exact q
        | rt d => rw [e] at q; exact q
        | ex n ρ' => rw [e] at q; exact q
        | bad => rw [e] at q; exact q
end

/-! ### what is walked -/
/-- the walk J gives ds, while F is frozen -/
def Walks (K : PySem.W.Frag) (T : List (Addr × Str)) (F : Hp) (J : It) (ds : List D) : Prop :=
  ∀ (i : Nat) (F' H : Hp), Sub F F' → Fz F' H → (∀ d, ds[i]? = some d → J.go i H ∧ ∀ x H', J.yld i H x H' → ∃ F2, Nx T F' H F2 H' ∧ Rp K F2 x d) ∧ (ds.length ≤ i → J.stop i H)
def tI (K : PySem.W.Frag) (T : List (Addr × Str)) (W : WX) (f : Rho → Res (List D)) : TI := tG (fun K F J ds => Walks K T F J ds) K T W f
abbrev DI (X : Cx) (T : List (Addr × Str)) (W : WX) (tg iter : Expr) (f : Rho → Res (List D)) : Prop := PI X tg iter (tI X.K T W f)
theorem _root_.L2.PI.to {X : Cx} {tg e : Expr} {t u : TI} (h : PI X tg e t) (k : ∀ σ H R, u σ H R → t σ H R) : PI X tg e u := ⟨fun pins s σ H R I q => h.run pins s σ H R I (k σ H R q)⟩
theorem _root_.L2.PI.or {X : Cx} {tg e : Expr} {t u : TI} (h : PI X tg e t) (h2 : PI X tg e u) : PI X tg e (fun σ H R => t σ H R ∨ u σ H R) := ⟨fun pins s σ H R I q => q.elim (h.run pins s σ H R I) (h2.run pins s σ H R I)⟩
def loopD (g : Tg) (s : Rho → SR) : List D → Rho → SR
  | [], ρ => .nx ρ
  | d :: ds, ρ => match g ρ d with
    | none => .bad
    | some ρ1 => match s ρ1 with
      | .nx ρ' => loopD g s ds ρ'
      | .ct ρ' => loopD g s ds ρ'
      | .bk ρ' => .nx ρ'
      | r => r
def sfor (f : Rho → Res (List D)) (g : Tg) (s : Rho → SR) : Rho → SR := fun ρ => bindS (f ρ) ρ fun ds => loopD g s ds ρ
section
variable {X : Cx} {T : List (Addr × Str)} {W : WX} {F0 H0 : Hp}
theorem s_for {tg iter : Expr} {body : List Stmt} {pos : Pos} {f : Rho → Res (List D)} {g : Tg} {s : Rho → SR} (hp : PassesOwn (model X.prog X.w) X.A X.env X.xe) (hc : X.calm = true) (hi : DI X T W tg iter f) (hg : DG X T tg g) (hb : DSs X T W F0 H0 body s)
    (hs : ∀ x, foldedSetIterable iter X.env x = pure x := by intro _; rfl) : DS X T W F0 H0 (.For tg iter body [] pos) (sfor f g s) :=
  (ps_for hp hc hi hg hb hs).to fun Z σ H ⟨ρ, F, gg, h⟩ => by
    refine ⟨ρ, F, gg.at_, (aftS.bind (R := fun F J ds => Walks X.K T F J ds) gg h).imp fun d _ J F1 H1 _ _ q => ?_⟩
    obtain ⟨ds, F2, _, n, g2, wk, q⟩ := q
    refine ⟨fun i m σ H => m = ds.length - i ∧ i ≤ ds.length ∧ ∃ ρ F', Sg X.K T F0 H0 F' H σ ρ ∧ Sub F2 F' ∧ aftS X.K T W F0 H0 F' Z (loopD g s (ds.drop i) ρ), ⟨ds.length, by omega, by omega, ρ, F2, g2, Sub.refl F2, q⟩, ?_⟩
    rintro i m σ H ⟨rfl, hi, ρ, F3, g3, sb, q⟩
    obtain ⟨wg, ws⟩ := wk i F3 H sb g3.at_.z
    by_cases hlt : i < ds.length
    · have e : ds[i]? = some ds[i] := List.getElem?_eq_getElem hlt
      obtain ⟨go, yl⟩ := wg _ e
      refine .inr ⟨go, fun σ' H' => ∃ ρ' F', Sg X.K T F0 H0 F' H' σ' ρ' ∧ Sub F2 F' ∧ aftS X.K T W F0 H0 F' Z (loopD g s (ds.drop (i + 1)) ρ'), fun σ' H' w => ⟨ds.length - (i + 1), by omega, rfl, by omega, w⟩, fun x H' y => ?_⟩
      obtain ⟨F4, n4, rx⟩ := yl x H' y
      rw [List.drop_eq_getElem_cons hlt] at q
      have g4 := g3.step n4
      have q : aftS X.K T W F0 H0 F3 Z (match g ρ ds[i] with
        | none => .bad
        | some ρ1 => match s ρ1 with
          | .nx ρ' => loopD g s (ds.drop (i + 1)) ρ'
          | .ct ρ' => loopD g s (ds.drop (i + 1)) ρ'
          | .bk ρ' => .nx ρ'
          | r => r) := q
      cases eg : g ρ ds[i] with
      | none => rw [eg] at q; exact q.elim
      | some ρ1 =>
        rw [eg] at q
        have q : aftS X.K T W F0 H0 F3 Z (match s ρ1 with
          | .nx ρ' => loopD g s (ds.drop (i + 1)) ρ'
          | .ct ρ' => loopD g s (ds.drop (i + 1)) ρ'
          | .bk ρ' => .nx ρ'
          | r => r) := q
        refine ⟨ρ, F4, ds[i], ρ1, g4.at_, rx, eg, fun σ1 a1 o1 => ⟨ρ1, F4, ⟨a1, g4.nx, o1 H0 g4.ow⟩, ?_⟩⟩
        cases e2 : s ρ1 with
        | nx ρ' => rw [e2] at q; exact fun σ' F' H' g' sb' => ⟨ρ', F', g', (sb.trans n4.f).trans sb', aftS.mono (n4.f.trans sb') q⟩
        | ct ρ' => rw [e2] at q; exact fun σ' F' H' g' sb' => ⟨ρ', F', g', (sb.trans n4.f).trans sb', aftS.mono (n4.f.trans sb') q⟩
        | bk ρ' => rw [e2] at q; exact fun σ' F' H' g' sb' => q σ' F' H' g' (n4.f.trans sb')
        | rt d => rw [e2] at q; exact q
        | ex n ρ' => rw [e2] at q; exact fun σ' F' H' g' sb' => q σ' F' H' g' (n4.f.trans sb')
        | bad => rw [e2] at q; exact q
    · have e : i = ds.length := by omega
      subst e
      refine .inl ⟨ws (Nat.le_refl _), ?_⟩
      rw [List.drop_length] at q
      exact q σ F3 H g3 (Sub.refl F3)

/-! the walks -/
def itemsD : D → Res (List D)
  | .tup xs => .ok xs
  | .lst xs => .ok xs
  | .arr ns => .ok (ns.map .int)
  | .str x => .ok (x.cps.toList.map fun c => .str ⟨#[c]⟩)
  | _ => .bad
def its (f : Rho → Res D) : Rho → Res (List D) := fun ρ => (f ρ).bind itemsD
theorem walks_list {K : PySem.W.Frag} {F : Hp} {a : Addr} {xs : List V} {ds : List D} (h : SqL K F a xs) (r : RpAll K F xs ds) : Walks K T F (Itl K a) ds := fun i F' H sb z => by
  have hl : SqL K H a xs := (sb.trans z.sub).sl h
  refine ⟨fun d hd => ?_, fun hle => ⟨xs, hl, by rw [r.length]; exact hle⟩⟩
  obtain ⟨v, hv, rv⟩ := r.get hd
  refine ⟨⟨xs, v, hl, hv⟩, fun x H' y => ?_⟩
  obtain ⟨rfl, y⟩ := y
  have e := y xs hl
  rw [hv] at e
  cases e
  exact ⟨F', Nx.refl z, rv.mono sb⟩
theorem walks_tup {K : PySem.W.Frag} {F : Hp} {a : Addr} {xs : List V} {ds : List D} (h : SqT K F a xs) (r : RpAll K F xs ds) : Walks K T F (Itt K a) ds := fun i F' H sb z => by
  have hl : SqT K H a xs := (sb.trans z.sub).st h
  refine ⟨fun d hd => ?_, fun hle => ⟨xs, hl, by rw [r.length]; exact hle⟩⟩
  obtain ⟨v, hv, rv⟩ := r.get hd
  refine ⟨⟨xs, v, hl, hv⟩, fun x H' y => ?_⟩
  obtain ⟨rfl, y⟩ := y
  have e := y xs hl
  rw [hv] at e
  cases e
  exact ⟨F', Nx.refl z, rv.mono sb⟩
end
end DN
namespace DN
open PySem PySem.Spec PyProof.Rows L2
open LamX (Tabs ExtN)

/-! ### the walks of for and of comprehensions -/
section
variable {X : Cx} {T : List (Addr × Str)} {W : WX} {F0 H0 : Hp}
theorem walks_str {K : PySem.W.Frag} {F : Hp} {x : Str} : Walks K T F (Its x) (x.cps.toList.map fun c => D.str ⟨#[c]⟩) := fun i F' H sb z => by
  refine ⟨fun d hd => ?_, fun hle => ?_⟩
  · rw [List.getElem?_map] at hd
    cases e : x.cps.toList[i]? with
    | none => rw [e] at hd; cases hd
    | some c =>
      rw [e] at hd
      cases hd
      have hi : i < x.cps.size := by
        have := (List.getElem?_eq_some_iff.mp e).1
        simpa using this
      refine ⟨hi, fun v H' y => ?_⟩
      obtain ⟨rfl, c', hc', rfl⟩ := y
      have e2 : x.cps[i]? = some c := by simpa using e
      rw [e2] at hc'
      cases hc'
      exact ⟨F', Nx.refl z, .str _⟩
  · show x.cps.size ≤ i
    simpa using hle
theorem i_any {tg l : Expr} {f : Rho → Res D} (h : DE X T W l f) : DI X T W tg l (its f) :=
  ((pi_list h).or ((pi_tup h).or (pi_str h))).to fun σ H R ⟨ρ, F, a, h⟩ => by
    have h : aft (fun F J ds => Walks X.K T F J ds) X.K T W σ F H R ((f ρ).bind itemsD) := h
    cases e : f ρ with
    | bad => rw [e] at h; exact h.elim
    | ex n =>
      rw [e] at h
      exact .inl ⟨ρ, F, a, by rw [e]; exact h⟩
    | ok d =>
      rw [e] at h
      have h : aft (fun F J ds => Walks X.K T F J ds) X.K T W σ F H R (itemsD d) := h
      cases d with
      | lst ds =>
        refine .inl ⟨ρ, F, a, ?_⟩
        rw [e]
        intro v F' H' n r
        cases r with
        | lst h1 r1 => exact ⟨_, rfl, ⟨_, SqL.of (n.z.sub _ _ h1)⟩, h _ F' H' n (walks_list (SqL.of h1) r1)⟩
      | arr ns =>
        refine .inl ⟨ρ, F, a, ?_⟩
        rw [e]
        intro v F' H' n r
        cases r with
        | arr h1 => exact ⟨_, rfl, ⟨_, n.z.sub.sl h1⟩, h _ F' H' n (walks_list h1 (RpAll.ints ns))⟩
      | tup ds =>
        refine .inr (.inl ⟨ρ, F, a, ?_⟩)
        rw [e]
        intro v F' H' n r
        cases r with
        | tup h1 r1 => exact ⟨_, rfl, ⟨_, n.z.sub.st h1⟩, h _ F' H' n (walks_tup h1 r1)⟩
      | str x =>
        refine .inr (.inr ⟨ρ, F, a, ?_⟩)
        rw [e]
        intro v F' H' n r
        cases r
        exact ⟨x, rfl, h _ F' H' n walks_str⟩
      | _ => exact h.elim
def rngD (lo : Int) (n : Nat) : List D := (List.range n).map fun (i : Nat) => D.int (lo + (i : Int))
theorem walks_rng {K : PySem.W.Frag} {F : Hp} {lo : Int} {n : Nat} : Walks K T F (Itr lo n) (rngD lo n) := fun i F' H sb z => by
  refine ⟨fun d hd => ?_, fun hle => ?_⟩
  · unfold rngD at hd
    rw [List.getElem?_map] at hd
    cases e : (List.range n)[i]? with
    | none => rw [e] at hd; cases hd
    | some j =>
      rw [e] at hd
      cases hd
      obtain ⟨h1, h2⟩ := List.getElem?_eq_some_iff.mp e
      rw [List.getElem_range] at h2
      rw [List.length_range] at h1
      subst h2
      refine ⟨h1, fun v H' y => ?_⟩
      obtain ⟨rfl, rfl⟩ := y
      exact ⟨F', Nx.refl z, .int _⟩
  · unfold rngD at hle
    rw [List.length_map, List.length_range] at hle
    exact hle
def rng1 (f : Rho → Res (List D)) : Rho → Res (List D) := fun ρ => (f ρ).bind fun ds => match ds with
  | [.int j] => if -(2 ^ 62) ≤ j ∧ j < 2 ^ 62 then .ok (rngD 0 j.toNat) else .bad
  | _ => .bad
theorem i_rng1 {tg a : Expr} {p pos : Pos} {f : Rho → Res (List D)} (hg : Gl X "range") (hm : X.mg "range" = none) (ha : DA X T W [a] f) (hs : starEach [a] X.env = [(false, eval a X.env)] := by rfl) : DI X T W tg (.Call (.Name "range" p) [a] [] pos) (rng1 f) :=
  (pi_range1 hg hm ha hs).to fun σ H R ⟨ρ, F, a, h⟩ => by
    refine ⟨ρ, F, a, (aft.bind (R := RpAll X.K) h).imp fun d _ v F1 H1 _ _ q => ?_⟩
    obtain ⟨ds, F2, _, n, rv, q⟩ := q
    match ds, rv, q with
    | [.int j], .cons (.int _) .nil, q =>
      have q : aft (fun F J ds => Walks X.K T F J ds) X.K T W σ F2 H1 R (if -(2 ^ 62) ≤ j ∧ j < 2 ^ 62 then .ok (rngD 0 j.toNat) else .bad) := q
      split at q
      · rename_i hj
        exact ⟨j, rfl, hj.1, hj.2, q _ F2 H1 (Nx.refl n.z) walks_rng⟩
      · exact q.elim
end

/-! ### comprehensions -/
def wipeR (ρ : Rho) : List Nat → Rho
  | [] => ρ
  | v :: vs => (wipeR ρ vs).set v .u
def compD (g : Tg) (t : Rho → Res Bool) (e : Rho → Res D) (ρ : Rho) : List D → Res (List D)
  | [] => .ok []
  | d :: ds => match g ρ d with
    | none => .bad
    | some ρ1 => match t ρ1 with
      | .ok b => if b = true then (match e ρ1 with
        | .ok y => (compD g t e ρ ds).bind fun ys => .ok (y :: ys)
        | _ => .bad) else compD g t e ρ ds
      | _ => .bad
def lcD (f : Rho → Res (List D)) (i : Nat) (t : Rho → Res Bool) (e : Rho → Res D) : Rho → Res D := fun ρ => (f ρ).bind fun ds => if ds.length < sizeLine then (compD (gn i) t e (ρ.set i .u) ds).bind fun ys => .ok (.lst ys) else .bad
def yes : Rho → Res Bool := fun _ => .ok true
theorem tabs_upd {T : List (Addr × Str)} {H : Hp} {p : Addr} {xs : List V} {o : HO} (h : Tabs T H) (e : H p = some (.lst xs)) : Tabs T (upd H p o) := fun q hq => by
  obtain ⟨ps, h1, h2, h3⟩ := h q hq
  refine ⟨ps, ?_, h2, fun pos cv hc => ?_⟩
  · rw [upd_ne fun z => by rw [z, e] at h1; cases h1]; exact h1
  · obtain ⟨c, e1, e2⟩ := h3 pos cv hc
    refine ⟨c, e1, ?_⟩
    rw [upd_ne fun z => by rw [z, e] at e2; unfold LamX.CodeO at e2; cases e2]; exact e2
section
variable {X : Cx} {T : List (Addr × Str)} {W : WX} {F0 H0 : Hp}
abbrev W0 : WX := fun _ _ _ _ => False
theorem no_ex {α β : Type} {R : Hp → α → β → Prop} {K : PySem.W.Frag} {σ : L2.St} {F H : Hp} {Q : α → Hp → Prop} {r : Res β} (z : Fz F H) {b : β} (e : r = .ok b) (h : ∀ a F' H', Nx T F H F' H' → R F' a b → Q a H') : aft R K T W0 σ F H Q r := by
  rw [e]; exact h
theorem lc_to {K : PySem.W.Frag} {f : Rho → Res (List D)} {i : Nat} {t : Rho → Res Bool} {e : Rho → Res D} {σ : L2.St} {H : Hp} {Q : VK} (h : tE K T W (lcD f i t e) σ H Q) :
    tLc (tI K T W f) (gName i) (tT K T W0 t) (tE K T W0 e) [i] σ H Q := by
  obtain ⟨ρ, F, a, h⟩ := h
  refine ⟨ρ, F, a, (aft.bind (R := fun F J ds => Walks K T F J ds) h).imp fun d _ J F1 H1 _ _ q => ?_⟩
  obtain ⟨ds, F2, _, n, wk, q⟩ := q
  have q : aft (Rp K) K T W σ F2 H1 Q (if ds.length < sizeLine then (compD (gn i) t e (ρ.set i .u) ds).bind fun ys => .ok (.lst ys) else .bad) := q
  split at q
  · rename_i hlen
    cases hc : compD (gn i) t e (ρ.set i .u) ds with
    | bad => rw [hc] at q; exact q.elim
    | ex m =>
      exfalso
      have : ∀ ds : List D, compD (gn i) t e (ρ.set i .u) ds ≠ .ex m := fun ds => by
        induction ds with
        | nil => intro z; cases z
        | cons d ds ih =>
          intro z
          unfold compD at z
          simp only [gn] at z
          split at z
          · split at z
            · split at z
              · cases e2 : compD (gn i) t e (ρ.set i .u) ds with
                | ok ys => rw [e2] at z; cases z
                | ex m' =>
                  rw [e2] at z
                  cases z
                  exact ih e2
                | bad => rw [e2] at z; cases z
              · cases z
            · exact ih z
          · cases z
      exact this ds hc
    | ok ys =>
      rw [hc] at q
      have a2 := a.nx n
      intro p hp
      -- behind k turns
      refine ⟨fun k m H => m = ds.length - k ∧ k ≤ ds.length ∧ ∃ F' acc dacc rest, Nx T F2 H1 F' H ∧ F' p = none ∧ H p = some (.lst acc) ∧ RpAll K F' acc dacc ∧ acc.length ≤ k ∧ compD (gn i) t e (ρ.set i .u) (ds.drop k) = .ok rest ∧ dacc ++ rest = ys,
        ⟨ds.length, by omega, by omega, F2, [], [], ys, Nx.lay n.z hp, ?_, upd_same, .nil, by simp, hc, rfl⟩, ?_⟩
      · cases z : F2 p with
        | none => rfl
        | some o =>
          have := n.z.sub _ _ z
          rw [hp] at this; cases this
      rintro k m H ⟨rfl, hk, F', acc, dacc, rest, nx, hFp, hHp, ra, la, hr, hy⟩
      obtain ⟨wg, ws⟩ := wk k F' H nx.f nx.z
      by_cases hlt : k < ds.length
      · obtain ⟨go, yl⟩ := wg _ (List.getElem?_eq_getElem hlt)
        rw [List.drop_eq_getElem_cons hlt] at hr
        unfold compD at hr
        simp only [gn] at hr
        refine .inr ⟨go, fun H => ∃ F' acc dacc rest, Nx T F2 H1 F' H ∧ F' p = none ∧ H p = some (.lst acc) ∧ RpAll K F' acc dacc ∧ acc.length ≤ k + 1 ∧ compD (gn i) t e (ρ.set i .u) (ds.drop (k + 1)) = .ok rest ∧ dacc ++ rest = ys, fun H' w => ⟨ds.length - (k + 1), by omega, rfl, by omega, w⟩, fun x H' y => ?_⟩
        obtain ⟨F3, n3, rx⟩ := yl x H' y
        have hp3 : H' p = some (.lst acc) := n3.keep hHp ntL
        have hf3 : F3 p = none := n3.out hHp ntL hFp
        have a3 : At K T F3 H' (σ.set i none) (ρ.set i .u) := ⟨n3.z, (nx.trans n3).tab a2.t, (a2.r.mono (nx.trans n3)).wipe1⟩
        have a4 : At K T F3 H' ((σ.set i none).set i (some x)) ((ρ.set i .u).set i (.z ds[k])) := ⟨a3.z, a3.t, a3.r.set rx⟩
        show wipe ((σ.set i none).set i (some x)) [i] = wipe σ [i] ∧ _
        refine ⟨?_, ?_⟩
        · show ((σ.set i none).set i (some x)).set i none = σ.set i none
          rw [List.set_set, List.set_set]
        · cases ht : t ((ρ.set i .u).set i (.z ds[k])) with
          | bad => rw [ht] at hr; cases hr
          | ex m => rw [ht] at hr; cases hr
          | ok b =>
            rw [ht] at hr
            refine ⟨_, F3, a4, no_ex a4.z ht fun b' F4 H4 n4 rb => ?_⟩
            obtain rfl : b' = b := rb
            cases b' with
            | false =>
              show ∃ F' acc dacc rest, _
              have hr : compD (gn i) t e (ρ.set i .u) (ds.drop (k + 1)) = .ok rest := hr
              exact ⟨F4, acc, dacc, rest, (nx.trans n3).trans n4, n4.out hp3 ntL hf3, n4.keep hp3 ntL, ra.mono (n3.trans n4).f, by omega, hr, hy⟩
            | true =>
              have hr : (match e ((ρ.set i .u).set i (.z ds[k])) with
                | .ok y => (compD (gn i) t e (ρ.set i .u) (ds.drop (k + 1))).bind fun ys => .ok (y :: ys)
                | _ => .bad) = .ok rest := hr
              cases he : e ((ρ.set i .u).set i (.z ds[k])) with
              | bad => rw [he] at hr; cases hr
              | ex m => rw [he] at hr; cases hr
              | ok y =>
                rw [he] at hr
                have hr : (compD (gn i) t e (ρ.set i .u) (ds.drop (k + 1))).bind (fun ys => .ok (y :: ys)) = .ok rest := hr
                cases hr2 : compD (gn i) t e (ρ.set i .u) (ds.drop (k + 1)) with
                | bad => rw [hr2] at hr; cases hr
                | ex m => rw [hr2] at hr; cases hr
                | ok rest' =>
                  rw [hr2] at hr
                  cases hr
                  show tE K T W0 e _ H4 _
                  refine ⟨_, F4, a4.nx n4, no_ex n4.z he fun v F5 H5 n5 rv => ?_⟩
                  have hp5 : H5 p = some (.lst acc) := (n4.trans n5).keep hp3 ntL
                  have hf5 : F5 p = none := (n4.trans n5).out hp3 ntL hf3
                  have n6 := (nx.trans n3).trans (n4.trans n5)
                  refine ⟨acc, hp5, by omega, F5, acc ++ [v], dacc ++ [y], rest', ⟨n6.f, ⟨fun b o eb => ?_, n6.z.nt⟩, fun b o eb no => ?_, n6.new, fun tb => tabs_upd (n6.tab tb) hp5⟩, hf5, upd_same, ?_, by rw [List.length_append]; simp; omega, rfl, by rw [List.append_assoc]; exact hy⟩
                  · rw [upd_ne fun z => by rw [z, hf5] at eb; cases eb]
                    exact n6.z.sub _ _ eb
                  · rw [upd_ne fun z => by rw [z, hp] at eb; cases eb]
                    exact n6.h _ _ eb no
                  · exact (ra.mono ((n3.trans n4).trans n5).f).append (.cons rv .nil)
      · have ek : k = ds.length := by omega
        subst ek
        refine .inl ⟨ws (Nat.le_refl _), ?_⟩
        rw [List.drop_length] at hr
        cases hr
        rw [List.append_nil] at hy
        subst hy
        refine q (.ref p) (upd F' p (.lst acc)) H ⟨fun b o eb => ?_, ⟨fun b o eb => ?_, fun b ps eb => ?_⟩, nx.h, fun b o eb => ?_, nx.tab⟩ (.lst upd_same (ra.mono fun b o eb => ?_))
        · rw [upd_ne fun z => by rw [z] at eb; rw [nx.f _ _ eb] at hFp; cases hFp]
          exact nx.f _ _ eb
        · by_cases hb : b = p
          · subst hb; rw [upd_same] at eb; rw [← eb]; exact hHp
          · rw [upd_ne hb] at eb; exact nx.z.sub _ _ eb
        · by_cases hb : b = p
          · subst hb; rw [upd_same] at eb; cases eb
          · rw [upd_ne hb] at eb; exact nx.z.nt _ _ eb
        · by_cases hb : b = p
          · subst hb
            exact .inr fun o' e' => by rw [hp] at e'; cases e'
          · rw [upd_ne hb] at eb; exact nx.new _ _ eb
        · rw [upd_ne fun z => by rw [z, hFp] at eb; cases eb]; exact eb
  · exact q.elim
theorem ts_nil : PTs X [] (tT X.K T W yes) := ⟨fun pins s σ H Q I ⟨ρ, F, a, h⟩ => pts_nil.run pins s σ H Q I (h true F H (Nx.refl a.z) rfl)⟩
theorem ts_one {c : Expr} {f : Rho → Res Bool} (h : DQ X T W c f) : PTs X [c] (tT X.K T W f) := pts_one h
theorem e_lc {elt tg iter : Expr} {ifs : List Expr} {scope : Scope} {x : Str} {i : Nat} {pos : Pos} {f : Rho → Res (List D)} {t : Rho → Res Bool} {e : Rho → Res D} (hc : X.calm = true) (hN : X.N.Nodup) (hi : DI X T W tg iter f) (ok : BlkOk X.N X.env.scope scope [(x, i)])
    (hg : ∀ (s : Shared) (H : Hp) (C : Addr) (cl : List (Str × Addr)) (fp : List Addr), PG (X.blk s H scope (compEnvC scope cl C X.env) fp) tg (gName i))
    (ht : ∀ (s : Shared) (H : Hp) (C : Addr) (cl : List (Str × Addr)) (fp : List Addr), PTs (X.blk s H scope (compEnvC scope cl C X.env) fp) ifs (tT X.K T W0 t))
    (he : ∀ (s : Shared) (H : Hp) (C : Addr) (cl : List (Str × Addr)) (fp : List Addr), DE (X.blk s H scope (compEnvC scope cl C X.env) fp) T W0 elt e) (hs : ∀ x, foldedSetIterable iter X.env x = pure x := by intro _; rfl) :
    DE X T W (.ListComp elt [⟨tg, iter, ifs, 0⟩] scope pos) (lcD f i t e) :=
  (pe_lc (own := [(x, i)]) hc hN hi ok hg ht he hs).to fun _ _ _ h => lc_to h
end

/-! ### defs -/
def startR (n : Nat) (ds : List D) : Rho := ds.map En.z ++ List.replicate (n - ds.length) .u
def runB (n : Nat) (s : Rho → SR) (ds : List D) : Res D := match s (startR n ds) with
  | .nx _ => .ok .non
  | .rt d => .ok d
  | .ex m _ => .ex m
  | _ => .bad
abbrev WofE (E : XK) : WX := fun cls d _ H => E cls d H
def spD (K : PySem.W.Frag) (T : List (Addr × Str)) (n : Nat) (den : List D → Res D) : Sp := fun vs H Q E => ∃ F ds, Fz F H ∧ Tabs T H ∧ RpAll K F vs ds ∧ ds.length = n ∧ aft (Rp K) K T (WofE E) [] F H Q (den ds)
def callD (n : Nat) (den : List D → Res D) (f : Rho → Res (List D)) : Rho → Res D := fun ρ => (f ρ).bind fun ds => if ds.length = n then den ds else .bad
theorem Rl.start {K : PySem.W.Frag} {F H : Hp} {vs : List V} {ds : List D} {N : List Str} (r : RpAll K F vs ds) : Rl K F H (L2.start N vs) (startR N.length ds) := by
  have hl := r.length
  have key : ∀ (i : Nat) (en : En), (startR N.length ds)[i]? = some en → (∃ d, ds[i]? = some d ∧ en = .z d) ∨ en = .u := fun i en h => by
    unfold startR at h
    rw [List.getElem?_append] at h
    split at h
    · rw [List.getElem?_map] at h
      cases e : ds[i]? with
      | none => rw [e] at h; cases h
      | some d => rw [e] at h; cases h; exact .inl ⟨d, rfl, rfl⟩
    · rw [List.getElem?_replicate] at h
      split at h
      · cases h; exact .inr rfl
      · cases h
  refine ⟨?_, fun i d h => ?_, fun i d h => ?_, fun i j d e p q _ h => ?_⟩
  · unfold L2.start startR
    simp [hl]
  · rcases key i _ h with ⟨d', e, z⟩ | z
    · cases z
      obtain ⟨v, hv, rv⟩ := r.get e
      refine ⟨v, ?_, rv⟩
      unfold L2.start
      rw [List.getElem?_append_left (by rw [List.length_map]; exact (List.getElem?_eq_some_iff.mp hv).1), List.getElem?_map, hv]
      rfl
    · cases z
  · rcases key i _ h with ⟨d', e, z⟩ | z <;> cases z
  · rcases key i _ h with ⟨d', e, z⟩ | z <;> cases z
structure OkD (P : Program) (w : World) (K : PySem.W.Frag) (mg : Str → Option Value) (base : Heap) (T : List (Addr × Str)) (k : Nat) (x : Str) (n : Nat) (den : List D → Res D) : Prop where
  ex : ∃ fd ps, FnOk P w K mg base (L2.CX P w) k (He.ga K x) fd ps (spD K T n den) ∧ Binds K fd ps []
  kp : PySem.W.keepIn K (.ref (He.ga K x)) = true
  mg : mg x = some (.ref (He.ga K x))
theorem fn_ok {P : Program} {w : World} {K : PySem.W.Frag} {mg : Str → Option Value} {base : Heap} {T : List (Addr × Str)} {k : Nat} {x qual : Str} {params : Arguments} {body : List Stmt} {scope : Scope} {kws : List (Str × V)} {f : Addr} {fd : FuncData} {N ps : List Str} {n : Nat} {s : Rho → SR}
    (Fd : FunD K x qual params body scope [] kws f fd) (S : FnScope N ps scope) (hn : ps.length = n)
    (hb : ∀ (cdv : Value) (A : Around) (outer : List Env) (s0 : Shared) (H0 : Hp) (E : XK) (F0 : Hp), Room k (A.deeper (envOfC qual scope s0.heap.objs.size f cdv)) → DSs (cxOf (L2.CX P w) P w K mg base N qual scope f cdv A outer s0 H0 E) T (WofE E) F0 H0 body s) :
    FnOk P w K mg base (L2.CX P w) (k + 1) f fd ps (spD K T n (runB N.length s)) := by
  refine Fd.ok S (fun vs H Q E h => ?_) fun cdv A outer s0 H vs Q E hr h => ?_
  · obtain ⟨F, ds, _, _, r, hl, _⟩ := h
    rw [r.length, hl, hn]
  · obtain ⟨F, ds, z, tb, r, hl, h⟩ := h
    refine ⟨_, hb cdv A outer s0 H E F hr, startR N.length ds, F, ⟨⟨z, tb, Rl.start r⟩, Nx.refl z, fun i d p h1 => ?_⟩, ?_⟩
    · exfalso
      have o := (Rl.start (K := K) (F := F) (H := H) (N := N) r)
      unfold startR at h1
      rw [List.getElem?_append] at h1
      split at h1
      · rw [List.getElem?_map] at h1
        cases e : ds[i]? with
        | none => rw [e] at h1; cases h1
        | some d => rw [e] at h1; cases h1
      · rw [List.getElem?_replicate] at h1
        split at h1 <;> cases h1
    · unfold runB at h
      cases e : s (startR N.length ds) with
      | nx ρ => rw [e] at h; exact fun σ F' H' g _ => h .non F' H' g.nx .non
      | rt d => rw [e] at h; exact fun v F' H' nx rv => h v F' H' nx rv
      | ex m ρ => rw [e] at h; exact fun σ F' H' g _ => h F' H' g.nx
      | bk ρ => rw [e] at h; exact h.elim
      | ct ρ => rw [e] at h; exact h.elim
      | bad => rw [e] at h; exact h.elim
section
variable {X : Cx} {T : List (Addr × Str)} {W : WX} {F0 H0 : Hp}
theorem call_to {K : PySem.W.Frag} {n : Nat} {den : List D → Res D} {f : Rho → Res (List D)} {σ : L2.St} {H : Hp} {Q : VK} (h : tE K T W (callD n den f) σ H Q) : tCallS (spD K T n den) (WE W) (tA K T W f) σ H Q := by
  obtain ⟨ρ, F, a, h⟩ := h
  refine ⟨ρ, F, a, (aft.bind (R := RpAll K) h).imp fun d _ v F1 H1 _ _ q => ?_⟩
  obtain ⟨b, F2, _, nx, rv, q⟩ := q
  have q : aft (Rp K) K T W σ F2 H1 Q (if b.length = n then den b else .bad) := q
  split at q
  · rename_i hl
    refine ⟨F2, b, nx.z, nx.tab a.t, rv, hl, ?_⟩
    cases e : den b with
    | ok d => rw [e] at q; exact q
    | ex m => rw [e] at q; exact q
    | bad => rw [e] at q; exact q.elim
  · exact q.elim
theorem e_call {j k n : Nat} {x : Str} {den : List D → Res D} {e : Expr} {es : List Expr} {p pos : Pos} {f : Rho → Res (List D)} (O : OkD X.prog X.w X.K X.mg X.base T j x n den) (hr : Room k X.A) (tk : Takes X W) (hg : Gl X x) (ha : DA X T W (e :: es) f) (hj : j ≤ k := by decide)
    (hdb : (x == ("__debug__" : Str)) = false := by decide) (he : starEach (e :: es) X.env = (false, eval e X.env) :: starEach es X.env := by rfl) (hpl : (backTo pos (starEach es X.env)).any (·.1) = false := by rfl) :
    DE X T W (.Call (.Name x p) (e :: es) [] pos) (callD n den f) := by
  obtain ⟨fd, ps, G, b⟩ := O.ex
  exact (pe_callS (E := WE W) G (hr.mono hj) hg O.mg O.kp b (fun σ => passAt tk σ) ha hdb he hpl).to fun _ _ _ h => call_to h
/-- what is known of an own error class -/
structure ExcN (K : PySem.W.Frag) (mg : Str → Option Value) (x : Str) : Prop where
  e : PySem.W.excIn K (He.ga K x) He.veBase "ValueError.__new__" = true
  k : PySem.W.keepIn K (.ref (He.ga K x)) = true
  b : PySem.W.subIn K (.ref (He.ga K x)) (.type "BaseException") = some true
  t : PySem.W.typeIn K (.ref (He.ga K x)) = some (.type "type")
  g : mg x = some (.ref (He.ga K x))
def sraise (x : Str) : Rho → SR := fun ρ => .ex x ρ
theorem s_raise {x m : Str} {j : Nat} {p p2 pos pos2 : Pos} (N : ExcN X.K X.mg x) (hc : X.calm = true) (tk : Takes X W) (hg : Gl X x) (hdb : (x == ("__debug__" : Str)) = false := by decide) : DS X T W F0 H0 (.Raise (some (.Call (.Name x p) [.Constant (.str m) j p2] [] pos)) none pos2) (sraise x) :=
  (ps_raise hc tk (pmk_own PySem.F.excBase_ValueError N.e N.g N.k (raises_own N.b N.t) hg hdb)).to fun Z σ H ⟨ρ, F, g, h⟩ => h σ F H g (Sub.refl F)
end
end DN
namespace DN
open PySem PySem.Spec PyProof.Rows L2
open LamX (Tabs ExtN)

/-! ### the module's names -/
section
variable {X : Cx} {T : List (Addr × Str)} {W : WX}
theorem e_gint {x : Str} {i : Int} {pos : Pos} (h : ∃ t, X.mg x = some (.int i t)) (hg : Gl X x) (hd : (x == ("__debug__" : Str)) = false := by decide) : DE X T W (.Name x pos) (con (.int i)) := by
  obtain ⟨t, h⟩ := h
  exact e_c (pe_glob (v := .int i) hg h ⟨t, rfl⟩ hd) fun _ => .int i
theorem e_gstr {x z : Str} {pos : Pos} (h : ∃ t, X.mg x = some (.str z t)) (hg : Gl X x) (hd : (x == ("__debug__" : Str)) = false := by decide) : DE X T W (.Name x pos) (con (.str z)) := by
  obtain ⟨t, h⟩ := h
  exact e_c (pe_glob (v := .str z) hg h ⟨t, rfl⟩ hd) fun _ => .str z
theorem RpAll.strs {K : PySem.W.Frag} {F : Hp} : ∀ (ns : List Str), RpAll K F (ns.map V.str) (ns.map D.str)
  | [] => .nil
  | n :: ns => .cons (.str n) (RpAll.strs ns)
theorem e_gtup {x : Str} {zs : List Str} {pos : Pos} (h : X.mg x = some (.ref (He.ga X.K x))) (ht : ∀ H, SqT X.K H (He.ga X.K x) (zs.map V.str)) (hg : Gl X x) (hd : (x == ("__debug__" : Str)) = false := by decide) : DE X T W (.Name x pos) (con (.tup (zs.map D.str))) :=
  e_c (pe_glob (v := .ref (He.ga X.K x)) hg h rfl hd) fun F => .tup (ht F) (RpAll.strs zs)
theorem e_ty {x : Str} {n : String} {pos : Pos} (hm : X.mg x = none) (hv : bootBuiltins x = some (.type n)) (hg : Gl X x) (hn : x ≠ "__name__" := by decide) (hd : (x == ("__debug__" : Str)) = false := by decide) : DE X T W (.Name x pos) (con (.ty n)) :=
  e_c (pe_bltn (v := .ty n) hg hm hv rfl hn hd) fun F => .ty n
end
theorem bt_len : bootBuiltins "len" = some (.builtin "len") := by decide +kernel
theorem bt_abs : bootBuiltins "abs" = some (.builtin "abs") := by decide +kernel
theorem bt_max : bootBuiltins "max" = some (.builtin "max") := by decide +kernel
theorem bt_min : bootBuiltins "min" = some (.builtin "min") := by decide +kernel
theorem bt_isinstance : bootBuiltins "isinstance" = some (.builtin "isinstance") := by decide +kernel
theorem bt_int : bootBuiltins "int" = some (.type "int") := by decide +kernel
theorem bt_str : bootBuiltins "str" = some (.type "str") := by decide +kernel
theorem bt_tuple : bootBuiltins "tuple" = some (.type "tuple") := by decide +kernel
theorem bt_list : bootBuiltins "list" = some (.type "list") := by decide +kernel

/-! ### the end -/
theorem start_arr {K : PySem.W.Frag} {H : Hp} {a : Addr} {ns : List Int} (h : SqL K H a (ns.map V.int)) : ∃ F, Fz F H ∧ Rp K F (.ref a) (.arr ns) := by
  rcases h with (h | ⟨o, h⟩) | h
  · refine ⟨fun b => if b = a then some (.lst (ns.map V.int)) else none, ⟨fun b o e => ?_, fun b ps e => ?_⟩, .arr (.inl (.inl (if_pos rfl)))⟩
    · by_cases hb : b = a
      · rw [if_pos hb] at e; rw [hb, h]; exact e
      · rw [if_neg hb] at e; cases e
    · by_cases hb : b = a
      · rw [if_pos hb] at e; cases e
      · rw [if_neg hb] at e; cases e
  · refine ⟨fun b => if b = a then some (.frz o (.lst (ns.map V.int))) else none, ⟨fun b o e => ?_, fun b ps e => ?_⟩, .arr (.inl (.inr ⟨o, if_pos rfl⟩))⟩
    · by_cases hb : b = a
      · rw [if_pos hb] at e; rw [hb, h]; exact e
      · rw [if_neg hb] at e; cases e
    · by_cases hb : b = a
      · rw [if_pos hb] at e; cases e
      · rw [if_neg hb] at e; cases e
  · exact ⟨fun _ => none, ⟨(fun b o e => nomatch e), (fun b ps e => nomatch e)⟩, .arr (.inr h)⟩
theorem law_sp {K : PySem.W.Frag} {T : List (Addr × Str)} {H : Hp} {a : Addr} {ns : List Int} {den : List D → Res D} (hT : Tabs T H) (h : SqL K H a (ns.map V.int)) (hd : den [.arr ns] = .ok (.bl true)) : spD K T 1 den [.ref a] H (fun v _ => v = .bl true) fun _ _ _ => False := by
  obtain ⟨F, z, r⟩ := start_arr h
  refine ⟨F, [.arr ns], z, hT, .cons r .nil, rfl, ?_⟩
  rw [hd]
  intro v F' H' n rv
  cases rv
  rfl
theorem cx_false {P : Program} {w : World} {l : List Env} {H : Hp} {s : Shared} {e : Value} {s' : Shared} (h : L2.CX P w l H s (fun _ _ _ => False) e s') : False := by
  obtain ⟨_, _, _, _, _, _, _, _, _, _, _, _, z⟩ := h
  exact z.elim
theorem lawAt0 {l : PySem.W.OpenLaw} {w : World} {K : PySem.W.Frag} {k n : Nat} {x : Str} {mg : Str → Option Value} {fa : Addr} {h : Heap} {fd : FuncData} {den : List D → Res D} (hb : ∀ (s : Shared) (u : Value), BindsTo s fd ⟨[u], []⟩ [(x, u)])
    (hd : ∀ ns : List Int, ns.length ≤ n → (∀ z ∈ ns, Builtin.Int.intBits z ≤ 1048576) → den [.arr ns] = .ok (.bl true))
    (hF : ∀ base : Heap, K.In base → base.Ns mainGlobals mg → FnOk l.prog w K mg base (L2.CX l.prog w) k fa fd [x] (spD K [] 1 den)) : LamX.LawAtS l w K (L2.CX l.prog w) k n x mg fa h :=
  ⟨fd, [], spD K [] 1 den, fun p hp => by (cases hp), fun p hp => by (cases hp), fun p hp => by (cases hp), hb, fun H a ns hl hz _ hS => law_sp (fun p hp => by cases hp) hS (hd ns hl hz), fun base h1 h2 _ => hF base h1 h2⟩
end DN
namespace HT
open PySem PyProof.Rows
section
variable {prog : Program} {w : World} {A : Around} {E : Value → Shared → Prop} {s : Shared}
end
end HT
namespace DN
open PySem PySem.Spec PyProof.Rows L2
open LamX (Tabs ExtN)
section
variable {X : Cx}
end
theorem _root_.L2.PE.or {X : Cx} {e : Expr} {t u : TE} (h : PE X e t) (h2 : PE X e u) : PE X e (fun σ H Q => t σ H Q ∨ u σ H Q) := ⟨fun pins s σ H Q I q => q.elim (h.run pins s σ H Q I) (h2.run pins s σ H Q I)⟩
section
variable {X : Cx} {T : List (Addr × Str)} {W : WX}
end
end DN
namespace DN
open PySem PySem.Spec PyProof.Rows L2

/-! ### evaluating functions of data -/
def app2 (G : D → D → Option D) : Res D → Res D → Res D
  | .ok a, .ok b => ofO (G a b)
  | .ok _, .ex n => .ex n
  | .ok _, .bad => .bad
  | .ex n, _ => .ex n
  | .bad, _ => .bad
def app1 (G : D → Option D) (r : Res D) : Res D := r.bind fun a => ofO (G a)
def appL (G : List D → Option D) (r : Res (List D)) : Res D := r.bind fun a => ofO (G a)
def consR : Res D → Res (List D) → Res (List D)
  | .ok a, .ok b => .ok (a :: b)
  | .ok _, .ex n => .ex n
  | .ok _, .bad => .bad
  | .ex n, _ => .ex n
  | .bad, _ => .bad
def callR (n : Nat) (den : List D → Res D) (r : Res (List D)) : Res D := r.bind fun ds => if ds.length = n then den ds else .bad
def tstR (r : Res D) : Res Bool := r.bind ans
def seqR (r : SR) (t : Rho → SR) : SR := match r with
  | .nx ρ => t ρ
  | r => r
def retR (r : Res D) (ρ : Rho) : SR := bindS r ρ .rt
def asgR (r : Res D) (ρ : Rho) (g : Tg) : SR := bindS r ρ fun d => match g ρ d with
  | some ρ' => .nx ρ'
  | none => .bad
def ifR (r : Res Bool) (s t : Rho → SR) (ρ : Rho) : SR := bindS r ρ fun b => if b = true then s ρ else t ρ
def finR : SR → Res D
  | .nx _ => .ok .non
  | .rt d => .ok d
  | .ex m _ => .ex m
  | _ => .bad
def andR (r : Res Bool) (g : Rho → Res Bool) (ρ : Rho) : Res Bool := r.bind fun b => if b = true then g ρ else .ok false
def orR (r : Res Bool) (g : Rho → Res Bool) (ρ : Rho) : Res Bool := r.bind fun b => if b = true then .ok true else g ρ
def notR (r : Res Bool) : Res Bool := r.bind fun b => .ok (!b)
def andER (r : Res D) (g : Rho → Res D) (ρ : Rho) : Res D := r.bind fun d => (ans d).bind fun b => if b = true then g ρ else .ok (.bl false)
def orER (r : Res D) (g : Rho → Res D) (ρ : Rho) : Res D := r.bind fun d => (ans d).bind fun b => if b = true then .ok (.bl true) else g ρ
def notER (r : Res D) : Res D := r.bind fun d => (ans d).bind fun b => .ok (.bl (!b))
def mkTR (r : Res (List D)) : Res D := r.bind fun ds => if ds.length ≤ sizeLine then .ok (.tup ds) else .bad
def mkLR (r : Res (List D)) : Res D := r.bind fun ds => if ds.length ≤ sizeLine then .ok (.lst ds) else .bad
def slcR (r : Res D) (lo hi : Res (Option Int)) : Res D := r.bind fun d => lo.bind fun lo => hi.bind fun hi => ofO (slD d lo hi)
def psmR (r : Res D) : Res (Option Int) := r.bind intO
def forR (r : Res (List D)) (g : Tg) (s : Rho → SR) (ρ : Rho) : SR := bindS r ρ fun ds => loopD g s ds ρ
def chnR (G G' : D → D → Option D) (a b c : Res D) : Res D := a.bind fun d => b.bind fun e => (ofO (G d e)).bind fun z => (ans z).bind fun k => if k = true then c.bind fun c => ofO (G' e c) else .ok (.bl false)
theorem runB_eq {n : Nat} {g : Rho → SR} {ds : List D} {ρ : Rho} (h : startR n ds = ρ) : runB n g ds = finR (g ρ) := by
  subst h
  unfold runB finR
  cases g (startR n ds) <;> rfl
section
variable {ρ : Rho}
theorem bin_def {G f g} : bop G f g ρ = app2 G (f ρ) (g ρ) := by
  unfold bop app2
  cases f ρ <;> cases g ρ <;> rfl
theorem una_def {G f} : una G f ρ = app1 G (f ρ) := rfl
theorem cal_def {G f} : cal G f ρ = appL G (f ρ) := rfl
theorem acons_def {f g} : acons f g ρ = consR (f ρ) (g ρ) := by
  unfold acons consR
  cases f ρ <;> cases g ρ <;> rfl
theorem anil_def : anil ρ = .ok [] := rfl
theorem con_def {d} : con d ρ = .ok d := rfl
theorem callD_def {n den f} : callD n den f ρ = callR n den (f ρ) := rfl
theorem tst_def {f} : tst f ρ = tstR (f ρ) := rfl
theorem sseq_def {s t} : sseq s t ρ = seqR (s ρ) t := by
  unfold sseq seqR
  cases s ρ <;> rfl
theorem sret_def {f} : sret f ρ = retR (f ρ) ρ := rfl
theorem sasg_def {f g} : sasg f g ρ = asgR (f ρ) ρ g := rfl
theorem sif_def {c s t} : sif c s t ρ = ifR (c ρ) s t ρ := rfl
theorem sskip_def : sskip ρ = .nx ρ := rfl
theorem sraise_def {x} : sraise x ρ = .ex x ρ := rfl
theorem andQ_def {f g} : andQ f g ρ = andR (f ρ) g ρ := rfl
theorem orQ_def {f g} : orQ f g ρ = orR (f ρ) g ρ := rfl
theorem notQ_def {f} : notQ f ρ = notR (f ρ) := rfl
theorem andE_def {f g} : andE f g ρ = andER (f ρ) g ρ := rfl
theorem orE_def {f g} : orE f g ρ = orER (f ρ) g ρ := rfl
theorem notE_def {f} : notE f ρ = notER (f ρ) := rfl
theorem mkT_def {f} : mkT f ρ = mkTR (f ρ) := rfl
theorem mkL_def {f} : mkL f ρ = mkLR (f ρ) := rfl
theorem slc_def {f g h} : slc f g h ρ = slcR (f ρ) (g ρ) (h ρ) := rfl
theorem psm_def {f} : psm f ρ = psmR (f ρ) := rfl
theorem pno_def : pno ρ = .ok none := rfl
theorem sfor_def {f g s} : sfor f g s ρ = forR (f ρ) g s ρ := rfl
theorem chn_def {G G' f g h} : chn G G' f g h ρ = chnR G G' (f ρ) (g ρ) (h ρ) := rfl
theorem var_zero {d r} : var 0 (.z d :: r) = .ok d := rfl
theorem var_succ {n x r} : var (n + 1) (x :: r) = var n r := rfl
theorem app2_ok {G a b} : app2 G (.ok a) (.ok b) = ofO (G a b) := rfl
theorem app1_ok {G a} : app1 G (.ok a) = ofO (G a) := rfl
theorem appL_ok {G a} : appL G (.ok a) = ofO (G a) := rfl
theorem consR_ok {a b} : consR (.ok a) (.ok b) = .ok (a :: b) := rfl
theorem ofO_some {α} {a : α} : ofO (some a) = .ok a := rfl
theorem call0 {den} : callR 0 den (.ok []) = den [] := rfl
theorem call1 {den a} : callR 1 den (.ok [a]) = den [a] := rfl
theorem call2 {den a b} : callR 2 den (.ok [a, b]) = den [a, b] := rfl
theorem call3 {den a b c} : callR 3 den (.ok [a, b, c]) = den [a, b, c] := rfl
theorem call4 {den a b c d} : callR 4 den (.ok [a, b, c, d]) = den [a, b, c, d] := rfl
theorem call5 {den a b c d e} : callR 5 den (.ok [a, b, c, d, e]) = den [a, b, c, d, e] := rfl
theorem tstR_ok {b} : tstR (.ok (.bl b)) = .ok b := rfl
theorem seqR_nx {t} : seqR (.nx ρ) t = t ρ := rfl
theorem seqR_rt {d t} : seqR (.rt d) t = .rt d := rfl
theorem seqR_ex {n t} : seqR (.ex n ρ) t = .ex n ρ := rfl
theorem retR_ok {d} : retR (.ok d) ρ = .rt d := rfl
theorem retR_ex {n} : retR (.ex n) ρ = .ex n ρ := rfl
theorem asgR_n {d i} : asgR (.ok d) ρ (gn i) = .nx (ρ.set i (.z d)) := rfl
theorem asgR_ex {n g} : asgR (.ex n) ρ g = .ex n ρ := rfl
theorem asgR_2 {a b i j} : asgR (.ok (.tup [a, b])) ρ (gt 2 (gsc (gn i) (gsc (gn j) gsn))) = .nx ((ρ.set i (.z a)).set j (.z b)) := rfl
theorem asgR_2L {a b i j} : asgR (.ok (.lst [a, b])) ρ (gt 2 (gsc (gn i) (gsc (gn j) gsn))) = .nx ((ρ.set i (.z a)).set j (.z b)) := rfl
theorem asgR_3 {a b c i j k} : asgR (.ok (.tup [a, b, c])) ρ (gt 3 (gsc (gn i) (gsc (gn j) (gsc (gn k) gsn)))) = .nx (((ρ.set i (.z a)).set j (.z b)).set k (.z c)) := rfl
theorem ifR_t {s t} : ifR (.ok true) s t ρ = s ρ := rfl
theorem ifR_f {s t} : ifR (.ok false) s t ρ = t ρ := rfl
theorem finR_rt {d} : finR (.rt d) = .ok d := rfl
theorem finR_nx : finR (.nx ρ) = .ok .non := rfl
theorem finR_ex {n} : finR (.ex n ρ) = .ex n := rfl
theorem andR_t {g} : andR (.ok true) g ρ = g ρ := rfl
theorem andR_f {g} : andR (.ok false) g ρ = .ok false := rfl
theorem orR_t {g} : orR (.ok true) g ρ = .ok true := rfl
theorem orR_f {g} : orR (.ok false) g ρ = g ρ := rfl
theorem notR_ok {b} : notR (.ok b) = .ok (!b) := rfl
theorem andER_t {g} : andER (.ok (.bl true)) g ρ = g ρ := rfl
theorem andER_f {g} : andER (.ok (.bl false)) g ρ = .ok (.bl false) := rfl
theorem orER_t {g} : orER (.ok (.bl true)) g ρ = .ok (.bl true) := rfl
theorem orER_f {g} : orER (.ok (.bl false)) g ρ = g ρ := rfl
theorem notER_ok {b} : notER (.ok (.bl b)) = .ok (.bl (!b)) := rfl
theorem psmR_ok {i} : psmR (.ok (.int i)) = .ok (some i) := rfl
theorem slcR_ok {d lo hi} : slcR (.ok d) (.ok lo) (.ok hi) = ofO (slD d lo hi) := rfl
theorem while_t {c s n ρ'} (h : c ρ = .ok true) (h2 : s ρ = .nx ρ') : whileD c s (n + 1) ρ = whileD c s n ρ' := by
  show bindS (c ρ) ρ (fun b => if b = true then (match s ρ with | .nx ρ' => whileD c s n ρ' | .ct ρ' => whileD c s n ρ' | .bk ρ' => .nx ρ' | r => r) else .nx ρ) = _
  rw [h, h2]
  rfl
theorem while_f {c s n} (h : c ρ = .ok false) : whileD c s (n + 1) ρ = .nx ρ := by
  show bindS (c ρ) ρ (fun b => if b = true then (match s ρ with | .nx ρ' => whileD c s n ρ' | .ct ρ' => whileD c s n ρ' | .bk ρ' => .nx ρ' | r => r) else .nx ρ) = _
  rw [h]
  rfl
theorem loop_nil {g s} : loopD g s [] ρ = .nx ρ := rfl
theorem loop_cons {g s d ds ρ1 ρ'} (h : g ρ d = some ρ1) (h2 : s ρ1 = .nx ρ') : loopD g s (d :: ds) ρ = loopD g s ds ρ' := by
  show (match g ρ d with | none => SR.bad | some ρ1 => match s ρ1 with | .nx ρ' => loopD g s ds ρ' | .ct ρ' => loopD g s ds ρ' | .bk ρ' => .nx ρ' | r => r) = _
  rw [h]
  show (match s ρ1 with | .nx ρ' => loopD g s ds ρ' | .ct ρ' => loopD g s ds ρ' | .bk ρ' => .nx ρ' | r => r) = _
  rw [h2]
theorem forR_ok {ds g s} : forR (.ok ds) g s ρ = loopD g s ds ρ := rfl
theorem mkTR_ok {ds : List D} (h : ds.length ≤ 1000000) : mkTR (.ok ds) = .ok (.tup ds) := by
  show (if ds.length ≤ sizeLine then Res.ok (D.tup ds) else .bad) = _
  rw [if_pos (by rw [sizeLine_eq]; omega)]
theorem mkLR_ok {ds : List D} (h : ds.length ≤ 1000000) : mkLR (.ok ds) = .ok (.lst ds) := by
  show (if ds.length ≤ sizeLine then Res.ok (D.lst ds) else .bad) = _
  rw [if_pos (by rw [sizeLine_eq]; omega)]
theorem chn_le {i j k} : chnR leD leD (.ok (.int i)) (.ok (.int j)) (.ok (.int k)) = .ok (.bl (decide (i ≤ j) && decide (j ≤ k))) := by
  show (if decide (i ≤ j) = true then Res.ok (D.bl (decide (j ≤ k))) else .ok (.bl false)) = _
  cases decide (i ≤ j) <;> rfl
theorem chn_lt {i j k} : chnR leD ltD (.ok (.int i)) (.ok (.int j)) (.ok (.int k)) = .ok (.bl (decide (i ≤ j) && decide (j < k))) := by
  show (if decide (i ≤ j) = true then Res.ok (D.bl (decide (j < k))) else .ok (.bl false)) = _
  cases decide (i ≤ j) <;> rfl
/-! the operators on what they are for -/
theorem add_ii {i j} : addD (.int i) (.int j) = some (.int (i + j)) := rfl
theorem sub_ii {i j} : subD (.int i) (.int j) = some (.int (i - j)) := rfl
theorem neg_i {i} : negD (.int i) = some (.int (-i)) := rfl
theorem lt_ii {i j} : ltD (.int i) (.int j) = some (.bl (decide (i < j))) := rfl
theorem le_ii {i j} : leD (.int i) (.int j) = some (.bl (decide (i ≤ j))) := rfl
theorem gt_ii {i j} : gtD (.int i) (.int j) = some (.bl (decide (j < i))) := rfl
theorem ge_ii {i j} : geD (.int i) (.int j) = some (.bl (decide (j ≤ i))) := rfl
theorem eq_ii {i j} : eqD (.int i) (.int j) = some (.bl (i == j)) := by simp [eqD, eqOk, flatD, eqd]
theorem ne_ii {i j} : neD (.int i) (.int j) = some (.bl (!(i == j))) := by simp [neD, eqOk, flatD, eqd]
theorem eq_ss {i j} : eqD (.str i) (.str j) = some (.bl (i == j)) := by simp [eqD, eqOk, flatD, eqd]
theorem ne_ss {i j} : neD (.str i) (.str j) = some (.bl (!(i == j))) := by simp [neD, eqOk, flatD, eqd]
theorem eq_bb {i j} : eqD (.bl i) (.bl j) = some (.bl (i == j)) := by simp [eqD, eqOk, flatD, eqd]
theorem ne_bb {i j} : neD (.bl i) (.bl j) = some (.bl (!(i == j))) := by simp [neD, eqOk, flatD, eqd]
theorem mul_l {i j : Int} (h : -(2 ^ 64) < i ∧ i < 2 ^ 64) : mulD (.int i) (.int j) = some (.int (i * j)) := by
  show (if CMulD i j then some (D.int (i * j)) else none) = _
  rw [if_pos (.inl (.inl h))]
theorem mul_r {i j : Int} (h : -(2 ^ 64) < j ∧ j < 2 ^ 64) : mulD (.int i) (.int j) = some (.int (i * j)) := by
  show (if CMulD i j then some (D.int (i * j)) else none) = _
  rw [if_pos (.inl (.inr h))]
theorem log2_lt {n k : Nat} (h : n < 2 ^ k) (hk : 0 < k) : n.log2 < k := by
  by_cases h0 : n = 0
  · subst h0; simpa using hk
  · exact (Nat.log2_lt h0).mpr h
theorem mul_w {i j : Int} (h1 : i.natAbs < 2 ^ 100000) (h2 : j.natAbs < 2 ^ 100000) : mulD (.int i) (.int j) = some (.int (i * j)) := by
  show (if CMulD i j then some (D.int (i * j)) else none) = _
  have a := log2_lt h1 (by decide)
  have b := log2_lt h2 (by decide)
  rw [if_pos (.inr (show i.natAbs.log2 + j.natAbs.log2 < 1000000 by omega))]
theorem div_s {i j : Int} (h : 0 < j ∧ j < 2 ^ 64) : divD (.int i) (.int j) = some (.int (i / j)) := by
  show (if CDivW i j then some (D.int (i / j)) else none) = _
  have a : j.natAbs.log2 < 64 := log2_lt (by omega) (by decide)
  rw [if_pos ⟨h.1, by omega⟩]
theorem div_w {i j : Int} (h : 0 < j) (h2 : j.natAbs < 2 ^ 8000) : divD (.int i) (.int j) = some (.int (i / j)) := by
  show (if CDivW i j then some (D.int (i / j)) else none) = _
  have a := log2_lt h2 (by decide)
  rw [if_pos ⟨h, by omega⟩]
theorem mod_p {i j : Int} (h : 0 < j) : modD (.int i) (.int j) = some (.int (i % j)) := by
  show (if 0 < j then some (D.int (i % j)) else none) = _
  rw [if_pos h]
theorem ix_t {xs : List D} {i : Int} (h : 0 ≤ i ∧ i < xs.length) : ixD (.tup xs) (.int i) = some (xs.getD i.toNat .non) := by
  show atI xs i = _
  unfold atI ixN
  rw [if_pos h.1, if_pos h.2]
  show xs[i.toNat]? = _
  rw [List.getElem?_eq_getElem (by omega), List.getD_eq_getElem?_getD, List.getElem?_eq_getElem (by omega)]
  rfl
theorem ix_l {xs : List D} {i : Int} (h : 0 ≤ i ∧ i < xs.length) : ixD (.lst xs) (.int i) = some (xs.getD i.toNat .non) := by
  show atI xs i = _
  unfold atI ixN
  rw [if_pos h.1, if_pos h.2]
  show xs[i.toNat]? = _
  rw [List.getElem?_eq_getElem (by omega), List.getD_eq_getElem?_getD, List.getElem?_eq_getElem (by omega)]
  rfl
theorem ix_tm {xs : List D} {i m : Int} (h : 0 < m ∧ m ≤ xs.length) : ixD (.tup xs) (.int (i % m)) = some (xs.getD (i % m).toNat .non) := ix_t ⟨Int.emod_nonneg _ (by omega), Int.lt_of_lt_of_le (Int.emod_lt_of_pos _ h.1) h.2⟩
theorem ix_lm {xs : List D} {i m : Int} (h : 0 < m ∧ m ≤ xs.length) : ixD (.lst xs) (.int (i % m)) = some (xs.getD (i % m).toNat .non) := ix_l ⟨Int.emod_nonneg _ (by omega), Int.lt_of_lt_of_le (Int.emod_lt_of_pos _ h.1) h.2⟩
theorem ix_t0 {a : D} {r : List D} : ixD (.tup (a :: r)) (.int 0) = some a := by
  show atI (a :: r) 0 = _
  unfold atI ixN
  rw [if_pos (by decide), if_pos (by simp only [List.length_cons]; omega)]
  rfl
theorem ix_t1 {a b : D} {r : List D} : ixD (.tup (a :: b :: r)) (.int 1) = some b := by
  show atI (a :: b :: r) 1 = _
  unfold atI ixN
  rw [if_pos (by decide), if_pos (by simp only [List.length_cons]; omega)]
  rfl
theorem ix_t2 {a b c : D} {r : List D} : ixD (.tup (a :: b :: c :: r)) (.int 2) = some c := by
  show atI (a :: b :: c :: r) 2 = _
  unfold atI ixN
  rw [if_pos (by decide), if_pos (by simp only [List.length_cons]; omega)]
  rfl
theorem ix_t3 {a b c d : D} {r : List D} : ixD (.tup (a :: b :: c :: d :: r)) (.int 3) = some d := by
  show atI (a :: b :: c :: d :: r) 3 = _
  unfold atI ixN
  rw [if_pos (by decide), if_pos (by simp only [List.length_cons]; omega)]
  rfl
theorem ix_t4 {a b c d e : D} {r : List D} : ixD (.tup (a :: b :: c :: d :: e :: r)) (.int 4) = some e := by
  show atI (a :: b :: c :: d :: e :: r) 4 = _
  unfold atI ixN
  rw [if_pos (by decide), if_pos (by simp only [List.length_cons]; omega)]
  rfl
theorem ix_t5 {a b c d e f : D} {r : List D} : ixD (.tup (a :: b :: c :: d :: e :: f :: r)) (.int 5) = some f := by
  show atI (a :: b :: c :: d :: e :: f :: r) 5 = _
  unfold atI ixN
  rw [if_pos (by decide), if_pos (by simp only [List.length_cons]; omega)]
  rfl
theorem ix_t6 {a b c d e f g : D} {r : List D} : ixD (.tup (a :: b :: c :: d :: e :: f :: g :: r)) (.int 6) = some g := by
  show atI (a :: b :: c :: d :: e :: f :: g :: r) 6 = _
  unfold atI ixN
  rw [if_pos (by decide), if_pos (by simp only [List.length_cons]; omega)]
  rfl
theorem ix_t7 {a b c d e f g h : D} {r : List D} : ixD (.tup (a :: b :: c :: d :: e :: f :: g :: h :: r)) (.int 7) = some h := by
  show atI (a :: b :: c :: d :: e :: f :: g :: h :: r) 7 = _
  unfold atI ixN
  rw [if_pos (by decide), if_pos (by simp only [List.length_cons]; omega)]
  rfl
theorem ix_l0 {a : D} {r : List D} : ixD (.lst (a :: r)) (.int 0) = some a := by
  show atI (a :: r) 0 = _
  unfold atI ixN
  rw [if_pos (by decide), if_pos (by simp only [List.length_cons]; omega)]
  rfl
theorem ix_l1 {a b : D} {r : List D} : ixD (.lst (a :: b :: r)) (.int 1) = some b := by
  show atI (a :: b :: r) 1 = _
  unfold atI ixN
  rw [if_pos (by decide), if_pos (by simp only [List.length_cons]; omega)]
  rfl
theorem ix_l2 {a b c : D} {r : List D} : ixD (.lst (a :: b :: c :: r)) (.int 2) = some c := by
  show atI (a :: b :: c :: r) 2 = _
  unfold atI ixN
  rw [if_pos (by decide), if_pos (by simp only [List.length_cons]; omega)]
  rfl
theorem ix_l3 {a b c d : D} {r : List D} : ixD (.lst (a :: b :: c :: d :: r)) (.int 3) = some d := by
  show atI (a :: b :: c :: d :: r) 3 = _
  unfold atI ixN
  rw [if_pos (by decide), if_pos (by simp only [List.length_cons]; omega)]
  rfl
theorem ix_l4 {a b c d e : D} {r : List D} : ixD (.lst (a :: b :: c :: d :: e :: r)) (.int 4) = some e := by
  show atI (a :: b :: c :: d :: e :: r) 4 = _
  unfold atI ixN
  rw [if_pos (by decide), if_pos (by simp only [List.length_cons]; omega)]
  rfl
theorem ix_l5 {a b c d e f : D} {r : List D} : ixD (.lst (a :: b :: c :: d :: e :: f :: r)) (.int 5) = some f := by
  show atI (a :: b :: c :: d :: e :: f :: r) 5 = _
  unfold atI ixN
  rw [if_pos (by decide), if_pos (by simp only [List.length_cons]; omega)]
  rfl
theorem ix_l6 {a b c d e f g : D} {r : List D} : ixD (.lst (a :: b :: c :: d :: e :: f :: g :: r)) (.int 6) = some g := by
  show atI (a :: b :: c :: d :: e :: f :: g :: r) 6 = _
  unfold atI ixN
  rw [if_pos (by decide), if_pos (by simp only [List.length_cons]; omega)]
  rfl
theorem ix_l7 {a b c d e f g h : D} {r : List D} : ixD (.lst (a :: b :: c :: d :: e :: f :: g :: h :: r)) (.int 7) = some h := by
  show atI (a :: b :: c :: d :: e :: f :: g :: h :: r) 7 = _
  unfold atI ixN
  rw [if_pos (by decide), if_pos (by simp only [List.length_cons]; omega)]
  rfl
theorem len_t {xs : List D} : lenD [.tup xs] = some (.int xs.length) := rfl
theorem len_l {xs : List D} : lenD [.lst xs] = some (.int xs.length) := rfl
theorem len_a {xs : List Int} : lenD [.arr xs] = some (.int xs.length) := rfl
theorem abs_i {i : Int} : absD [.int i] = some (.int (if i < 0 then -i else i)) := rfl
theorem max_ii {i j : Int} : maxD [.int i, .int j] = some (.int (if j > i then j else i)) := rfl
theorem min_ii {i j : Int} : minD [.int i, .int j] = some (.int (if j < i then j else i)) := rfl
theorem int_i {i : Int} : intD [.int i] = some (.int i) := rfl
theorem int_b {b : Bool} : intD [.bl b] = some (.int (if b then 1 else 0)) := rfl
theorem int_t : intD [.bl true] = some (.int 1) := rfl
theorem int_f : intD [.bl false] = some (.int 0) := rfl
theorem str_i {i : Int} (h : i.natAbs < 2 ^ 1900) : strD [.int i] = some (.str (toString i)) := by
  show (if i.natAbs.log2 < 1920 then some (D.str (toString i)) else none) = _
  have a := log2_lt h (by decide)
  rw [if_pos (by omega)]
theorem len_s {x : Str} (h : x.length ≤ 1000000) : lenD [.str x] = some (.int x.length) := by
  show (if x.length ≤ sizeLine then some (D.int x.length) else none) = _
  rw [if_pos (by rw [sizeLine_eq]; omega)]
end
end DN
namespace DN
open PySem PySem.Spec PyProof.Rows L2
instance : Decidable (CPow i j) := by unfold CPow; infer_instance
end DN
namespace DN
open PySem PySem.Spec PyProof.Rows L2
open LamX (Tabs ExtN)

/-! ### methods of texts -/
def rDm (K : PySem.W.Frag) (T : List (Addr × Str)) (G : D → List D → Option D) : V → List V → Hp → VK → Prop := fun x xs H Q =>
  ∃ F d ds z, Fz F H ∧ Rp K F x d ∧ RpAll K F xs ds ∧ G d ds = some z ∧ ∀ v F' H', Nx T F H F' H' → Rp K F' v z → Q v H'
def met (G : D → List D → Option D) (f : Rho → Res D) (g : Rho → Res (List D)) : Rho → Res D := fun ρ => (f ρ).bind fun d => match d with
  | .str x => (g ρ).bind fun ds => ofO (G (.str x) ds)
  | _ => .bad
section
variable {X : Cx} {T : List (Addr × Str)} {W : WX}
theorem e_met {name : Str} {id : String} {G : D → List D → Option D} {o e : Expr} {es : List Expr} {f : Rho → Res D} {g : Rho → Res (List D)} {apos pos : Pos} (pa : PlainAttrs "str") (slot : Slot "str" name id) (hty : typeOf (.builtin id) = pure (.type "method_descriptor")) (hm : MtR X id (rDm X.K T G)) (ho : DE X T W o f) (ha : DA X T W (e :: es) g)
    (h1 : attributeBase o name X.env (eval o X.env) = eval o X.env := by rfl) (h5 : ((backTo pos (starEach (e :: es) X.env)).all (fun x => !x.1) && (backToKw pos (keywordEach [] X.env)).all (fun x => x.1.isSome) && decide ((e :: es).length + ([] : List Keyword).length + (if ([] : List Keyword).isEmpty then 0 else 1) < 30)) = true := by rfl) (h2 : (apos.endLine == pos.line) = true := by rfl) (h3 : starEach (e :: es) X.env = (false, eval e X.env) :: starEach es X.env := by rfl) (h4 : (backTo pos (starEach es X.env)).any (·.1) = false := by rfl) : DE X T W (.Call (.Attribute o name apos) (e :: es) [] pos) (met G f g) :=
  (pe_bm pa slot hty hm ho ha h1 h5 h2 h3 h4).to fun σ H Q ⟨ρ, F, a, h⟩ => by
    refine ⟨ρ, F, a, (aft.bind (R := Rp X.K) h).imp fun d _ v F1 H1 _ _ q => ?_⟩
    obtain ⟨b, F2, _, n, rv, q⟩ := q
    cases rv with
    | str x =>
      refine ⟨rfl, ρ, F2, a.nx n, (aft.bind (R := RpAll X.K) q).imp fun ds _ vs F3 H3 _ _ q => ?_⟩
      obtain ⟨ds', F4, _, n2, rs, q⟩ := q
      obtain ⟨z, hz, q⟩ := ofO_ok q
      exact ⟨F4, .str x, ds', z, n2.z, .str x, rs, hz, q⟩
    | _ => exact q.elim
def startsD : D → List D → Option D
  | .str a, [.str b] => some (.bl (Txt.startswith a b))
  | _, _ => none
def partD : D → List D → Option D
  | .str a, [.str b] => if (b.length == 0) = false ∧ a.length ≤ sizeLine then some (.tup [.str (Txt.partition a b).1, .str (Txt.partition a b).2.1, .str (Txt.partition a b).2.2]) else none
  | _, _ => none
def splitD : D → List D → Option D
  | .str a, [.str b] => if (b.length == 0) = false ∧ a.length + 2 ≤ sizeLine then some (.lst ((Txt.split a b).map .str)) else none
  | _, _ => none
theorem m_starts : MtR X "str.startswith" (rDm X.K T startsD) := by
  intro pins s σ H x xs v us Q I rx rs h
  obtain ⟨F, d, ds, z, hz, rd, rds, hG, q⟩ := h
  unfold startsD at hG
  split at hG
  · cases rd
    obtain ⟨v1, rfl, r1⟩ := all1 rds
    cases r1
    cases hG
    exact mt_startswith pins s σ H _ _ v us Q I rx rs ⟨_, _, rfl, rfl, done0 hz q (.bl _)⟩
  · cases hG
theorem m_part : MtR X "str.partition" (rDm X.K T partD) := by
  intro pins s σ H x xs v us Q I rx rs h
  obtain ⟨F, d, ds, z, hz, rd, rds, hG, q⟩ := h
  unfold partD at hG
  split at hG
  · cases rd
    obtain ⟨v1, rfl, r1⟩ := all1 rds
    cases r1
    split at hG
    · rename_i hc
      cases hG
      exact mt_partition pins s σ H _ _ v us Q I rx rs ⟨_, _, rfl, rfl, hc.1, hc.2, fun p hp => donep hz hp ntT q (rp_tup hz hp (.cons (.str _) (.cons (.str _) (.cons (.str _) .nil))))⟩
    · cases hG
  · cases hG
theorem m_split : MtR X "str.split" (rDm X.K T splitD) := by
  intro pins s σ H x xs v us Q I rx rs h
  obtain ⟨F, d, ds, z, hz, rd, rds, hG, q⟩ := h
  unfold splitD at hG
  split at hG
  · cases rd
    obtain ⟨v1, rfl, r1⟩ := all1 rds
    cases r1
    split at hG
    · rename_i hc
      cases hG
      exact mt_split pins s σ H _ _ v us Q I rx rs ⟨_, _, rfl, rfl, hc.1, hc.2, fun p hp => donep hz hp ntL q (rp_lst hz hp (RpAll.strs _))⟩
    · cases hG
  · cases hG
end
/-! evaluating -/
def metR (G : D → List D → Option D) (r : Res D) (l : Res (List D)) : Res D := r.bind fun d => match d with
  | .str x => l.bind fun ds => ofO (G (.str x) ds)
  | _ => .bad
theorem met_def {ρ : Rho} {G f g} : met G f g ρ = metR G (f ρ) (g ρ) := rfl
theorem metR_ok {G x ds} : metR G (.ok (.str x)) (.ok ds) = ofO (G (.str x) ds) := rfl
end DN
namespace DN
open PySem PySem.Spec PyProof.Rows L2
open LamX (Tabs ExtN CodeO GivesTo tLam LamS TabB lamCx lamEnv)

/-! ### list.count, flat items -/
section
variable {X : Cx}
end

/-! ### told: what an own error is told as -/
section
variable {X : Cx} {T : List (Addr × Str)}
end
end DN
namespace DN
open PySem PySem.Spec PyProof.Rows L2
open LamX (Tabs ExtN CodeO GivesTo tLam LamS TabB lamCx lamEnv)

section
variable {X : Cx} {T : List (Addr × Str)} {W : WX}
end
theorem exc_n {K : PySem.W.Frag} {h : Heap} {mg : Str → Option Value} {x : Str} (X : K.In h) (G : h.Ns mainGlobals mg) (c : (He.Fa.glo x).ok K = true) (e : (He.Fa.exc x).ok K = true) : ExcN K mg x := by
  obtain ⟨h1, h2, h3, h4⟩ := He.exc_ok e
  exact ⟨h1, h2, h3, h4, He.glo_ok X G c⟩
end DN
namespace DN
open PySem PySem.Spec PyProof.Rows L2
open LamX (Tabs ExtN)
section
variable {X : Cx} {T : List (Addr × Str)} {W : WX}
def min3D : List D → Option D
  | [.int i, .int j, .int k] => some (.int (if k < (if j < i then j else i) then k else if j < i then j else i))
  | _ => none
theorem all3 {K : PySem.W.Frag} {F : Hp} {xs : List V} {a b c : D} (r : RpAll K F xs [a, b, c]) : ∃ x y z, xs = [x, y, z] ∧ Rp K F x a ∧ Rp K F y b ∧ Rp K F z c := by
  cases r with
  | cons h1 r => cases r with
    | cons h2 r => cases r with
      | cons h3 r => cases r; exact ⟨_, _, _, rfl, h1, h2, h3⟩
theorem c_min3 (hc : X.calm = true) : CallR X (.builtin "min") (rDn X.K T min3D) := by
  intro pins s σ H xs us Q I r h
  obtain ⟨F, ds, z, hz, rs, hG, q⟩ := h
  unfold min3D at hG
  split at hG
  · rename_i i j k
    obtain ⟨x, y, w, rfl, r1, r2, r3⟩ := all3 rs
    cases r1
    cases r2
    cases r3
    cases hG
    refine call_min3Nu hc pins s σ H _ us Q I r ⟨.int i, .int j, .int k, .int (if k < (if j < i then j else i) then k else if j < i then j else i), rfl, ?_, done0 hz q (.int _)⟩
    by_cases h1 : j < i
    · by_cases h2 : k < j
      · simp [nuMin3, nuMin2, nuLt, nuCB, h1, h2]
      · simp [nuMin3, nuMin2, nuLt, nuCB, h1, h2]
    · by_cases h2 : k < i
      · simp [nuMin3, nuMin2, nuLt, nuCB, h1, h2]
      · simp [nuMin3, nuMin2, nuLt, nuCB, h1, h2]
  · cases hG
theorem min_iii {i j k : Int} : min3D [.int i, .int j, .int k] = some (.int (if k < (if j < i then j else i) then k else if j < i then j else i)) := rfl
end
end DN
namespace DN
open PySem PySem.Spec PyProof.Rows L2
open LamX (Tabs ExtN)

/-! ### a module's dict of defs, text keys -/
theorem dicW_full {K : PySem.W.Frag} {w : World} {a : Addr} {ks : List Str} (h : He.dicW K a = some (He.keysIn w.params ks)) : ∃ es n, KDict K w a es n ∧ es.toList.map He.keyOf = He.keysIn w.params ks := by
  obtain ⟨es, n, D⟩ := He.dicW_ok h
  refine ⟨es, n, D, ?_⟩
  unfold He.dicW at h
  rw [D.at_] at h
  simp only [D.low] at h
  exact Option.some.inj h
theorem keys_miss {P : Params} {z : Str} : ∀ {l : List DictEntry} {ks : List Str}, l.map He.keyOf = He.keysIn P ks → z ∉ ks → l.find? (·.key.isStr z) = none ∧ l.any (·.refKey) = false
  | [], _, _, _ => ⟨rfl, rfl⟩
  | e :: r, [], h, _ => by cases h
  | e :: r, k :: ks, h, hz => by
    have h1 : He.keyOf e :: r.map He.keyOf = some (k, PyData.keyHash P k) :: He.keysIn P ks := h
    injection h1 with h2 h3
    obtain ⟨i1, i2⟩ := keys_miss h3 (fun q => hz (List.mem_cons_of_mem _ q))
    have hk : ∃ t, e.key = .str k t := by
      unfold He.keyOf at h2
      split at h2
      · rename_i x t q
        obtain ⟨h5, _⟩ := Prod.mk.inj (Option.some.inj h2)
        exact ⟨t, by rw [q, h5]⟩
      · cases h2
    obtain ⟨t, hk⟩ := hk
    have n1 : e.key.isStr z = false := by
      rw [hk]
      show (k == z) = false
      exact beq_eq_false_iff_ne.mpr fun q => hz (by rw [q]; exact List.mem_cons_self)
    have n2 : e.refKey = false := by unfold DictEntry.refKey; rw [hk]
    refine ⟨?_, ?_⟩
    · rw [List.find?_cons, n1]; exact i1
    · rw [List.any_cons, n2, i2]; rfl
/-- the module's dict x: text keys, defs -/
structure DicF (w : World) (K : PySem.W.Frag) (mg : Str → Option Value) (x : Str) (kvs : List (Str × Str)) : Prop where
  kd : ∃ es n, KDict K w (He.ga K x) es n ∧ es.toList.map He.keyOf = He.keysIn w.params (kvs.map Prod.fst)
  vals : ∀ q ∈ kvs, ∃ u, PySem.W.nsIn K (He.ga K x) q.1 = some (some u) ∧ RelV (.ref (He.ga K q.2)) u
  g : mg x = some (.ref (He.ga K x))
def inT (ks : List Str) (f : Rho → Res D) : Rho → Res D := fun ρ => (f ρ).bind fun d => match d with
  | .str z => .ok (.bl (ks.contains z))
  | _ => .bad
def tabF (kvs : List (Str × Str)) (f : Rho → Res D) : Rho → Res D := fun ρ => (f ρ).bind fun d => match d with
  | .str z => (match kvs.lookup z with
    | some n => .ok (.fn n)
    | none => .bad)
  | _ => .bad
theorem DicF.ns {w : World} {K : PySem.W.Frag} {mg : Str → Option Value} {x : Str} {kvs : List (Str × Str)} (D : DicF w K mg x kvs) (z : Str) : ∃ r, PySem.W.nsIn K (He.ga K x) z = some r ∧ r.isSome = (kvs.map Prod.fst).contains z := by
  by_cases h : z ∈ kvs.map Prod.fst
  · obtain ⟨q, hq, rfl⟩ := List.mem_map.mp h
    obtain ⟨u, h1, _⟩ := D.vals q hq
    exact ⟨some u, h1, by rw [List.contains_iff_mem.mpr h]; rfl⟩
  · obtain ⟨es, n, kd, hk⟩ := D.kd
    obtain ⟨h1, h2⟩ := keys_miss hk h
    refine ⟨none, ?_, ?_⟩
    · unfold PySem.W.nsIn
      rw [kd.at_]
      simp only [h1, h2]
      rfl
    · have : (kvs.map Prod.fst).contains z = false := by
        rw [Bool.eq_false_iff]
        exact fun q => h (List.contains_iff_mem.mp q)
      rw [this]; rfl
theorem dic_f {w : World} {K : PySem.W.Frag} {h : Heap} {mg : Str → Option Value} {x : Str} {kvs : List (Str × Str)} (X : K.In h) (G : h.Ns mainGlobals mg) (d : He.dicW K (He.ga K x) = some (He.keysIn w.params (kvs.map Prod.fst))) (v : He.valsB K (He.ga K x) (kvs.map fun q => (q.1, He.Dv.glo q.2)) = true) (g : (He.Fa.glo x).ok K = true) : DicF w K mg x kvs :=
  ⟨dicW_full d, fun q hq => He.valsB_ok v (q := (q.1, He.Dv.glo q.2)) (List.mem_map.mpr ⟨q, hq, rfl⟩), He.glo_ok X G g⟩
theorem tab_eq {fa : List He.Fa} {fn : List He.DefD} {ts : List He.Tab} {w : World} {K : PySem.W.Frag} (c : He.SaysT fa fn ts w K) (i : Nat) {t : He.Tab} (h : ts[i]? = some t) : He.dicW K (t.1 K) = some (He.keysIn w.params t.2) := by
  have e : ts.map (fun t => He.dicW K (t.1 K)) = ts.map fun t => some (He.keysIn w.params t.2) := congrArg (fun z : He.AlT => z.2) c
  have e2 : (ts.map fun t => He.dicW K (t.1 K))[i]? = (ts.map fun t => some (He.keysIn w.params t.2))[i]? := by rw [e]
  rw [List.getElem?_map, List.getElem?_map, h] at e2
  exact Option.some.inj e2
section
variable {X : Cx} {T : List (Addr × Str)} {W : WX} {F0 H0 : Hp}
theorem inT_to {w : World} {K : PySem.W.Frag} {mg : Str → Option Value} {x : Str} {kvs : List (Str × Str)} (Dd : DicF w K mg x kvs) {f : Rho → Res D} {σ : L2.St} {H : Hp} {Q : VK} (h : tE K T W (inT (kvs.map Prod.fst) f) σ H Q) :
    tOp (fun a b H Q => ∃ (z : Str) (r : Option Value), a = .str z ∧ b = .ref (He.ga K x) ∧ PySem.W.nsIn K (He.ga K x) z = some r ∧ Q (.bl r.isSome) H) (tE K T W f) (tC (.ref (He.ga K x))) σ H Q := by
  obtain ⟨ρ, F, a, h⟩ := h
  refine ⟨ρ, F, a, (aft.bind (R := Rp K) h).imp fun d _ v F1 H1 _ _ q => ?_⟩
  obtain ⟨b, F2, _, n, rv, q⟩ := q
  cases rv with
  | str z =>
    obtain ⟨r, h1, h2⟩ := Dd.ns z
    refine ⟨z, r, rfl, rfl, h1, ?_⟩
    rw [h2]
    exact q (.bl _) F2 H1 (Nx.refl n.z) (.bl _)
  | _ => exact q.elim
theorem q_inT {x : Str} {kvs : List (Str × Str)} {ks : List Str} {e : Expr} {f : Rho → Res D} {p pos : Pos} (Dd : DicF X.w X.K X.mg x kvs) (hg : Gl X x) (he : DE X T W e f) (hk : kvs.map Prod.fst = ks := by rfl) (hm : behindInMarks .In (.Name x p) = false := by rfl) (hd : (x == ("__debug__" : Str)) = false := by decide) :
    DQ X T W (.Compare e [.In] [.Name x p] pos) (tst (inT ks f)) := by
  subst hk
  obtain ⟨es, n, kd, _⟩ := Dd.kd
  exact (pt_cmpR (op_in_kd kd) he (pe_glob (v := .ref (He.ga X.K x)) hg Dd.g rfl hd) hm).to fun _ _ _ h => inT_to Dd (tst_to h)
theorem e_tabF {x : Str} {kvs : List (Str × Str)} {e : Expr} {f : Rho → Res D} {p pos : Pos} (Dd : DicF X.w X.K X.mg x kvs) (hg : Gl X x) (he : DE X T W e f) (hs : PlainIx e := by exact fun _ _ => rfl) (hd : (x == ("__debug__" : Str)) = false := by decide) :
    DE X T W (.Subscript (.Name x p) e pos) (tabF kvs f) :=
  (pe_ix ix_kdict (pe_glob (v := .ref (He.ga X.K x)) hg Dd.g rfl hd) he hs).to fun σ H Q ⟨ρ, F, a, h⟩ => by
    refine ⟨ρ, F, a, (aft.bind (R := Rp X.K) h).imp fun d _ v F1 H1 _ _ q => ?_⟩
    obtain ⟨b, F2, _, n, rv, q⟩ := q
    cases rv with
    | str z =>
      have q : aft (Rp X.K) X.K T W σ F2 H1 Q (match kvs.lookup z with
        | some n => .ok (.fn n)
        | none => .bad) := q
      cases e : kvs.lookup z with
      | none => rw [e] at q; exact q.elim
      | some m =>
        rw [e] at q
        obtain ⟨u, u1, u2⟩ := Dd.vals (z, m) (PySem.mem_of_lookup e)
        obtain ⟨es, k, kd, _⟩ := Dd.kd
        exact ⟨_, z, .ref (He.ga X.K m), rfl, rfl, ⟨es, k, u, kd.at_, kd.lit, u1, u2⟩, q _ F2 H1 (Nx.refl n.z) (.fn m)⟩
    | _ => exact q.elim
/-! ### a call of a name that holds a def -/
def callF (i : Nat) (disp : Str → Option (List D → Res D)) (f : Rho → Res (List D)) : Rho → Res D := fun ρ => match ρ[i]? with
  | some (.z (.fn n)) => (match disp n with
    | some g => (f ρ).bind g
    | none => .bad)
  | _ => .bad
theorem e_callF {k i : Nat} {x : Str} {E : XK} {disp : Str → Option (List D → Res D)} {e : Expr} {es : List Expr} {p pos : Pos} {f : Rho → Res (List D)}
    (O : ∀ n g, disp n = some g → ∃ den m j, j ≤ k ∧ OkD X.prog X.w X.K X.mg X.base T j n m den ∧ ∀ ds, g ds = if ds.length = m then den ds else .bad) (hr : Room k X.A) (tk : Takes X (WofE E)) (hN : X.N[i]? = some x) (hv : Vis X.env.scope x) (ha : DA X T (WofE E) (e :: es) f)
    (hdb : (x == ("__debug__" : Str)) = false := by decide) (hcd : (x == ("__classdict__" : Str)) = false := by decide) (he : starEach (e :: es) X.env = (false, eval e X.env) :: starEach es X.env := by rfl) (hpl : (backTo pos (starEach es X.env)).any (·.1) = false := by rfl) :
    DE X T (WofE E) (.Call (.Name x p) (e :: es) [] pos) (callF i disp f) := by
  refine ⟨fun pins s σ H Q I h => ?_⟩
  obtain ⟨ρ, F, a, h⟩ := h
  unfold callF at h
  cases e1 : ρ[i]? with
  | none => rw [e1] at h; exact h.elim
  | some en =>
    rw [e1] at h
    cases en with
    | u => exact h.elim
    | o d => exact h.elim
    | z d =>
      cases d with
      | fn n =>
        have h : aft (Rp X.K) X.K T (WofE E) σ F H Q (match disp n with
          | some g => (f ρ).bind g
          | none => .bad) := h
        obtain ⟨v, h1, h2⟩ := a.r.z i _ e1
        cases h2
        cases e2 : disp n with
        | none => rw [e2] at h; exact h.elim
        | some g =>
          rw [e2] at h
          have h : aft (Rp X.K) X.K T (WofE E) σ F H Q ((f ρ).bind g) := h
          obtain ⟨den, m, j, hj, Ok, hdisp⟩ := O n g e2
          obtain ⟨fd, ps, G, b⟩ := Ok.ex
          refine (pe_callL (i := i) (E := E) (dvs := []) (ds := []) G (hr.mono hj) hN hv Ok.kp b .nil (passes_call tk fun _ _ _ _ q => q) ha hdb hcd he hpl).run pins s σ H Q I ⟨h1, ρ, F, a, (aft.bind (R := RpAll X.K) h).imp fun ds _ vs F1 H1 _ _ q => ?_⟩
          obtain ⟨ds', F2, _, nx, rs, q⟩ := q
          rw [List.append_nil]
          rw [hdisp] at q
          split at q
          · rename_i hl
            refine ⟨F2, ds', nx.z, nx.tab a.t, rs, hl, ?_⟩
            cases e : den ds' with
            | ok d => rw [e] at q; exact q
            | ex m => rw [e] at q; exact q
            | bad => rw [e] at q; exact q.elim
          · exact q.elim
      | _ => exact h.elim
/-! ### try with two handlers -/
def noex : SR → SR
  | .ex _ _ => .bad
  | r => r
theorem noex_aft {K : PySem.W.Frag} {T : List (Addr × Str)} {W : WX} {F0 H0 F : Hp} {Z : Ends} {r : SR} (h : aftS K T W F0 H0 F Z (noex r)) : aftS K T (fun _ _ _ _ => False) F0 H0 F Z r := by
  cases r with
  | ex n ρ => exact h.elim
  | nx ρ => exact h
  | rt d => exact h
  | bk ρ => exact h
  | ct ρ => exact h
  | bad => exact h
def stry2 (s : Rho → SR) (n1 : Str) (h1 : Rho → SR) (n2 : Str) (h2 : Rho → SR) : Rho → SR := fun ρ => match s ρ with
  | .ex n ρ' => if n = n1 then noex (h1 ρ') else if n = n2 then noex (h2 ρ') else .bad
  | r => r
theorem s_try2 {body : List Stmt} {b1 b2 : Stmt} {r1 r2 : List Stmt} {n1 n2 : Str} {s h1 h2 : Rho → SR} {p1 p2 p3 p4 pos : Pos} (hs : X.stack = X.env :: X.outer) (hf : X.env.frame = some X.env.locals) (c1 : Names X n1 (.ref (He.ga X.K n1))) (c2 : Names X n2 (.ref (He.ga X.K n2)))
    (m11 : PySem.W.exmOne X.K (.ref (He.ga X.K n1)) (.ref (He.ga X.K n1)) = some true) (m21 : PySem.W.exmOne X.K (.ref (He.ga X.K n2)) (.ref (He.ga X.K n1)) = some (decide (n2 = n1))) (m22 : PySem.W.exmOne X.K (.ref (He.ga X.K n2)) (.ref (He.ga X.K n2)) = some true)
    (hb : ∀ (W : WX) (pn : List (Addr × Obj)) (xe : Value → Shared → Prop), Takes (X.tr pn xe) W → PassesOwn (model X.prog X.w) X.A X.env xe → DSs (X.tr pn xe) T W F0 H0 body s)
    (hh1 : ∀ (a : Addr) (oe : Obj) (pn : List (Addr × Obj)), DSs (X.suite a ((a, oe) :: pn)) T (fun _ _ _ _ => False) F0 H0 (b1 :: r1) h1) (hh2 : ∀ (a : Addr) (oe : Obj) (pn : List (Addr × Obj)), DSs (X.suite a ((a, oe) :: pn)) T (fun _ _ _ _ => False) F0 H0 (b2 :: r2) h2) :
    DS X T W F0 H0 (.Try body [.ExceptHandler (some (.Name n1 p1)) none (b1 :: r1) p2, .ExceptHandler (some (.Name n2 p3)) none (b2 :: r2) p4] [] [] pos) (stry2 s n1 h1 n2 h2) :=
  (ps_try_many (tb := fun W => tS X.K T W F0 H0 s) (Wout := fun _ _ _ _ => False) hs hf LamX.takes0 hb
    (.cons (ts := fun _ _ _ => tS X.K T (fun _ _ _ _ => False) F0 H0 h1) c1 (fun a oe cls d pn _ _ => hh1 a oe pn) (.cons (ts := fun _ _ _ => tS X.K T (fun _ _ _ _ => False) F0 H0 h2) c2 (fun a oe cls d pn _ _ => hh2 a oe pn) .nil))).to fun Z σ H ⟨ρ, F, g, h⟩ => by
    refine ⟨ρ, F, g, ?_⟩
    unfold stry2 at h
    cases e : s ρ with
    | nx ρ' => rw [e] at h; exact h
    | bk ρ' => rw [e] at h; exact h
    | ct ρ' => rw [e] at h; exact h
    | rt d => rw [e] at h; exact h
    | bad => rw [e] at h; exact h
    | ex n ρ' =>
      rw [e] at h
      have h : aftS X.K T W F0 H0 F Z (if n = n1 then noex (h1 ρ') else if n = n2 then noex (h2 ρ') else .bad) := h
      intro σ' F' H' g' sb
      by_cases q1 : n = n1
      · subst q1
        rw [if_pos rfl] at h
        exact ⟨true, m11, fun _ a _ => ⟨ρ', F', g', aftS.mono sb (noex_aft h)⟩, fun z => by cases z⟩
      · rw [if_neg q1] at h
        by_cases q2 : n = n2
        · subst q2
          rw [if_pos rfl] at h
          refine ⟨false, by rw [m21, decide_eq_false q1], fun z => (by cases z), fun _ => ⟨true, m22, fun _ a _ => ⟨ρ', F', g', aftS.mono sb (noex_aft h)⟩, fun z => by cases z⟩⟩
        · rw [if_neg q2] at h
          exact h.elim
end
end DN
namespace DN
open PySem PySem.Spec PyProof.Rows L2
open LamX (Tabs ExtN)

theorem lt1 {a c : Nat} (h : a + 64 < c) : a + 1 < c := by omega
theorem tup_strs {K : PySem.W.Frag} {H : Hp} {a : Addr} {zs : List Str} (h : SqT K H a ((zs.map He.Dv.str).map (He.Dv.v K))) : SqT K H a (zs.map V.str) := by
  rw [List.map_map] at h
  exact h
theorem tup_ints {K : PySem.W.Frag} {H : Hp} {a : Addr} {zs : List Int} (h : SqT K H a ((zs.map He.Dv.int).map (He.Dv.v K))) : SqT K H a (zs.map V.int) := by
  rw [List.map_map] at h
  exact h
section
variable {X : Cx} {T : List (Addr × Str)} {W : WX} {F0 H0 : Hp}
theorem e_gtupI {x : Str} {zs : List Int} {pos : Pos} (h : X.mg x = some (.ref (He.ga X.K x))) (ht : ∀ H, SqT X.K H (He.ga X.K x) (zs.map V.int)) (hg : Gl X x) (hd : (x == ("__debug__" : Str)) = false := by decide) : DE X T W (.Name x pos) (con (.tup (zs.map D.int))) :=
  e_c (pe_glob (v := .ref (He.ga X.K x)) hg h rfl hd) fun F => .tup (ht F) (RpAll.ints zs)
/-! ### a display of text keys that is used at once -/
structure DP (X : Cx) (T : List (Addr × Str)) (W : WX) (pos : Pos) (keys : List (Option Expr)) (values : List Expr) (ks : List Str) (f : Rho → Res (List D)) : Prop where
  ex : ∃ trs, PPs X pos keys values trs ∧ ∀ σ H (Q : List (V × V) → Hp → Prop), tA X.K T W f σ H (fun vs H' => Q ((ks.zip vs).map fun q => (V.str q.1, q.2)) H') → tPairs trs σ H Q
  len : keys.length = ks.length
  some : keys.all (·.isSome) = true
  vlen : keys.length = values.length
theorem dp_nil {pos : Pos} : DP X T W pos [] [] [] anil := ⟨⟨[], pps_nil, fun σ H Q ⟨ρ, F, a, h⟩ => h [] F H (Nx.refl a.z) .nil⟩, rfl, rfl, rfl⟩
theorem dp_cons {pos p : Pos} {j : Nat} {k : Str} {v : Expr} {keys : List (Option Expr)} {values : List Expr} {ks : List Str} {f : Rho → Res D} {g : Rho → Res (List D)} (hv : DE X T W v f) (hr : DP X T W pos keys values ks g) :
    DP X T W pos (some (.Constant (.str k) j p) :: keys) (v :: values) (k :: ks) (acons f g) := by
  obtain ⟨trs, h1, h2⟩ := hr.ex
  refine ⟨⟨_, pps_cons pe_str hv h1, fun σ H Q ⟨ρ, F, a, h⟩ => ?_⟩, by rw [List.length_cons, List.length_cons, hr.len], by rw [List.all_cons, hr.some]; rfl, by rw [List.length_cons, List.length_cons, hr.vlen]⟩
  show tE X.K T W f σ H fun y H2 => tPairs trs σ H2 fun ps H3 => Q ((V.str k, y) :: ps) H3
  refine ⟨ρ, F, a, (aft.bind (R := Rp X.K) h).imp fun d _ v F1 H1 _ _ q => ?_⟩
  obtain ⟨b, F2, _, n, rv, q⟩ := q
  refine h2 σ H1 _ ⟨ρ, F2, a.nx n, (aft.bind (R := RpAll X.K) q).imp fun ds _ vs F3 H3 _ _ q => ?_⟩
  obtain ⟨ds', F4, _, n2, rs, q⟩ := q
  exact q.ok (Nx.refl n2.z) (.cons (rv.mono n2.f) rs)
theorem merge_new : ∀ (more acc : List (Key × V)), (∀ k ∈ more.map Prod.fst, k ∉ acc.map Prod.fst) → (more.map Prod.fst).Nodup → mergeK acc more = acc ++ more
  | [], acc, _, _ => by show acc = acc ++ []; rw [List.append_nil]
  | p :: r, acc, h, hn => by
    rw [List.map_cons, List.nodup_cons] at hn
    have e : putK acc p.1 p.2 = acc ++ [p] := by
      unfold putK
      rw [if_neg]
      intro z
      obtain ⟨q, hq, e⟩ := List.any_eq_true.mp z
      exact h p.1 List.mem_cons_self (by rw [← of_decide_eq_true e]; exact List.mem_map.mpr ⟨q, hq, rfl⟩)
    show mergeK (putK acc p.1 p.2) r = _
    rw [e, merge_new r (acc ++ [p]) (fun k hk hq => ?_) hn.2, List.append_assoc]
    · rfl
    · rw [List.map_append, List.mem_append] at hq
      rcases hq with hq | hq
      · exact h k (List.mem_cons_of_mem _ hk) hq
      · simp at hq
        rw [hq] at hk
        exact hn.1 hk
theorem zip_fst {α β : Type} : ∀ {a : List α} {b : List β}, a.length = b.length → (a.zip b).map Prod.fst = a
  | [], [], _ => rfl
  | x :: a, y :: b, h => by
    rw [List.zip_cons_cons, List.map_cons, zip_fst (by simpa using h)]
theorem val_look {K : PySem.W.Frag} {F : Hp} {z : Str} : ∀ {ks : List Str} {vs : List V} {ds : List D}, RpAll K F vs ds → ks.length = vs.length →
    ((∃ v d, valV (kvK ks vs) (Sum.inr z) = some v ∧ (ks.zip ds).lookup z = some d ∧ Rp K F v d) ∨ (valV (kvK ks vs) (Sum.inr z) = none ∧ (ks.zip ds).lookup z = none))
  | [], [], [], _, _ => .inr ⟨rfl, rfl⟩
  | k :: ks, v :: vs, d :: ds, .cons h t, hl => by
    by_cases e : k = z
    · subst e
      refine .inl ⟨v, d, valV_pos rfl, ?_, h⟩
      simp [List.lookup]
    · have e2 : (z == k) = false := beq_eq_false_iff_ne.mpr fun q => e q.symm
      have e3 : valV (kvK (k :: ks) (v :: vs)) (Sum.inr z) = valV (kvK ks vs) (Sum.inr z) := valV_neg (p := (Sum.inr k, v)) fun q => e (Sum.inr.inj q)
      have e4 : ((k :: ks).zip (d :: ds)).lookup z = (ks.zip ds).lookup z := by
        rw [List.zip_cons_cons, List.lookup_cons, e2]
      rw [e3, e4]
      exact val_look t (by simpa using hl)
theorem tabs_updD {T : List (Addr × Str)} {H : Hp} {p : Addr} {xs : List (Key × V)} {o : HO} (h : Tabs T H) (e : H p = some (.dK xs)) : Tabs T (upd H p o) := fun q hq => by
  obtain ⟨ps, h1, h2, h3⟩ := h q hq
  refine ⟨ps, ?_, h2, fun pos cv hc => ?_⟩
  · rw [upd_ne fun z => by rw [z, e] at h1; cases h1]; exact h1
  · obtain ⟨c, e1, e2⟩ := h3 pos cv hc
    refine ⟨c, e1, ?_⟩
    rw [upd_ne fun z => by rw [z, e] at e2; unfold LamX.CodeO at e2; cases e2]; exact e2
/-- a dict laid empty at p, filled behind the values -/
theorem nx_fill {F H F1 H1 : Hp} {p : Addr} {o : HO} (z : Fz F H) (hp : H p = none) (n1 : Nx T F (upd H p (.dK [])) F1 H1) : Nx T F H F1 (upd H1 p o) ∧ H1 p = some (.dK []) := by
  have fp : F p = none := by
    cases q : F p with
    | none => rfl
    | some u =>
      have := z.sub _ _ q
      rw [hp] at this; cases this
  have k1 : H1 p = some (.dK []) := n1.keep upd_same fun ps q => by cases q
  have f1 : F1 p = none := n1.out (a := p) (o := .dK []) upd_same (fun ps q => by cases q) fp
  refine ⟨⟨n1.f, ⟨fun x u e => ?_, n1.z.nt⟩, fun b u e nt => ?_, fun x u e => ?_, fun t => ?_⟩, k1⟩
  · rw [upd_ne fun q => by rw [q, f1] at e; cases e]
    exact n1.z.sub _ _ e
  · have hb : b ≠ p := ne_of_none e hp
    rw [upd_ne hb]
    exact n1.h b u (by rw [upd_ne hb]; exact e) nt
  · rcases n1.new x u e with h | h
    · exact .inl h
    · exact .inr fun o' e' => h o' (by rw [upd_ne (ne_of_none e' hp)]; exact e')
  · exact tabs_updD (n1.tab ((Nx.lay (T := T) z hp).tab t)) k1
def dgetD (ks : List Str) (f : Rho → Res (List D)) (fe fg : Rho → Res D) : Rho → Res D := fun ρ => (f ρ).bind fun ds => if ds.length = ks.length then (fe ρ).bind fun k => (fg ρ).bind fun d => (match k with
  | .str z => .ok (((ks.zip ds).lookup z).getD d)
  | _ => .bad) else .bad
theorem e_dget {pos apos cpos : Pos} {keys : List (Option Expr)} {values : List Expr} {ks : List Str} {f : Rho → Res (List D)} {e g : Expr} {fe fg : Rho → Res D} (hu : X.A.units + 1 < cLine) (hd : DP X T W pos keys values ks f) (he : DE X T W e fe) (hg : DE X T W g fg) (h0 : keys ≠ []) (h15 : ks.length ≤ 15) (hnd : ks.Nodup)
    (m : M2 X (.Dict keys values pos) "get" apos e g cpos) : DE X T W (.Call (.Attribute (.Dict keys values pos) "get" apos) [e, g] [] cpos) (dgetD ks f fe fg) := by
  obtain ⟨trs, h1, ht⟩ := hd.ex
  refine (pe_dget2 hu (pe_disp h1 hd.some hd.vlen h0 (by rw [hd.len]; exact h15)) he hg m).to fun σ H Q ⟨ρ, F, a, h⟩ => ?_
  intro p hp
  have n0 : Nx T F H F (upd H p (.dK [])) := Nx.lay a.z hp
  refine ht σ _ _ ⟨ρ, F, a.nx n0, ((aft.bind (R := RpAll X.K) (aft.mono n0 h))).imp fun ds _ vs F1' H1 _ _ q => ?_⟩
  obtain ⟨ds', F1, e', n1, rv, _⟩ := q
  obtain ⟨nf, k1⟩ := nx_fill (o := .dK (kvK ks vs)) a.z hp n1
  have h' := aft.mono nf h
  unfold dgetD at h'
  rw [e'] at h'
  have h' : aft (Rp X.K) X.K T W σ F1 (upd H1 p (.dK (kvK ks vs))) Q (if ds'.length = ks.length then (fe ρ).bind fun k => (fg ρ).bind fun d => (match k with
    | .str z => .ok (((ks.zip ds').lookup z).getD d)
    | _ => .bad) else .bad) := h'
  by_cases hl : ds'.length = ks.length
  · rw [if_pos hl] at h'
    have hlv : ks.length = vs.length := by rw [rv.length, hl]
    have hm : mergeK [] (kvK ks vs) = kvK ks vs := by
      rw [merge_new _ _ (fun k _ q => by cases q)]
      · rfl
      · unfold kvK
        rw [List.map_map]
        have e2 : ((fun q : Str × V => ((Sum.inr q.1 : Key), q.2)) · |>.1) = fun q : Str × V => (Sum.inr q.1 : Key) := rfl
        have e3 : (ks.zip vs).map (Prod.fst ∘ fun q => ((Sum.inr q.1 : Key), q.2)) = ks.map Sum.inr := by
          have : (Prod.fst ∘ fun q : Str × V => ((Sum.inr q.1 : Key), q.2)) = Sum.inr ∘ Prod.fst := rfl
          rw [this, ← List.map_map, zip_fst hlv]
        rw [e3]
        exact List.Pairwise.map _ (fun _ _ q z => q (Sum.inr.inj z)) hnd
    refine ⟨k1, kvK ks vs, ?_, ?_, p, rfl, ?_⟩
    · unfold kvK
      rw [List.map_map]
      rfl
    · unfold kvK
      rw [List.length_map, List.length_zip]
      omega
    · rw [hm]
      refine ⟨.inl ⟨_, .inl upd_same⟩, ρ, F1, a.nx nf, (aft.bind (R := Rp X.K) h').imp fun d _ y F2 H2 _ _ q => ?_⟩
      obtain ⟨k, F3, _, n3, ry, q⟩ := q
      refine ⟨ρ, F3, (a.nx nf).nx n3, (aft.bind (R := Rp X.K) q).imp fun d2 _ z F4 H4 _ _ q => ?_⟩
      obtain ⟨dd, F5, _, n5, rz, q⟩ := q
      have kp : H4 p = some (.dK (kvK ks vs)) := n5.keep (n3.keep upd_same fun ps z => by cases z) fun ps z => by cases z
      cases ry with
      | str x =>
        have q : aft (Rp X.K) X.K T W σ F5 H4 Q (.ok (((ks.zip ds').lookup x).getD dd)) := q
        refine ⟨_, .inl ⟨_, Sum.inr x, .inl kp, rfl, rfl⟩, ?_⟩
        rcases val_look (z := x) (RpAll.mono (n3.f.trans n5.f) rv) hlv with ⟨v, d, w1, w2, w3⟩ | ⟨w1, w2⟩
        · rw [w1]
          rw [w2] at q
          exact q v F5 H4 (Nx.refl n5.z) w3
        · rw [w1]
          rw [w2] at q
          exact q z F5 H4 (Nx.refl n5.z) rz
      | _ => exact q.elim
  · rw [if_neg hl] at h'
    exact h'.elim
end
end DN
namespace DN
open PySem PySem.Spec PyProof.Rows L2
open LamX (Tabs ExtN)

section
variable {X : Cx} {T : List (Addr × Str)} {W : WX} {F0 H0 : Hp}
/-! ### a display of text keys, its item taken at once -/
end
/-! ### a module's dict of texts -/
structure DicS (w : World) (K : PySem.W.Frag) (mg : Str → Option Value) (x : Str) (kvs : List (Str × Str)) : Prop where
  kd : ∃ es n, KDict K w (He.ga K x) es n ∧ es.toList.map He.keyOf = He.keysIn w.params (kvs.map Prod.fst)
  vals : ∀ q ∈ kvs, ∃ u, PySem.W.nsIn K (He.ga K x) q.1 = some (some u) ∧ RelV (.str q.2) u
  g : mg x = some (.ref (He.ga K x))
theorem DicS.ns {w : World} {K : PySem.W.Frag} {mg : Str → Option Value} {x : Str} {kvs : List (Str × Str)} (D : DicS w K mg x kvs) (z : Str) : ∃ r, PySem.W.nsIn K (He.ga K x) z = some r ∧ r.isSome = (kvs.map Prod.fst).contains z := by
  by_cases h : z ∈ kvs.map Prod.fst
  · obtain ⟨q, hq, rfl⟩ := List.mem_map.mp h
    obtain ⟨u, h1, _⟩ := D.vals q hq
    exact ⟨some u, h1, by rw [List.contains_iff_mem.mpr h]; rfl⟩
  · obtain ⟨es, n, kd, hk⟩ := D.kd
    obtain ⟨h1, h2⟩ := keys_miss hk h
    refine ⟨none, ?_, ?_⟩
    · unfold PySem.W.nsIn
      rw [kd.at_]
      simp only [h1, h2]
      rfl
    · have : (kvs.map Prod.fst).contains z = false := by
        rw [Bool.eq_false_iff]
        exact fun q => h (List.contains_iff_mem.mp q)
      rw [this]; rfl
section
variable {X : Cx} {T : List (Addr × Str)} {W : WX} {F0 H0 : Hp}
/-! ### a def of which nothing is promised: the recursion's ground -/
end
end DN
/-! lists of the frame's own: made, appended to, stored into, read, frozen -/
namespace DN
open PySem PySem.Spec PyProof.Rows L2
open LamX (Tabs ExtN)

def D.flat : D → Bool
  | .non => true
  | .bl _ => true
  | .int _ => true
  | .str _ => true
  | _ => false
def flatR : Res D → Res D
  | .ok d => if d.flat = true then .ok d else .bad
  | r => r
def frz (i : Nat) (ρ : Rho) : Rho := match ρ[i]? with
  | some (.o (.lst ds)) => ρ.set i (.z (.lst ds))
  | _ => ρ
def bor (i : Nat) (f : Rho → Res D) : Rho → Res D := fun ρ => flatR (f (frz i ρ))
def borQ (i : Nat) (f : Rho → Res Bool) : Rho → Res Bool := fun ρ => f (frz i ρ)
theorem Rp.flat {K : PySem.W.Frag} {F F' : Hp} {v : V} {d : D} (h : Rp K F v d) (e : d.flat = true) : Rp K F' v d := by
  cases h <;> first | exact .non | exact .bl _ | exact .int _ | exact .str _ | cases e
section
variable {K : PySem.W.Frag} {T : List (Addr × Str)} {W : WX} {F0 H0 F H : Hp} {σ : L2.St} {ρ : Rho}
theorem At.frz (a : At K T F H σ ρ) (i : Nat) : ∃ F1, At K T F1 H σ (frz i ρ) ∧ Sub F F1 ∧ (∀ F' H', Nx T F1 H F' H' → Nx T F H F H') ∧ (∀ F0 H0, Nx T F0 H0 F H → Ow H0 σ ρ → Nx T F0 H0 F1 H ∧ Ow H0 σ (frz i ρ)) := by
  have triv : ∃ F1, At K T F1 H σ ρ ∧ Sub F F1 ∧ (∀ F' H', Nx T F1 H F' H' → Nx T F H F H') ∧ (∀ F0 H0, Nx T F0 H0 F H → Ow H0 σ ρ → Nx T F0 H0 F1 H ∧ Ow H0 σ ρ) :=
    ⟨F, a, Sub.refl F, fun F' H' n => ⟨Sub.refl F, ⟨n.f.trans n.z.sub, a.z.nt⟩, n.h, fun _ _ h => .inl h, n.tab⟩, fun F0 H0 n o => ⟨n, o⟩⟩
  unfold DN.frz
  split
  · rename_i ds e
    obtain ⟨p, hs, hp, xs, hx, rx⟩ := a.r.o i _ e
    have sb : Sub F (upd F p (.lst xs)) := fun b o eb => by
      rw [upd_ne fun z => by rw [z, hp] at eb; cases eb]; exact eb
    have z1 : Fz (upd F p (.lst xs)) H := ⟨fun b o eb => by
      by_cases hb : b = p
      · subst hb; rw [upd_same] at eb; rw [← eb]; exact hx
      · rw [upd_ne hb] at eb; exact a.z.sub _ _ eb, fun b ps eb => by
      by_cases hb : b = p
      · subst hb; rw [upd_same] at eb; cases eb
      · rw [upd_ne hb] at eb; exact a.z.nt _ _ eb⟩
    have il : i < ρ.length := (List.getElem?_eq_some_iff.mp e).1
    refine ⟨upd F p (.lst xs), ⟨z1, a.t, ?_⟩, sb, fun F' H' n => ⟨Sub.refl F, ⟨sb.trans (n.f.trans n.z.sub), a.z.nt⟩, n.h, fun _ _ h => .inl h, n.tab⟩, fun F0 H0 n o => ⟨⟨n.f.trans sb, z1, n.h, fun b u eb => ?_, n.tab⟩, fun j d q h1 h2 => ?_⟩⟩
    · refine ⟨by rw [List.length_set]; exact a.r.len, fun j d hj => ?_, fun j d hj => ?_, fun j k d1 d2 q1 q2 hn h1 h2 h3 h4 => ?_⟩
      · rw [List.getElem?_set] at hj
        by_cases hij : i = j
        · subst hij
          rw [if_pos rfl, if_pos il] at hj
          cases hj
          exact ⟨_, hs, .lst upd_same (rx.mono sb)⟩
        · rw [if_neg hij] at hj
          obtain ⟨v, h1, h2⟩ := a.r.z j d hj
          exact ⟨v, h1, h2.mono sb⟩
      · rw [List.getElem?_set] at hj
        by_cases hij : i = j
        · subst hij
          rw [if_pos rfl, if_pos il] at hj
          cases hj
        · rw [if_neg hij] at hj
          obtain ⟨q, h1, h2, h3⟩ := a.r.o j d hj
          have hne : p ≠ q := a.r.ne i j _ _ p q hij e hj hs h1
          refine ⟨q, h1, by rw [upd_ne (Ne.symm hne)]; exact h2, ?_⟩
          cases d with
          | lst es => obtain ⟨ys, k1, k2⟩ := h3; exact ⟨ys, k1, k2.mono sb⟩
          | dK _ => exact h3
          | dT _ => exact h3
          | dic _ _ _ _ => obtain ⟨es, k1, k2⟩ := h3; exact ⟨es, k1, k2.mono sb⟩
          | ins _ _ _ => obtain ⟨dx, ws, k1, k2⟩ := h3; exact ⟨dx, ws, k1, k2.mono sb⟩
          | _ => exact h3.elim
      · rw [List.getElem?_set] at h1 h2
        have fj : i ≠ j := fun z => by rw [if_pos z] at h1; split at h1 <;> cases h1
        have fk : i ≠ k := fun z => by rw [if_pos z] at h2; split at h2 <;> cases h2
        rw [if_neg fj] at h1
        rw [if_neg fk] at h2
        exact a.r.ne j k d1 d2 q1 q2 hn h1 h2 h3 h4
    · by_cases hb : b = p
      · subst hb
        exact .inr fun o' e' => .inl (o i _ b e hs o' e')
      · rw [upd_ne hb] at eb; exact n.new _ _ eb
    · rw [List.getElem?_set] at h1
      by_cases hij : i = j
      · subst hij
        rw [if_pos rfl, if_pos il] at h1
        cases h1
      · rw [if_neg hij] at h1
        exact o j d q h1 h2
  · exact triv
end
section
variable {X : Cx} {T : List (Addr × Str)} {W : WX} {F0 H0 : Hp}
def sfrz (i : Nat) (s : Rho → SR) : Rho → SR := fun ρ => s (frz i ρ)
end

/-! ### made -/
def aftO (K : PySem.W.Frag) (T : List (Addr × Str)) (W : WX) (σ : L2.St) (F H : Hp) (Q : V → Hp → Prop) : Res D → Prop
  | .ok (.lst ds) => ∀ p vs F' H', Nx T F H F' H' → F' p = none → H' p = some (.lst vs) → RpAll K F' vs ds → (∀ o, H p = some o → ∃ ps, o = .tbl ps) → Q (.ref p) H'
  | .ok _ => False
  | .ex n => ∀ F' H', Nx T F H F' H' → W (.ref (He.ga K n)) none σ H'
  | .bad => False
def tO (K : PySem.W.Frag) (T : List (Addr × Str)) (W : WX) (f : Rho → Res D) : TE := fun σ H Q => ∃ ρ F, At K T F H σ ρ ∧ aftO K T W σ F H Q (f ρ)
abbrev DOw (X : Cx) (T : List (Addr × Str)) (W : WX) (e : Expr) (f : Rho → Res D) : Prop := PE X e (tO X.K T W f)
def sown (f : Rho → Res D) (i : Nat) : Rho → SR := fun ρ => bindS (f ρ) ρ fun d => match d with
  | .lst ds => .nx (ρ.set i (.o (.lst ds)))
  | _ => .bad
section
variable {K : PySem.W.Frag} {T : List (Addr × Str)} {W : WX} {F0 H0 F H : Hp} {σ : L2.St} {ρ : Rho}
theorem frn {p : Addr} (z : Fz F H) (hp : H p = none) : F p = none := by
  cases q : F p with
  | none => rfl
  | some o => have := z.sub _ _ q; rw [hp] at this; cases this
theorem Rl.setO {i : Nat} {p : Addr} {vs : List V} {ds : List D} (r : Rl K F H σ ρ) (hp : F p = none) (hx : H p = some (.lst vs)) (rx : RpAll K F vs ds) (fr : ∀ (j : Nat) (d : D) (q : Addr), ρ[j]? = some (En.o d) → σ[j]? = some (some (V.ref q)) → q ≠ p) :
    Rl K F H (σ.set i (some (.ref p))) (ρ.set i (.o (.lst ds))) where
  len := by rw [List.length_set, List.length_set]; exact r.len
  z := fun j e hj => by
    rw [List.getElem?_set] at hj ⊢
    by_cases hij : i = j
    · subst hij
      rw [if_pos rfl] at hj
      split at hj <;> cases hj
    · rw [if_neg hij] at hj ⊢
      exact r.z j e hj
  o := fun j e hj => by
    rw [List.getElem?_set] at hj ⊢
    by_cases hij : i = j
    · subst hij
      rw [if_pos rfl] at hj ⊢
      by_cases hl : i < ρ.length
      · rw [if_pos hl] at hj
        rw [if_pos (by rw [r.len]; exact hl)]
        cases hj
        exact ⟨p, rfl, hp, vs, hx, rx⟩
      · rw [if_neg hl] at hj; cases hj
    · rw [if_neg hij] at hj ⊢
      exact r.o j e hj
  ne := fun j k a b q1 q2 hn h1 h2 h3 h4 => by
    rw [List.getElem?_set] at h1 h2 h3 h4
    by_cases fj : i = j
    · have fk : i ≠ k := fun z => hn (fj.symm.trans z)
      rw [if_neg fk] at h2 h4
      rw [if_pos fj] at h3
      have : q1 = p := by split at h3 <;> cases h3; rfl
      rw [this]
      exact Ne.symm (fr k _ q2 h2 h4)
    · rw [if_neg fj] at h1 h3
      by_cases fk : i = k
      · rw [if_pos fk] at h4
        have : q2 = p := by split at h4 <;> cases h4; rfl
        rw [this]
        exact fr j _ q1 h1 h3
      · rw [if_neg fk] at h2 h4
        exact r.ne j k a b q1 q2 hn h1 h2 h3 h4
theorem Ow.setO {i : Nat} {p : Addr} {d : D} (o : Ow H0 σ ρ) (hp : ∀ o, H0 p = some o → ∃ ps, o = .tbl ps) : Ow H0 (σ.set i (some (.ref p))) (ρ.set i (.o d)) := fun j e q h1 h2 => by
  rw [List.getElem?_set] at h1 h2
  by_cases hij : i = j
  · rw [if_pos hij] at h2
    have : q = p := by split at h2 <;> cases h2; rfl
    rw [this]; exact hp
  · rw [if_neg hij] at h1 h2
    exact o j e q h1 h2
/-- an own list made at p, bound to slot i -/
theorem Sg.own {F1 H1 : Hp} {i : Nat} {p : Addr} {vs : List V} {ds : List D} (g : Sg K T F0 H0 F H σ ρ) (n : Nx T F H F1 H1) (hp : F1 p = none) (hx : H1 p = some (.lst vs)) (rx : RpAll K F1 vs ds) (fr : ∀ o, H p = some o → ∃ ps, o = .tbl ps) :
    Sg K T F0 H0 F1 H1 (σ.set i (some (.ref p))) (ρ.set i (.o (.lst ds))) := by
  have g1 := g.step n
  refine ⟨⟨g1.at_.z, g1.at_.t, g1.at_.r.setO hp hx rx fun j d q h1 h2 e => ?_⟩, g1.nx, g1.ow.setO fun o ho => ?_⟩
  · obtain ⟨q', k1, k2, k3⟩ := g.at_.r.o j d h1
    rw [h2] at k1
    cases k1
    obtain ⟨o, k4, k5⟩ := k3.solid
    rw [e] at k4
    obtain ⟨ps, k6⟩ := fr o k4
    exact k5 ps k6
  · by_cases q : ∃ ps, o = .tbl ps
    · exact q
    · exact fr o (g.nx.h p o ho fun ps z => q ⟨ps, z⟩)
end
section
variable {X : Cx} {T : List (Addr × Str)} {W : WX} {F0 H0 : Hp}
theorem back_tbl {H H2 : Hp} {p : Addr} (n : ExtN H H2) (fr : ∀ o, H2 p = some o → ∃ ps, o = .tbl ps) : ∀ o, H p = some o → ∃ ps, o = .tbl ps := fun o ho => by
  by_cases q : ∃ ps, o = .tbl ps
  · exact q
  · exact fr o (n p o ho fun ps z => q ⟨ps, z⟩)
theorem aftO.bind {K : PySem.W.Frag} {σ : L2.St} {F H : Hp} {α β : Type} {R : Hp → α → β → Prop} {Q : V → Hp → Prop} {r : Res β} {k : β → Res D} (h : aftO K T W σ F H Q (r.bind k)) :
    aft R K T W σ F H (fun a H1 => ∃ b F1, r = .ok b ∧ Nx T F H F1 H1 ∧ R F1 a b ∧ aftO K T W σ F1 H1 Q (k b)) r := by
  cases r with
  | ok b =>
    refine fun a F2 H2 n ra => ⟨b, F2, rfl, n, ra, ?_⟩
    have h : aftO K T W σ F H Q (k b) := h
    cases e : k b with
    | ok d =>
      rw [e] at h
      cases d with
      | lst ds => exact fun p vs F' H' n2 hp hx rx fr => h p vs F' H' (n.trans n2) hp hx rx (back_tbl n.h fr)
      | _ => exact h.elim
    | ex m => rw [e] at h; exact fun F' H' n2 => h F' H' (n.trans n2)
    | bad => rw [e] at h; exact h.elim
  | ex m => exact h
  | bad => exact h
theorem o_lst {es : List Expr} {pos : Pos} {f : Rho → Res (List D)} (h : DA X T W es f) : DOw X T W (.List es pos) (mkL f) :=
  (pe_lst h).to fun σ H Q ⟨ρ, F, a, h⟩ => by
    refine ⟨ρ, F, a, (aftO.bind (R := RpAll X.K) h).imp fun d _ v F1 H1 _ _ q => ?_⟩
    obtain ⟨ds, F2, _, n, rv, q⟩ := q
    have q : aftO X.K T W σ F2 H1 Q (if ds.length ≤ sizeLine then .ok (.lst ds) else .bad) := q
    split at q
    · rename_i hl
      exact ⟨by rw [rv.length]; exact hl, fun p hp => q p v F2 _ (Nx.lay n.z hp) (frn n.z hp) upd_same rv fun o ho => by rw [hp] at ho; cases ho⟩
    · exact q.elim
/-! ### appended, stored, read -/
def ownR (i : Nat) (ρ : Rho) : Res (List D) := match ρ[i]? with
  | some (.o (.lst ds)) => .ok ds
  | _ => .bad
def sapp (i : Nat) (f : Rho → Res D) : Rho → SR := fun ρ => bindS (ownR i ρ) ρ fun ds => bindS (f ρ) ρ fun d => if ds.length < sizeLine then .nx (ρ.set i (.o (.lst (ds ++ [d])))) else .bad
theorem RpAll.set {K : PySem.W.Frag} {F : Hp} : ∀ {vs : List V} {ds : List D} (n : Nat) {v : V} {d : D}, RpAll K F vs ds → Rp K F v d → RpAll K F (vs.set n v) (ds.set n d)
  | _, _, _, _, _, .nil, _ => .nil
  | _, _, 0, _, _, .cons _ t, r => .cons r t
  | _, _, n + 1, _, _, .cons h t, r => .cons h (RpAll.set n t r)
def sput (i : Nat) (fk fe : Rho → Res D) : Rho → SR := fun ρ => bindS (fe ρ) ρ fun d => bindS (ownR i ρ) ρ fun ds => bindS (fk ρ) ρ fun k => match k with
  | .int j => (match ixN ds.length j with
    | some m => .nx (ρ.set i (.o (.lst (ds.set m d))))
    | none => .bad)
  | _ => .bad
def ixO (i : Nat) (fk : Rho → Res D) : Rho → Res D := fun ρ => (ownR i ρ).bind fun ds => (fk ρ).bind fun k => match k with
  | .int j => ofO (atI ds j)
  | _ => .bad
end
end DN
/-! comprehensions with any target; lists made so are own or frozen -/
namespace DN
open PySem PySem.Spec PyProof.Rows L2
open LamX (Tabs ExtN)

theorem At.wipe {K : PySem.W.Frag} {T : List (Addr × Str)} {F H : Hp} {σ : L2.St} {ρ : Rho} (a : At K T F H σ ρ) : ∀ vs : List Nat, At K T F H (L2.wipe σ vs) (wipeR ρ vs)
  | [] => a
  | v :: vs => ⟨a.z, a.t, (At.wipe a vs).r.wipe1⟩
/-! targets that touch the slots vs alone -/
section
variable {X : Cx} {T : List (Addr × Str)} {W : WX} {F0 H0 : Hp} {vs : List Nat}
end
section
variable {X : Cx} {T : List (Addr × Str)} {W : WX} {F0 H0 : Hp}
section
variable {j : Nat} {y : Str} {py : Pos} {elt tg iter : Expr} {ifs : List Expr} {scope : Scope} {own : List (Str × Nat)} {pos spos : Pos} {f : Rho → Res (List D)} {g : Tg} {t : Rho → Res Bool} {e : Rho → Res D}
end
end
end DN
/-! min, max and index of a list of ints; evaluation of own lists -/
namespace DN
open PySem PySem.Spec PyProof.Rows L2
open LamX (Tabs ExtN)

section
variable {X : Cx} {T : List (Addr × Str)} {W : WX} {F0 H0 : Hp}
end
/-! ### evaluation -/
section
variable {ρ : Rho}
def ownRR (r : Res D) (ρ : Rho) (i : Nat) : SR := bindS r ρ fun d => match d with
  | .lst ds => .nx (ρ.set i (.o (.lst ds)))
  | _ => .bad
theorem sown_def {f : Rho → Res D} {i : Nat} : sown f i ρ = ownRR (f ρ) ρ i := rfl
theorem ownRR_ok {ds : List D} {i : Nat} : ownRR (.ok (.lst ds)) ρ i = .nx (ρ.set i (.o (.lst ds))) := rfl
theorem frz_lst {ds : List D} {r : Rho} : frz 0 (.o (.lst ds) :: r) = .z (.lst ds) :: r := rfl
theorem frz_z {d : D} {r : Rho} : frz 0 (.z d :: r) = .z d :: r := rfl
theorem frz_u {r : Rho} : frz 0 (.u :: r) = .u :: r := rfl
theorem frz_succ {i : Nat} {e : En} {r : Rho} : frz (i + 1) (e :: r) = e :: frz i r := by
  unfold frz
  rw [List.getElem?_cons_succ]
  cases r[i]? with
  | none => rfl
  | some en =>
    cases en with
    | u => rfl
    | z d => rfl
    | o d => cases d <;> rfl
theorem sfrz_def {i : Nat} {s : Rho → SR} : sfrz i s ρ = s (frz i ρ) := rfl
theorem bor_def {i : Nat} {f : Rho → Res D} : bor i f ρ = flatR (f (frz i ρ)) := rfl
theorem borQ_def {i : Nat} {f : Rho → Res Bool} : borQ i f ρ = f (frz i ρ) := rfl
theorem flat_i {i : Int} : flatR (.ok (.int i)) = .ok (.int i) := rfl
theorem flat_s {x : Str} : flatR (.ok (.str x)) = .ok (.str x) := rfl
theorem flat_b {b : Bool} : flatR (.ok (.bl b)) = .ok (.bl b) := rfl
theorem flat_n : flatR (.ok .non) = .ok .non := rfl
theorem own_zero {ds : List D} {r : Rho} : ownR 0 (.o (.lst ds) :: r) = .ok ds := rfl
theorem own_succ {i : Nat} {e : En} {r : Rho} : ownR (i + 1) (e :: r) = ownR i r := rfl
def appRR (ds : Res (List D)) (r : Res D) (ρ : Rho) (i : Nat) : SR := bindS ds ρ fun ds => bindS r ρ fun d => if ds.length < sizeLine then .nx (ρ.set i (.o (.lst (ds ++ [d])))) else .bad
theorem sapp_def {i : Nat} {f : Rho → Res D} : sapp i f ρ = appRR (ownR i ρ) (f ρ) ρ i := rfl
def putRR (v : Res D) (ds : Res (List D)) (k : Res D) (ρ : Rho) (i : Nat) : SR := bindS v ρ fun d => bindS ds ρ fun ds => bindS k ρ fun k => match k with
  | .int j => (match ixN ds.length j with
    | some m => .nx (ρ.set i (.o (.lst (ds.set m d))))
    | none => .bad)
  | _ => .bad
theorem sput_def {i : Nat} {f g : Rho → Res D} : sput i f g ρ = putRR (g ρ) (ownR i ρ) (f ρ) ρ i := rfl
def ixRR (ds : Res (List D)) (k : Res D) : Res D := ds.bind fun ds => k.bind fun k => match k with
  | .int j => ofO (atI ds j)
  | _ => .bad
theorem ixO_def {i : Nat} {f : Rho → Res D} : ixO i f ρ = ixRR (ownR i ρ) (f ρ) := rfl
end
end DN
/-! list(x) as an own list -/
namespace DN
open PySem PySem.Spec PyProof.Rows L2
open LamX (Tabs ExtN)
def rO (K : PySem.W.Frag) (T : List (Addr × Str)) (G : List D → Option D) : List V → Hp → VK → Prop := fun xs H Q => ∃ F ds es, Fz F H ∧ RpAll K F xs ds ∧ G ds = some (.lst es) ∧ ∀ p vs F' H', Nx T F H F' H' → F' p = none → H' p = some (.lst vs) → RpAll K F' vs es → (∀ o, H p = some o → ∃ ps, o = .tbl ps) → Q (.ref p) H'
def listO : List D → Option D
  | [.lst xs] => some (.lst xs)
  | [.tup xs] => some (.lst xs)
  | _ => none
section
variable {X : Cx} {T : List (Addr × Str)} {W : WX}
theorem c_listO : CallR X (.type "list") (rO X.K T listO) := by
  intro pins s σ H xs us Q I r h
  obtain ⟨F, ds, es, hz, rs, hG, q⟩ := h
  unfold listO at hG
  split at hG
  · obtain ⟨v, rfl, rv⟩ := all1 rs
    cases hG
    cases rv with
    | lst h1 r1 => exact call_list_of pins s σ H _ us Q I r ⟨_, _, rfl, .inl (SqL.of (hz.sub _ _ h1)), fun p hp => q p _ F _ (Nx.lay hz hp) (frn hz hp) upd_same r1 fun o ho => by rw [hp] at ho; cases ho⟩
  · obtain ⟨v, rfl, rv⟩ := all1 rs
    cases hG
    cases rv with
    | tup h1 r1 => exact call_list_of pins s σ H _ us Q I r ⟨_, _, rfl, .inr (hz.sub.st h1), fun p hp => q p _ F _ (Nx.lay hz hp) (frn hz hp) upd_same r1 fun o ho => by rw [hp] at ho; cases ho⟩
  · cases hG
theorem o_list {e : Expr} {p pos : Pos} {f : Rho → Res (List D)} (hg : Gl X "list") (hm : X.mg "list" = none) (hv : bootBuiltins "list" = some (.type "list")) (ha : DA X T W [e] f)
    (hpl : starEach [e] X.env = (false, eval e X.env) :: starEach [] X.env := by rfl) (hpl2 : (backTo pos (starEach [] X.env)).any (·.1) = false := by rfl) : DOw X T W (.Call (.Name "list" p) [e] [] pos) (cal listO f) :=
  (pe_callTy (c_listO (T := T)) hg hm hv ha (by decide) (by decide) hpl hpl2).to fun σ H Q ⟨ρ, F, a, h⟩ => by
    refine ⟨ρ, F, a, (aftO.bind (R := RpAll X.K) h).imp fun ds _ vs F1 H1 _ _ q => ?_⟩
    obtain ⟨ds', F2, _, n, rs, q⟩ := q
    cases e : listO ds' with
    | none => rw [e] at q; exact q.elim
    | some z =>
      rw [e] at q
      have : ∃ es, z = .lst es := by
        unfold listO at e
        split at e <;> cases e <;> exact ⟨_, rfl⟩
      obtain ⟨es, rfl⟩ := this
      exact ⟨F2, ds', es, n.z, rs, e, q⟩
end
end DN
/-! sorted of a list of texts -/
namespace DN
open PySem PySem.Spec PyProof.Rows L2
open LamX (Tabs ExtN)
def strsOf : List D → Option (List Str)
  | [] => some []
  | .str x :: r => (strsOf r).map (x :: ·)
  | _ => none
theorem strsOf_map : ∀ (l : List Str), strsOf (l.map D.str) = some l
  | [] => rfl
  | x :: r => by
    show (strsOf (r.map D.str)).map (x :: ·) = _
    rw [strsOf_map r]
    rfl
theorem rp_strsOf {K : PySem.W.Frag} {F : Hp} : ∀ {ds : List D} {xs : List V} {ys : List Str}, RpAll K F xs ds → strsOf ds = some ys → xs = ys.map V.str
  | [], _, _, .nil, h => by cases h; rfl
  | .str x :: r, _, _, .cons h t, e => by
    have e : (strsOf r).map (x :: ·) = some _ := e
    cases q : strsOf r with
    | none => rw [q] at e; cases e
    | some z =>
      rw [q] at e
      cases e
      cases h
      rw [rp_strsOf t q]
      rfl
  | .non :: _, _, _, .cons h t, e => by cases e
  | .bl _ :: _, _, _, .cons h t, e => by cases e
  | .int _ :: _, _, _, .cons h t, e => by cases e
  | .lst _ :: _, _, _, .cons h t, e => by cases e
  | .tup _ :: _, _, _, .cons h t, e => by cases e
  | .fn _ :: _, _, _, .cons h t, e => by cases e
  | .ty _ :: _, _, _, .cons h t, e => by cases e
  | .dK _ :: _, _, _, .cons h t, e => by cases e
  | .dT _ :: _, _, _, .cons h t, e => by cases e
  | .arr _ :: _, _, _, .cons h t, e => by cases e
  | .pro _ :: _, _, _, .cons h t, e => by cases e
  | .dic _ _ _ _ :: _, _, _, .cons h t, e => by cases e
  | .adr _ :: _, _, _, .cons h t, e => by cases e
  | .ins _ _ _ :: _, _, _, .cons h t, e => by cases e
  | .tab _ _ _ :: _, _, _, .cons h t, e => by cases e
section
variable {X : Cx} {T : List (Addr × Str)} {W : WX}
end
end DN
/-! tuples of texts whose object is known: tuple(list), len, [], in, index, + -/
namespace DN
open PySem PySem.Spec PyProof.Rows L2
open LamX (Tabs ExtN)
def firstIx (z : Str) : List Str → Option Nat
  | [] => none
  | y :: r => if y = z then some 0 else (firstIx z r).map (· + 1)
theorem firstIx_some {z : Str} : ∀ {ys : List Str} {j : Nat}, firstIx z ys = some j → ys[j]? = some z ∧ ∀ m, m < j → ys[m]? ≠ some z
  | [], _, h => by cases h
  | y :: r, j, h => by
    have h : (if y = z then some 0 else (firstIx z r).map (· + 1)) = some j := h
    by_cases q : y = z
    · rw [if_pos q] at h
      cases h
      exact ⟨by rw [q]; rfl, fun m hm => by omega⟩
    · rw [if_neg q] at h
      cases e : firstIx z r with
      | none => rw [e] at h; cases h
      | some k =>
        rw [e] at h
        cases h
        obtain ⟨h1, h2⟩ := firstIx_some e
        refine ⟨by simpa using h1, fun m hm => ?_⟩
        cases m with
        | zero => simpa using q
        | succ m => simpa using h2 m (Nat.lt_of_succ_lt_succ hm)
def tupP : List D → Option D
  | [.lst ds] => (strsOf ds).map .pro
  | _ => none
def lenP : List D → Option D
  | [.pro xs] => some (.int xs.length)
  | _ => none
def ixP : D → D → Option D
  | .pro xs, .int i => (atI xs i).map .str
  | _, _ => none
def niP : D → D → Option D
  | .str x, .pro xs => some (.bl (!decide (x ∈ xs)))
  | _, _ => none
def indexP : D → List D → Option D
  | .pro xs, [.str z] => (firstIx z xs).map fun j => .int (j : Nat)
  | _, _ => none
section
variable {X : Cx} {T : List (Addr × Str)} {W : WX}
theorem ntF {o : Obj} {u : HO} : ∀ ps, HO.frz o u ≠ .tbl ps := fun ps z => by cases z
theorem c_tupP : CallR X (.type "tuple") (rDn X.K T tupP) := by
  intro pins s σ H xs us Q I r h
  obtain ⟨F, ds, z, hz, rs, hG, q⟩ := h
  unfold tupP at hG
  split at hG
  · rename_i ds
    obtain ⟨v, rfl, rv⟩ := all1 rs
    cases rv with
    | lst h1 r1 =>
      rename_i p ys
      cases e : strsOf ds with
      | none => rw [e] at hG; cases hG
      | some zs =>
        rw [e] at hG
        cases hG
        have ev := rp_strsOf r1 e
        subst ev
        obtain ⟨u, rfl, rx⟩ := vals1 r
        cases rx
        obtain ⟨its, r', pl, hzz⟩ := I.list (SqL.of (hz.sub _ _ h1))
        have hlen := r'.length
        refine call_tuple_list pl.isList (fun h' kp => ?_) (by simp only [List.size_toArray] <;> omega)
        have I1 : Inv X pins σ H { s with heap := h' } := I.kept (t' := s.toks) kp
        have I2 : Inv X pins σ (upd H h'.objs.size (.frz { cls := .type "tuple", data := .seq its.toArray } (.tup (zs.map V.str)))) { s with heap := h'.push { cls := .type "tuple", data := .seq its.toArray } } :=
          I1.laid (t' := s.toks) (fun b o e => Heap.get?_push_of_some _ e) (Nat.le_refl _) (show ObjOk X.prog X.w _ _ _ (.frz _ (.tup (zs.map V.str))) from ⟨Heap.get?_push_size _ rfl, hzz, its, r', IsTup.new _ _⟩)
        have hf := I1.hok.fresh (Nat.le_refl h'.objs.size)
        exact ⟨.ref h'.objs.size, _, I2, rfl, q _ _ _ (Nx.push hz hf ntF) (.pro ⟨_, rfl, rfl, upd_same⟩)⟩
  · cases hG
theorem sq_pro {K : PySem.W.Frag} {F H : Hp} {a : Addr} {xs : List Str} (hz : Fz F H) (h : ∃ o : Obj, o.cls = .type "tuple" ∧ o.dict = none ∧ F a = some (.frz o (.tup (xs.map V.str)))) : SqT K H a (xs.map V.str) := by
  obtain ⟨o, _, _, h⟩ := h
  exact .inl (.inr ⟨o, hz.sub _ _ h⟩)
theorem c_lenP : CallR X (.builtin "len") (rDn X.K T lenP) := by
  intro pins s σ H xs us Q I r h
  obtain ⟨F, ds, z, hz, rs, hG, q⟩ := h
  unfold lenP at hG
  split at hG
  · obtain ⟨v, rfl, rv⟩ := all1 rs
    cases hG
    cases rv with
    | pro h1 => exact call_len_seq pins s σ H _ us Q I r ⟨_, _, rfl, .inr (sq_pro hz h1), by rw [List.length_map]; exact done0 hz q (.int _)⟩
  · cases hG
theorem atI_str {ns : List Str} {i : Int} {z : D} (h : (atI ns i).map D.str = some z) : ∃ n, atI (ns.map V.str) i = some (.str n) ∧ z = .str n := by
  unfold atI at *
  rw [List.length_map]
  cases e : ixN ns.length i with
  | none => rw [e] at h; cases h
  | some k =>
    rw [e] at h
    simp only [Option.bind_some] at h ⊢
    cases e2 : ns[k]? with
    | none => rw [e2] at h; cases h
    | some n =>
      rw [e2] at h
      cases h
      exact ⟨n, by rw [List.getElem?_map, e2]; rfl, rfl⟩
theorem x_ixP : IxR X (rD2 X.K T ixP) := by
  intro value slice pins s σ H x y v u Q I rx ry h hs
  obtain ⟨F, d, e, z, hz, rd, re, hG, q⟩ := h
  unfold ixP at hG
  split at hG
  · rename_i xs i
    cases rd with
    | pro h1 =>
      cases re
      obtain ⟨n, hn, rfl⟩ := atI_str hG
      exact ix_tup value slice pins s σ H _ _ v u Q I rx ry ⟨_, _, i, .str n, rfl, rfl, sq_pro hz h1, hn, done0 hz q (.str _)⟩ hs
  · cases hG
theorem e_ixP {a b : Expr} {f g : Rho → Res D} {pos : Pos} (ha : DE X T W a f) (hb : DE X T W b g) (hs : PlainIx b := by exact fun _ _ => rfl) : DE X T W (.Subscript a b pos) (bop ixP f g) :=
  (pe_ix x_ixP ha hb hs).to fun _ _ _ h => bin_to h
theorem inV_strs {x : Str} : ∀ (xs : List Str), inV (.str x) (xs.map V.str) = decide (x ∈ xs)
  | [] => rfl
  | y :: r => by
    show (eqV (.str y) (.str x) || inV (.str x) (r.map V.str)) = _
    rw [inV_strs r]
    have e : eqV (.str y) (.str x) = decide (x = y) := by
      show (y == x) = _
      rw [Bool.eq_iff_iff, beq_iff_eq, decide_eq_true_eq]
      exact eq_comm
    rw [e]
    simp [List.mem_cons]
theorem o_niP : OpR X (compareOp .NotIn) (rD2 X.K T niP) := by
  intro pins s σ H x y v u Q I rx ry h
  obtain ⟨F, d, e, z, hz, rd, re, hG, q⟩ := h
  unfold niP at hG
  split at hG
  · cases hG
    cases rd
    cases re with
    | pro h1 =>
      refine op_notIn_seq pins s σ H _ _ v u Q I rx ry ⟨_, _, rfl, .inr (sq_pro hz h1), rfl, flat_strs _, ?_⟩
      show Q (.bl (!inV _ _)) H
      rw [inV_strs]
      exact done0 hz q (.bl _)
  · cases hG
/-! t.index(x), t a tuple whose object is known: one argument, by the kit's wpAny_Call_method1_late -/
def tBMk (r : V → List V → Hp → VK → Prop) (to : TE) (t : TA) : TE := fun σ H Q => to σ H fun x H1 => (∃ p o u, x = .ref p ∧ o.cls = .type "tuple" ∧ o.dict = none ∧ H1 p = some (.frz o u)) ∧ t σ H1 fun xs H2 => r x xs H2 Q
variable {o e : Expr} {to : TE} {t : TA} {apos cpos : Pos}
theorem pe_index1 {r : V → List V → Hp → VK → Prop} (hm : MtR X "tuple.index" r) (ho : PE X o to) (ha : PA X [e] t) (hb : attributeBase o "index" X.env (eval o X.env) = eval o X.env) (hl : (apos.endLine == cpos.line) = true)
    (hk : backTo cpos (starEach [e] X.env) = [(false, eval e X.env)]) : PE X (.Call (.Attribute o "index" apos) [e] [] cpos) (tBMk r to t) where
  run pins s σ H Q I h := by
    refine wpAny_Call_method1_late hb hl hk (wpAny_mono (ho.run pins s σ H _ I h) (fun v s1 q => ?_) fun _ _ z => z)
    obtain ⟨_, H1, J, rv, ⟨p, ob, u, rfl, c, d, k⟩, q⟩ := q
    have rv' := rv
    cases rv
    have got := (J.hok p _ k).1
    have args := ha.run cpos pins s1 σ H1 _ J q
    rw [hk] at args
    exact ⟨"tuple", _, PySem.F.plainAttrs_tuple, PySem.F.slot_tuple_index, PySem.F.type_tuple_index, ⟨ob, got, c⟩, fun _ z => Value.ref.inj z ▸ ⟨ob, got, d⟩,
      Calls.callWith_builtin rfl (Calls.evalArgs_plain (wpAny_mono args (fun us s2 ⟨vs, H2, J2, rs, q⟩ => hm pins s2 σ H2 _ vs _ us Q J2 rv' rs q) fun _ _ z => z))⟩
def metP (f : Rho → Res D) (g : Rho → Res (List D)) : Rho → Res D := fun ρ => (f ρ).bind fun d => match d with
  | .pro x => (g ρ).bind fun ds => ofO (indexP (.pro x) ds)
  | _ => .bad
theorem m_indexP : MtR X "tuple.index" (rDm X.K T indexP) := by
  intro pins s σ H x xs v us Q I rx rs h
  obtain ⟨F, d, ds, z, hz, rd, rds, hG, q⟩ := h
  unfold indexP at hG
  split at hG
  · rename_i ys y
    obtain ⟨v1, rfl, r1⟩ := all1 rds
    cases r1
    cases rd with
    | pro h1 =>
      cases e : firstIx y ys with
      | none => rw [e] at hG; cases hG
      | some j =>
        rw [e] at hG
        cases hG
        obtain ⟨k1, k2⟩ := firstIx_some e
        exact mt_tup_index pins s σ H _ _ v us Q I rx rs ⟨_, ys, y, j, rfl, rfl, sq_pro hz h1, k1, k2, done0 hz q (.int _)⟩
  · cases hG
theorem e_indexP {f : Rho → Res D} {g : Rho → Res (List D)} {pos : Pos} (ho : DE X T W o f) (ha : DA X T W [e] g) (h1 : attributeBase o "index" X.env (eval o X.env) = eval o X.env := by rfl)
    (h2 : (apos.endLine == pos.line) = true := by rfl) (h3 : backTo pos (starEach [e] X.env) = [(false, eval e X.env)] := by rfl) : DE X T W (.Call (.Attribute o "index" apos) [e] [] pos) (metP f g) :=
  (pe_index1 (m_indexP (T := T)) ho ha h1 h2 h3).to fun σ H Q ⟨ρ, F, a, h⟩ => by
    refine ⟨ρ, F, a, (aft.bind (R := Rp X.K) h).imp fun d _ v F1 H1 _ _ q => ?_⟩
    obtain ⟨b, F2, _, n, rv, q⟩ := q
    cases rv with
    | pro k =>
      obtain ⟨ob, k1, k2, k3⟩ := k
      refine ⟨⟨_, ob, _, rfl, k1, k2, n.z.sub _ _ k3⟩, ρ, F2, a.nx n, (aft.bind (R := RpAll X.K) q).imp fun ds _ vs F3 H3 _ _ q => ?_⟩
      obtain ⟨ds', F4, _, n2, rs, q⟩ := q
      obtain ⟨z, hz, q⟩ := ofO_ok q
      exact ⟨F4, _, ds', z, n2.z, .pro ⟨ob, k1, k2, n2.f _ _ k3⟩, rs, hz, q⟩
    | _ => exact q.elim
end
end DN
/-! str.replace: rules where a token is out -/
namespace DN
open PySem PySem.Spec PyProof.Rows L2
open LamX (Tabs ExtN)
section
variable {X : Cx} {T : List (Addr × Str)} {W : WX} {F0 H0 : Hp}
theorem PETto {e : Expr} {t u : TE} (h : PET X e t) (k : ∀ σ H Q, u σ H Q → t σ H Q) : PET X e u := fun pins s σ H Q h0 I q => h pins s σ H Q h0 I (k σ H Q q)
theorem PATto {es : List Expr} {t u : TA} (h : PAT X es t) (k : ∀ σ H Q, u σ H Q → t σ H Q) : PAT X es u := fun pos pins s σ H Q h0 I q => h pos pins s σ H Q h0 I (k σ H Q q)
theorem PSTto {st : Stmt} {t u : TS} (h : PST X st t) (k : ∀ D σ H, u D σ H → t D σ H) : PST X st u := fun pins s σ H D h0 I q => h pins s σ H D h0 I (k D σ H q)
theorem PSsTto {st : List Stmt} {t u : TS} (h : PSsT X st t) (k : ∀ D σ H, u D σ H → t D σ H) : PSsT X st u := fun pins s σ H D h0 I q => h pins s σ H D h0 I (k D σ H q)
abbrev DET (X : Cx) (T : List (Addr × Str)) (W : WX) (e : Expr) (f : Rho → Res D) : Prop := PET X e (tE X.K T W f)
abbrev DAT (X : Cx) (T : List (Addr × Str)) (W : WX) (es : List Expr) (f : Rho → Res (List D)) : Prop := PAT X es (tA X.K T W f)
theorem et_of {e : Expr} {f : Rho → Res D} (h : DE X T W e f) : DET X T W e f := CwR.PET.of h
def replD (y z : Str) : D → Option D
  | .str x => if x.length + (x.length + 1) * z.length ≤ 16777216 then some (.str (Txt.replace x y z)) else none
  | _ => none
theorem repl_to {o : Expr} {f : Rho → Res D} {y z : Str} {K : PySem.W.Frag} : ∀ σ H Q, tE K T W (una (replD y z) f) σ H Q → CwR.tReplC (tE K T W f) y z σ H Q := fun σ H Q ⟨ρ, F, a, h⟩ => by
  refine ⟨ρ, F, a, (aft.bind (R := Rp K) h).imp fun d _ v F1 H1 _ _ q => ?_⟩
  obtain ⟨b, F2, _, n, rv, q⟩ := q
  obtain ⟨z', hz, q⟩ := ofO_ok q
  unfold replD at hz
  split at hz
  · cases rv
    split at hz
    · rename_i hl
      cases hz
      exact ⟨_, rfl, hl, q _ F2 H1 (Nx.refl n.z) (.str _)⟩
    · cases hz
  · cases hz
theorem et_repl {o : Expr} {f : Rho → Res D} {y z : Str} {j k : Nat} {c0 c1 apos pos : Pos} (ho : DET X T W o f) (hyz : (y == z) = false := by decide +kernel)
    (hst : starEach [.Constant (.str y) j c0, .Constant (.str z) k c1] X.env = [(false, eval (.Constant (.str y) j c0) X.env), (false, eval (.Constant (.str z) k c1) X.env)] := by rfl)
    (hbase : attributeBase o "replace" X.env (eval o X.env) = eval o X.env := by rfl) (hline : (apos.endLine == pos.line) = true := by rfl) :
    DET X T W (.Call (.Attribute o "replace" apos) [.Constant (.str y) j c0, .Constant (.str z) k c1] [] pos) (una (replD y z) f) :=
  PETto (CwR.pet_replT ho hyz hst hbase hline) (repl_to (o := o))
theorem at_nil : DAT X T W [] anil := PATto pat_nil fun σ H Q ⟨ρ, F, a, h⟩ => h [] F H (Nx.refl a.z) .nil
theorem at_cons {e : Expr} {es : List Expr} {f : Rho → Res D} {g : Rho → Res (List D)} (he : DET X T W e f) (hs : DAT X T W es g) (hstar : starEach (e :: es) X.env = (false, eval e X.env) :: starEach es X.env := by rfl) : DAT X T W (e :: es) (acons f g) :=
  PATto (pat_cons he hs hstar) fun σ H Q ⟨ρ, F, a, h⟩ => by
    refine ⟨ρ, F, a, (aft.bind (R := Rp X.K) h).imp fun d _ v F1 H1 _ _ q => ?_⟩
    obtain ⟨b, F2, _, n, rv, q⟩ := q
    refine ⟨ρ, F2, a.nx n, (aft.bind (R := RpAll X.K) q).imp fun ds _ vs F3 H3 _ _ q => ?_⟩
    obtain ⟨ds', F4, _, n2, rs, q⟩ := q
    exact q.ok (Nx.refl n2.z) (.cons (rv.mono n2.f) rs)
theorem pet_callTy {T' : String} {x : Str} {r : List V → Hp → VK → Prop} {e : Expr} {es : List Expr} {t : TA} {p pos : Pos} (hc : CallR X (.type T') r) (hg : Gl X x) (hm : X.mg x = none) (hv : bootBuiltins x = some (.type T')) (ha : PAT X (e :: es) t) (hn : x ≠ "__name__" := by decide) (hdb : (x == ("__debug__" : Str)) = false := by decide)
    (he : starEach (e :: es) X.env = (false, eval e X.env) :: starEach es X.env := by rfl) (hpl : (backTo pos (starEach es X.env)).any (·.1) = false := by rfl) : PET X (.Call (.Name x p) (e :: es) [] pos) (tCB r t) := by
  intro pins s σ H Q h0 I h
  refine wpAny_Call_Name_kw (ld_blt I hg hm hv ?_ hn hdb)
  exact PyProof.Rows.callWith_type1 (thn (ha pos pins s σ H _ h0 I h) fun us s1 ⟨vs, H1, I1, r1, q1⟩ => hc pins s1 σ H1 vs us Q I1 r1 q1) he hpl
theorem et_callTy {T' : String} {x : Str} {G : List D → Option D} {e : Expr} {es : List Expr} {p pos : Pos} {f : Rho → Res (List D)} (hc : CallR X (.type T') (rDn X.K T G)) (hg : Gl X x) (hm : X.mg x = none) (hv : bootBuiltins x = some (.type T')) (ha : DAT X T W (e :: es) f)
    (hn : x ≠ "__name__" := by decide) (hdb : (x == ("__debug__" : Str)) = false := by decide) (he : starEach (e :: es) X.env = (false, eval e X.env) :: starEach es X.env := by rfl) (hpl : (backTo pos (starEach es X.env)).any (·.1) = false := by rfl) : DET X T W (.Call (.Name x p) (e :: es) [] pos) (cal G f) :=
  PETto (pet_callTy hc hg hm hv ha hn hdb he hpl) fun σ H Q h => cal_to h
theorem pet_callS {CX : CXT} {k : Nat} {f : Addr} {fd : FuncData} {ps : List Str} {sp : Sp} {x : Str} {E : L2.St → XK} {e : Expr} {es : List Expr} {t : TA} {p pos : Pos} (F : FnOk X.prog X.w X.K X.mg X.base CX k f fd ps sp) (hr : Room k X.A) (hg : Gl X x) (hm : X.mg x = some (.ref f)) (hk : PySem.W.keepIn X.K (.ref f) = true) (hb : Binds X.K fd ps []) (hx : ∀ σ, PassesAt CX X σ (E σ))
    (ha : PAT X (e :: es) t) (hdb : (x == ("__debug__" : Str)) = false := by decide) (he : starEach (e :: es) X.env = (false, eval e X.env) :: starEach es X.env := by rfl) (hpl : (backTo pos (starEach es X.env)).any (·.1) = false := by rfl) :
    PET X (.Call (.Name x p) (e :: es) [] pos) (tCallS sp E t) := by
  intro pins s σ H Q h0 I h
  refine wpAny_Call_Name_kw (ld_glob I hg hm ?_ hdb)
  refine PySem.W.callWith_K (h₀ := X.base) I.ok.mod.kin hk (thn (ha pos pins s σ H _ h0 I h) fun us s1 ⟨vs, H1, I1, r, q⟩ => ⟨I1.kIn, ?_⟩) he hpl
  exact run_fnS F hr hb (hx σ) I1 r q
theorem et_call {j k n : Nat} {x : Str} {den : List D → Res D} {e : Expr} {es : List Expr} {p pos : Pos} {f : Rho → Res (List D)} (O : OkD X.prog X.w X.K X.mg X.base T j x n den) (hr : Room k X.A) (tk : Takes X W) (hg : Gl X x) (ha : DAT X T W (e :: es) f) (hj : j ≤ k := by decide)
    (hdb : (x == ("__debug__" : Str)) = false := by decide) (he : starEach (e :: es) X.env = (false, eval e X.env) :: starEach es X.env := by rfl) (hpl : (backTo pos (starEach es X.env)).any (·.1) = false := by rfl) :
    DET X T W (.Call (.Name x p) (e :: es) [] pos) (callD n den f) := by
  obtain ⟨fd, ps, G, b⟩ := O.ex
  exact PETto (pet_callS (E := WE W) G (hr.mono hj) hg O.mg O.kp b (fun σ => passAt tk σ) ha hdb he hpl) fun _ _ _ h => call_to h
theorem pst_asg {tg e : Expr} {te : TE} {g : TG} {pos : Pos} (he : PET X e te) (hg : PG X tg g) (hs : swapsWithSole [tg] e pos.line X.env = pure false := by rfl) (hw : swappedStores [tg] e X.env = pure none := by rfl)
    (h1 : (assignEach [tg] X.env).map (·.2) = [assign tg X.env] := by rfl) : PST X (.Assign [tg] e pos) (tAsg te g) := by
  intro pins s σ H D h0 I h
  refine wpAny_Assign_stores (thn (he pins s σ H _ h0 I h) fun v s1 ⟨x, H1, I1, r1, q1⟩ => ?_) hs hw
  rw [h1]
  exact thn (hg.run pins s1 σ H1 x v _ I1 r1 q1) fun _ s2 q => q
end
end DN
/-! zip of two lists, of two tuples -/
namespace DN
open PySem PySem.Spec PyProof.Rows L2
open LamX (Tabs ExtN)
open RZ (ItzT iZipA pi_zipA)
section
variable {X : Cx} {T : List (Addr × Str)} {W : WX}
end
end DN
/-! x.replace(y, z, 1); statements behind which a token is out -/
namespace PySem
open Builtin Builtin.Str
section
variable {prog : Program} {w : World} {A : Around} {E : Value → Shared → Prop} {s : Shared} {x y z : Str} {t u v c : Tok} {Q : Value → Shared → Prop}
end
end PySem
namespace DN
open PySem PySem.Spec PyProof.Rows L2
open LamX (Tabs ExtN)
section
variable {X : Cx} {T : List (Addr × Str)} {W : WX} {F0 H0 : Hp}
end
end DN
/-! DN25: repr of nested tuples; a law whose body is read under the outermost call alone (no repr is under way there). -/
namespace DN
open PySem PySem.Spec PyProof.Rows L2
open LamX (Tabs ExtN TabB)

section
variable {X : Cx} {T : List (Addr × Str)}
end
/-! ### a law's def, read under the outermost call -/
/-! the heap at the law's entry: the script (if the head doesn't hold it) and the empty tables are tracked -/
section
variable {K : PySem.W.Frag} {cs : List (Addr × Addr)} {a b : Addr} {o : Obj} {ns : List Int} {h : Heap} {u : HO}
end
section
variable {l : PySem.W.OpenLaw} {w : World} {K : PySem.W.Frag} {n : Nat} {x : Str} {mg mb : Str → Option Value} {fa a : Addr} {fd : FuncData} {cs : List (Addr × Addr)} {sp : Sp} {s s' : Shared} {vs : List Value} {ns : List Int} {o : Obj}
end
end DN
/-! dicts of the frame's own whose keys are nested tuples -/
namespace DN
open PySem PySem.Spec PyProof.Rows L2
open LamX (Tabs ExtN)

section
variable {X : Cx} {pins : List (Addr × Obj)} {σ : L2.St} {F H : Hp} {s : Shared}
end
/-! ### looked up, stored -/
section
variable {K : PySem.W.Frag} {F : Hp} {es : List (NestedKey × Addr × V)} {ks vs : List D} {xs : List (NestedKey × Addr × Value)} {n : NestedKey}
end
/-! ### the operations, by the heap -/
section
variable {X : Cx}
theorem DicR.length {K : PySem.W.Frag} {F : Hp} {es : List (NestedKey × Addr × V)} {ks vs : List D} (r : DicR K F es ks vs) : es.length = ks.length := by
  induction r with
  | nil => rfl
  | cons _ _ _ _ _ ih => rw [List.length_cons, List.length_cons, ih]
end
/-! ### no dict is a code object -/
theorem tabs_updG {T : List (Addr × Str)} {H : Hp} {p : Addr} {o o' : HO} (h : Tabs T H) (e : H p = some o) (h1 : ∀ ps, o ≠ .tbl ps) (h2 : ∀ q, o ≠ LamX.CodeO p q) : Tabs T (upd H p o') := fun q hq => by
  obtain ⟨ps, k1, k2, k3⟩ := h q hq
  refine ⟨ps, ?_, k2, fun pos cv hc => ?_⟩
  · rw [upd_ne fun z => by rw [z, e] at k1; exact h1 ps (Option.some.inj k1)]; exact k1
  · obtain ⟨c, e1, e2⟩ := k3 pos cv hc
    refine ⟨c, e1, ?_⟩
    rw [upd_ne fun z => by subst z; rw [e] at e2; exact h2 _ (Option.some.inj e2)]; exact e2
section
variable {K : PySem.W.Frag} {T : List (Addr × Str)} {W : WX} {F0 H0 F H : Hp} {σ : L2.St} {ρ : Rho}
end
/-! ### by data -/
section
variable {X : Cx} {T : List (Addr × Str)} {W : WX} {F0 H0 : Hp}
end
end DN
/-! known tuples of texts: written ones, + -/
namespace DN
open PySem PySem.Spec PyProof.Rows L2
open LamX (Tabs ExtN)
section
variable {X : Cx} {T : List (Addr × Str)} {W : WX}
end
end DN
/-! M-mode: one slot holds a dict of text keys that is changed, also by callees -/
namespace DN
open PySem PySem.Spec PyProof.Rows L2
open LamX (Tabs ExtN)

/-! ### data without lists and dicts -/
mutual
def D.imm : D → Bool
  | .non => true
  | .bl _ => true
  | .int _ => true
  | .str _ => true
  | .fn _ => true
  | .ty _ => true
  | .adr _ => true
  | .pro _ => true
  | .pw _ => true
  | .tup ds => D.imms ds
  | _ => false
def D.imms : List D → Bool
  | [] => true
  | d :: ds => D.imm d && D.imms ds
end
/-- F without the addresses of S -/
def cut (F : Hp) (S : List Addr) : Hp := fun a => if a ∈ S then none else F a
theorem cut_in {F : Hp} {S : List Addr} {a : Addr} (h : a ∈ S) : cut F S a = none := if_pos h
theorem cut_out {F : Hp} {S : List Addr} {a : Addr} (h : a ∉ S) : cut F S a = F a := if_neg h
theorem cut_some {F : Hp} {S : List Addr} {a : Addr} {o : HO} (h : cut F S a = some o) : a ∉ S ∧ F a = some o := by
  by_cases e : a ∈ S
  · rw [cut_in e] at h; cases h
  · rw [cut_out e] at h; exact ⟨e, h⟩
/-- lists and dicts alone stand there -/
def Soft (F : Hp) (S : List Addr) : Prop := ∀ a ∈ S, ∀ o, F a = some o → (∃ xs, o = .lst xs) ∨ ∃ kvs, o = .dK kvs
theorem cut_sqT {K : PySem.W.Frag} {F : Hp} {S : List Addr} {a : Addr} {xs : List V} (h : SqT K F a xs) (hs : Soft F S) : SqT K (cut F S) a xs := by
  rcases h with h | h
  · refine .inl ?_
    rcases h with h | ⟨o, h⟩
    · refine .inl ?_
      rw [cut_out fun z => ?_]; exact h
      rcases hs a z _ h with ⟨_, e⟩ | ⟨_, e⟩ <;> cases e
    · refine .inr ⟨o, ?_⟩
      rw [cut_out fun z => ?_]; exact h
      rcases hs a z _ h with ⟨_, e⟩ | ⟨_, e⟩ <;> cases e
  · exact .inr h
mutual
theorem Rp.cutS {K : PySem.W.Frag} {F : Hp} {S : List Addr} (hs : Soft F S) : ∀ {v : V} {d : D}, Rp K F v d → d.imm = true → Rp K (cut F S) v d
  | _, _, .non, _ => .non
  | _, _, .bl b, _ => .bl b
  | _, _, .int i, _ => .int i
  | _, _, .str x, _ => .str x
  | _, _, .fn x, _ => .fn x
  | _, _, .ty n, _ => .ty n
  | _, _, .lst h t, e => by unfold D.imm at e; cases e
  | _, _, .tup h t, e => .tup (cut_sqT h hs) (RpAll.cutS hs t (by unfold D.imm at e; exact e))
  | _, _, .dK h, e => by unfold D.imm at e; cases e
  | _, _, .dT h, e => by unfold D.imm at e; cases e
  | _, _, .arr h, e => by unfold D.imm at e; cases e
  | _, _, .pro ⟨o, h1, h2, h3⟩, _ => .pro ⟨o, h1, h2, by
      rw [cut_out fun z => ?_]; exact h3
      rcases hs _ z _ h3 with ⟨_, e⟩ | ⟨_, e⟩ <;> cases e⟩
  | _, _, .pw h, _ => .pw (by
      rw [cut_out fun z => ?_]; exact h
      rcases hs _ z _ h with ⟨_, e⟩ | ⟨_, e⟩ <;> cases e)
  | _, _, .adr a, _ => .adr a
  | _, _, .frm h t, e => by unfold D.imm at e; cases e
  | _, _, .tab h1 h2 h3 t, e => by unfold D.imm at e; cases e
theorem RpAll.cutS {K : PySem.W.Frag} {F : Hp} {S : List Addr} (hs : Soft F S) : ∀ {vs : List V} {ds : List D}, RpAll K F vs ds → D.imms ds = true → RpAll K (cut F S) vs ds
  | _, _, .nil, _ => .nil
  | _, _, .cons h t, e => by
    unfold D.imms at e
    rw [Bool.and_eq_true] at e
    exact .cons (Rp.cutS hs h e.1) (RpAll.cutS hs t e.2)
end
/-! ### the state -/
/-- the fields: tuples and flat things, or own lists of such (their addresses) -/
inductive Flds (K : PySem.W.Frag) (F H : Hp) : List V → List D → List Addr → Prop
  | nil : Flds K F H [] [] []
  | imm {v : V} {d : D} {vs : List V} {ds : List D} {S : List Addr} : d.imm = true → Rp K F v d → Flds K F H vs ds S → Flds K F H (v :: vs) (d :: ds) S
  | lst {a : Addr} {xs : List V} {es : List D} {vs : List V} {ds : List D} {S : List Addr} : H a = some (.lst xs) → RpAll K F xs es → D.imms es = true → Flds K F H vs ds S → Flds K F H (.ref a :: vs) (.lst es :: ds) (a :: S)
abbrev MSt := List Str × List D
structure StAt (K : PySem.W.Frag) (F H : Hp) (p : Addr) (m : MSt) (S : List Addr) : Prop where
  ex : ∃ ws S', S = p :: S' ∧ H p = some (.dK (kvK m.1 ws)) ∧ m.1.length = ws.length ∧ Flds K F H ws m.2 S'
  nd : S.Nodup
  out : ∀ a ∈ S, F a = none
  nk : m.1.Nodup
theorem Flds.solid {K : PySem.W.Frag} {F H : Hp} {ws : List V} {ds : List D} {S : List Addr} (h : Flds K F H ws ds S) : ∀ a ∈ S, ∃ xs, H a = some (.lst xs) := by
  induction h with
  | nil => intro a h; cases h
  | imm _ _ _ ih => exact ih
  | lst h _ _ _ ih =>
    intro a ha
    rcases List.mem_cons.mp ha with rfl | ha
    · exact ⟨_, h⟩
    · exact ih a ha
theorem StAt.solid {K : PySem.W.Frag} {F H : Hp} {p : Addr} {m : MSt} {S : List Addr} (h : StAt K F H p m S) : ∀ a ∈ S, ∃ o, H a = some o ∧ ((∃ xs, o = .lst xs) ∨ ∃ kvs, o = .dK kvs) := by
  obtain ⟨ws, S', rfl, h1, _, h2⟩ := h.ex
  intro a ha
  rcases List.mem_cons.mp ha with rfl | ha
  · exact ⟨_, h1, .inr ⟨_, rfl⟩⟩
  · obtain ⟨xs, e⟩ := h2.solid a ha
    exact ⟨_, e, .inl ⟨_, rfl⟩⟩
theorem StAt.soft {K : PySem.W.Frag} {F H F' H' : Hp} {p : Addr} {m : MSt} {S : List Addr} (h : StAt K F H p m S) (e : ∀ a ∈ S, ∀ o, F' a = some o → H a = some o) : Soft F' S := fun a ha o ho => by
  obtain ⟨o', h1, h2⟩ := h.solid a ha
  rw [e a ha o ho] at h1
  cases h1
  exact h2
theorem soft_nt {o : HO} (h : (∃ xs, o = .lst xs) ∨ ∃ kvs, o = .dK kvs) : ∀ ps, o ≠ .tbl ps := fun ps z => by
  rcases h with ⟨_, e⟩ | ⟨_, e⟩ <;> (rw [e] at z; cases z)
theorem StAt.mem {K : PySem.W.Frag} {F H : Hp} {p : Addr} {m : MSt} {S : List Addr} (h : StAt K F H p m S) : p ∈ S := by
  obtain ⟨_, _, rfl, _⟩ := h.ex
  exact List.mem_cons_self
theorem Flds.mono {K : PySem.W.Frag} {F H F' H' : Hp} {ws : List V} {ds : List D} {S : List Addr} (sf : Sub F F') (sh : ∀ a ∈ S, ∀ xs, H a = some (.lst xs) → H' a = some (.lst xs)) (h : Flds K F H ws ds S) : Flds K F' H' ws ds S := by
  induction h with
  | nil => exact .nil
  | imm e r _ ih => exact .imm e (r.mono sf) (ih sh)
  | lst h r e _ ih => exact .lst (sh _ List.mem_cons_self _ h) (r.mono sf) e (ih fun a ha => sh a (List.mem_cons_of_mem _ ha))
section
variable {K : PySem.W.Frag} {T : List (Addr × Str)} {W : WX} {F0 G F H F1 H1 : Hp} {σ : L2.St} {ρ : Rho} {p : Addr} {m : MSt} {S : List Addr}
theorem StAt.nx (h : StAt K F H p m S) (n : Nx T F H F1 H1) : StAt K F1 H1 p m S where
  ex := by
    obtain ⟨ws, S', e, h1, hl, h2⟩ := h.ex
    exact ⟨ws, S', e, n.keep h1 (fun ps z => by cases z), hl, h2.mono n.f fun a _ xs e => n.keep e fun ps z => by cases z⟩
  nd := h.nd
  nk := h.nk
  out := fun a ha => by
    obtain ⟨o, h1, h2⟩ := h.solid a ha
    exact n.out h1 (soft_nt h2) (h.out a ha) fun xs z => by rcases h2 with ⟨_, e⟩ | ⟨_, e⟩ <;> (rw [e] at z; cases z)
/-! ### lent: the state stands in the frozen part for a while -/
def lend (F H : Hp) (S : List Addr) : Hp := fun a => if a ∈ S then H a else F a
theorem lend_in {a : Addr} (h : a ∈ S) : lend F H S a = H a := if_pos h
theorem lend_out {a : Addr} (h : a ∉ S) : lend F H S a = F a := if_neg h
theorem lend_sub (h : ∀ a ∈ S, F a = none) : Sub F (lend F H S) := fun a o e => by
  rw [lend_out fun z => by rw [h a z] at e; cases e]; exact e
theorem lend_z (z : Fz F H) (h : StAt K F H p m S) : Fz (lend F H S) H where
  sub := fun a o e => by
    by_cases ha : a ∈ S
    · rw [lend_in ha] at e; exact e
    · rw [lend_out ha] at e; exact z.sub a o e
  nt := fun a ps e => by
    by_cases ha : a ∈ S
    · rw [lend_in ha] at e
      obtain ⟨o, h1, h2⟩ := h.solid a ha
      rw [e] at h1; cases h1
      exact soft_nt h2 ps rfl
    · rw [lend_out ha] at e; exact z.nt a ps e
theorem lend_flds {ws : List V} {ds : List D} {S' : List Addr} (sb : ∀ a ∈ S', a ∈ S) (sf : Sub F (lend F H S)) (h : Flds K F H ws ds S') : RpAll K (lend F H S) ws ds := by
  induction h with
  | nil => exact .nil
  | imm e r _ ih => exact .cons (r.mono sf) (ih sb)
  | lst h r e _ ih => exact .cons (.lst (by rw [lend_in (sb _ List.mem_cons_self)]; exact h) (r.mono sf)) (ih fun a ha => sb a (List.mem_cons_of_mem _ ha))
theorem lend_rp (h : StAt K F H p m S) : Rp K (lend F H S) (.ref p) (.tab (some p) m.1 m.2) := by
  obtain ⟨ws, S', e, h1, hl, h2⟩ := h.ex
  exact .tab (fun q e => Option.some.inj e) (by rw [lend_in h.mem]; exact h1) hl (lend_flds (fun a ha => by rw [e]; exact List.mem_cons_of_mem _ ha) (lend_sub h.out) h2)
/-- given back: what was made stays frozen, the state does not -/
theorem cut_nx (h : StAt K F H p m S) (z : Fz F H) (n : Nx T (lend F H S) H F1 H1) : Nx T F H (cut F1 S) H1 where
  f := fun a o e => by
    have ha : a ∉ S := fun q => by rw [h.out a q] at e; cases e
    rw [cut_out ha]
    exact n.f a o (lend_sub h.out a o e)
  z := ⟨fun a o e => n.z.sub a o (cut_some e).2, fun a ps e => n.z.nt a ps (cut_some e).2⟩
  h := n.h
  new := fun a o e => by
    obtain ⟨ha, e⟩ := cut_some e
    rcases n.new a o e with q | q
    · rw [lend_out ha] at q; exact .inl q
    · exact .inr q
  tab := n.tab
theorem cut_soft (h : StAt K F H p m S) (n : Nx T (lend F H S) H F1 H1) : Soft F1 S := fun a ha o e => by
  obtain ⟨o', h1, h2⟩ := h.solid a ha
  have := n.f a o' (by rw [lend_in ha]; exact h1)
  rw [e] at this; cases this
  exact h2
end
end DN
namespace DN
open PySem PySem.Spec PyProof.Rows L2
open LamX (Tabs ExtN)

/-! ### M-mode: statements -/
inductive SM where
  | nx (ρ : Rho) (m : MSt) | fin (b : Bool) (m : MSt) | rt (d : D) | ex (n : Str) | bad
def Free (G : Hp) (S : List Addr) : Prop := ∀ a ∈ S, ∀ o, G a = some o → ∃ ps, o = HO.tbl ps
structure Mg (K : PySem.W.Frag) (T : List (Addr × Str)) (F0 G F H : Hp) (σ : L2.St) (ρ : Rho) (i : Nat) (p : Addr) (m : MSt) (S : List Addr) : Prop where
  at_ : At K T F H σ ρ
  nx : Nx T F0 G F H
  no : ∀ (j : Nat) (d : D), ρ[j]? ≠ some (En.o d)
  me : ρ[i]? = some (En.z (.adr p))
  st : StAt K F H p m S
  fr : Free G S
def aftM (K : PySem.W.Frag) (T : List (Addr × Str)) (W : WX) (F0 G F : Hp) (i : Nat) (p : Addr) (Z : Ends) : SM → Prop
  | .nx ρ m => ∀ σ F' H' S, Mg K T F0 G F' H' σ ρ i p m S → Sub F F' → Z.nx σ H'
  | .fin b m => ∀ F' H' S, Nx T F0 G F' H' → StAt K F' H' p m S → Free G S → Z.rt (if b = true then .ref p else .non) H'
  | .rt d => ∀ v F' H', Nx T F0 G F' H' → Rp K F' v d → Z.rt v H'
  | .ex n => ∀ σ F' H', Nx T F0 G F' H' → W (.ref (He.ga K n)) none σ H'
  | .bad => False
def tM (K : PySem.W.Frag) (T : List (Addr × Str)) (W : WX) (F0 G : Hp) (i : Nat) (s : Rho → MSt → SM) : TS := fun Z σ H => ∃ ρ F p m S, Mg K T F0 G F H σ ρ i p m S ∧ aftM K T W F0 G F i p Z (s ρ m)
abbrev DM (X : Cx) (T : List (Addr × Str)) (W : WX) (F0 G : Hp) (i : Nat) (st : Stmt) (s : Rho → MSt → SM) : Prop := PS X st (tM X.K T W F0 G i s)
abbrev DMs (X : Cx) (T : List (Addr × Str)) (W : WX) (F0 G : Hp) (i : Nat) (st : List Stmt) (s : Rho → MSt → SM) : Prop := PSs X st (tM X.K T W F0 G i s)
section
variable {K : PySem.W.Frag} {T : List (Addr × Str)} {W : WX} {F0 G F H F1 H1 : Hp} {σ : L2.St} {ρ : Rho} {i : Nat} {p : Addr} {m : MSt} {S : List Addr} {Z : Ends}
theorem aftM.mono {r : SM} (e : Sub F F1) (h : aftM K T W F0 G F i p Z r) : aftM K T W F0 G F1 i p Z r := by
  cases r with
  | nx ρ m => exact fun σ F' H' S g s => h σ F' H' S g (e.trans s)
  | fin b m => exact h
  | rt d => exact h
  | ex n => exact h
  | bad => exact h
theorem Mg.step (g : Mg K T F0 G F H σ ρ i p m S) (n : Nx T F H F1 H1) : Mg K T F0 G F1 H1 σ ρ i p m S := ⟨g.at_.nx n, g.nx.trans n, g.no, g.me, g.st.nx n, g.fr⟩
theorem Mg.sg (g : Mg K T F0 G F H σ ρ i p m S) : Sg K T F H F H σ ρ := ⟨g.at_, Nx.refl g.at_.z, fun j d q h1 => absurd h1 (g.no j d)⟩
end
def adrOf (i : Nat) (ρ : Rho) : Option Addr := match ρ[i]? with
  | some (.z (.adr p)) => some p
  | _ => none
theorem adrOf_ok {i : Nat} {ρ : Rho} {p : Addr} (h : adrOf i ρ = some p) : ρ[i]? = some (En.z (.adr p)) := by
  unfold adrOf at h
  split at h
  · rename_i e; cases h; exact e
  · cases h
theorem adrOf_me {i : Nat} {ρ : Rho} {p : Addr} (h : ρ[i]? = some (En.z (.adr p))) : adrOf i ρ = some p := by
  unfold adrOf; rw [h]
def noOwn (ρ : Rho) : Bool := ρ.all fun e => match e with
  | .o _ => false
  | _ => true
theorem noOwn_ok {ρ : Rho} (h : noOwn ρ = true) (j : Nat) (d : D) : ρ[j]? ≠ some (En.o d) := fun e => by
  have := List.all_eq_true.mp h _ (List.mem_of_getElem? e)
  cases this
/-- a statement of the base layer that does not look at the state -/
def mstU (i : Nat) (s : Rho → SR) : Rho → MSt → SM := fun ρ m => match s ρ with
  | .nx ρ' => if noOwn ρ' = true ∧ adrOf i ρ' = adrOf i ρ then .nx ρ' m else .bad
  | .rt d => .rt d
  | .ex n _ => .ex n
  | _ => .bad
def lent (i : Nat) (ρ : Rho) (m : MSt) : Rho := match adrOf i ρ with
  | some p => ρ.set i (.z (.tab (some p) m.1 m.2))
  | none => ρ
def tabOf (i : Nat) (ρ : Rho) : Option Addr := match ρ[i]? with
  | some (.z (.tab o _ _)) => o
  | _ => none
def clean : En → En
  | .z d => if d.imm = true then .z d else .u
  | _ => .u
def cleanR (i : Nat) (p : Addr) (ρ : Rho) : Rho := (ρ.map clean).set i (.z (.adr p))
/-- a statement of the base layer, the state lent -/
def mst (i : Nat) (s : Rho → SR) : Rho → MSt → SM := fun ρ m => match s (lent i ρ m) with
  | .nx ρ' => (match tabOf i ρ' with
    | some p => if adrOf i ρ = some p then .nx (cleanR i p ρ') m else .bad
    | none => .bad)
  | .rt d => if d.imm = true then .rt d else .bad
  | .ex n _ => .ex n
  | _ => .bad
section
variable {K : PySem.W.Frag} {T : List (Addr × Str)} {W : WX} {F0 G F H F1 H1 : Hp} {σ : L2.St} {ρ : Rho} {i : Nat} {p : Addr} {m : MSt} {S : List Addr} {Z : Ends}
theorem lent_me (h : ρ[i]? = some (En.z (.adr p))) : lent i ρ m = ρ.set i (.z (.tab (some p) m.1 m.2)) := by
  unfold lent; rw [adrOf_me h]
theorem Mg.lent (g : Mg K T F0 G F H σ ρ i p m S) : At K T (lend F H S) H σ (DN.lent i ρ m) := by
  rw [lent_me g.me]
  have sb := lend_sub (H := H) g.st.out
  obtain ⟨v, h1, h2⟩ := g.at_.r.z i _ g.me
  cases h2
  have r : Rl K (lend F H S) H σ ρ := ⟨g.at_.r.len, fun j d e => let ⟨v, h1, h2⟩ := g.at_.r.z j d e; ⟨v, h1, h2.mono sb⟩, fun j d e => absurd e (g.no j d), fun j k d e q1 q2 _ h => absurd h (g.no j d)⟩
  have il : i < ρ.length := (List.getElem?_eq_some_iff.mp g.me).1
  have e : σ.set i (some (V.ref p)) = σ := by
    refine List.ext_getElem? fun j => ?_
    rw [List.getElem?_set]
    split
    · rename_i hij; subst hij
      rw [if_pos (by rw [g.at_.r.len]; exact il), h1]
    · rfl
  have := r.set (i := i) (lend_rp g.st)
  rw [e] at this
  exact ⟨lend_z g.at_.z g.st, g.at_.t, this⟩
theorem Mg.lsg (g : Mg K T F0 G F H σ ρ i p m S) : Sg K T (lend F H S) H (lend F H S) H σ (DN.lent i ρ m) := ⟨g.lent, Nx.refl g.lent.z, fun j d q h1 => by
  rw [lent_me g.me, List.getElem?_set] at h1
  split at h1
  · split at h1 <;> cases h1
  · exact absurd h1 (g.no j d)⟩
/-- an expression evaluated with the state lent -/
theorem Mg.back (g : Mg K T F0 G F H σ ρ i p m S) (n : Nx T (lend F H S) H F1 H1) : Mg K T F0 G (cut F1 S) H1 σ ρ i p m S ∧ Nx T F H (cut F1 S) H1 := ⟨g.step (cut_nx g.st g.at_.z n), cut_nx g.st g.at_.z n⟩
theorem clean_rl {σ' : L2.St} {ρ' : Rho} (g : Mg K T F0 G F H σ ρ i p m S) (g' : Sg K T (lend F H S) H F1 H1 σ' ρ') (h : tabOf i ρ' = some p) : Mg K T F0 G (cut F1 S) H1 σ' (cleanR i p ρ') i p m S := by
  obtain ⟨g1, n1⟩ := g.back g'.nx
  have sf := cut_soft g.st g'.nx
  unfold tabOf at h
  split at h
  · rename_i o ks vs e
    cases h
    obtain ⟨v, h1, h2⟩ := g'.at_.r.z i _ e
    cases h2 with
    | @tab a _ _ _ _ k1 k2 k3 k4 =>
      have ea : a = p := k1 p rfl
      rw [ea] at h1
      have il : i < ρ'.length := (List.getElem?_eq_some_iff.mp e).1
      have me : (cleanR i p ρ')[i]? = some (En.z (.adr p)) := by
        unfold cleanR
        rw [List.getElem?_set, if_pos rfl, if_pos (by rw [List.length_map]; exact il)]
      have oth : ∀ j en, (cleanR i p ρ')[j]? = some en → (j = i ∧ en = .z (.adr p)) ∨ en = .u ∨ ∃ d, en = .z d ∧ d.imm = true ∧ ρ'[j]? = some (.z d) := fun j en hj => by
        unfold cleanR at hj
        rw [List.getElem?_set] at hj
        split at hj
        · rename_i hij
          split at hj
          · cases hj; exact .inl ⟨hij.symm, rfl⟩
          · cases hj
        · rw [List.getElem?_map] at hj
          cases q : ρ'[j]? with
          | none => rw [q] at hj; cases hj
          | some en' =>
            rw [q] at hj
            have hj : clean en' = en := Option.some.inj hj
            subst hj
            cases en' with
            | u => exact .inr (.inl rfl)
            | o d => exact .inr (.inl rfl)
            | z d =>
              by_cases hd : d.imm = true
              · exact .inr (.inr ⟨d, if_pos hd, hd, rfl⟩)
              · exact .inr (.inl (if_neg hd))
      refine ⟨⟨g1.at_.z, g1.at_.t, ?_, fun j d hj => ?_, fun j d hj => ?_, fun j k d e q1 q2 _ hj => ?_⟩, g1.nx, fun j d hj => ?_, me, g1.st, g1.fr⟩
      · unfold cleanR
        rw [List.length_set, List.length_map]; exact g'.at_.r.len
      · rcases oth j _ hj with ⟨rfl, q⟩ | q | ⟨d', q, hd, q2⟩
        · cases q; exact ⟨_, h1, .adr _⟩
        · cases q
        · cases q
          obtain ⟨v, k1, k2⟩ := g'.at_.r.z j _ q2
          exact ⟨v, k1, k2.cutS sf hd⟩
      all_goals
        rcases oth j _ hj with ⟨_, q⟩ | q | ⟨d', q, _⟩ <;> cases q
  · cases h
end
section
variable {X : Cx} {T : List (Addr × Str)} {W : WX} {F0 G : Hp} {i : Nat}
theorem m_nil : DMs X T W F0 G i [] .nx := pss_nil.to fun Z σ H ⟨ρ, F, p, m, S, g, h⟩ => h σ F H S g (Sub.refl F)
def mseq (s t : Rho → MSt → SM) : Rho → MSt → SM := fun ρ m => match s ρ m with
  | .nx ρ' m' => t ρ' m'
  | r => r
theorem Mg.adr {K : PySem.W.Frag} {F H : Hp} {σ : L2.St} {ρ : Rho} {p q : Addr} {m m' : MSt} {S S' : List Addr} {F1 H1 : Hp} (g : Mg K T F0 G F H σ ρ i p m S) (e : ρ[i]? = some (En.z (.adr q))) : p = q := by
  rw [g.me] at e; cases e; rfl
theorem m_cons {st : Stmt} {rest : List Stmt} {s t : Rho → MSt → SM} (h : DM X T W F0 G i st s) (h2 : DMs X T W F0 G i rest t) : DMs X T W F0 G i (st :: rest) (mseq s t) :=
  (pss_cons h h2).to fun Z σ H ⟨ρ, F, p, m, S, g, h⟩ => by
    refine ⟨ρ, F, p, m, S, g, ?_⟩
    unfold mseq at h
    cases e : s ρ m with
    | nx ρ' m' =>
      rw [e] at h
      exact fun σ' F' H' S' g' sb => ⟨ρ', F', p, m', S', g', aftM.mono sb h⟩
    | fin b m' => rw [e] at h; exact h
    | rt d => rw [e] at h; exact h
    | ex n => rw [e] at h; exact h
    | bad => rw [e] at h; exact h
theorem m_one {st : Stmt} {s : Rho → MSt → SM} (h : DM X T W F0 G i st s) : DMs X T W F0 G i [st] s := pss_one h
theorem m_stU {st : Stmt} {s : Rho → SR} (h : ∀ F0 H0, DS X T W F0 H0 st s) : DM X T W F0 G i st (mstU i s) :=
  ⟨fun pins sh σ H Z I ⟨ρ, F, p, m, S, g, q⟩ => (h F H).run pins sh σ H Z I ⟨ρ, F, g.sg, by
    unfold mstU at q
    cases e : s ρ with
    | nx ρ' =>
      rw [e] at q
      have q : aftM X.K T W F0 G F i p Z (if noOwn ρ' = true ∧ adrOf i ρ' = adrOf i ρ then .nx ρ' m else .bad) := q
      split at q
      · rename_i hc
        refine fun σ' F' H' g' sb => q σ' F' H' S ⟨g'.at_, g.nx.trans g'.nx, noOwn_ok hc.1, ?_, g.st.nx g'.nx, g.fr⟩ sb
        rw [adrOf_me g.me] at hc
        exact adrOf_ok hc.2
      · exact q.elim
    | rt d => rw [e] at q; exact fun v F' H' n r => q v F' H' (g.nx.trans n) r
    | ex n ρ' => rw [e] at q; exact fun σ' F' H' g' _ => q σ' F' H' (g.nx.trans g'.nx)
    | bk ρ' => rw [e] at q; exact q.elim
    | ct ρ' => rw [e] at q; exact q.elim
    | bad => rw [e] at q; exact q⟩⟩
theorem m_st {st : Stmt} {s : Rho → SR} (h : ∀ F0 H0, DS X T W F0 H0 st s) : DM X T W F0 G i st (mst i s) :=
  ⟨fun pins sh σ H Z I ⟨ρ, F, p, m, S, g, q⟩ => (h (lend F H S) H).run pins sh σ H Z I ⟨_, lend F H S, g.lsg, by
    unfold mst at q
    cases e : s (DN.lent i ρ m) with
    | nx ρ' =>
      rw [e] at q
      have q : aftM X.K T W F0 G F i p Z (match tabOf i ρ' with
        | some p => if adrOf i ρ = some p then .nx (cleanR i p ρ') m else .bad
        | none => .bad) := q
      cases e2 : tabOf i ρ' with
      | none => rw [e2] at q; exact q.elim
      | some p' =>
        rw [e2, adrOf_me g.me] at q
        have q : aftM X.K T W F0 G F i p Z (if some p = some p' then .nx (cleanR i p' ρ') m else .bad) := q
        split at q
        · rename_i hp
          cases hp
          exact fun σ' F' H' g' sb => q σ' (cut F' S) H' S (clean_rl g g' e2) (cut_nx g.st g.at_.z g'.nx).f
        · exact q.elim
    | rt d =>
      rw [e] at q
      have q : aftM X.K T W F0 G F i p Z (if d.imm = true then .rt d else .bad) := q
      split at q
      · rename_i hd
        exact fun v F' H' n r => q v (cut F' S) H' (g.nx.trans (cut_nx g.st g.at_.z n)) (r.cutS (cut_soft g.st n) hd)
      · exact q.elim
    | ex n ρ' => rw [e] at q; exact fun σ' F' H' g' _ => q σ' (cut F' S) H' (g.nx.trans (cut_nx g.st g.at_.z g'.nx))
    | bk ρ' => rw [e] at q; exact q.elim
    | ct ρ' => rw [e] at q; exact q.elim
    | bad => rw [e] at q; exact q⟩⟩
def mif (i : Nat) (f : Rho → Res Bool) (s t : Rho → MSt → SM) : Rho → MSt → SM := fun ρ m => match f (lent i ρ m) with
  | .ok b => if b = true then s ρ m else t ρ m
  | .ex n => .ex n
  | .bad => .bad
theorem m_if {c : Expr} {a b : List Stmt} {pos : Pos} {f : Rho → Res Bool} {s t : Rho → MSt → SM} (hc : DQ X T W c f) (ha : DMs X T W F0 G i a s) (hb : DMs X T W F0 G i b t) : DM X T W F0 G i (.If c a b pos) (mif i f s t) :=
  (ps_if hc ha hb).to fun Z σ H ⟨ρ, F, p, m, S, g, h⟩ => by
    refine ⟨_, lend F H S, g.lent, ?_⟩
    unfold mif at h
    cases e : f (DN.lent i ρ m) with
    | ok b =>
      rw [e] at h
      refine fun v F1 H1 n rv => ?_
      obtain rfl : v = b := rv
      obtain ⟨g1, n1⟩ := g.back n
      cases v with
      | true => exact ⟨ρ, _, p, m, S, g1, aftM.mono n1.f h⟩
      | false => exact ⟨ρ, _, p, m, S, g1, aftM.mono n1.f h⟩
    | ex n =>
      rw [e] at h
      exact fun F1 H1 n => h σ _ H1 (g.nx.trans (g.back n).2)
    | bad => rw [e] at h; exact h
theorem m_retN {pos : Pos} : DM X T W F0 G i (.Return none pos) (fun _ m => .fin false m) := ps_retN.to fun Z σ H ⟨ρ, F, p, m, S, g, h⟩ => h F H S g.nx g.st g.fr
theorem m_retS {x : Str} {pp pos : Pos} (hv : PE X (.Name x pp) (tVar i)) : DM X T W F0 G i (.Return (some (.Name x pp)) pos) (fun _ m => .fin true m) :=
  (ps_ret hv).to fun Z σ H ⟨ρ, F, p, m, S, g, h⟩ => by
    obtain ⟨v, h1, h2⟩ := g.at_.r.z i _ g.me
    cases h2
    exact ⟨_, h1, h F H S g.nx g.st g.fr⟩
end
end DN
namespace DN
open PySem PySem.Spec PyProof.Rows L2
open LamX (Tabs ExtN)

/-! ### the state is changed -/
def fset {α : Type} : List Str → List α → Str → α → List α
  | k :: ks, w :: ws, x, v => (if k = x then v else w) :: fset ks ws x v
  | _, ws, _, _ => ws
def fget {α : Type} : List Str → List α → Str → Option α
  | k :: ks, w :: ws, x => if k = x then some w else fget ks ws x
  | _, _, _ => none
theorem fset_len {α : Type} : ∀ (ks : List Str) (ws : List α) (x : Str) (v : α), (fset ks ws x v).length = ws.length
  | [], _, _, _ => rfl
  | _ :: _, [], _, _ => rfl
  | k :: ks, w :: ws, x, v => by
    show (fset ks ws x v).length + 1 = ws.length + 1
    rw [fset_len ks ws x v]
theorem fset_out {α : Type} : ∀ (ks : List Str) (ws : List α) (x : Str) (v : α), x ∉ ks → fset ks ws x v = ws
  | [], _, _, _, _ => rfl
  | _ :: _, [], _, _, _ => rfl
  | k :: ks, w :: ws, x, v, h => by
    show (if k = x then v else w) :: fset ks ws x v = _
    rw [if_neg fun e => h (by rw [e]; exact List.mem_cons_self), fset_out ks ws x v fun e => h (List.mem_cons_of_mem _ e)]
theorem kv_any (x : Str) : ∀ (ks : List Str) (ws : List V), ks.length = ws.length → ((kvK ks ws).any fun kv => decide (kv.1 = Sum.inr x)) = decide (x ∈ ks)
  | [], [], _ => rfl
  | k :: ks, w :: ws, h => by
    show (decide ((Sum.inr k : Key) = Sum.inr x) || (kvK ks ws).any fun kv => decide (kv.1 = Sum.inr x)) = _
    rw [kv_any x ks ws (by simpa using h)]
    by_cases e : k = x
    · subst e; simp
    · have e2 : ¬ (Sum.inr k : Key) = Sum.inr x := fun z => e (Sum.inr.inj z)
      have e3 : ¬ x = k := fun z => e z.symm
      simp [e2, e3]
theorem put_kvK {x : Str} {v : V} {ks : List Str} {ws : List V} (hl : ks.length = ws.length) (hx : x ∈ ks) : putK (kvK ks ws) (Sum.inr x) v = kvK ks (fset ks ws x v) := by
  unfold putK
  rw [if_pos (by rw [kv_any x ks ws hl]; exact decide_eq_true hx)]
  clear hx
  induction ks generalizing ws with
  | nil => cases ws <;> rfl
  | cons k ks ih =>
    cases ws with
    | nil => rfl
    | cons w ws =>
      show (if (Sum.inr k : Key) = Sum.inr x then ((Sum.inr k : Key), v) else (Sum.inr k, w)) :: (kvK ks ws).map _ = (Sum.inr k, if k = x then v else w) :: kvK ks (fset ks ws x v)
      rw [ih (by simpa using hl)]
      by_cases e : k = x
      · subst e; rw [if_pos rfl, if_pos rfl]
      · rw [if_neg fun z => e (Sum.inr.inj z), if_neg e]
theorem get_kvK {x : Str} : ∀ {ks : List Str} {ws : List V}, valV (kvK ks ws) (Sum.inr x) = fget ks ws x
  | [], ws => by cases ws <;> rfl
  | k :: ks, [] => rfl
  | k :: ks, w :: ws => by
    by_cases e : k = x
    · rw [show fget (k :: ks) (w :: ws) x = some w from if_pos e]
      exact valV_pos (p := (Sum.inr k, w)) (by rw [e])
    · rw [show fget (k :: ks) (w :: ws) x = fget ks ws x from if_neg e, ← get_kvK (ks := ks)]
      exact valV_neg (p := (Sum.inr k, w)) fun z => e (Sum.inr.inj z)
section
variable {K : PySem.W.Frag} {T : List (Addr × Str)} {W : WX} {F0 G F H F1 H1 : Hp} {σ : L2.St} {ρ : Rho} {i : Nat} {p : Addr} {m m' : MSt} {S S' : List Addr} {Z : Ends}
theorem Flds.length {ws : List V} {ds : List D} (h : Flds K F H ws ds S) : ws.length = ds.length := by
  induction h with
  | nil => rfl
  | imm _ _ _ ih => rw [List.length_cons, List.length_cons, ih]
  | lst _ _ _ _ ih => rw [List.length_cons, List.length_cons, ih]
theorem Flds.setI {ws : List V} {ds : List D} {x : Str} {v : V} {d : D} (hd : d.imm = true) (r : Rp K F v d) (h : Flds K F H ws ds S) : ∀ (ks : List Str), ∃ S', S'.Sublist S ∧ Flds K F H (fset ks ws x v) (fset ks ds x d) S' := by
  induction h with
  | nil => intro ks; cases ks <;> exact ⟨[], List.Sublist.refl _, .nil⟩
  | @imm v0 d0 vs ds S e r0 h ih =>
    intro ks
    cases ks with
    | nil => exact ⟨S, List.Sublist.refl _, .imm e r0 h⟩
    | cons k ks =>
      obtain ⟨S', s1, s2⟩ := ih ks
      refine ⟨S', s1, ?_⟩
      show Flds K F H ((if k = x then v else v0) :: _) ((if k = x then d else d0) :: _) S'
      by_cases hk : k = x
      · rw [if_pos hk, if_pos hk]; exact .imm hd r s2
      · rw [if_neg hk, if_neg hk]; exact .imm e r0 s2
  | @lst a xs es vs ds S hx r0 e h ih =>
    intro ks
    cases ks with
    | nil => exact ⟨_, List.Sublist.refl _, .lst hx r0 e h⟩
    | cons k ks =>
      obtain ⟨S', s1, s2⟩ := ih ks
      show ∃ S'', List.Sublist S'' (a :: S) ∧ Flds K F H ((if k = x then v else .ref a) :: _) ((if k = x then d else .lst es) :: _) S''
      by_cases hk : k = x
      · rw [if_pos hk, if_pos hk]; exact ⟨S', s1.cons _, .imm hd r s2⟩
      · rw [if_neg hk, if_neg hk]; exact ⟨a :: S', s1.cons_cons _, .lst hx r0 e s2⟩
theorem Flds.setL {ws : List V} {ds : List D} {x : Str} {b : Addr} {ys : List V} {fs : List D} (hb : H b = some (.lst ys)) (rb : RpAll K F ys fs) (hf : D.imms fs = true) (h : Flds K F H ws ds S) : S.Nodup → b ∉ S → ∀ (ks : List Str), ks.Nodup →
    ∃ S', S'.Nodup ∧ (∀ a ∈ S', a = b ∨ a ∈ S) ∧ (x ∉ ks → S' = S) ∧ Flds K F H (fset ks ws x (.ref b)) (fset ks ds x (.lst fs)) S' := by
  induction h with
  | nil => intro nd nb ks nk; cases ks <;> exact ⟨[], nd, (fun a ha => by cases ha), fun _ => rfl, .nil⟩
  | @imm v0 d0 vs ds S e r0 h ih =>
    intro nd nb ks nk
    cases ks with
    | nil => exact ⟨S, nd, fun a ha => .inr ha, fun _ => rfl, .imm e r0 h⟩
    | cons k ks =>
      rw [List.nodup_cons] at nk
      obtain ⟨S', s1, s2, s3, s4⟩ := ih nd nb ks nk.2
      show ∃ S'', S''.Nodup ∧ (∀ a ∈ S'', a = b ∨ a ∈ S) ∧ (x ∉ k :: ks → S'' = S) ∧ Flds K F H ((if k = x then V.ref b else v0) :: _) ((if k = x then D.lst fs else d0) :: _) S''
      by_cases hk : k = x
      · subst hk
        rw [if_pos rfl, if_pos rfl]
        have := s3 nk.1
        subst this
        exact ⟨b :: S', List.nodup_cons.mpr ⟨nb, nd⟩, fun a ha => List.mem_cons.mp ha, fun q => absurd List.mem_cons_self q, .lst hb rb hf s4⟩
      · rw [if_neg hk, if_neg hk]
        exact ⟨S', s1, s2, fun q => s3 fun z => q (List.mem_cons_of_mem _ z), .imm e r0 s4⟩
  | @lst a xs es vs ds S hx r0 e h ih =>
    intro nd nb ks nk
    cases ks with
    | nil => exact ⟨_, nd, fun a ha => .inr ha, fun _ => rfl, .lst hx r0 e h⟩
    | cons k ks =>
      rw [List.nodup_cons] at nk
      have nd' := List.nodup_cons.mp nd
      have nb' : b ∉ S := fun q => nb (List.mem_cons_of_mem _ q)
      have nba : a ≠ b := fun q => nb (by rw [q]; exact List.mem_cons_self)
      obtain ⟨S', s1, s2, s3, s4⟩ := ih nd'.2 nb' ks nk.2
      show ∃ S'', S''.Nodup ∧ (∀ c ∈ S'', c = b ∨ c ∈ a :: S) ∧ (x ∉ k :: ks → S'' = a :: S) ∧ Flds K F H ((if k = x then V.ref b else .ref a) :: _) ((if k = x then D.lst fs else .lst es) :: _) S''
      by_cases hk : k = x
      · subst hk
        rw [if_pos rfl, if_pos rfl]
        have := s3 nk.1
        subst this
        exact ⟨b :: S', List.nodup_cons.mpr ⟨nb', nd'.2⟩, fun c hc => (List.mem_cons.mp hc).imp id (List.mem_cons_of_mem _), fun q => absurd List.mem_cons_self q, .lst hb rb hf s4⟩
      · rw [if_neg hk, if_neg hk]
        refine ⟨a :: S', List.nodup_cons.mpr ⟨fun q => ?_, s1⟩, fun c hc => ?_, fun q => by rw [s3 fun z => q (List.mem_cons_of_mem _ z)], .lst hx r0 e s4⟩
        · rcases s2 a q with z | z
          · exact nba z
          · exact nd'.1 z
        · rcases List.mem_cons.mp hc with z | z
          · exact .inr (by rw [z]; exact List.mem_cons_self)
          · exact (s2 c z).imp id (List.mem_cons_of_mem _)
theorem soft_code {o : HO} {a : Addr} (h : (∃ xs, o = .lst xs) ∨ ∃ kvs, o = .dK kvs) : ∀ q, o ≠ LamX.CodeO a q := fun q z => by
  unfold LamX.CodeO at z
  rcases h with ⟨_, e⟩ | ⟨_, e⟩ <;> (rw [e] at z; cases z)
theorem Mg.put {q : Addr} {o' : HO} (g : Mg K T F0 G F H σ ρ i p m S) (hq : q ∈ S) (st : StAt K F (upd H q o') p m' S') (fr : Free G S') : Mg K T F0 G F (upd H q o') σ ρ i p m' S' := by
  obtain ⟨o, h1, h2⟩ := g.st.solid q hq
  have fq := g.st.out q hq
  have z1 : Fz F (upd H q o') := ⟨fun b u eb => by
    rw [upd_ne fun z => by rw [z, fq] at eb; cases eb]; exact g.at_.z.sub _ _ eb, g.at_.z.nt⟩
  refine ⟨⟨z1, tabs_updG g.at_.t h1 (soft_nt h2) (soft_code h2), ⟨g.at_.r.len, g.at_.r.z, fun j d e => absurd e (g.no j d), fun j k d e q1 q2 _ h => absurd h (g.no j d)⟩⟩, ⟨g.nx.f, z1, fun b u eb no => ?_, g.nx.new, fun t => tabs_updG (g.nx.tab t) h1 (soft_nt h2) (soft_code h2)⟩, g.no, g.me, st, fr⟩
  rw [upd_ne fun z => by
    subst z
    obtain ⟨ps, k⟩ := g.fr b hq u eb
    exact no ps k]
  exact g.nx.h _ _ eb no
theorem StAt.setI {x : Str} {v : V} {d : D} (h : StAt K F H p m S) (hd : d.imm = true) (r : Rp K F v d) (hx : x ∈ m.1) : ∃ ws S', H p = some (.dK (kvK m.1 ws)) ∧ m.1.length = ws.length ∧ (∀ a ∈ S', a ∈ S) ∧ StAt K F (upd H p (.dK (putK (kvK m.1 ws) (Sum.inr x) v))) p (m.1, fset m.1 m.2 x d) S' := by
  obtain ⟨ws, S0, rfl, h1, hl, h2⟩ := h.ex
  obtain ⟨S', s1, s2⟩ := h2.setI hd r (x := x) m.1
  have nd := List.nodup_cons.mp h.nd
  refine ⟨ws, p :: S', h1, hl, fun a ha => ?_, ⟨_, S', rfl, by rw [upd_same, put_kvK hl hx], by rw [fset_len]; exact hl, s2.mono (Sub.refl F) fun a ha xs e => ?_⟩, ?_, fun a ha => ?_, h.nk⟩
  · rcases List.mem_cons.mp ha with z | z
    · rw [z]; exact List.mem_cons_self
    · exact List.mem_cons_of_mem _ (s1.subset z)
  · rw [upd_ne fun z => nd.1 (by rw [← z]; exact s1.subset ha)]; exact e
  · exact List.nodup_cons.mpr ⟨fun z => nd.1 (s1.subset z), nd.2.sublist s1⟩
  · rcases List.mem_cons.mp ha with z | z
    · rw [z]; exact h.out p List.mem_cons_self
    · exact h.out a (List.mem_cons_of_mem _ (s1.subset z))
theorem StAt.setL {x : Str} {b : Addr} {ys : List V} {fs : List D} (h : StAt K F H p m S) (hf : D.imms fs = true) (hb : H b = some (.lst ys)) (fb : F b = none) (rb : RpAll K F ys fs) (nb : b ∉ S) (hx : x ∈ m.1) :
    ∃ ws S', H p = some (.dK (kvK m.1 ws)) ∧ m.1.length = ws.length ∧ (∀ a ∈ S', a = b ∨ a ∈ S) ∧ StAt K F (upd H p (.dK (putK (kvK m.1 ws) (Sum.inr x) (.ref b)))) p (m.1, fset m.1 m.2 x (.lst fs)) S' := by
  obtain ⟨ws, S0, rfl, h1, hl, h2⟩ := h.ex
  have nd := List.nodup_cons.mp h.nd
  have nb0 : b ∉ S0 := fun z => nb (List.mem_cons_of_mem _ z)
  have nbp : b ≠ p := fun z => nb (by rw [z]; exact List.mem_cons_self)
  obtain ⟨S', s1, s2, _, s4⟩ := h2.setL hb rb hf nd.2 nb0 (x := x) m.1 h.nk
  have np : p ∉ S' := fun z => (s2 p z).elim (fun e => nbp e.symm) nd.1
  refine ⟨ws, p :: S', h1, hl, fun a ha => ?_, ⟨_, S', rfl, by rw [upd_same, put_kvK hl hx], by rw [fset_len]; exact hl, s4.mono (Sub.refl F) fun a ha xs e => ?_⟩, List.nodup_cons.mpr ⟨np, s1⟩, fun a ha => ?_, h.nk⟩
  · rcases List.mem_cons.mp ha with z | z
    · exact .inr (by rw [z]; exact List.mem_cons_self)
    · exact (s2 a z).imp id (List.mem_cons_of_mem _)
  · rw [upd_ne fun z => np (by rw [← z]; exact ha)]; exact e
  · rcases List.mem_cons.mp ha with z | z
    · rw [z]; exact h.out p List.mem_cons_self
    · rcases s2 a z with z | z
      · rw [z]; exact fb
      · exact h.out a (List.mem_cons_of_mem _ z)
end
def mput (i : Nat) (k : Str) (f : Rho → Res D) : Rho → MSt → SM := fun ρ m => match f (lent i ρ m) with
  | .ok d => if d.imm = true ∧ k ∈ m.1 ∧ m.1.length < sizeLine then .nx ρ (m.1, fset m.1 m.2 k d) else .bad
  | .ex n => .ex n
  | .bad => .bad
def mputL (i : Nat) (k : Str) (f : Rho → Res D) : Rho → MSt → SM := fun ρ m => match f (lent i ρ m) with
  | .ok (.lst ds) => if D.imms ds = true ∧ k ∈ m.1 ∧ m.1.length < sizeLine then .nx ρ (m.1, fset m.1 m.2 k (.lst ds)) else .bad
  | .ok _ => .bad
  | .ex n => .ex n
  | .bad => .bad
section
variable {X : Cx} {T : List (Addr × Str)} {W : WX} {F0 G : Hp} {i : Nat}
theorem kvK_len {ks : List Str} {ws : List V} (h : ks.length = ws.length) : (kvK ks ws).length = ks.length := by
  unfold kvK
  rw [List.length_map, List.length_zip]
  omega
theorem m_put {x k : Str} {j : Nat} {e : Expr} {p kp spos pos : Pos} {f : Rho → Res D} (hu : X.A.units + 1 < cLine) (hv : PE X (.Name x p) (tVar i)) (he : DE X T W e f)
    (ha : ∀ v, assign (.Subscript (.Name x p) (.Constant (.str k) j kp) spos) X.env v = (do
      let ov ← holding [v] (eval (.Name x p) X.env)
      let iv ← holding [v, ov] (eval (.Constant (.str k) j kp) X.env)
      standAt spos
      holding [v, ov, iv] (setItem ov iv v)
      release [v, ov, iv] []) := by intro _; rfl)
    (hs : swapsWithSole [.Subscript (.Name x p) (.Constant (.str k) j kp) spos] e pos.line X.env = pure false := by rfl) (hw : swappedStores [.Subscript (.Name x p) (.Constant (.str k) j kp) spos] e X.env = pure none := by rfl)
    (h1 : (assignEach [.Subscript (.Name x p) (.Constant (.str k) j kp) spos] X.env).map (·.2) = [assign (.Subscript (.Name x p) (.Constant (.str k) j kp) spos) X.env] := by rfl) :
    DM X T W F0 G i (.Assign [.Subscript (.Name x p) (.Constant (.str k) j kp) spos] e pos) (mput i k f) :=
  (ps_asg he (pg_sub hv pe_str (set_dict hu) ha) hs hw h1).to fun Z σ H ⟨ρ, F, p, m, S, g, h⟩ => by
    refine ⟨_, lend F H S, g.lent, ?_⟩
    unfold mput at h
    cases e : f (DN.lent i ρ m) with
    | ok d =>
      rw [e] at h
      have h : aftM X.K T W F0 G F i p Z (if d.imm = true ∧ k ∈ m.1 ∧ m.1.length < sizeLine then .nx ρ (m.1, fset m.1 m.2 k d) else .bad) := h
      split at h
      · rename_i hc
        refine fun v F1 H1 n rv => ?_
        obtain ⟨g1, n1⟩ := g.back n
        have rv' := rv.cutS (cut_soft g.st n) hc.1
        obtain ⟨ws, S', k1, kl, k2, k3⟩ := g1.st.setI hc.1 rv' hc.2.1
        obtain ⟨u, e1, e2⟩ := g1.at_.r.z i _ g1.me
        cases e2
        refine ⟨_, e1, _, _, rfl, DPut.k (k := Sum.inr k) k1 (by rw [kvK_len kl]; exact hc.2.2), ?_⟩
        exact h σ _ _ S' (g1.put g1.st.mem k3 fun a ha => g1.fr a (k2 a ha)) n1.f
      · exact h.elim
    | ex n =>
      rw [e] at h
      exact fun F1 H1 n => h σ _ H1 (g.nx.trans (g.back n).2)
    | bad => rw [e] at h; exact h
theorem m_putL {x k : Str} {j : Nat} {e : Expr} {p kp spos pos : Pos} {f : Rho → Res D} (hu : X.A.units + 1 < cLine) (hv : PE X (.Name x p) (tVar i)) (he : DOw X T W e f)
    (ha : ∀ v, assign (.Subscript (.Name x p) (.Constant (.str k) j kp) spos) X.env v = (do
      let ov ← holding [v] (eval (.Name x p) X.env)
      let iv ← holding [v, ov] (eval (.Constant (.str k) j kp) X.env)
      standAt spos
      holding [v, ov, iv] (setItem ov iv v)
      release [v, ov, iv] []) := by intro _; rfl)
    (hs : swapsWithSole [.Subscript (.Name x p) (.Constant (.str k) j kp) spos] e pos.line X.env = pure false := by rfl) (hw : swappedStores [.Subscript (.Name x p) (.Constant (.str k) j kp) spos] e X.env = pure none := by rfl)
    (h1 : (assignEach [.Subscript (.Name x p) (.Constant (.str k) j kp) spos] X.env).map (·.2) = [assign (.Subscript (.Name x p) (.Constant (.str k) j kp) spos) X.env] := by rfl) :
    DM X T W F0 G i (.Assign [.Subscript (.Name x p) (.Constant (.str k) j kp) spos] e pos) (mputL i k f) :=
  (ps_asg he (pg_sub hv pe_str (set_dict hu) ha) hs hw h1).to fun Z σ H ⟨ρ, F, p, m, S, g, h⟩ => by
    refine ⟨_, lend F H S, g.lent, ?_⟩
    unfold mputL at h
    cases e : f (DN.lent i ρ m) with
    | ok d =>
      rw [e] at h
      cases d with
      | lst ds =>
        have h : aftM X.K T W F0 G F i p Z (if D.imms ds = true ∧ k ∈ m.1 ∧ m.1.length < sizeLine then .nx ρ (m.1, fset m.1 m.2 k (.lst ds)) else .bad) := h
        split at h
        · rename_i hc
          refine fun b vs F1 H1 n fb hb rb frb => ?_
          obtain ⟨g1, n1⟩ := g.back n
          have nb : b ∉ S := fun z => by
            obtain ⟨o, q1, q2⟩ := g.st.solid b z
            obtain ⟨ps, q3⟩ := frb o q1
            exact soft_nt q2 ps q3
          obtain ⟨ws, S', k1, kl, k2, k3⟩ := g1.st.setL hc.1 hb (by rw [cut_out nb]; exact fb) (rb.cutS (cut_soft g.st n) hc.1) nb hc.2.1
          obtain ⟨u, e1, e2⟩ := g1.at_.r.z i _ g1.me
          cases e2
          refine ⟨_, e1, _, _, rfl, DPut.k (k := Sum.inr k) k1 (by rw [kvK_len kl]; exact hc.2.2), ?_⟩
          refine h σ _ _ S' (g1.put g1.st.mem k3 fun a ha => ?_) n1.f
          rcases k2 a ha with z | z
          · intro o ho
            rw [z] at ho
            by_cases q : ∃ ps, o = .tbl ps
            · exact q
            · exact frb o (g.nx.h b o ho fun ps z => q ⟨ps, z⟩)
          · exact g1.fr a z
        · exact h.elim
      | _ => exact h.elim
    | ex n =>
      rw [e] at h
      exact fun F1 H1 n => h σ _ H1 (g.nx.trans (g.back n).2)
    | bad => rw [e] at h; exact h
end
end DN
namespace DN
open PySem PySem.Spec PyProof.Rows L2
open LamX (Tabs ExtN)

/-! ### a dict of text keys is read -/
theorem fget_rp {K : PySem.W.Frag} {F : Hp} {x : Str} : ∀ {ks : List Str} {ws : List V} {ds : List D}, RpAll K F ws ds → ∀ d, fget ks ds x = some d → ∃ v, fget ks ws x = some v ∧ Rp K F v d
  | [], _, _, _, d, h => by cases h
  | k :: ks, _, _, .nil, d, h => by cases h
  | k :: ks, _, _, .cons (v := v) (ds := ds) (d := d0) r t, d, h => by
    have h : (if k = x then some d0 else fget ks ds x) = some d := h
    show ∃ v', (if k = x then some v else fget ks _ x) = some v' ∧ _
    by_cases e : k = x
    · rw [if_pos e] at h ⊢
      cases h
      exact ⟨v, rfl, r⟩
    · rw [if_neg e] at h ⊢
      exact fget_rp t d h
def tabix (f fk : Rho → Res D) : Rho → Res D := fun ρ => (f ρ).bind fun d => (fk ρ).bind fun k => match d, k with
  | .tab _ ks vs, .str z => ofO (fget ks vs z)
  | _, _ => .bad
section
variable {X : Cx} {T : List (Addr × Str)} {W : WX} {F0 G : Hp} {i : Nat}
theorem e_tabix {o k : Expr} {pos : Pos} {f fk : Rho → Res D} (hu : X.A.units + 1 < cLine) (ho : DE X T W o f) (hk : DE X T W k fk) (hs : NoSl k := by exact fun _ _ => rfl) : DE X T W (.Subscript o k pos) (tabix f fk) :=
  (pe_dget hu ho hk hs).to fun σ H Q ⟨ρ, F, a, h⟩ => by
    refine ⟨ρ, F, a, (aft.bind (R := Rp X.K) h).imp fun d _ v F1 H1 _ _ q => ?_⟩
    obtain ⟨d', F2, _, n, rv, q⟩ := q
    refine ⟨ρ, F2, a.nx n, (aft.bind (R := Rp X.K) q).imp fun d _ w F3 H3 _ _ q => ?_⟩
    obtain ⟨k', F4, _, n2, rk, q⟩ := q
    cases rv with
    | @tab a o ks ws ds k1 k2 k3 k4 =>
      cases rk with
      | str z =>
        obtain ⟨d, hz, q⟩ := ofO_ok (show aft (Rp X.K) X.K T W σ F4 H3 Q (ofO (fget ks ds z)) from q)
        obtain ⟨v, e1, e2⟩ := fget_rp k4 d hz
        exact ⟨_, v, rfl, by
          have g := DGet.k (H := H3) (k := Sum.inr z) (n2.z.sub _ _ (n2.f _ _ k2))
          rw [get_kvK, e1] at g
          exact g, q v F4 H3 (Nx.refl n2.z) (e2.mono n2.f)⟩
      | _ => exact q.elim
    | _ => exact q.elim
/-! ### an own list of the state is changed -/
def mputN (i : Nat) (k : Str) (fk f : Rho → Res D) : Rho → MSt → SM := fun ρ m => match f (lent i ρ m) with
  | .ok d => if d.imm = true then (match fget m.1 m.2 k with
    | some (.lst ds) => (match fk (lent i ρ m) with
      | .ok (.int j) => (match ixN ds.length j with
        | some n => .nx ρ (m.1, fset m.1 m.2 k (.lst (ds.set n d)))
        | none => .bad)
      | .ok _ => .bad
      | .ex n => .ex n
      | .bad => .bad)
    | _ => .bad) else .bad
  | .ex n => .ex n
  | .bad => .bad
theorem imms_set {d : D} (hd : d.imm = true) : ∀ {ds : List D} {n : Nat}, D.imms ds = true → D.imms (ds.set n d) = true
  | [], _, h => h
  | e :: ds, 0, h => by
    unfold D.imms at h
    rw [Bool.and_eq_true] at h
    show D.imms (d :: ds) = true
    unfold D.imms
    rw [hd, h.2]; rfl
  | e :: ds, n + 1, h => by
    unfold D.imms at h
    rw [Bool.and_eq_true] at h
    show D.imms (e :: ds.set n d) = true
    unfold D.imms
    rw [h.1, imms_set hd h.2]; rfl
/-- the list of the field k -/
theorem Flds.at_ {K : PySem.W.Frag} {F H : Hp} {x : Str} {ws : List V} {ds : List D} {S : List Addr} (h : Flds K F H ws ds S) : S.Nodup → ∀ (ks : List Str), ks.Nodup → ∀ {es : List D}, fget ks ds x = some (.lst es) →
    ∃ a xs, fget ks ws x = some (.ref a) ∧ a ∈ S ∧ H a = some (.lst xs) ∧ RpAll K F xs es ∧ D.imms es = true ∧
      ∀ ys fs, RpAll K F ys fs → D.imms fs = true → Flds K F (upd H a (.lst ys)) ws (fset ks ds x (.lst fs)) S := by
  induction h with
  | nil => intro _ ks _ es e; cases ks <;> cases e
  | @imm v0 d0 vs ds S hi r0 h ih =>
    intro nd ks nk es e
    cases ks with
    | nil => cases e
    | cons k ks =>
      rw [List.nodup_cons] at nk
      have e : (if k = x then some d0 else fget ks ds x) = some (.lst es) := e
      by_cases hk : k = x
      · rw [if_pos hk] at e
        cases e
        unfold D.imm at hi; cases hi
      · rw [if_neg hk] at e
        obtain ⟨a, xs, h1, h2, h3, h4, h5, h6⟩ := ih nd ks nk.2 e
        refine ⟨a, xs, ?_, h2, h3, h4, h5, fun ys fs r hf => ?_⟩
        · show (if k = x then some v0 else fget ks vs x) = _
          rw [if_neg hk]; exact h1
        · show Flds K F _ _ ((if k = x then D.lst fs else d0) :: _) S
          rw [if_neg hk]
          exact .imm hi r0 (h6 ys fs r hf)
  | @lst a xs es0 vs ds S hx r0 hi h ih =>
    intro nd ks nk es e
    have nd' := List.nodup_cons.mp nd
    cases ks with
    | nil => cases e
    | cons k ks =>
      rw [List.nodup_cons] at nk
      have e : (if k = x then some (D.lst es0) else fget ks ds x) = some (.lst es) := e
      by_cases hk : k = x
      · rw [if_pos hk] at e
        cases e
        refine ⟨a, xs, ?_, List.mem_cons_self, hx, r0, hi, fun ys fs r hf => ?_⟩
        · show (if k = x then some (V.ref a) else fget ks vs x) = _
          rw [if_pos hk]
        · show Flds K F _ _ ((if k = x then D.lst fs else D.lst es0) :: fset ks ds x (.lst fs)) (a :: S)
          rw [if_pos hk, fset_out ks ds x _ (by rw [← hk]; exact nk.1)]
          exact .lst upd_same r hf (h.mono (Sub.refl F) fun b hb zs q => by rw [upd_ne fun z => nd'.1 (by rw [← z]; exact hb)]; exact q)
      · rw [if_neg hk] at e
        obtain ⟨b, zs, h1, h2, h3, h4, h5, h6⟩ := ih nd'.2 ks nk.2 e
        refine ⟨b, zs, ?_, List.mem_cons_of_mem _ h2, h3, h4, h5, fun ys fs r hf => ?_⟩
        · show (if k = x then some (V.ref a) else fget ks vs x) = _
          rw [if_neg hk]; exact h1
        · show Flds K F _ _ ((if k = x then D.lst fs else D.lst es0) :: _) (a :: S)
          rw [if_neg hk]
          exact .lst (by rw [upd_ne fun z => nd'.1 (by rw [z]; exact h2)]; exact hx) r0 hi (h6 ys fs r hf)
theorem StAt.at_ {K : PySem.W.Frag} {F H : Hp} {p : Addr} {m : MSt} {S : List Addr} {x : Str} {es : List D} (h : StAt K F H p m S) (e : fget m.1 m.2 x = some (.lst es)) :
    ∃ ws a xs, H p = some (.dK (kvK m.1 ws)) ∧ fget m.1 ws x = some (.ref a) ∧ a ∈ S ∧ H a = some (.lst xs) ∧ RpAll K F xs es ∧ D.imms es = true ∧
      ∀ ys fs, RpAll K F ys fs → D.imms fs = true → StAt K F (upd H a (.lst ys)) p (m.1, fset m.1 m.2 x (.lst fs)) S := by
  obtain ⟨ws, S0, rfl, h1, hl, h2⟩ := h.ex
  have nd := List.nodup_cons.mp h.nd
  obtain ⟨a, xs, k1, k2, k3, k4, k5, k6⟩ := h2.at_ nd.2 m.1 h.nk e
  refine ⟨ws, a, xs, h1, k1, List.mem_cons_of_mem _ k2, k3, k4, k5, fun ys fs r hf => ⟨⟨ws, S0, rfl, ?_, hl, k6 ys fs r hf⟩, h.nd, h.out, h.nk⟩⟩
  rw [upd_ne fun z => nd.1 (by rw [z]; exact k2)]; exact h1
theorem putN_to {k : Str} {f fk : Rho → Res D} : ∀ Z σ H, tM X.K T W F0 G i (mputN i k fk f) Z σ H → tAsg (tE X.K T W f) (gSub (tDGet (tVar i) (tC (.str k))) (tE X.K T W fk) rSetL) Z σ H := fun Z σ H ⟨ρ, F, p, m, S, g, h⟩ => by
    refine ⟨_, lend F H S, g.lent, ?_⟩
    unfold mputN at h
    cases e : f (DN.lent i ρ m) with
    | ex n =>
      rw [e] at h
      exact fun F1 H1 n => h σ _ H1 (g.nx.trans (g.back n).2)
    | bad => rw [e] at h; exact h
    | ok d =>
      rw [e] at h
      by_cases hd : d.imm = true
      · replace h : aftM X.K T W F0 G F i p Z (if d.imm = true then (match fget m.1 m.2 k with
          | some (.lst ds) => (match fk (DN.lent i ρ m) with
            | .ok (.int j) => (match ixN ds.length j with
              | some n => .nx ρ (m.1, fset m.1 m.2 k (.lst (ds.set n d)))
              | none => .bad)
            | .ok _ => .bad
            | .ex n => .ex n
            | .bad => .bad)
          | _ => .bad) else .bad) := h
        rw [if_pos hd] at h
        split at h
        · rename_i ds ef
          refine fun v F1 H1 n rv => ?_
          obtain ⟨g1, n1⟩ := g.back n
          have rv' := rv.cutS (cut_soft g.st n) hd
          obtain ⟨ws, a, xs, k1, k2, k3, k4, k5, k6, k7⟩ := g1.st.at_ ef
          obtain ⟨u, e1, e2⟩ := g1.at_.r.z i _ g1.me
          cases e2
          refine ⟨_, e1, _, .ref a, rfl, by
            have q := DGet.k (H := H1) (k := Sum.inr k) k1
            rw [get_kvK, k2] at q
            exact q, ?_⟩
          have h := aftM.mono n1.f h
          refine ⟨_, lend (cut F1 S) H1 S, g1.lent, ?_⟩
          cases ek : fk (DN.lent i ρ m) with
          | ex n =>
            rw [ek] at h
            exact fun F2 H2 n => h σ _ H2 (g1.nx.trans (g1.back n).2)
          | bad => rw [ek] at h; exact h
          | ok kd =>
            rw [ek] at h
            refine fun w F2 H2 n2 rw' => ?_
            obtain ⟨g2, n3⟩ := g1.back n2
            cases rw' with
            | int jj =>
              have h : aftM X.K T W F0 G (cut F1 S) i p Z (match ixN ds.length jj with
                | some n => .nx ρ (m.1, fset m.1 m.2 k (.lst (ds.set n d)))
                | none => .bad) := h
              cases hm : ixN ds.length jj with
              | none => rw [hm] at h; exact h.elim
              | some nn =>
                rw [hm] at h
                obtain ⟨ws', a', xs', q1, q2, q3, q4, q5, q6, q7⟩ := g2.st.at_ ef
                have ea : a' = a := by
                  have z := n3.keep k1 (fun ps z => by cases z)
                  rw [q1] at z
                  have z : kvK m.1 ws' = kvK m.1 ws := HO.dK.inj (Option.some.inj z)
                  have z2 : fget m.1 ws' k = fget m.1 ws k := by rw [← get_kvK, ← get_kvK, z]
                  rw [q2, k2] at z2
                  cases z2; rfl
                subst ea
                refine ⟨_, xs', jj, nn, rfl, rfl, q4, by rw [q5.length]; exact hm, ?_⟩
                exact h σ _ _ S (g2.put q3 (q7 _ _ (q5.set nn (rv'.mono n3.f)) (imms_set hd q6)) g2.fr) n3.f
            | _ => exact h.elim
        · exact h.elim
      · replace h : aftM X.K T W F0 G F i p Z (if d.imm = true then _ else .bad) := h
        rw [if_neg hd] at h
        exact h.elim
theorem m_putN {x k : Str} {j : Nat} {e ix : Expr} {p kp upos spos pos : Pos} {f fk : Rho → Res D} (hu : X.A.units + 1 < cLine) (hv : PE X (.Name x p) (tVar i)) (hk : DE X T W ix fk) (he : DE X T W e f)
    (hsl : NoSl (.Constant (.str k) j kp) := by exact fun _ _ => rfl)
    (ha : ∀ v, assign (.Subscript (.Subscript (.Name x p) (.Constant (.str k) j kp) upos) ix spos) X.env v = (do
      let ov ← holding [v] (eval (.Subscript (.Name x p) (.Constant (.str k) j kp) upos) X.env)
      let iv ← holding [v, ov] (eval ix X.env)
      standAt spos
      holding [v, ov, iv] (setItem ov iv v)
      release [v, ov, iv] []) := by intro _; rfl)
    (hs : swapsWithSole [.Subscript (.Subscript (.Name x p) (.Constant (.str k) j kp) upos) ix spos] e pos.line X.env = pure false := by rfl) (hw : swappedStores [.Subscript (.Subscript (.Name x p) (.Constant (.str k) j kp) upos) ix spos] e X.env = pure none := by rfl)
    (h1 : (assignEach [.Subscript (.Subscript (.Name x p) (.Constant (.str k) j kp) upos) ix spos] X.env).map (·.2) = [assign (.Subscript (.Subscript (.Name x p) (.Constant (.str k) j kp) upos) ix spos) X.env] := by rfl) :
    DM X T W F0 G i (.Assign [.Subscript (.Subscript (.Name x p) (.Constant (.str k) j kp) upos) ix spos] e pos) (mputN i k fk f) :=
  (ps_asg he (pg_sub (pe_dget hu hv pe_str hsl) hk set_list ha) hs hw h1).to putN_to
end
end DN
namespace DN
open PySem PySem.Spec PyProof.Rows L2
open LamX (Tabs ExtN)

/-! ### procedures and makers -/
section
variable {K : PySem.W.Frag} {T : List (Addr × Str)} {W : WX} {F0 G F H F1 H1 : Hp} {σ : L2.St} {ρ : Rho} {i : Nat} {p : Addr} {m m' : MSt} {S S' : List Addr} {Z : Ends}
theorem cut_tabs (t : Tabs T H) (hs : Soft H S) : Tabs T (cut H S) := fun q hq => by
  obtain ⟨ps, k1, k2, k3⟩ := t q hq
  refine ⟨ps, ?_, k2, fun pos cv hc => ?_⟩
  · rw [cut_out fun z => soft_nt (hs _ z _ k1) ps rfl]; exact k1
  · obtain ⟨c, e1, e2⟩ := k3 pos cv hc
    refine ⟨c, e1, ?_⟩
    rw [cut_out fun z => soft_code (hs _ z _ e2) _ rfl]; exact e2
theorem StAt.softH (h : StAt K F H p m S) : Soft H S := h.soft (F' := H) (H' := H) fun _ _ _ e => e
theorem Mg.after (g : Mg K T F0 G F H σ ρ i p m S) (n : Nx T F (cut H S) F1 H1) (st : StAt K F1 H1 p m' S') (fr : Free (cut H S) S') : Mg K T F0 G F1 H1 σ ρ i p m' S' := by
  have old : ∀ a o, G a = some o → (∀ ps, o ≠ .tbl ps) → cut H S a = some o := fun a o e no => by
    rw [cut_out fun z => by
      obtain ⟨ps, q⟩ := g.fr a z o e
      exact no ps q]
    exact g.nx.h a o e no
  refine ⟨⟨n.z, n.tab (cut_tabs g.at_.t g.st.softH), ⟨g.at_.r.len, fun j d e => let ⟨v, h1, h2⟩ := g.at_.r.z j d e; ⟨v, h1, h2.mono n.f⟩, fun j d e => absurd e (g.no j d), fun j k d e q1 q2 _ h => absurd h (g.no j d)⟩⟩,
    ⟨g.nx.f.trans n.f, n.z, fun a o e no => n.h a o (old a o e no) no, fun a o e => ?_, fun t => n.tab (cut_tabs (g.nx.tab t) g.st.softH)⟩, g.no, g.me, st, fun a ha o e => ?_⟩
  · rcases n.new a o e with q | q
    · exact g.nx.new a o q
    · refine .inr fun o' e' => ?_
      by_cases z : ∃ ps, o' = .tbl ps
      · exact .inl z
      · exact q o' (old a o' e' fun ps y => z ⟨ps, y⟩)
  · by_cases z : ∃ ps, o = .tbl ps
    · exact z
    · exact fr a ha o (old a o e fun ps y => z ⟨ps, y⟩)
end
def spM (K : PySem.W.Frag) (T : List (Addr × Str)) (n : Nat) (den : Addr → MSt → List D → Res MSt) : Sp := fun vs H Q E => ∃ F p m S vs' ds, vs = .ref p :: vs' ∧ Fz F H ∧ Tabs T H ∧ StAt K F H p m S ∧ RpAll K F vs' ds ∧ ds.length + 1 = n ∧
  (match den p m ds with
    | .ok m' => ∀ F' H' S', Nx T F (cut H S) F' H' → StAt K F' H' p m' S' → Free (cut H S) S' → Q .non H'
    | .ex n => ∀ F' H', Nx T F (cut H S) F' H' → E (.ref (He.ga K n)) none H'
    | .bad => False)
def runM (n : Nat) (s : Rho → MSt → SM) (p : Addr) (m : MSt) (ds : List D) : Res MSt := match s (startR n (.adr p :: ds)) m with
  | .nx _ m' => .ok m'
  | .fin false m' => .ok m'
  | .ex n => .ex n
  | _ => .bad
structure OkM (P : Program) (w : World) (K : PySem.W.Frag) (mg : Str → Option Value) (base : Heap) (T : List (Addr × Str)) (k : Nat) (x : Str) (n : Nat) (den : Addr → MSt → List D → Res MSt) : Prop where
  ex : ∃ fd ps, FnOk P w K mg base (L2.CX P w) k (He.ga K x) fd ps (spM K T n den) ∧ Binds K fd ps []
  kp : PySem.W.keepIn K (.ref (He.ga K x)) = true
  mg : mg x = some (.ref (He.ga K x))
theorem start_no {n : Nat} {ds : List D} (j : Nat) (d : D) : (startR n ds)[j]? ≠ some (En.o d) := fun h => by
  unfold startR at h
  rw [List.getElem?_append] at h
  split at h
  · rw [List.getElem?_map] at h
    cases e : ds[j]? with
    | none => rw [e] at h; cases h
    | some d => rw [e] at h; cases h
  · rw [List.getElem?_replicate] at h
    split at h <;> cases h
theorem fn_m {P : Program} {w : World} {K : PySem.W.Frag} {mg : Str → Option Value} {base : Heap} {T : List (Addr × Str)} {k : Nat} {x qual : Str} {params : Arguments} {body : List Stmt} {scope : Scope} {kws : List (Str × V)} {f : Addr} {fd : FuncData} {N ps : List Str} {n : Nat} {s : Rho → MSt → SM}
    (Fd : FunD K x qual params body scope [] kws f fd) (S : FnScope N ps scope) (hn : ps.length = n)
    (hb : ∀ (cdv : Value) (A : Around) (outer : List Env) (s0 : Shared) (H0 : Hp) (E : XK) (F0 G : Hp), Room k (A.deeper (envOfC qual scope s0.heap.objs.size f cdv)) → DMs (cxOf (L2.CX P w) P w K mg base N qual scope f cdv A outer s0 H0 E) T (WofE E) F0 G 0 body s) :
    FnOk P w K mg base (L2.CX P w) (k + 1) f fd ps (spM K T n (runM N.length s)) := by
  refine Fd.ok S (fun vs H Q E h => ?_) fun cdv A outer s0 H vs Q E hr h => ?_
  · obtain ⟨F, p, m, S, vs', ds, rfl, _, _, _, r, hl, _⟩ := h
    rw [List.length_cons, r.length, hl, hn]
  · obtain ⟨F, p, m, S, vs', ds, rfl, z, tb, st, r, hl, h⟩ := h
    have n0 : Nx T F (cut H S) F H := ⟨Sub.refl F, z, fun a o e _ => (cut_some e).2, fun a o e => .inl e, fun _ => tb⟩
    have g : Mg K T F (cut H S) F H (L2.start N (.ref p :: vs')) (startR N.length (.adr p :: ds)) 0 p m S := ⟨⟨z, tb, Rl.start (.cons (.adr p) r)⟩, n0, start_no, rfl, st, fun a ha o e => by rw [cut_in ha] at e; cases e⟩
    refine ⟨_, hb cdv A outer s0 H E F (cut H S) hr, _, F, p, m, S, g, ?_⟩
    unfold runM at h
    cases e : s (startR N.length (.adr p :: ds)) m with
    | nx ρ m' => rw [e] at h; exact fun σ F' H' S' g' _ => h F' H' S' g'.nx g'.st g'.fr
    | fin b m' =>
      rw [e] at h
      cases b with
      | false => exact fun F' H' S' n' st' fr' => h F' H' S' n' st' fr'
      | true => exact h.elim
    | rt d => rw [e] at h; exact h.elim
    | ex n => rw [e] at h; exact fun σ F' H' n' => h F' H' n'
    | bad => rw [e] at h; exact h.elim
def mcall (i n : Nat) (den : Addr → MSt → List D → Res MSt) (f : Rho → Res (List D)) : Rho → MSt → SM := fun ρ m => match f (lent i ρ m) with
  | .ok ds => if ds.length + 1 = n ∧ D.imms ds = true then (match adrOf i ρ with
    | some p => (match den p m ds with
      | .ok m' => .nx ρ m'
      | .ex n => .ex n
      | .bad => .bad)
    | none => .bad) else .bad
  | .ex n => .ex n
  | .bad => .bad
section
variable {X : Cx} {T : List (Addr × Str)} {W : WX} {F0 G : Hp} {i : Nat}
theorem m_call {j k n : Nat} {x y : Str} {den : Addr → MSt → List D → Res MSt} {es : List Expr} {p yp pos pos2 : Pos} {f : Rho → Res (List D)} (O : OkM X.prog X.w X.K X.mg X.base T j x n den) (hr : Room k X.A) (tk : Takes X W) (hg : Gl X x) (hv : PE X (.Name y yp) (tVar i)) (ha : DA X T W es f) (hj : j ≤ k := by decide)
    (hdb : (x == ("__debug__" : Str)) = false := by decide) (he : starEach (.Name y yp :: es) X.env = (false, eval (.Name y yp) X.env) :: starEach es X.env := by rfl) (hpl : (backTo pos (starEach es X.env)).any (·.1) = false := by rfl)
    (hs : swapsWith (.Call (.Name x p) (.Name y yp :: es) [] pos) none pos2.line X.env = pure false := by rfl) :
    DM X T W F0 G i (.Expr (.Call (.Name x p) (.Name y yp :: es) [] pos) pos2) (mcall i n den f) := by
  obtain ⟨fd, ps, Gk, b⟩ := O.ex
  refine (ps_expr (pe_callS (E := WE W) Gk (hr.mono hj) hg O.mg O.kp b (fun σ => passAt tk σ) (pa_cons hv ha he) hdb he hpl) hs).to fun Z σ H ⟨ρ, F, p, m, S, g, h⟩ => ?_
  obtain ⟨u, e1, e2⟩ := g.at_.r.z i _ g.me
  cases e2
  refine ⟨_, e1, _, lend F H S, g.lent, ?_⟩
  unfold mcall at h
  cases e : f (DN.lent i ρ m) with
  | ex n =>
    rw [e] at h
    exact fun F1 H1 n => h σ _ H1 (g.nx.trans (g.back n).2)
  | bad => rw [e] at h; exact h
  | ok ds =>
    rw [e] at h
    replace h : aftM X.K T W F0 G F i p Z (if ds.length + 1 = n ∧ D.imms ds = true then (match adrOf i ρ with
      | some p => (match den p m ds with
        | .ok m' => .nx ρ m'
        | .ex n => .ex n
        | .bad => .bad)
      | none => .bad) else .bad) := h
    split at h
    · rename_i hc
      rw [adrOf_me g.me] at h
      refine fun vs F1 H1 n1 rv => ?_
      obtain ⟨g1, n2⟩ := g.back n1
      refine ⟨cut F1 S, p, m, S, vs, ds, rfl, g1.at_.z, g1.at_.t, g1.st, rv.cutS (cut_soft g.st n1) hc.2, hc.1, ?_⟩
      replace h : aftM X.K T W F0 G F i p Z (match den p m ds with
        | .ok m' => .nx ρ m'
        | .ex n => .ex n
        | .bad => .bad) := h
      cases ed : den p m ds with
      | ok m' =>
        rw [ed] at h
        exact fun F' H' S' n' st' fr' => h σ F' H' S' (g1.after n' st' fr') (n2.f.trans n'.f)
      | ex n =>
        rw [ed] at h
        intro F' H' n'
        have gz : Nx T F0 G F' H' := by
          have old : ∀ a o, G a = some o → (∀ ps, o ≠ .tbl ps) → cut H1 S a = some o := fun a o e no => by
            rw [cut_out fun z => by
              obtain ⟨ps, q⟩ := g1.fr a z o e
              exact no ps q]
            exact g1.nx.h a o e no
          refine ⟨g1.nx.f.trans n'.f, n'.z, fun a o e no => n'.h a o (old a o e no) no, fun a o e => ?_, fun t => n'.tab (cut_tabs (g1.nx.tab t) g1.st.softH)⟩
          rcases n'.new a o e with q | q
          · exact g1.nx.new a o q
          · refine .inr fun o' e' => ?_
            by_cases z : ∃ ps, o' = .tbl ps
            · exact .inl z
            · exact q o' (old a o' e' fun ps y => z ⟨ps, y⟩)
        exact h σ F' H' gz
      | bad => rw [ed] at h; exact h.elim
    · exact h.elim
end
/-! a def whose body goes over to M-mode: for every address p -/
def tK (K : PySem.W.Frag) (T : List (Addr × Str)) (W : WX) (F0 H0 : Hp) (i : Nat) (s : Rho → Addr → SM) : TS := fun Z σ H => ∃ ρ F, Sg K T F0 H0 F H σ ρ ∧ ∀ p, aftM K T W F0 H0 F i p Z (s ρ p)
abbrev DKs (X : Cx) (T : List (Addr × Str)) (W : WX) (F0 H0 : Hp) (i : Nat) (st : List Stmt) (s : Rho → Addr → SM) : Prop := PSs X st (tK X.K T W F0 H0 i s)
def kseq (s : Rho → SR) (t : Rho → Addr → SM) : Rho → Addr → SM := fun ρ p => match s ρ with
  | .nx ρ' => t ρ' p
  | .rt d => .rt d
  | .ex n _ => .ex n
  | _ => .bad
def spMk (K : PySem.W.Frag) (T : List (Addr × Str)) (n : Nat) (den : Addr → List D → Res MSt) : Sp := fun vs H Q E => ∃ F ds, Fz F H ∧ Tabs T H ∧ RpAll K F vs ds ∧ ds.length = n ∧ ∀ p,
  (match den p ds with
    | .ok m => ∀ F' H' S, Nx T F H F' H' → StAt K F' H' p m S → Free H S → Q (.ref p) H'
    | .ex n => ∀ F' H', Nx T F H F' H' → E (.ref (He.ga K n)) none H'
    | .bad => False)
def runMk (n : Nat) (s : Rho → Addr → SM) (p : Addr) (ds : List D) : Res MSt := match s (startR n ds) p with
  | .fin true m => .ok m
  | .ex n => .ex n
  | _ => .bad
open Classical in
noncomputable def allP {α : Type} (g : Addr → Res α) : Res α := if h : ∃ r, ∀ p, g p = r then h.choose else .bad
theorem allP_of {α : Type} {g : Addr → Res α} {r : Res α} (h : ∀ p, g p = r) : allP g = r := by
  have e : ∃ r, ∀ p, g p = r := ⟨r, h⟩
  unfold allP
  rw [dif_pos e, ← h 0, e.choose_spec 0]
theorem allP_at {α : Type} {g : Addr → Res α} (p : Addr) : allP g = .bad ∨ g p = allP g := by
  by_cases e : ∃ r, ∀ p, g p = r
  · right
    unfold allP
    rw [dif_pos e]; exact e.choose_spec p
  · left
    unfold allP
    rw [dif_neg e]
def resM : SM → Res D
  | .rt d => .ok d
  | .ex n => .ex n
  | _ => .bad
noncomputable def runK (n : Nat) (s : Rho → Addr → SM) (ds : List D) : Res D := allP fun p => resM (s (startR n ds) p)
structure OkMk (P : Program) (w : World) (K : PySem.W.Frag) (mg : Str → Option Value) (base : Heap) (T : List (Addr × Str)) (k : Nat) (x : Str) (n : Nat) (den : Addr → List D → Res MSt) : Prop where
  ex : ∃ fd ps, FnOk P w K mg base (L2.CX P w) k (He.ga K x) fd ps (spMk K T n den) ∧ Binds K fd ps []
  kp : PySem.W.keepIn K (.ref (He.ga K x)) = true
  mg : mg x = some (.ref (He.ga K x))
section
variable {P : Program} {w : World} {K : PySem.W.Frag} {mg : Str → Option Value} {base : Heap} {T : List (Addr × Str)} {k : Nat} {x qual : Str} {params : Arguments} {body : List Stmt} {scope : Scope} {kws : List (Str × V)} {f : Addr} {fd : FuncData} {N ps : List Str} {n i : Nat} {s : Rho → Addr → SM}
theorem start_sg {F H : Hp} {vs : List V} {ds : List D} (z : Fz F H) (tb : Tabs T H) (r : RpAll K F vs ds) : Sg K T F H F H (L2.start N vs) (startR N.length ds) := ⟨⟨z, tb, Rl.start r⟩, Nx.refl z, fun j d p h1 => absurd h1 (start_no j d)⟩
theorem fn_mk (Fd : FunD K x qual params body scope [] kws f fd) (S : FnScope N ps scope) (hn : ps.length = n)
    (hb : ∀ (cdv : Value) (A : Around) (outer : List Env) (s0 : Shared) (H0 : Hp) (E : XK) (F0 : Hp), Room k (A.deeper (envOfC qual scope s0.heap.objs.size f cdv)) → DKs (cxOf (L2.CX P w) P w K mg base N qual scope f cdv A outer s0 H0 E) T (WofE E) F0 H0 i body s) :
    FnOk P w K mg base (L2.CX P w) (k + 1) f fd ps (spMk K T n (runMk N.length s)) := by
  refine Fd.ok S (fun vs H Q E h => ?_) fun cdv A outer s0 H vs Q E hr h => ?_
  · obtain ⟨F, ds, _, _, r, hl, _⟩ := h
    rw [r.length, hl, hn]
  · obtain ⟨F, ds, z, tb, r, hl, h⟩ := h
    refine ⟨_, hb cdv A outer s0 H E F hr, _, F, start_sg z tb r, fun p => ?_⟩
    have h := h p
    unfold runMk at h
    cases e : s (startR N.length ds) p with
    | nx ρ m' => rw [e] at h; exact h.elim
    | fin b m' =>
      rw [e] at h
      cases b with
      | true => exact fun F' H' S' n' st' fr' => h F' H' S' n' st' fr'
      | false => exact h.elim
    | rt d => rw [e] at h; exact h.elim
    | ex n => rw [e] at h; exact fun σ F' H' n' => h F' H' n'
    | bad => rw [e] at h; exact h.elim
theorem fn_k (Fd : FunD K x qual params body scope [] kws f fd) (S : FnScope N ps scope) (hn : ps.length = n)
    (hb : ∀ (cdv : Value) (A : Around) (outer : List Env) (s0 : Shared) (H0 : Hp) (E : XK) (F0 : Hp), Room k (A.deeper (envOfC qual scope s0.heap.objs.size f cdv)) → DKs (cxOf (L2.CX P w) P w K mg base N qual scope f cdv A outer s0 H0 E) T (WofE E) F0 H0 i body s) :
    FnOk P w K mg base (L2.CX P w) (k + 1) f fd ps (spD K T n (runK N.length s)) := by
  refine Fd.ok S (fun vs H Q E h => ?_) fun cdv A outer s0 H vs Q E hr h => ?_
  · obtain ⟨F, ds, _, _, r, hl, _⟩ := h
    rw [r.length, hl, hn]
  · obtain ⟨F, ds, z, tb, r, hl, h⟩ := h
    refine ⟨_, hb cdv A outer s0 H E F hr, _, F, start_sg z tb r, fun p => ?_⟩
    unfold runK at h
    rcases allP_at (g := fun p => resM (s (startR N.length ds) p)) p with q | q
    · rw [q] at h; exact h.elim
    · rw [← q] at h
      cases e : s (startR N.length ds) p with
      | nx ρ m' => rw [e] at h; exact h.elim
      | fin b m' => rw [e] at h; exact h.elim
      | rt d => rw [e] at h; exact fun v F' H' n' rv => h v F' H' n' rv
      | ex n => rw [e] at h; exact fun σ F' H' n' => h F' H' n'
      | bad => rw [e] at h; exact h.elim
end
section
variable {X : Cx} {T : List (Addr × Str)} {W : WX} {F0 H0 : Hp} {i : Nat}
theorem k_cons {st : Stmt} {rest : List Stmt} {s : Rho → SR} {t : Rho → Addr → SM} (h : DS X T W F0 H0 st s) (h2 : DKs X T W F0 H0 i rest t) : DKs X T W F0 H0 i (st :: rest) (kseq s t) :=
  (pss_cons h h2).to fun Z σ H ⟨ρ, F, g, h⟩ => by
    refine ⟨ρ, F, g, ?_⟩
    unfold kseq at h
    cases e : s ρ with
    | nx ρ' => rw [e] at h; exact fun σ' F' H' g' sb => ⟨ρ', F', g', fun p => aftM.mono sb (h p)⟩
    | bk ρ' => rw [e] at h; exact (h 0).elim
    | ct ρ' => rw [e] at h; exact (h 0).elim
    | rt d => rw [e] at h; exact h 0
    | ex n ρ' => rw [e] at h; exact fun σ' F' H' g' _ => h 0 σ' F' H' g'.nx
    | bad => rw [e] at h; exact h 0
/-- x = maker(..), the rest in M-mode -/
def kmk (i n : Nat) (den : Addr → List D → Res MSt) (f : Rho → Res (List D)) (k : Rho → MSt → SM) : Rho → Addr → SM := fun ρ p => match f ρ with
  | .ok ds => if ds.length = n ∧ noOwn ρ = true ∧ i < ρ.length then (match den p ds with
    | .ok m => k (ρ.set i (.z (.adr p))) m
    | .ex n => .ex n
    | .bad => .bad) else .bad
  | .ex n => .ex n
  | .bad => .bad
theorem Mg.make {K : PySem.W.Frag} {F H F1 H1 : Hp} {σ : L2.St} {ρ : Rho} {p : Addr} {m : MSt} {S : List Addr} (g : Sg K T F0 H0 F H σ ρ) (n : Nx T F H F1 H1) (st : StAt K F1 H1 p m S) (fr : Free H S) (hn : noOwn ρ = true) (il : i < ρ.length) :
    Mg K T F0 H0 F1 H1 (σ.set i (some (.ref p))) (ρ.set i (.z (.adr p))) i p m S := by
  have g1 := g.step n
  refine ⟨⟨g1.at_.z, g1.at_.t, g1.at_.r.set (.adr p)⟩, g1.nx, fun j d e => ?_, ?_, st, fun a ha o e => ?_⟩
  · rw [List.getElem?_set] at e
    split at e
    · first | cases e | (split at e <;> cases e)
    · exact noOwn_ok hn j d e
  · rw [List.getElem?_set, if_pos rfl, if_pos il]
  · by_cases z : ∃ ps, o = .tbl ps
    · exact z
    · exact fr a ha o (g.nx.h a o e fun ps y => z ⟨ps, y⟩)
theorem k_mk {j k n : Nat} {x : Str} {den : Addr → List D → Res MSt} {tg e : Expr} {rest : List Stmt} {args : List Expr} {p pos pos2 : Pos} {f : Rho → Res (List D)} {s : Rho → MSt → SM} (O : OkMk X.prog X.w X.K X.mg X.base T j x n den) (hr : Room k X.A) (tk : Takes X W) (hg : Gl X x) (ha : DA X T W (e :: args) f) (ht : PG X tg (gName i)) (h2 : DMs X T W F0 H0 i rest s) (hj : j ≤ k := by decide)
    (hdb : (x == ("__debug__" : Str)) = false := by decide) (he : starEach (e :: args) X.env = (false, eval e X.env) :: starEach args X.env := by rfl) (hpl : (backTo pos (starEach args X.env)).any (·.1) = false := by rfl)
    (hs : swapsWithSole [tg] (.Call (.Name x p) (e :: args) [] pos) pos2.line X.env = pure false := by rfl) (hw : swappedStores [tg] (.Call (.Name x p) (e :: args) [] pos) X.env = pure none := by rfl)
    (h1 : (assignEach [tg] X.env).map (·.2) = [assign tg X.env] := by rfl) :
    DKs X T W F0 H0 i (.Assign [tg] (.Call (.Name x p) (e :: args) [] pos) pos2 :: rest) (kmk i n den f s) := by
  obtain ⟨fd, ps, Gk, b⟩ := O.ex
  refine (pss_cons (ps_asg (pe_callS (E := WE W) Gk (hr.mono hj) hg O.mg O.kp b (fun σ => passAt tk σ) ha hdb he hpl) ht hs hw h1) h2).to fun Z σ H ⟨ρ, F, g, h⟩ => ?_
  refine ⟨ρ, F, g.at_, ?_⟩
  unfold kmk at h
  cases e : f ρ with
  | ex n => rw [e] at h; exact fun F1 H1 n => h 0 σ F1 H1 (g.nx.trans n)
  | bad => rw [e] at h; exact h 0
  | ok ds =>
    rw [e] at h
    replace h : ∀ p, aftM X.K T W F0 H0 F i p Z (if ds.length = n ∧ noOwn ρ = true ∧ i < ρ.length then (match den p ds with
      | .ok m => s (ρ.set i (.z (.adr p))) m
      | .ex n => .ex n
      | .bad => .bad) else .bad) := h
    by_cases hc : ds.length = n ∧ noOwn ρ = true ∧ i < ρ.length
    · refine fun vs F1 H1 n1 rv => ⟨F1, ds, n1.z, n1.tab g.at_.t, rv, hc.1, fun p => ?_⟩
      have h := h p
      rw [if_pos hc] at h
      cases ed : den p ds with
      | ok m =>
        rw [ed] at h
        exact fun F' H' S n' st fr => ⟨_, F', p, m, S, Mg.make (g.step n1) n' st fr hc.2.1 hc.2.2, aftM.mono (n1.f.trans n'.f) h⟩
      | ex n =>
        rw [ed] at h
        exact fun F' H' n' => h σ F' H' ((g.nx.trans n1).trans n')
      | bad => rw [ed] at h; exact h.elim
    · have h := h 0
      rw [if_neg hc] at h
      exact h.elim
end
end DN
/-! M-mode: for, update, a state made by a display or by dict(pairs); own lists by +, * and by choice -/
namespace DN
open PySem PySem.Spec PyProof.Rows L2
open LamX (Tabs ExtN)

section
variable {X : Cx} {T : List (Addr × Str)} {W : WX} {F0 G : Hp} {i : Nat}
end
/-! ### own lists by + and *, and one of two -/
def catO : D → D → Option D
  | .lst xs, .lst ys => if xs.length + ys.length ≤ sizeLine then some (.lst (xs ++ ys)) else none
  | _, _ => none
section
variable {X : Cx} {T : List (Addr × Str)} {W : WX} {F0 G : Hp} {i : Nat}
theorem o_cat {a b : Expr} {pos : Pos} {f g : Rho → Res D} (ha : DE X T W a f) (hb : DE X T W b g) : DOw X T W (.BinOp a .Add b pos) (bop catO f g) :=
  (pe_op op_cat ha hb).to fun σ H Q ⟨ρ, F, a, h⟩ => by
    refine ⟨ρ, F, a, (aftO.bind (R := Rp X.K) h).imp fun d _ v F1 H1 _ _ q => ?_⟩
    obtain ⟨d', F2, _, n, rv, q⟩ := q
    refine ⟨ρ, F2, a.nx n, (aftO.bind (R := Rp X.K) q).imp fun d _ w F3 H3 _ _ q => ?_⟩
    obtain ⟨e', F4, _, n2, rw', q⟩ := q
    cases rv with
    | lst h1 r1 =>
      cases rw' with
      | lst h2 r2 =>
        unfold catO at q
        dsimp only at q
        split at q
        · rename_i hl
          exact ⟨_, _, _, _, rfl, rfl, n2.z.sub _ _ (n2.f _ _ h1), n2.z.sub _ _ h2, by rw [r1.length, r2.length]; exact hl, fun p hp => q p _ F4 _ (Nx.lay n2.z hp) (frn n2.z hp) upd_same ((r1.mono n2.f).append r2) fun o ho => by rw [hp] at ho; cases ho⟩
        · exact q.elim
      | _ => exact q.elim
    | _ => exact q.elim
end
end DN
namespace DN
open PySem PySem.Spec PyProof.Rows L2
open LamX (Tabs ExtN)
/-- one of two new lists -/
def pick3 (as bs : List D) : D → Res D
  | .int j => if j = 0 then .ok (.lst as) else if j = 1 then .ok (.lst bs) else .bad
  | _ => .bad
def pickO (fa fb : Rho → Res (List D)) (fe : Rho → Res D) : Rho → Res D := fun ρ => (fa ρ).bind fun as => if as.length ≤ sizeLine then (fb ρ).bind fun bs => if bs.length ≤ sizeLine then (fe ρ).bind (pick3 as bs) else .bad else .bad
section
variable {X : Cx} {T : List (Addr × Str)} {W : WX} {F0 G : Hp} {i : Nat}
theorem aftO.mono {K : PySem.W.Frag} {σ : L2.St} {F H F1 H1 : Hp} {Q : V → Hp → Prop} {r : Res D} (n : Nx T F H F1 H1) (h : aftO K T W σ F H Q r) : aftO K T W σ F1 H1 Q r := by
  cases r with
  | ok d =>
    cases d with
    | lst ds => exact fun p vs F' H' n2 hp hx rx fr => h p vs F' H' (n.trans n2) hp hx rx (back_tbl n.h fr)
    | _ => exact h
  | ex m => exact fun F' H' n2 => h F' H' (n.trans n2)
  | bad => exact h
theorem o_pick {as bs : List Expr} {e : Expr} {p1 p2 p3 pos : Pos} {fa fb : Rho → Res (List D)} {fe : Rho → Res D} (ha : DA X T W as fa) (hb : DA X T W bs fb) (he : DE X T W e fe) (hs : PlainIx e := by exact fun _ _ => rfl)
    (h1 : starEach [.List as p1, .List bs p2] X.env = (false, eval (.List as p1) X.env) :: starEach [.List bs p2] X.env := by rfl) (h2 : starEach [.List bs p2] X.env = (false, eval (.List bs p2) X.env) :: starEach [] X.env := by rfl) :
    DOw X T W (.Subscript (.List [.List as p1, .List bs p2] p3) e pos) (pickO fa fb fe) :=
  (pe_ix ix_list (pe_lst (pa_cons (pe_lst ha) (pa_cons (pe_lst hb) pa_nil h2) h1)) he hs).to fun σ H Q ⟨ρ, F, a, h⟩ => by
    have h : aftO X.K T W σ F H Q ((fa ρ).bind fun as => if as.length ≤ sizeLine then (fb ρ).bind fun bs => if bs.length ≤ sizeLine then (fe ρ).bind (pick3 as bs) else .bad else .bad) := h
    refine ⟨ρ, F, a, (aftO.bind (R := RpAll X.K) h).imp fun _ _ xs F1' H1 _ _ q => ?_⟩
    obtain ⟨ds, F1, e1, n1, r1, q⟩ := q
    rw [e1] at h
    replace h : aftO X.K T W σ F H Q (if ds.length ≤ sizeLine then (fb ρ).bind fun bs => if bs.length ≤ sizeLine then (fe ρ).bind (pick3 ds bs) else .bad else .bad) := h
    by_cases hl1 : ds.length ≤ sizeLine
    case neg => rw [if_neg hl1] at q; exact q.elim
    rw [if_pos hl1] at q h
    refine ⟨by rw [r1.length]; exact hl1, fun q1 hq1 => ?_⟩
    have m1 : Nx T F1 H1 F1 (upd H1 q1 (.lst xs)) := Nx.lay n1.z hq1
    have a1 := (a.nx n1).nx m1
    refine ⟨ρ, F1, a1, (aftO.bind (R := RpAll X.K) (aftO.mono m1 q)).imp fun _ _ ys F2' H2 _ _ q => ?_⟩
    obtain ⟨es, F2, e2, n2, r2, q⟩ := q
    rw [e2] at h
    replace h : aftO X.K T W σ F H Q (if es.length ≤ sizeLine then (fe ρ).bind (pick3 ds es) else .bad) := h
    by_cases hl2 : es.length ≤ sizeLine
    case neg => rw [if_neg hl2] at q; exact q.elim
    rw [if_pos hl2] at q h
    refine ⟨by rw [r2.length]; exact hl2, fun q2 hq2 => ?_⟩
    have m2 : Nx T F2 H2 F2 (upd H2 q2 (.lst ys)) := Nx.lay n2.z hq2
    refine ⟨by show 2 ≤ sizeLine; decide, fun q3 hq3 => ?_⟩
    have m3 := Nx.lay (T := T) (o := .lst [.ref q1, .ref q2]) m2.z hq3
    have a3 := ((a1.nx n2).nx m2).nx m3
    refine ⟨ρ, F2, a3, (aftO.bind (R := Rp X.K) (aftO.mono m3 (aftO.mono m2 q))).imp fun _ _ w F4' H4 _ _ q => ?_⟩
    obtain ⟨k, F4, e3, n4, rk, q⟩ := q
    rw [e3] at h
    replace h : aftO X.K T W σ F H Q (pick3 ds es k) := h
    have N := ((((n1.trans m1).trans n2).trans m2).trans m3).trans n4
    have k1 : H2 q1 = some (.lst xs) := n2.keep upd_same ntL
    have f1 : F2 q1 = none := n2.out (o := .lst xs) upd_same ntL (frn n1.z hq1)
    have c1 : q1 ≠ q2 := fun z => by rw [z, hq2] at k1; cases k1
    have l1 : upd H2 q2 (.lst ys) q1 = some (.lst xs) := by rw [upd_ne c1]; exact k1
    have l2 : upd H2 q2 (.lst ys) q2 = some (.lst ys) := upd_same
    have o1 : H4 q1 = some (.lst xs) := n4.keep (m3.keep l1 ntL) ntL
    have o2 : H4 q2 = some (.lst ys) := n4.keep (m3.keep l2 ntL) ntL
    have g1 : F4 q1 = none := n4.out (m3.keep l1 ntL) ntL f1
    have g2 : F4 q2 = none := n4.out (m3.keep l2 ntL) ntL (frn n2.z hq2)
    have o3 : H4 q3 = some (.lst [.ref q1, .ref q2]) := n4.keep upd_same ntL
    cases rk with
    | int j =>
      replace h : aftO X.K T W σ F H Q (if j = 0 then .ok (.lst ds) else if j = 1 then .ok (.lst es) else .bad) := h
      by_cases j0 : j = 0
      · subst j0
        rw [if_pos rfl] at h
        exact ⟨q3, _, 0, .ref q1, rfl, rfl, SqL.of o3, rfl, h q1 xs F4 H4 N g1 o1 (r1.mono (n2.f.trans n4.f)) (back_tbl n1.h fun o ho => by rw [hq1] at ho; cases ho)⟩
      · rw [if_neg j0] at h
        by_cases j1 : j = 1
        · subst j1
          rw [if_pos rfl] at h
          exact ⟨q3, _, 1, .ref q2, rfl, rfl, SqL.of o3, rfl, h q2 ys F4 H4 N g2 o2 (r2.mono n4.f) (back_tbl ((n1.trans m1).trans n2).h fun o ho => by rw [hq2] at ho; cases ho)⟩
        · rw [if_neg j1] at h
          exact h.elim
    | _ => exact h.elim
end
end DN
/-! M-mode: the state's update; a state made by a display -/
namespace DN
open PySem PySem.Spec PyProof.Rows L2
open LamX (Tabs ExtN)
def rUpd : V → List V → Hp → VK → Prop := fun x xs H Q => ∃ (a b : Addr) (kvs more : List (Key × V)), x = .ref a ∧ xs = [.ref b] ∧ a ≠ b ∧ H a = some (.dK kvs) ∧ H b = some (.dK more) ∧ kvs.length + more.length ≤ sizeLine ∧ Q .non (upd H a (.dK (mergeK kvs more)))
theorem mt_upd {X : Cx} : MtR X "dict.update" rUpd := by
  intro pins s σ H x xs v us Q I rx rxs h
  obtain ⟨a, b, kvs, more, rfl, rfl, hab, ha, hb, hl, q⟩ := h
  cases rx
  obtain ⟨u, rfl, ru⟩ := vals1 rxs
  cases ru
  obtain ⟨_, ka, va, ra, da⟩ := dk_of I.hok ha
  obtain ⟨_, kb, vb, rb, db⟩ := dk_of I.hok hb
  refine call_meetsIn PySem.F.slot_dict_update da.typeIs PySem.F.entry_dict_update (PySem.F.args_dict_update_2 _ _) (meets_dict_update (mixKind X.prog X.w) a b hab kb) ⟨va, vb, da, db, by rw [← ra.length, ← rb.length]; exact hl, fun h' d1 d2 sb => ?_⟩
  refine ⟨.non, _, d_write (t' := s.toks) I (by rw [ha]; exact True.intro) sb ?_ (dk_new (Nat.le_trans (length_mergeK _ _) hl) ka (KV.merge rb ra) d1), rfl, q⟩
  obtain ⟨o, _, _, ho, _⟩ := d1
  exact ⟨o, ho⟩
/-! ### a field put, there or not -/
def fput (m : MSt) (k : Str) (d : D) : MSt := if k ∈ m.1 then (m.1, fset m.1 m.2 k d) else (m.1 ++ [k], m.2 ++ [d])
def fputs (m : MSt) : List Str → List D → MSt
  | k :: ks, d :: ds => fputs (fput m k d) ks ds
  | _, _ => m
theorem kv_snoc {x : Str} {v : V} : ∀ {ks : List Str} {ws : List V}, ks.length = ws.length → kvK (ks ++ [x]) (ws ++ [v]) = kvK ks ws ++ [(Sum.inr x, v)]
  | [], [], _ => rfl
  | k :: ks, w :: ws, h => by
    show (Sum.inr k, w) :: kvK (ks ++ [x]) (ws ++ [v]) = (Sum.inr k, w) :: (kvK ks ws ++ [(Sum.inr x, v)])
    rw [kv_snoc (by simpa using h)]
theorem put_kvN {x : Str} {v : V} {ks : List Str} {ws : List V} (hl : ks.length = ws.length) (hx : x ∉ ks) : putK (kvK ks ws) (Sum.inr x) v = kvK (ks ++ [x]) (ws ++ [v]) := by
  unfold putK
  rw [if_neg (by rw [kv_any x ks ws hl]; simpa using hx), kv_snoc hl]
section
variable {K : PySem.W.Frag} {T : List (Addr × Str)} {W : WX} {F0 G F H F1 H1 : Hp} {σ : L2.St} {ρ : Rho} {i : Nat} {p : Addr} {m m' : MSt} {S S' : List Addr} {Z : Ends}
theorem Flds.snoc {ws : List V} {ds : List D} {v : V} {d : D} (hd : d.imm = true) (r : Rp K F v d) (h : Flds K F H ws ds S) : Flds K F H (ws ++ [v]) (ds ++ [d]) S := by
  induction h with
  | nil => exact .imm hd r .nil
  | imm e r0 _ ih => exact .imm e r0 ih
  | lst hx r0 e _ ih => exact .lst hx r0 e ih
theorem StAt.kvs (h : StAt K F H p m S) : ∃ ws, H p = some (.dK (kvK m.1 ws)) ∧ m.1.length = ws.length := by
  obtain ⟨ws, S0, _, h1, hl, _⟩ := h.ex
  exact ⟨ws, h1, hl⟩
theorem StAt.put1 {x : Str} {v : V} {d : D} {kvs : List (Key × V)} (h : StAt K F H p m S) (hk : H p = some (.dK kvs)) (hd : d.imm = true) (r : Rp K F v d) : ∃ S', (∀ a ∈ S', a ∈ S) ∧ StAt K F (upd H p (.dK (putK kvs (Sum.inr x) v))) p (fput m x d) S' := by
  unfold fput
  by_cases hx : x ∈ m.1
  · rw [if_pos hx]
    obtain ⟨ws, S', h1, hl, h2, h3⟩ := h.setI hd r hx
    rw [hk] at h1
    cases h1
    exact ⟨S', h2, h3⟩
  · rw [if_neg hx]
    obtain ⟨ws, S0, rfl, h1, hl, h2⟩ := h.ex
    rw [hk] at h1
    cases h1
    have nd := List.nodup_cons.mp h.nd
    refine ⟨p :: S0, fun a ha => ha, ⟨_, S0, rfl, by rw [upd_same, put_kvN hl hx], by rw [List.length_append, List.length_append, hl]; rfl, (h2.snoc hd r).mono (Sub.refl F) fun a ha xs e => ?_⟩, h.nd, h.out, ?_⟩
    · rw [upd_ne fun z => nd.1 (by rw [← z]; exact ha)]; exact e
    · show (m.1 ++ [x]).Nodup
      rw [List.nodup_append]
      refine ⟨h.nk, by simp, fun a ha b hb z => ?_⟩
      simp at hb
      subst hb; subst z
      exact hx ha
theorem upd_upd {a : Addr} {o o' : HO} : upd (upd H a o) a o' = upd H a o' := by
  funext b
  by_cases e : b = a
  · subst e; rw [upd_same, upd_same]
  · rw [upd_ne e, upd_ne e, upd_ne e]
theorem upd_id {a : Addr} {o : HO} (h : H a = some o) : upd H a o = H := by
  funext b
  by_cases e : b = a
  · subst e; rw [upd_same, h]
  · rw [upd_ne e]
theorem StAt.puts : ∀ (ks : List Str) {vs : List V} {ds : List D} {H : Hp} {m : MSt} {S : List Addr} {kvs : List (Key × V)}, RpAll K F vs ds → D.imms ds = true → ks.length = ds.length → StAt K F H p m S → H p = some (.dK kvs) →
    ∃ S', (∀ a ∈ S', a ∈ S) ∧ StAt K F (upd H p (.dK (mergeK kvs (kvK ks vs)))) p (fputs m ks ds) S'
  | [], _, _, H, m, S, kvs, .nil, _, _, h, hk => ⟨S, fun a ha => ha, by
    show StAt K F (upd H p (.dK kvs)) p m S
    rw [upd_id hk]; exact h⟩
  | k :: ks, _, _, H, m, S, kvs, .cons (v := v) (vs := vs) (d := d) (ds := ds) r t, hi, hl, h, hk => by
    unfold D.imms at hi
    rw [Bool.and_eq_true] at hi
    obtain ⟨S1, s1, h1⟩ := h.put1 (x := k) hk hi.1 r
    obtain ⟨S2, s2, h2⟩ := StAt.puts ks t hi.2 (by simpa using hl) h1 upd_same
    rw [upd_upd] at h2
    exact ⟨S2, fun a ha => s1 a (s2 a ha), h2⟩
end
def mupd (i : Nat) (ks : List Str) (f : Rho → Res (List D)) : Rho → MSt → SM := fun ρ m => match f (lent i ρ m) with
  | .ok ds => if D.imms ds = true ∧ ds.length = ks.length ∧ m.1.length + ks.length ≤ sizeLine then .nx ρ (fputs m ks ds) else .bad
  | .ex n => .ex n
  | .bad => .bad
theorem merge_kvK {ks : List Str} {vs : List V} (hlv : ks.length = vs.length) (hnd : ks.Nodup) : mergeK [] (kvK ks vs) = kvK ks vs := by
  rw [merge_new _ _ (fun k _ q => by cases q)]
  · rfl
  · have e3 : (kvK ks vs).map Prod.fst = ks.map Sum.inr := by
      unfold kvK
      rw [List.map_map]
      have : (Prod.fst ∘ fun q : Str × V => ((Sum.inr q.1 : Key), q.2)) = Sum.inr ∘ Prod.fst := rfl
      rw [this, ← List.map_map, zip_fst hlv]
    rw [e3]
    exact List.Pairwise.map _ (fun _ _ q z => q (Sum.inr.inj z)) hnd
section
variable {X : Cx} {T : List (Addr × Str)} {W : WX} {F0 G : Hp} {i : Nat}
theorem m_upd {x : Str} {p apos dpos cpos pos : Pos} {keys : List (Option Expr)} {values : List Expr} {ks : List Str} {f : Rho → Res (List D)} (hv : PE X (.Name x p) (tVar i)) (hd : DP X T W dpos keys values ks f) (h0 : keys ≠ []) (h15 : ks.length ≤ 15) (hnd : ks.Nodup)
    (hs : swapsWith (.Call (.Attribute (.Name x p) "update" apos) [.Dict keys values dpos] [] cpos) none pos.line X.env = pure false := by rfl)
    (hbase : attributeBase (.Name x p) "update" X.env (eval (.Name x p) X.env) = eval (.Name x p) X.env := by rfl)
    (hfew : ((backTo cpos (starEach [.Dict keys values dpos] X.env)).all (fun x => !x.1) && (backToKw cpos (keywordEach [] X.env)).all (fun x => x.1.isSome)
      && decide ([Expr.Dict keys values dpos].length + ([] : List Keyword).length + (if ([] : List Keyword).isEmpty then 0 else 1) < 30)) = true := by rfl)
    (hline : (apos.endLine == cpos.line) = true := by rfl) (hst : starEach [.Dict keys values dpos] X.env = (false, eval (.Dict keys values dpos) X.env) :: starEach [] X.env := by rfl) (hpl : (backTo cpos (starEach [] X.env)).any (·.1) = false := by rfl) :
    DM X T W F0 G i (.Expr (.Call (.Attribute (.Name x p) "update" apos) [.Dict keys values dpos] [] cpos) pos) (mupd i ks f) := by
  obtain ⟨trs, h1, ht⟩ := hd.ex
  refine (ps_expr (pe_bm PySem.F.plainAttrs_dict PySem.F.slot_dict_update PySem.F.type_dict_update mt_upd hv (pa_cons (pe_disp h1 hd.some hd.vlen h0 (by rw [hd.len]; exact h15)) pa_nil hst) hbase hfew hline hst hpl) hs).to fun Z σ H ⟨ρ, F, p, m, S, g, h⟩ => ?_
  obtain ⟨u, e1, e2⟩ := g.at_.r.z i _ g.me
  cases e2
  obtain ⟨ws0, k0, _⟩ := g.st.kvs
  refine ⟨_, e1, .inr (.inr (.inl ⟨rfl, .inl ⟨_, k0⟩⟩)), fun q hq => ?_⟩
  have n0 : Nx T (lend F H S) H (lend F H S) (upd H q (.dK [])) := Nx.lay g.lent.z hq
  refine ht σ _ _ ⟨_, lend F H S, g.lent.nx n0, ?_⟩
  unfold mupd at h
  cases e : f (DN.lent i ρ m) with
  | bad => rw [e] at h; exact h
  | ex n => rw [e] at h; exact fun F1 H1 n => h σ _ H1 (g.nx.trans (g.back (n0.trans n)).2)
  | ok ds =>
    rw [e] at h
    replace h : aftM X.K T W F0 G F i p Z (if D.imms ds = true ∧ ds.length = ks.length ∧ m.1.length + ks.length ≤ sizeLine then .nx ρ (fputs m ks ds) else .bad) := h
    by_cases hc : D.imms ds = true ∧ ds.length = ks.length ∧ m.1.length + ks.length ≤ sizeLine
    · rw [if_pos hc] at h
      refine fun vs F1 H1 n1 rv => ?_
      obtain ⟨nf, k1⟩ := nx_fill (o := .dK (kvK ks vs)) g.lent.z hq n1
      have hlv : ks.length = vs.length := by rw [rv.length, hc.2.1]
      refine ⟨k1, kvK ks vs, by unfold kvK; rw [List.map_map]; rfl, by rw [kvK_len hlv]; exact h15, ?_⟩
      rw [merge_kvK hlv hnd]
      obtain ⟨g1, n1'⟩ := g.back nf
      have rv' := rv.cutS (cut_soft g.st nf) hc.1
      obtain ⟨ws, k2, kl⟩ := g1.st.kvs
      obtain ⟨S', s1, s2⟩ := g1.st.puts ks rv' hc.1 hc.2.1.symm k2
      have pq : p ≠ q := fun z => by rw [← z, k0] at hq; cases hq
      refine ⟨p, q, _, _, rfl, rfl, pq, k2, upd_same, by rw [kvK_len kl, kvK_len hlv]; exact hc.2.2, ?_⟩
      exact h σ _ _ S' (g1.put g1.st.mem s2 fun a ha => g1.fr a (s1 a ha)) n1'.f
    · rw [if_neg hc] at h
      exact h.elim
end
/-! ### a state made by a display -/
section
variable {X : Cx} {T : List (Addr × Str)} {W : WX} {F0 G : Hp} {i : Nat}
end
end DN
/-! list(zip(a, b)): every pair that was handed out is still held by the list -/
namespace DN
open PySem PySem.Spec PyProof.Rows L2
open LamX (Tabs ExtN)
namespace LZ
/-- a zip whose pair T is out -/
abbrev Out (h : Heap) (z TI TO T : Addr) (f : Bool) : Prop := h.get? z = some { cls := .type "zip", data := .fields #[rawInt T, .bool f, .bool false, .ref TI, .ref TO] }
section
variable {prog : Program} {w : World} {A : Around} {E : Value → Shared → Prop} {s : Shared} {z TI TO i1 i2 T : Addr} {fp1 fp2 : List Addr} {n1 n2 i : Nat} {P1 P2 : Nat → Value → Prop} {St1 St2 : Nat → Heap → Prop} {a1 a2 : Value} {f : Bool}
/-- the zip's look at its own pair: it is held elsewhere, and the zip marks that -/
theorem own_out {Q : Bool → Shared → Prop} (hz : Out s.heap z TI TO T f) (hT : ∃ o, s.heap.get? T = some o)
    (hQ : ∀ h', Out h' z TI TO T true → Heap.SameBut z s.heap h' → Q false { s with heap := h' }) : wpAny (model prog w) A (Builtin.SmallTypes.ownedTupleIsFree (.ref z)) Q E s :=
  hT.elim fun _ t => PySem.wpAny_tupleHeld_zip hz t hQ
theorem body_out {Q : PySem.Fin → Shared → Prop} (S : ZipSep2 z TI TO i1 i2 fp1 fp2) (D1 : Draws prog w A i1 fp1 n1 P1 St1) (D2 : Draws prog w A i2 fp2 n2 P2 St2) (hz : Out s.heap z TI TO T f) (hT : ∃ o, s.heap.get? T = some o) (hI : IsTupOf2 s.heap TI (.ref i1) (.ref i2)) (st1 : St1 i s.heap) (st2 : St2 i s.heap) (l1 : i < n1) (l2 : i < n2)
    (hQ : ∀ x1 x2 h' tk, P1 i x1 → P2 i x2 → Out h' z TI TO T true → St1 (i + 1) h' → St2 (i + 1) h' → IsTupOf2 h' s.heap.objs.size x1 x2 → (∀ c o, c ≠ z → c ≠ i1 → c ≠ i2 → s.heap.get? c = some o → h'.get? c = some o) → Q (.done (.ret (.ref s.heap.objs.size))) { s with heap := h', toks := tk }) :
    wpAny (model prog w) A (Builtin.«zip.__next__» ⟨[.ref z], []⟩) Q E s := by
  have f2 : ∀ {R : Value → Shared → Prop}, R (.bool false) s → wpAny (model prog w) A (field (.ref z) 2) R E s := fun q => wpAny_field hz rfl rfl q
  have f3 : ∀ {R : Value → Shared → Prop}, R (.ref TI) s → wpAny (model prog w) A (field (.ref z) 3) R E s := fun q => wpAny_field hz rfl rfl q
  unfold Builtin.«zip.__next__»
  wp_walk using f2, f3, wpAny_seqItems hI rfl, own_out hz hT
  intro g0 hz0 b0
  have k1 := D1.over st1 b0 S.zf1
  have k2 := D2.over st2 b0 S.zf2
  have d1 : ∀ {R : Value → Shared → Prop}, (∀ x h' tk, P1 i x → St1 (i + 1) h' → Heap.SameBut i1 g0 h' → R x { s with heap := h', toks := tk }) → wpAny (model prog w) A (Builtin.SmallTypes.nextOf (.ref i1)) R E { s with heap := g0 } := fun k => D1.item i { s with heap := g0 } _ E l1 k1 k
  have d2 : ∀ {R : Value → Shared → Prop} (h : Heap) (tk : Nat), St2 i h → (∀ x h' tk, P2 i x → St2 (i + 1) h' → Heap.SameBut i2 h h' → R x { s with heap := h', toks := tk }) → wpAny (model prog w) A (Builtin.SmallTypes.nextOf (.ref i2)) R E { s with heap := h, toks := tk } :=
    fun h tk k2 k => D2.item i { s with heap := h, toks := tk } _ E l2 k2 k
  simp only [Bool.false_eq_true, if_false, ← Array.forIn_toList, List.forIn_cons, List.forIn_nil]
  wp_walk using d1
  intro x1 g1 t1 y1 m1 b1
  wp_walk using d2 g1 t1 (D2.over k2 b1 S.sep1_2)
  intro x2 g2 t2 y2 m2 b2
  wp_walk using wpAny_newTuple
  case hsz => exact (by decide : 2 ≤ sizeLine)
  have size : g2.objs.size = s.heap.objs.size := b2.1.trans (b1.1.trans b0.1)
  have still : ∀ c o, c ≠ i1 → c ≠ i2 → g0.get? c = some o → (g2.push { cls := .type "tuple", data := .seq #[x1, x2] }).get? c = some o := fun c o c1 c2 e => Heap.get?_push_of_some _ (b2.extBut _ _ c2 (b1.extBut _ _ c1 e))
  have made := Heap.get?_push_size g2 (o := { cls := .type "tuple", data := .seq #[x1, x2] }) rfl
  show Q (.done (.ret (.ref g2.objs.size))) _
  rw [size] at made ⊢
  exact hQ x1 x2 _ t2 y1 y2 (still _ _ S.zi1 S.zi2 hz0) (D1.frame _ _ _ (D1.over m1 b2 S.sep2_1) fun _ _ _ => Heap.get?_push_of_some _) (D2.frame _ _ _ m2 fun _ _ _ => Heap.get?_push_of_some _) made fun c o c0 c1 c2 e => still c o c1 c2 (b0.extBut _ _ c0 e)
/-- one more pair -/
theorem next_out {Q : Option Value → Shared → Prop} (S : ZipSep2 z TI TO i1 i2 fp1 fp2) (D1 : Draws prog w A.in1 i1 fp1 n1 P1 St1) (D2 : Draws prog w A.in1 i2 fp2 n2 P2 St2) (hz : Out s.heap z TI TO T f) (hT : ∃ o, s.heap.get? T = some o) (hI : IsTupOf2 s.heap TI (.ref i1) (.ref i2)) (st1 : St1 i s.heap) (st2 : St2 i s.heap) (l1 : i < n1) (l2 : i < n2)
    (hQ : ∀ x1 x2 h' tk, P1 i x1 → P2 i x2 → Out h' z TI TO T true → St1 (i + 1) h' → St2 (i + 1) h' → IsTupOf2 h' s.heap.objs.size x1 x2 → (∀ c o, c ≠ z → c ≠ i1 → c ≠ i2 → s.heap.get? c = some o → h'.get? c = some o) → Q (some (.ref s.heap.objs.size)) { s with heap := h', toks := tk }) :
    wpAny (model prog w) A (pyNext (.ref z)) Q E s := by
  have ty : s.TypeIs (.ref z) "zip" := ⟨_, hz, rfl⟩
  unfold pyNext
  refine wpAny_bind (wpAny_attempt (wpAny_callSpecial?_slot (name := Str.ofString "__next__") ty F.slot_zip_next (wpAny_call_entry F.slot_zip_next ty F.entry_zip_next
    (body_out S D1 D2 hz hT hI st1 st2 l1 l2 fun x1 x2 h' tk p1 p2 o m1 m2 t k => ⟨_, rfl, wpAny_pure (hQ x1 x2 h' tk p1 p2 o m1 m2 t k)⟩) (F.args_zip_next_1 _))))
/-- one of the two is at its end: the zip hands its end on -/
theorem body_end {Q : PySem.Fin → Shared → Prop} (S : ZipSep2 z TI TO i1 i2 fp1 fp2) (D1 : Draws prog w A i1 fp1 n1 P1 St1) (D2 : Draws prog w A i2 fp2 n2 P2 St2) (hz : Out s.heap z TI TO T f) (hT : ∃ o, s.heap.get? T = some o) (hI : IsTupOf2 s.heap TI (.ref i1) (.ref i2)) (st1 : St1 i s.heap) (st2 : St2 i s.heap) (l1 : i ≤ n1) (l2 : i ≤ n2) (le : i = n1 ∨ i = n2)
    (hE : ∀ (e : Addr) h' tk, (∃ o, h'.get? e = some o ∧ o.cls = .type "StopIteration") → (∀ c o, c ≠ z → c ≠ i1 → c ≠ i2 → s.heap.get? c = some o → h'.get? c = some o) → E (.ref e) { s with heap := h', toks := tk }) :
    wpAny (model prog w) A (Builtin.«zip.__next__» ⟨[.ref z], []⟩) Q E s := by
  have f2 : ∀ {R : Value → Shared → Prop}, R (.bool false) s → wpAny (model prog w) A (field (.ref z) 2) R E s := fun q => wpAny_field hz rfl rfl q
  have f3 : ∀ {R : Value → Shared → Prop}, R (.ref TI) s → wpAny (model prog w) A (field (.ref z) 3) R E s := fun q => wpAny_field hz rfl rfl q
  unfold Builtin.«zip.__next__»
  wp_walk using f2, f3, wpAny_seqItems hI rfl, own_out hz hT
  intro g0 hz0 b0
  have k1 := D1.over st1 b0 S.zf1
  have k2 := D2.over st2 b0 S.zf2
  simp only [Bool.false_eq_true, if_false, ← Array.forIn_toList, List.forIn_cons, List.forIn_nil]
  by_cases last : i = n1
  · have d1 : ∀ {R : Value → Shared → Prop}, wpAny (model prog w) A (Builtin.SmallTypes.nextOf (.ref i1)) R E { s with heap := g0 } :=
      fun {R} => D1.done { s with heap := g0 } R E (last ▸ k1) fun h' e b x => hE e h' s.toks x fun c o c0 c1 _ y => b _ _ c1 (b0.extBut _ _ c0 y)
    wp_walk using d1
  · have d1 : ∀ {R : Value → Shared → Prop}, (∀ x h' tk, P1 i x → St1 (i + 1) h' → Heap.SameBut i1 g0 h' → R x { s with heap := h', toks := tk }) → wpAny (model prog w) A (Builtin.SmallTypes.nextOf (.ref i1)) R E { s with heap := g0 } :=
      fun k => D1.item i { s with heap := g0 } _ E (by omega) k1 k
    wp_walk using d1
    intro x1 g1 t1 y1 m1 b1
    have d2 : ∀ {R : Value → Shared → Prop}, wpAny (model prog w) A (Builtin.SmallTypes.nextOf (.ref i2)) R E { s with heap := g1, toks := t1 } :=
      fun {R} => D2.done { s with heap := g1, toks := t1 } R E (le.resolve_left last ▸ D2.over k2 b1 S.sep1_2) fun h' e b x => hE e h' t1 x fun c o c0 c1 c2 y => b _ _ c2 (b1.extBut _ _ c1 (b0.extBut _ _ c0 y))
    wp_walk using d2
theorem end_out {Q : Option Value → Shared → Prop} (S : ZipSep2 z TI TO i1 i2 fp1 fp2) (D1 : Draws prog w A.in1 i1 fp1 n1 P1 St1) (D2 : Draws prog w A.in1 i2 fp2 n2 P2 St2) (hz : Out s.heap z TI TO T f) (hT : ∃ o, s.heap.get? T = some o) (hI : IsTupOf2 s.heap TI (.ref i1) (.ref i2)) (st1 : St1 i s.heap) (st2 : St2 i s.heap) (l1 : i ≤ n1) (l2 : i ≤ n2) (le : i = n1 ∨ i = n2)
    (hQ : ∀ h' tk, (∀ c o, c ≠ z → c ≠ i1 → c ≠ i2 → s.heap.get? c = some o → h'.get? c = some o) → Q none { s with heap := h', toks := tk }) :
    wpAny (model prog w) A (pyNext (.ref z)) Q E s := by
  have ty : s.TypeIs (.ref z) "zip" := ⟨_, hz, rfl⟩
  unfold pyNext
  refine wpAny_bind (wpAny_attempt (wpAny_callSpecial?_slot (name := Str.ofString "__next__") ty F.slot_zip_next (wpAny_call_entry F.slot_zip_next ty F.entry_zip_next
    (body_end S D1 D2 hz hT hI st1 st2 l1 l2 le fun e h' tk ⟨o, ho, hc⟩ k => ?_) (F.args_zip_next_1 _))))
  exact wpAny_bind (wpAny_isInstance (T := "StopIteration") (b := true) ⟨o, ho, hc⟩ isSubtype_stop (wpAny_pure (hQ h' tk k)))
/-- behind i pairs, which stand at as -/
structure At (z TI TO i1 i2 lo : Addr) (P1 P2 : Nat → Value → Prop) (St1 St2 : Nat → Heap → Prop) (h : Heap) (i : Nat) (as : List Addr) : Prop where
  own : (i = 0 ∧ IsZip h z TI TO .none ∧ ∃ a b, IsTupOf2 h TO a b) ∨ ∃ T f, Out h z TI TO T f ∧ T ∈ as
  ti : IsTupOf2 h TI (.ref i1) (.ref i2)
  s1 : St1 i h
  s2 : St2 i h
  len : as.length = i
  up : as.Pairwise (· < ·)
  lo_le : lo ≤ h.objs.size
  new : ∀ a ∈ as, lo ≤ a
  two : ∀ j a, as[j]? = some a → ∃ x y, IsTupOf2 h a x y ∧ P1 j x ∧ P2 j y
/-- how the cells lie -/
structure Far (z TI TO i1 i2 lo L : Addr) (fp1 fp2 : List Addr) : Prop where
  sep : ZipSep2 z TI TO i1 i2 fp1 fp2
  hz : z < lo
  hti : TI < lo
  hto : TO < lo
  ha : i1 < lo
  hb : i2 < lo
  hl : L < lo
  lz : L ≠ z
  lt : L ≠ TI
  lo_ : L ≠ TO
  l1 : L ∉ fp1
  l2 : L ∉ fp2
theorem At.grow {lo L : Addr} {h h1 h2 : Heap} {as : List Addr} {x y : Value} {T' : Addr} {f' : Bool} (fr : Far z TI TO i1 i2 lo L fp1 fp2) (D1 : Draws prog w A i1 fp1 n1 P1 St1) (D2 : Draws prog w A i2 fp2 n2 P2 St2) (g : At z TI TO i1 i2 lo P1 P2 St1 St2 h i as)
    (k1 : ∀ c o, c ≠ z → c ≠ TO → c ≠ i1 → c ≠ i2 → h.get? c = some o → h1.get? c = some o) (t : IsTupOf2 h1 h.objs.size x y) (o1 : Out h1 z TI TO T' f') (hT' : T' ∈ as ++ [h.objs.size]) (m1 : St1 (i + 1) h1) (m2 : St2 (i + 1) h1) (p1 : P1 i x) (p2 : P2 i y)
    (k2 : ∀ c o, c ≠ L → h1.get? c = some o → h2.get? c = some o) (sz : h1.objs.size ≤ h2.objs.size) : At z TI TO i1 i2 lo P1 P2 St1 St2 h2 (i + 1) (as ++ [h.objs.size]) := by
  have far : ∀ c, lo ≤ c → c ≠ z ∧ c ≠ TO ∧ c ≠ i1 ∧ c ≠ i2 ∧ c ≠ L := fun c hc => ⟨Nat.ne_of_gt (Nat.lt_of_lt_of_le fr.hz hc), Nat.ne_of_gt (Nat.lt_of_lt_of_le fr.hto hc), Nat.ne_of_gt (Nat.lt_of_lt_of_le fr.ha hc), Nat.ne_of_gt (Nat.lt_of_lt_of_le fr.hb hc), Nat.ne_of_gt (Nat.lt_of_lt_of_le fr.hl hc)⟩
  have t2 : IsTupOf2 h2 h.objs.size x y := k2 _ _ (far _ g.lo_le).2.2.2.2 t
  refine ⟨.inr ⟨T', f', k2 _ _ fr.lz.symm o1, hT'⟩, k2 _ _ fr.lt.symm (k1 _ _ fr.sep.TIz fr.sep.TITO fr.sep.TIi1 fr.sep.TIi2 g.ti), D1.frame _ _ _ m1 fun b hb o e => k2 b o (fun q => fr.l1 (q ▸ hb)) e, D2.frame _ _ _ m2 fun b hb o e => k2 b o (fun q => fr.l2 (q ▸ hb)) e, by rw [List.length_append, g.len]; rfl, ?_, ?_, fun a ha => ?_, fun j a hj => ?_⟩
  · refine List.pairwise_append.mpr ⟨g.up, by simp, fun a ha b hb => ?_⟩
    simp at hb
    subst hb
    obtain ⟨j, hj⟩ := List.mem_iff_getElem?.mp ha
    obtain ⟨x, y, q, _⟩ := g.two j a hj
    exact Heap.lt_size q
  · exact Nat.le_trans (Nat.le_of_lt (Nat.lt_of_le_of_lt g.lo_le (Heap.lt_size t))) sz
  · rcases List.mem_append.mp ha with q | q
    · exact g.new a q
    · simp at q; subst q; exact g.lo_le
  · rw [List.getElem?_append] at hj
    split at hj
    · obtain ⟨x', y', q, r⟩ := g.two j a hj
      obtain ⟨c1, c2, c3, c4, c5⟩ := far a (g.new a (List.mem_of_getElem? hj))
      exact ⟨x', y', k2 _ _ c5 (k1 _ _ c1 c2 c3 c4 q), r⟩
    · rename_i hge
      rw [g.len] at hge hj
      have hji : j = i := by
        have := (List.getElem?_eq_some_iff.mp hj).1
        simp at this
        omega
      subst hji
      rw [Nat.sub_self] at hj
      cases hj
      exact ⟨x, y, t2, p1, p2⟩
abbrev lst (xs : List Value) (c : Nat) : Obj := { cls := .type "list", dict := none, data := .seq xs.toArray c, slots := #[] }
theorem loop {R : Result → Shared → Prop} {lo L : Addr} {res : Value} (fr : Far z TI TO i1 i2 lo L fp1 fp2) (D1 : Draws prog w A.in1.in1 i1 fp1 n1 P1 St1) (D2 : Draws prog w A.in1.in1 i2 fp2 n2 P2 St2) (hn : min n1 n2 ≤ sizeLine) :
    ∀ (k i : Nat) (s : Shared) (as : List Addr) (c : Nat), i + k = min n1 n2 → At z TI TO i1 i2 lo P1 P2 St1 St2 s.heap i as → s.heap.get? L = some (lst (as.map .ref) c) →
      (∀ (h' : Heap) (tk : Nat) (bs : List Addr) (c' : Nat), (∀ b o, b < lo → b ≠ z → b ≠ TO → b ≠ i1 → b ≠ i2 → b ≠ L → s.heap.get? b = some o → h'.get? b = some o) → h'.get? L = some (lst (bs.map .ref) c') → bs.length = min n1 n2 → bs.Pairwise (· < ·) → (∀ a ∈ bs, lo ≤ a) →
        (∀ j a, bs[j]? = some a → ∃ x y, IsTupOf2 h' a x y ∧ P1 j x ∧ P2 j y) → R (.ok (.ret res)) { s with heap := h', toks := tk }) →
      codeAny (model prog w) A (.builtin "list.extend.loop" ⟨[.ref L, .ref z, res], []⟩) R s := by
  intro k
  induction k with
  | zero =>
    intro i s as c hk g hL hR
    refine codeAny_builtin F.entry_extend_loop ?_
    rw [Around.under_plainId F.plain_extend_loop _]
    show wpAny _ A.in1 (pyNext (.ref z) >>= _) _ _ s
    have le : i = n1 ∨ i = n2 := by omega
    have fin : ∀ h' tk, (∀ c o, c ≠ z → c ≠ TO → c ≠ i1 → c ≠ i2 → s.heap.get? c = some o → h'.get? c = some o) → R (.ok (.ret res)) { s with heap := h', toks := tk } := fun h' tk kp => by
      refine hR h' tk as c (fun b o _ c1 c2 c3 c4 _ e => kp b o c1 c2 c3 c4 e) (kp _ _ fr.lz fr.lo_ (fun q => fr.l1 (q ▸ fr.sep.mem1)) (fun q => fr.l2 (q ▸ fr.sep.mem2)) hL) (by rw [g.len]; exact hk) g.up g.new fun j a hj => ?_
      obtain ⟨x, y, q, r⟩ := g.two j a hj
      have la := g.new a (List.mem_of_getElem? hj)
      exact ⟨x, y, kp _ _ (Nat.ne_of_gt (Nat.lt_of_lt_of_le fr.hz la)) (Nat.ne_of_gt (Nat.lt_of_lt_of_le fr.hto la)) (Nat.ne_of_gt (Nat.lt_of_lt_of_le fr.ha la)) (Nat.ne_of_gt (Nat.lt_of_lt_of_le fr.hb la)) q, r⟩
    rcases g.own with ⟨_, hz, a, b, ho⟩ | ⟨T, f, hz, hT⟩
    · exact wpAny_bind (wpAny_pyNext_zipD2_end fr.sep D1 D2 hz g.ti ho g.s1 g.s2 (by omega) (by omega) le fun h' tk kp => wpAny_pure (fin h' tk kp))
    · obtain ⟨j, hj⟩ := List.mem_iff_getElem?.mp hT
      obtain ⟨x, y, q, _⟩ := g.two j T hj
      exact wpAny_bind (end_out fr.sep D1 D2 hz ⟨_, q⟩ g.ti g.s1 g.s2 (by omega) (by omega) le fun h' tk kp => wpAny_pure (fin h' tk fun c o c1 _ c3 c4 e => kp c o c1 c3 c4 e))
  | succ k ih =>
    intro i s as c hk g hL hR
    refine codeAny_builtin F.entry_extend_loop ?_
    rw [Around.under_plainId F.plain_extend_loop _]
    show wpAny _ A.in1 (pyNext (.ref z) >>= _) _ _ s
    have go : ∀ (x y : Value) (h1 : Heap) (tk : Nat) (T' : Addr) (f' : Bool), P1 i x → P2 i y → Out h1 z TI TO T' f' → T' ∈ as ++ [s.heap.objs.size] → St1 (i + 1) h1 → St2 (i + 1) h1 → IsTupOf2 h1 s.heap.objs.size x y → (∀ c o, c ≠ z → c ≠ TO → c ≠ i1 → c ≠ i2 → s.heap.get? c = some o → h1.get? c = some o) →
        wpAny (model prog w) A.in1 (updateSeq L (·.push (.ref s.heap.objs.size)) >>= fun _ => again (.builtin "list.extend.loop" ⟨[.ref L, .ref z, res], []⟩))
          (fun fin s' => match fin with | .done f => R (.ok f) s' | .again c' => c'.quiet = true ∧ codeAny (model prog w) A c' R s') (fun e s' => R (.error e) s') { s with heap := h1, toks := tk } := fun x y h1 tk T' f' p1 p2 o1 hT' m1 m2 t kp => by
      have hL1 : h1.get? L = some (lst (as.map .ref) c) := kp _ _ fr.lz fr.lo_ (fun q => fr.l1 (q ▸ fr.sep.mem1)) (fun q => fr.l2 (q ▸ fr.sep.mem2)) hL
      have la : (as.map Value.ref).toArray.size = i := by rw [List.size_toArray, List.length_map, g.len]
      have g2 := g.grow (h2 := h1.update L (Obj.mapSeq (·.push (.ref s.heap.objs.size)))) fr D1 D2 kp t o1 hT' m1 m2 p1 p2 (fun c o hc e => (Heap.get?_update_other _ _ (Ne.symm hc)).trans e) (Nat.le_of_eq (Heap.SameBut.update ..).1.symm)
      refine wpAny_bind (wpAny_updateSeq hL1 rfl (wpAny_pure ⟨plainId_quiet F.plain_extend_loop _, ih (i + 1) _ (as ++ [s.heap.objs.size]) (c + 1) (by omega) g2 ?_ fun h' tk' bs c' q1 q2 q3 q4 q5 q6 => ?_⟩) (by rw [la]; omega) (by rw [Array.size_push, la]; omega))
      · have := Heap.get?_update_self (Obj.mapSeq (·.push (Value.ref s.heap.objs.size))) hL1 rfl
        rw [this]
        simp [Obj.mapSeq]
      · refine hR h' tk' bs c' (fun b o b0 b1 b2 b3 b4 b5 e => q1 b o b0 b1 b2 b3 b4 b5 ((Heap.get?_update_other _ _ (Ne.symm b5)).trans (kp b o b1 b2 b3 b4 e))) q2 q3 q4 q5 q6
    rcases g.own with ⟨i0, hz, a, b, ho⟩ | ⟨T, f, hz, hT⟩
    · exact wpAny_bind (wpAny_pyNext_zipD2_item fr.sep D1 D2 hz g.ti ho g.s1 g.s2 (by omega) (by omega) fun x y h1 tk p1 p2 o1 _ m1 m2 t _ kp => go x y h1 tk _ false p1 p2 o1 (by simp) m1 m2 t kp)
    · obtain ⟨j, hj⟩ := List.mem_iff_getElem?.mp hT
      obtain ⟨x, y, q, _⟩ := g.two j T hj
      exact wpAny_bind (next_out fr.sep D1 D2 hz ⟨_, q⟩ g.ti g.s1 g.s2 (by omega) (by omega) fun x y h1 tk p1 p2 o1 m1 m2 t kp => go x y h1 tk _ true p1 p2 o1 (List.mem_append_left _ hT) m1 m2 t fun c o c1 _ c3 c4 e => kp c o c1 c3 c4 e)
theorem no_len : typeLookup (.type "zip") "__len__" = pure none := by
  rw [typeLookup_type, builtinLookup_eq_fast]
  kernel_rfl
theorem no_hint : typeLookup (.type "zip") "__length_hint__" = pure none := by
  rw [typeLookup_type, builtinLookup_eq_fast]
  kernel_rfl
/-- a list's cell is written twice and stands as before -/
theorem touch {L : Addr} {xs : List Value} {c : Nat} {Q : Unit → Shared → Prop} (hL : s.heap.get? L = some (lst xs c)) (hx : xs.length + 1 ≤ sizeLine) (hQ : ∀ h' c', h'.get? L = some (lst xs c') → Heap.SameBut L s.heap h' → Q () { s with heap := h' }) : wpAny (model prog w) A (Builtin.List.listTouch (.ref L)) Q E s := by
  show wpAny _ _ (updateSeq L (·.push .none) >>= fun _ => updateSeq L (·.pop)) _ _ s
  refine wpAny_bind (wpAny_updateSeq hL rfl ?_ (by rw [List.size_toArray]; omega) (by rw [Array.size_push, List.size_toArray]; omega))
  have h1 := Heap.get?_update_self (Obj.mapSeq (·.push Value.none)) hL rfl
  have e1 : Obj.mapSeq (·.push Value.none) (lst xs c) = lst (xs ++ [.none]) (c + 1) := by simp [Obj.mapSeq]
  rw [e1] at h1
  refine wpAny_updateSeq h1 rfl (hQ _ (c + 2) ?_ ⟨(Heap.SameBut.update ..).1.trans (Heap.SameBut.update ..).1, fun b hb => ?_⟩) (by rw [List.size_toArray, List.length_append]; simp; omega) (by rw [Array.size_pop, List.size_toArray, List.length_append]; simp; omega)
  · rw [Heap.get?_update_self (Obj.mapSeq (·.pop)) h1 rfl]
    simp [Obj.mapSeq]
  · rw [Heap.get?_update_other _ _ (Ne.symm hb), Heap.get?_update_other _ _ (Ne.symm hb)]
theorem called {Q : Value → Shared → Prop} (S : ZipSep2 z TI TO i1 i2 fp1 fp2) (D1 : Draws prog w A.in1.in1.in1 i1 fp1 n1 P1 St1) (D2 : Draws prog w A.in1.in1.in1 i2 fp2 n2 P2 St2) (hn : min n1 n2 ≤ sizeLine) (hz : IsZip s.heap z TI TO .none) (hI : IsTupOf2 s.heap TI (.ref i1) (.ref i2)) (hO : IsTupOf2 s.heap TO a1 a2) (st1 : St1 0 s.heap) (st2 : St2 0 s.heap)
    (f1 : ∀ b ∈ fp1, b < s.heap.objs.size) (f2 : ∀ b ∈ fp2, b < s.heap.objs.size)
    (hQ : ∀ (h' : Heap) (tk : Nat) (bs : List Addr) (c' : Nat), (∀ b o, b ≠ z → b ≠ TO → b ≠ i1 → b ≠ i2 → s.heap.get? b = some o → h'.get? b = some o) → h'.get? s.heap.objs.size = some (lst (bs.map .ref) c') → bs.length = min n1 n2 → bs.Pairwise (· < ·) → (∀ a ∈ bs, s.heap.objs.size < a) →
      (∀ j a, bs[j]? = some a → ∃ x y, IsTupOf2 h' a x y ∧ P1 j x ∧ P2 j y) → Q (.ref s.heap.objs.size) { s with heap := h', toks := tk }) : wpAny (model prog w) A (call (.type "list") [.ref z]) Q E s := by
  have new : ∀ {b : Addr} {o : Obj}, s.heap.get? b = some o → b < s.heap.objs.size := fun e => Heap.lt_size e
  refine callType_codes (Q₁ := fun obj s₁ => obj = .ref s.heap.objs.size ∧ s₁ = { s with heap := s.heap.push { cls := .type "list", data := .seq #[] } }) F.called_list (F.typeCall_list_1 _) F.entry_list_init (code_list_new _ ⟨rfl, rfl⟩) fun obj s₁ h₁ => ?_
  obtain ⟨rfl, rfl⟩ := h₁
  have hL : (s.heap.push { cls := .type "list", data := .seq #[] }).get? s.heap.objs.size = some (lst [] 0) := Heap.get?_push_size _ rfl
  refine ⟨⟨_, hL, rfl⟩, F.args_list_init_2 _ _, ?_⟩
  have k0 : ∀ b o, s.heap.get? b = some o → (s.heap.push { cls := .type "list", data := .seq #[] }).get? b = some o := fun b o e => Heap.get?_push_of_some _ e
  generalize hh : s.heap.push { cls := .type "list", data := .seq #[] } = h0 at hL k0
  have sz0 : h0.objs.size = s.heap.objs.size + 1 := by rw [← hh, Heap.size_push]
  have low : ∀ {b : Addr} {o : Obj}, s.heap.get? b = some o → s.heap.objs.size ≠ b := fun e => Nat.ne_of_gt (new e)
  have tz : ∀ {h : Heap}, IsZip h z TI TO .none → ({ s with heap := h } : Shared).TypeIs (.ref z) "zip" := fun e => ⟨_, e, rfl⟩
  have hz0 := k0 _ _ hz
  show wpAny _ _ (Builtin.List.listItems (.ref s.heap.objs.size) >>= _) _ _ _
  refine wpAny_bind (wpAny_listItems hL rfl ?_)
  show wpAny _ _ (updateSeq s.heap.objs.size (fun _ => #[]) >>= _) _ _ _
  refine wpAny_bind (wpAny_updateSeq hL rfl ?_ (by decide) (by decide))
  have hL1 : (h0.update s.heap.objs.size (Obj.mapSeq fun _ => #[])).get? s.heap.objs.size = some (lst [] 0) := by
    rw [Heap.get?_update_self _ hL rfl]; rfl
  have k1 : ∀ b o, s.heap.get? b = some o → (h0.update s.heap.objs.size (Obj.mapSeq fun _ => #[])).get? b = some o := fun b o e => (Heap.get?_update_other _ _ (low e)).trans (k0 _ _ e)
  have sz1 : (h0.update s.heap.objs.size (Obj.mapSeq fun _ => #[])).objs.size = s.heap.objs.size + 1 := (Heap.SameBut.update ..).1.trans sz0
  generalize h0.update s.heap.objs.size (Obj.mapSeq fun _ => #[]) = h1 at hL1 k1 sz1
  refine wpAny_bind (wpAny_letGo ?_)
  have hz1 := k1 _ _ hz
  have hne : s.heap.objs.size ≠ z := low hz
  unfold Builtin.List.listExtendWith
  refine wpAny_bind (wpAny_typeOf (tz hz1) ?_)
  rw [if_neg (by simp [Builtin.List.listSameRef, hne])]
  refine wpAny_bind (wpAny_pyIter_zip hz1 (wpAny_bind (wpAny_holding ?_)))
  unfold Builtin.List.listLengthHint
  refine wpAny_bind (wpAny_specialOf (tz hz1) no_len ?_)
  show wpAny _ _ (specialOf (Value.ref z) (Str.ofString "__length_hint__") >>= _) _ _ _
  refine wpAny_bind (wpAny_specialOf (tz hz1) no_hint (wpAny_pure ?_))
  show wpAny _ _ (rule "list.extend.makes-room" >>= fun _ => Builtin.List.listTouch (.ref s.heap.objs.size) >>= _) _ _ _
  refine wpAny_bind (wpAny_rule (wpAny_bind (touch hL1 (by decide) fun h2 c2 hL2 b2 => ?_)))
  have k2 : ∀ b o, s.heap.get? b = some o → h2.get? b = some o := fun b o e => b2.extBut _ _ (low e).symm (k1 _ _ e)
  have sz2 : h2.objs.size = s.heap.objs.size + 1 := b2.1.trans sz1
  have lt : ∀ {b : Addr} {o : Obj}, s.heap.get? b = some o → b < s.heap.objs.size + 1 := fun e => Nat.lt_succ_of_lt (new e)
  have fr : Far z TI TO i1 i2 (s.heap.objs.size + 1) s.heap.objs.size fp1 fp2 := ⟨S, lt hz, lt hI, lt hO, Nat.lt_succ_of_lt (f1 _ S.mem1), Nat.lt_succ_of_lt (f2 _ S.mem2), Nat.lt_succ_self _, hne, low hI, low hO, fun q => Nat.lt_irrefl _ (f1 _ q), fun q => Nat.lt_irrefl _ (f2 _ q)⟩
  refine wpAny_pure ⟨plainId_quiet F.plain_extend_loop _, loop (lo := s.heap.objs.size + 1) fr D1 D2 hn (min n1 n2) 0 _ [] c2 (by omega) ⟨.inl ⟨rfl, k2 _ _ hz, _, _, k2 _ _ hO⟩, k2 _ _ hI, D1.frame _ _ _ st1 fun b _ o e => k2 b o e, D2.frame _ _ _ st2 fun b _ o e => k2 b o e, rfl, .nil, Nat.le_of_eq sz2.symm, fun a h => (by cases h), fun j a h => (by simp at h)⟩ hL2 fun h' tk bs c' q1 q2 q3 q4 q5 q6 => ?_⟩
  exact ⟨rfl, hQ h' tk bs c' (fun b o c1 c2 c3 c4 e => q1 b o (lt e) c1 c2 c3 c4 (low e).symm (k2 _ _ e)) q2 q3 q4 (fun a ha => q5 a ha) q6⟩
end
end LZ
end DN
/-! list(zip(a, b)) and dict(pairs) by data -/
namespace DN
open PySem PySem.Spec PyProof.Rows L2
open LamX (Tabs ExtN)
/-- u gives vs, one by one -/
def Src (prog : Program) (w : World) (u : Value) (vs : List V) (h : Heap) : Prop := ∃ (o : Obj) (Hb : Heap → Prop) (ls : List Addr), Begins u o Hb ∧ Hb h ∧ (∀ b ∈ ls, b < h.objs.size) ∧ vs.length ≤ sizeLine ∧
  ∀ (A : Around) (it : Addr), A.handled = none → it ∉ ls → ∃ (P : Nat → Value → Prop) (St : Nat → Heap → Prop), Draws prog w A it (it :: ls) vs.length P St ∧ (∀ h', h'.get? it = some o → Hb h' → St 0 h') ∧ ∀ i x, P i x → ∃ v, vs[i]? = some v ∧ RelV v x
def Sc (K : PySem.W.Frag) (H : Hp) (x : V) (xs : List V) : Prop := (∃ a, x = .ref a ∧ SqL K H a xs) ∨ (∃ a, x = .ref a ∧ SqT K H a xs) ∨ ∃ z : Str, x = .str z ∧ xs = (z.cps.toList.map fun c => V.str ⟨#[c]⟩) ∧ z.cps.size ≤ sizeLine
theorem vals_at : ∀ {vs : List V} {us : List Value} {i : Nat} {u : Value}, Vals vs us → us[i]? = some u → ∃ v, vs[i]? = some v ∧ RelV v u
  | _, _, _, _, .nil, e => by simp at e
  | _, _, 0, _, .cons h _, e => by
    simp at e; subst e; exact ⟨_, rfl, h⟩
  | _, _, i + 1, u, .cons _ t, e => by
    obtain ⟨v, h1, h2⟩ := vals_at (i := i) (u := u) t (by simpa using e)
    exact ⟨v, by simpa using h1, h2⟩
section
variable {X : Cx} {T : List (Addr × Str)} {W : WX}
theorem sc_src {pins : List (Addr × Obj)} {σ : L2.St} {H : Hp} {s : Shared} {x : V} {xs : List V} {u : Value} (I : Inv X pins σ H s) (r : RelV x u) (h : Sc X.K H x xs) : Src X.prog X.w u xs s.heap := by
  rcases h with ⟨a, rfl, h⟩ | ⟨a, rfl, h⟩ | ⟨z, rfl, rfl, hz⟩
  · cases r
    obtain ⟨its, rv, pl, hz⟩ := I.list h
    obtain ⟨o, ho, _⟩ := pl.isList
    refine ⟨_, _, [a], begins_list a its.toArray, pl.isList, fun b hb => by simp at hb; subst hb; exact Heap.lt_size ho, hz, fun A it hh hne => ?_⟩
    have e : its.toArray.size = xs.length := by rw [List.size_toArray, rv.length]
    refine ⟨_, _, e ▸ Draws.list hh it a (fun q => hne (by simp [q])) its.toArray, fun h' q1 q2 => ⟨⟨_, q1, rfl, rfl⟩, q2⟩, fun i v hv => ?_⟩
    exact vals_at rv (by simpa using hv)
  · cases r
    obtain ⟨its, rv, pl, hz⟩ := I.tuple h
    have pl : s.heap.IsTuple a its.toArray := pl
    obtain ⟨o, ho, _⟩ := id pl
    refine ⟨_, _, [a], begins_tuple a its.toArray, pl, fun b hb => by simp at hb; subst hb; exact Heap.lt_size ho, hz, fun A it hh hne => ?_⟩
    have e : its.toArray.size = xs.length := by rw [List.size_toArray, rv.length]
    refine ⟨_, _, e ▸ Draws.tuple hh it a (fun q => hne (by simp [q])) its.toArray, fun h' q1 q2 => ⟨⟨_, q1, rfl, rfl⟩, q2⟩, fun i v hv => ?_⟩
    exact vals_at rv (by simpa using hv)
  · obtain ⟨t, rfl⟩ := r
    refine ⟨_, _, [], begins_text z t, trivial, (fun b hb => by cases hb), by simpa using hz, fun A it hh hne => ?_⟩
    have e : z.cps.size = (z.cps.toList.map fun c => V.str ⟨#[c]⟩).length := by simp
    refine ⟨_, _, e ▸ Draws.text hh it z t, fun h' q1 q2 => ⟨_, q1, rfl, rfl⟩, fun i v hv => ?_⟩
    obtain ⟨c, tk, h1, rfl⟩ := hv
    exact ⟨.str ⟨#[c]⟩, by rw [List.getElem?_map, Array.getElem?_toList, h1]; rfl, tk, rfl⟩
def Pr (H : Hp) : List Addr → List (V × V) → Prop := Paired fun t q => H t = some (.tup [q.1, q.2])
def tLzip (K : PySem.W.Frag) (t : TA) : TE := fun σ H Q => t σ H fun vs H1 => ∃ (x y : V) (xs ys : List V), vs = [x, y] ∧ Sc K H1 x xs ∧ Sc K H1 y ys ∧
  ∀ (H' : Hp) (p : Addr) (ts : List Addr), (∀ b o, H1 b = some o → H' b = some o) → H1 p = none → (∀ t ∈ ts, H1 t = none) → H' p = some (.lst (ts.map V.ref)) → Pr H' ts (xs.zip ys) → Q (.ref p) H'
theorem vals_ref : ∀ as : List Addr, Vals (as.map V.ref) (as.map Value.ref)
  | [] => .nil
  | _ :: as => .cons rfl (vals_ref as)
theorem pr_of {H : Hp} : ∀ {ts : List Addr} {qs : List (V × V)}, ts.length = qs.length → (∀ (j : Nat) (a : Addr), ts[j]? = some a → ∃ q : V × V, qs[j]? = some q ∧ H a = some (.tup [q.1, q.2])) → Pr H ts qs
  | [], [], _, _ => .nil
  | t :: ts, q :: qs, hl, h => by
    refine .cons ?_ (pr_of (by simpa using hl) fun j a hj => ?_)
    · obtain ⟨q', h1, h2⟩ := h 0 t rfl
      cases h1; exact h2
    · obtain ⟨q', h1, h2⟩ := h (j + 1) a (by simpa using hj)
      exact ⟨q', by simpa using h1, h2⟩
theorem pe_lzip {a b : Expr} {t : TA} {p p2 zpos pos : Pos} (hc : X.calm = true) (ha : PA X [a, b] t) (hgl : Gl X "list") (hml : X.mg "list" = none) (hgz : Gl X "zip") (hmz : X.mg "zip" = none)
    (h1 : starEach [.Call (.Name "zip" p2) [a, b] [] zpos] X.env = (false, eval (.Call (.Name "zip" p2) [a, b] [] zpos) X.env) :: starEach [] X.env := by rfl) (h2 : starEach [a, b] X.env = (false, eval a X.env) :: starEach [b] X.env := by rfl) (h3 : (backTo zpos (starEach [b] X.env)).any (·.1) = false := by rfl) :
    PE X (.Call (.Name "list" p) [.Call (.Name "zip" p2) [a, b] [] zpos] [] pos) (tLzip X.K t) := by
  refine ⟨fun pins s σ H Q I hq => ?_⟩
  refine wpAny_Call_Name_kw (ld_blt I hgl hml (by decide +kernel : bootBuiltins "list" = some (.type "list")) ?_)
  refine PyProof.Rows.callWith_type1 ?_ h1 rfl
  rw [h1]
  show wpAny _ _ (spliced ((false, eval (.Call (.Name "zip" p2) [a, b] [] zpos) X.env) :: backTo pos (starEach [] X.env))) _ _ s
  refine Calls.spliced_cons (wpAny_Call_Name_kw (ld_blt I hgz hmz (by decide +kernel : bootBuiltins "zip" = some (.type "zip")) ?_))
  refine PyProof.Rows.callWith_type1 (thn (ha.run zpos pins s σ H _ I hq) fun us s1 ⟨vs, H1, I1, rv, x, y, xs, ys, ev, sx, sy, q⟩ => ?_) h2 h3
  subst ev
  obtain ⟨u1, u2, rfl, r1, r2⟩ := vals2 rv
  obtain ⟨o1, B1, ls1, b1, hb1, hl1, z1, d1⟩ := sc_src I1 r1 sx
  obtain ⟨o2, B2, ls2, b2, hb2, hl2, z2, d2⟩ := sc_src I1 r2 sy
  have hh : X.A.handled = none := I1.ok.hd hc
  refine zip_begins2 b1 b2 hb1 hb2 fun h' hz hI hO g1 g2 sz kp => Calls.spliced_nil ?_
  have n1 : s1.heap.objs.size ∉ ls1 := fun e => Nat.lt_irrefl _ (hl1 _ e)
  have n2 : s1.heap.objs.size + 1 ∉ ls2 := fun e => by have := hl2 _ e; exact absurd this (Nat.not_lt.mpr (Nat.le_succ _))
  obtain ⟨P1, St1, D1, k1, c1⟩ := d1 X.A.in1.in1.in1 s1.heap.objs.size hh n1
  obtain ⟨P2, St2, D2, k2, c2⟩ := d2 X.A.in1.in1.in1 (s1.heap.objs.size + 1) hh n2
  have out1 : ∀ k : Nat, s1.heap.objs.size + k ∉ ls1 := fun k e => absurd (hl1 _ e) (Nat.not_lt.mpr (Nat.le_add_right _ _))
  have out2 : ∀ k : Nat, s1.heap.objs.size + k ∉ ls2 := fun k e => absurd (hl2 _ e) (Nat.not_lt.mpr (Nat.le_add_right _ _))
  have ap : ∀ j k : Nat, j ≠ k → s1.heap.objs.size + j ≠ s1.heap.objs.size + k := fun j k h e => h (Nat.add_left_cancel e)
  have ne : ∀ (j k : Nat) (ls : List Addr), (∀ k : Nat, s1.heap.objs.size + k ∉ ls) → j ≠ k → s1.heap.objs.size + j ∉ (s1.heap.objs.size + k) :: ls := fun j k ls o h e => (List.mem_cons.mp e).elim (ap j k h) (o j)
  have S : ZipSep2 (s1.heap.objs.size + 4) (s1.heap.objs.size + 2) (s1.heap.objs.size + 3) s1.heap.objs.size (s1.heap.objs.size + 1) (s1.heap.objs.size :: ls1) ((s1.heap.objs.size + 1) :: ls2) :=
    ⟨ap 2 4 (by omega), ap 3 4 (by omega), ap 2 3 (by omega), ap 2 0 (by omega), List.mem_cons_self, ne 4 0 _ out1 (by omega), ne 3 0 _ out1 (by omega), ap 2 1 (by omega), List.mem_cons_self, ne 4 1 _ out2 (by omega), ne 3 1 _ out2 (by omega), ne 0 1 _ out2 (by omega), ne 1 0 _ out1 (by omega)⟩
  have lt : ∀ b : Addr, b < s1.heap.objs.size + 2 → b < h'.objs.size := fun b hb => by rw [sz]; exact Nat.lt_of_lt_of_le hb (by omega)
  refine LZ.called (s := { s1 with heap := h' }) S D1 D2 (Nat.le_trans (Nat.min_le_left _ _) z1) hz hI hO (k1 h' g1 (b1.keeps _ _ hb1 kp)) (k2 h' g2 (b2.keeps _ _ hb2 kp)) (fun b hb => lt b ?_) (fun b hb => lt b ?_) fun h2 tk bs c' q1 q2 q3 q4 q5 q6 => ?_
  · rcases List.mem_cons.mp hb with e | e
    · rw [e]; exact Nat.lt_add_of_pos_right (by omega)
    · exact Nat.lt_of_lt_of_le (hl1 _ e) (Nat.le_add_right _ _)
  · rcases List.mem_cons.mp hb with e | e
    · rw [e]; exact Nat.lt_succ_self _
    · exact Nat.lt_of_lt_of_le (hl2 _ e) (Nat.le_add_right _ _)
  have kh : ∀ b o, s1.heap.get? b = some o → h2.get? b = some o := fun b o e => by
    have lb : b < s1.heap.objs.size := Heap.lt_size e
    have nb : ∀ k : Nat, b ≠ s1.heap.objs.size + k := fun k z => absurd lb (Nat.not_lt.mpr (z ▸ Nat.le_add_right _ _))
    exact q1 b o (nb 4) (nb 3) (nb 0) (nb 1) (kp _ _ e)
  have I2 : Inv X pins σ H1 { s1 with heap := h2, toks := tk } := I1.kept (t' := tk) kh
  have big : s1.heap.objs.size ≤ h'.objs.size := by rw [sz]; exact Nat.le_add_right _ _
  have fS : H1 h'.objs.size = none := I1.hok.fresh big
  have lz : bs.length ≤ sizeLine := by rw [q3]; exact Nat.le_trans (Nat.min_le_left _ _) z1
  have I3 : Inv X pins σ (upd H1 h'.objs.size (.lst (bs.map V.ref))) { s1 with heap := h2, toks := tk } := I2.take (h' := h2) (t' := tk) (fun b ob _ e => e) (I1.fpOk big fS) ⟨by rw [List.length_map]; exact lz, bs.map Value.ref, c', vals_ref bs, q2⟩
  have nd : bs.Nodup := List.Pairwise.imp (fun h => Nat.ne_of_lt h) q4
  obtain ⟨H2, I4, g, qt⟩ := L2.DX.takeT (P := fun a vs => ∃ j v1 v2, bs[j]? = some a ∧ xs[j]? = some v1 ∧ ys[j]? = some v2 ∧ vs = [v1, v2]) I1 bs _ I3 nd fun a ha => by
    obtain ⟨j, hj⟩ := List.mem_iff_getElem?.mp ha
    obtain ⟨w1, w2, t0, p1, p2⟩ := q6 j a hj
    obtain ⟨v1, e1, rv1⟩ := c1 j w1 p1
    obtain ⟨v2, e2, rv2⟩ := c2 j w2 p2
    have la := q5 a ha
    have la2 : s1.heap.objs.size ≤ a := Nat.le_trans big (Nat.le_of_lt la)
    refine ⟨la2, by rw [upd_ne (Nat.ne_of_gt la)]; exact I1.hok.fresh la2, [v1, v2], ⟨j, v1, v2, hj, e1, e2, rfl⟩, fun H3 => ⟨(by decide : 2 ≤ sizeLine), [w1, w2], .cons rv1 (.cons rv2 .nil), ⟨_, t0, rfl, 0, rfl⟩⟩⟩
  have gr : ∀ b o, H1 b = some o → H2 b = some o := fun b o e => g b o (by rw [upd_ne (ne_of_none e fS)]; exact e)
  refine ⟨.ref h'.objs.size, H2, I4, rfl, q H2 _ bs gr fS (fun a ha => I1.hok.fresh (Nat.le_trans big (Nat.le_of_lt (q5 a ha)))) (g _ _ upd_same) (pr_of ?_ fun j a hj => ?_)⟩
  · rw [q3, List.length_zip]
  · obtain ⟨vs, ⟨j', v1, v2, e0, e1, e2, ev⟩, hH⟩ := qt a (List.mem_of_getElem? hj)
    have ej : j = j' := (List.getElem?_inj (List.getElem?_eq_some_iff.mp hj).1 nd).mp (hj.trans e0.symm)
    subst ej
    refine ⟨(v1, v2), ?_, by rw [hH, ev]⟩
    exact List.getElem?_zip_eq_some.mpr ⟨e1, e2⟩
end
/-! ### by data -/
def srcD : D → Option (List D)
  | .lst xs => some xs
  | .tup xs => some xs
  | .str z => if z.cps.size ≤ sizeLine then some (z.cps.toList.map fun c => .str ⟨#[c]⟩) else none
  | _ => none
def zipTD (xs ys : List D) : List D := (xs.zip ys).map fun q => .tup [q.1, q.2]
def lzipD : List D → Option D
  | [a, b] => (srcD a).bind fun xs => (srcD b).bind fun ys => some (.lst (zipTD xs ys))
  | _ => none
theorem rp_sc {K : PySem.W.Frag} {F H : Hp} {v : V} {d : D} {ds : List D} (z : Fz F H) (r : Rp K F v d) (h : srcD d = some ds) : ∃ xs, Sc K H v xs ∧ RpAll K F xs ds := by
  unfold srcD at h
  split at h
  · cases h
    cases r with
    | lst h1 r1 => exact ⟨_, .inl ⟨_, rfl, SqL.of (z.sub _ _ h1)⟩, r1⟩
  · cases h
    cases r with
    | tup h1 r1 => exact ⟨_, .inr (.inl ⟨_, rfl, z.sub.st h1⟩), r1⟩
  · split at h
    · rename_i hs
      cases h
      cases r
      refine ⟨_, .inr (.inr ⟨_, rfl, rfl, hs⟩), ?_⟩
      generalize (Str.cps _).toList = l
      induction l with
      | nil => exact .nil
      | cons c l ih => exact .cons (.str _) ih
    · cases h
  · cases h
theorem Nx.many {T : List (Addr × Str)} {F H H' : Hp} {N : List Addr} (z : Fz F H) (kp : ∀ b o, H b = some o → H' b = some o) (hn : ∀ a ∈ N, H a = none) (hs : ∀ a ∈ N, ∃ o, H' a = some o ∧ ∀ ps, o ≠ .tbl ps) : Nx T F H (fun a => if a ∈ N then H' a else F a) H' := by
  refine ⟨fun a o e => ?_, ⟨fun a o e => ?_, fun a ps e => ?_⟩, fun b u e _ => kp b u e, fun a o e => ?_, fun t => t.ext fun b u e => kp b u e⟩
  · have : a ∉ N := fun q => by have := z.sub _ _ e; rw [hn a q] at this; cases this
    show (if a ∈ N then H' a else F a) = some o
    rw [if_neg this]; exact e
  · have e : (if a ∈ N then H' a else F a) = some o := e
    split at e
    · exact e
    · exact kp _ _ (z.sub _ _ e)
  · have e : (if a ∈ N then H' a else F a) = some (.tbl ps) := e
    split at e
    · rename_i q
      obtain ⟨o, h1, h2⟩ := hs a q
      rw [h1] at e
      exact h2 ps (Option.some.inj e)
    · exact z.nt _ _ e
  · have e : (if a ∈ N then H' a else F a) = some o := e
    split at e
    · rename_i q
      exact .inr fun o' e' => by rw [hn a q] at e'; cases e'
    · exact .inl e
theorem rp_zip {K : PySem.W.Frag} {F F' H' : Hp} (sb : Sub F F') : ∀ {ts : List Addr} {xs ys : List V} {ds es : List D}, RpAll K F xs ds → RpAll K F ys es → Pr H' ts (xs.zip ys) → (∀ t ∈ ts, F' t = H' t) → RpAll K F' (ts.map V.ref) (zipTD ds es)
  | _, _, _, _, _, .nil, _, h, _ => by cases h; exact .nil
  | _, _, _, _, _, .cons _ _, .nil, h, _ => by cases h; exact .nil
  | _, _, _, _, _, .cons r1 t1, .cons r2 t2, h, hf => by
    cases h with
    | cons h1 h2 =>
      refine .cons (.tup (.inl (.inl (by rw [hf _ List.mem_cons_self]; exact h1))) (.cons (r1.mono sb) (.cons (r2.mono sb) .nil))) (rp_zip sb t1 t2 h2 fun t ht => hf t (List.mem_cons_of_mem _ ht))
theorem Pr.all {H' : Hp} : ∀ {ts : List Addr} {qs : List (V × V)}, Pr H' ts qs → ∀ t ∈ ts, ∃ vs, H' t = some (.tup vs)
  | _, _, .nil, t, h => by cases h
  | _, _, .cons h1 h2, t, h => by
    rcases List.mem_cons.mp h with e | e
    · rw [e]; exact ⟨_, h1⟩
    · exact Pr.all h2 t e
section
variable {X : Cx} {T : List (Addr × Str)} {W : WX} {F0 G : Hp} {i : Nat}
theorem e_lzip {a b : Expr} {f : Rho → Res (List D)} {p p2 zpos pos : Pos} (hc : X.calm = true) (hgl : Gl X "list") (hml : X.mg "list" = none) (hgz : Gl X "zip") (hmz : X.mg "zip" = none) (ha : DA X T W [a, b] f)
    (h1 : starEach [.Call (.Name "zip" p2) [a, b] [] zpos] X.env = (false, eval (.Call (.Name "zip" p2) [a, b] [] zpos) X.env) :: starEach [] X.env := by rfl) (h2 : starEach [a, b] X.env = (false, eval a X.env) :: starEach [b] X.env := by rfl) (h3 : (backTo zpos (starEach [b] X.env)).any (·.1) = false := by rfl) :
    DE X T W (.Call (.Name "list" p) [.Call (.Name "zip" p2) [a, b] [] zpos] [] pos) (cal lzipD f) :=
  (pe_lzip hc ha hgl hml hgz hmz h1 h2 h3).to fun σ H Q ⟨ρ, F, a, h⟩ => by
    refine ⟨ρ, F, a, (aft.bind (R := RpAll X.K) h).imp fun _ _ vs F1' H1 _ _ q => ?_⟩
    obtain ⟨ds, F1, _, n, rs, q⟩ := q
    obtain ⟨d, hd, q⟩ := ofO_ok q
    unfold lzipD at hd
    split at hd
    · rename_i d1 d2
      obtain ⟨xs, e1, hd⟩ := Option.bind_eq_some_iff.mp hd
      obtain ⟨ys, e2, hd⟩ := Option.bind_eq_some_iff.mp hd
      cases hd
      cases rs with
      | cons r1 rs =>
        cases rs with
        | cons r2 rs =>
          cases rs
          obtain ⟨vx, s1, k1⟩ := rp_sc n.z r1 e1
          obtain ⟨vy, s2, k2⟩ := rp_sc n.z r2 e2
          refine ⟨_, _, vx, vy, rfl, s1, s2, fun H' p ts kp hp hts hl pr => ?_⟩
          have nx : Nx T F1 H1 (fun a => if a ∈ p :: ts then H' a else F1 a) H' := Nx.many n.z kp (fun a ha => (List.mem_cons.mp ha).elim (fun e => e ▸ hp) (hts a)) fun a ha => by
            rcases List.mem_cons.mp ha with e | e
            · rw [e]; exact ⟨_, hl, ntL⟩
            · obtain ⟨vs, q⟩ := pr.all a e
              exact ⟨_, q, fun ps z => by cases z⟩
          exact q _ _ H' nx (.lst (by show (if p ∈ p :: ts then H' p else F1 p) = _; rw [if_pos List.mem_cons_self]; exact hl) (rp_zip nx.f k1 k2 pr fun t ht => if_pos (List.mem_cons_of_mem _ ht)))
    · cases hd
end
/-! ### dict(pairs) -/
def pairsOf : List D → Option (List Str × List D)
  | [] => some ([], [])
  | .tup [.str k, d] :: ds => (pairsOf ds).map fun q => (k :: q.1, d :: q.2)
  | _ => none
theorem rp_pairs {K : PySem.W.Frag} {F : Hp} : ∀ {vs : List V} {ds : List D} {ks : List Str} {es : List D}, RpAll K F vs ds → pairsOf ds = some (ks, es) →
    ∃ ps ws, vs = ps.map V.ref ∧ RpAll K F ws es ∧ ks.length = ws.length ∧ Paired (fun p kv => SqT K F p [kV kv.1, kv.2]) ps (kvK ks ws)
  | _, _, _, _, .nil, h => by
    unfold pairsOf at h
    cases h
    exact ⟨[], [], rfl, .nil, rfl, .nil⟩
  | _, _, ks, es, .cons (v := v) (vs := vs) (d := d) (ds := ds) r t, h => by
    unfold pairsOf at h
    split at h
    · rename_i e; cases e
    · rename_i k d' ds' e
      cases e
      obtain ⟨q, h1, h2⟩ := Option.map_eq_some_iff.mp h
      obtain ⟨ps, ws, e1, e2, e3, e4⟩ := rp_pairs t h1
      cases h2
      cases r with
      | @tup a xs _ h1 r1 =>
        cases r1 with
        | cons ra rb =>
          cases rb with
          | @cons u us _ _ rb rc =>
            cases rc
            cases ra
            exact ⟨a :: ps, u :: ws, by rw [e1]; rfl, .cons rb e2, by rw [List.length_cons, List.length_cons, e3], .cons h1 e4⟩
    · cases h
theorem pair_mono {K : PySem.W.Frag} {F H : Hp} (sb : Sub F H) : ∀ {ps : List Addr} {kvs : List (Key × V)}, Paired (fun p kv => SqT K F p [kV kv.1, kv.2]) ps kvs → Paired (fun p kv => SqT K H p [kV kv.1, kv.2]) ps kvs
  | _, _, .nil => .nil
  | _, _, .cons h t => .cons (sb.st h) (pair_mono sb t)
def dictD : List D → Option D
  | [.lst ds] => (pairsOf ds).bind fun q => if q.1.Nodup then some (.tab none q.1 q.2) else none
  | _ => none
def kdict (i : Nat) (f : Rho → Res (List D)) (k : Rho → MSt → SM) : Rho → Addr → SM := fun ρ p => match f ρ with
  | .ok [.lst ds] => (match pairsOf ds with
    | some q => if q.1.Nodup ∧ D.imms q.2 = true ∧ noOwn ρ = true ∧ i < ρ.length then k (ρ.set i (.z (.adr p))) q else .bad
    | none => .bad)
  | .ok _ => .bad
  | .ex n => .ex n
  | .bad => .bad
theorem flds_imm {K : PySem.W.Frag} {F H : Hp} : ∀ {ws : List V} {es : List D}, RpAll K F ws es → D.imms es = true → Flds K F H ws es []
  | _, _, .nil, _ => .nil
  | _, _, .cons r t, h => by
    unfold D.imms at h
    rw [Bool.and_eq_true] at h
    exact .imm h.1 r (flds_imm t h.2)
section
variable {X : Cx} {T : List (Addr × Str)} {W : WX} {F0 G : Hp} {i : Nat}
theorem ntK {kvs : List (Key × V)} : ∀ ps, HO.dK kvs ≠ .tbl ps := fun ps z => by cases z
theorem e_dict {e : Expr} {f : Rho → Res (List D)} {p pos : Pos} (hc : X.calm = true) (hg : Gl X "dict") (hm : X.mg "dict" = none) (hv : bootBuiltins "dict" = some (.type "dict")) (ha : DA X T W [e] f)
    (hpl : starEach [e] X.env = (false, eval e X.env) :: starEach [] X.env := by rfl) (hpl2 : (backTo pos (starEach [] X.env)).any (·.1) = false := by rfl) : DE X T W (.Call (.Name "dict" p) [e] [] pos) (cal dictD f) :=
  (pe_callTy (call_dictP hc) hg hm hv ha (by decide) (by decide) hpl hpl2).to fun σ H Q ⟨ρ, F, a, h⟩ => by
    refine ⟨ρ, F, a, (aft.bind (R := RpAll X.K) h).imp fun _ _ vs F1' H1 _ _ q => ?_⟩
    obtain ⟨ds, F1, _, n, rs, q⟩ := q
    obtain ⟨d, hd, q⟩ := ofO_ok q
    unfold dictD at hd
    split at hd
    · rename_i ds
      obtain ⟨⟨ks, es⟩, e1, hd⟩ := Option.bind_eq_some_iff.mp hd
      split at hd
      · rename_i hn
        cases hd
        cases rs with
        | cons r rs =>
          cases rs
          cases r with
          | lst h1 r1 =>
            obtain ⟨ps, ws, rfl, e2, e3, e4⟩ := rp_pairs r1 e1
            refine ⟨_, ps, kvK ks ws, rfl, SqL.of (n.z.sub _ _ h1), pair_mono n.z.sub e4, fun p hp => ?_⟩
            rw [merge_kvK e3 hn]
            have nx : Nx T F1 H1 _ _ := Nx.push (o := .dK (kvK ks ws)) n.z hp ntK
            exact q _ _ _ nx (.tab (fun _ z => by cases z) upd_same e3 (e2.mono nx.f))
      · cases hd
    · cases hd
theorem k_dict {tg e : Expr} {rest : List Stmt} {p pos pos2 : Pos} {f : Rho → Res (List D)} {s : Rho → MSt → SM} (hc : X.calm = true) (hg : Gl X "dict") (hm : X.mg "dict" = none) (hv : bootBuiltins "dict" = some (.type "dict")) (ha : DA X T W [e] f) (ht : PG X tg (gName i)) (h2 : DMs X T W F0 G i rest s)
    (hpl : starEach [e] X.env = (false, eval e X.env) :: starEach [] X.env := by rfl) (hpl2 : (backTo pos (starEach [] X.env)).any (·.1) = false := by rfl)
    (hs : swapsWithSole [tg] (.Call (.Name "dict" p) [e] [] pos) pos2.line X.env = pure false := by rfl) (hw : swappedStores [tg] (.Call (.Name "dict" p) [e] [] pos) X.env = pure none := by rfl)
    (h1 : (assignEach [tg] X.env).map (·.2) = [assign tg X.env] := by rfl) :
    DKs X T W F0 G i (.Assign [tg] (.Call (.Name "dict" p) [e] [] pos) pos2 :: rest) (kdict i f s) := by
  refine (pss_cons (ps_asg (pe_callTy (call_dictP hc) hg hm hv ha (by decide) (by decide) hpl hpl2) ht hs hw h1) h2).to fun Z σ H ⟨ρ, F, g, h⟩ => ?_
  refine ⟨ρ, F, g.at_, ?_⟩
  unfold kdict at h
  cases e : f ρ with
  | ex n => rw [e] at h; exact fun F1 H1 n => h 0 σ F1 H1 (g.nx.trans n)
  | bad => rw [e] at h; exact h 0
  | ok ds =>
    rw [e] at h
    split at h
    · rename_i ds' ed
      cases ed
      cases e1 : pairsOf ds' with
      | none => rw [e1] at h; exact (h 0).elim
      | some q =>
        obtain ⟨ks, es⟩ := q
        rw [e1] at h
        replace h : ∀ p, aftM X.K T W F0 G F i p Z (if ks.Nodup ∧ D.imms es = true ∧ noOwn ρ = true ∧ i < ρ.length then s (ρ.set i (.z (.adr p))) (ks, es) else .bad) := h
        by_cases hcc : ks.Nodup ∧ D.imms es = true ∧ noOwn ρ = true ∧ i < ρ.length
        · refine fun vs F1 H1 n rs => ?_
          cases rs with
          | cons r rs =>
            cases rs
            cases r with
            | lst h3 r1 =>
              obtain ⟨ps, ws, rfl, e2, e3, e4⟩ := rp_pairs r1 e1
              refine ⟨_, ps, kvK ks ws, rfl, SqL.of (n.z.sub _ _ h3), pair_mono n.z.sub e4, fun p hp => ?_⟩
              rw [merge_kvK e3 hcc.1]
              have h := h p
              rw [if_pos hcc] at h
              have nx : Nx T F1 H1 F1 (upd H1 p (.dK (kvK ks ws))) := Nx.lay n.z hp
              have st : StAt X.K F1 (upd H1 p (.dK (kvK ks ws))) p (ks, es) [p] := ⟨⟨ws, [], rfl, upd_same, e3, flds_imm e2 hcc.2.1⟩, by simp, fun a ha => by simp at ha; subst ha; exact frn n.z hp, hcc.1⟩
              exact ⟨_, F1, p, _, _, Mg.make (g.step n) nx st (fun a ha => by simp at ha; subst ha; exact fun o ho => by rw [hp] at ho; cases ho) hcc.2.2.1 hcc.2.2.2, aftM.mono n.f h⟩
        · have h := h 0
          rw [if_neg hcc] at h
          exact h.elim
    · exact (h 0).elim
    · rename_i ed; cases ed
    · rename_i ed; cases ed
end
end DN
/-! M-mode where a token is out -/
namespace DN
open PySem PySem.Spec PyProof.Rows L2
open LamX (Tabs ExtN)
section
variable {X : Cx} {T : List (Addr × Str)} {W : WX} {F0 G : Hp} {i : Nat}
abbrev DMT (X : Cx) (T : List (Addr × Str)) (W : WX) (F0 G : Hp) (i : Nat) (st : Stmt) (s : Rho → MSt → SM) : Prop := PST X st (tM X.K T W F0 G i s)
abbrev DMsT (X : Cx) (T : List (Addr × Str)) (W : WX) (F0 G : Hp) (i : Nat) (st : List Stmt) (s : Rho → MSt → SM) : Prop := PSsT X st (tM X.K T W F0 G i s)
theorem mt_of {st : Stmt} {s : Rho → MSt → SM} (h : DM X T W F0 G i st s) : DMT X T W F0 G i st s := PST.of h
theorem mst_of {st : List Stmt} {s : Rho → MSt → SM} (h : DMs X T W F0 G i st s) : DMsT X T W F0 G i st s := PSsT.of h
theorem mt_cons {st : Stmt} {rest : List Stmt} {s t : Rho → MSt → SM} (h : DMT X T W F0 G i st s) (h2 : DMsT X T W F0 G i rest t) : DMsT X T W F0 G i (st :: rest) (mseq s t) :=
  PSsTto (psst_cons h h2) fun Z σ H ⟨ρ, F, p, m, S, g, h⟩ => by
    refine ⟨ρ, F, p, m, S, g, ?_⟩
    unfold mseq at h
    cases e : s ρ m with
    | nx ρ' m' =>
      rw [e] at h
      exact fun σ' F' H' S' g' sb => ⟨ρ', F', p, m', S', g', aftM.mono sb h⟩
    | fin b m' => rw [e] at h; exact h
    | rt d => rw [e] at h; exact h
    | ex n => rw [e] at h; exact h
    | bad => rw [e] at h; exact h
theorem mt_one {st : Stmt} {s : Rho → MSt → SM} (h : DMT X T W F0 G i st s) : DMsT X T W F0 G i [st] s := CwR.psst_one h
theorem mif_to {f : Rho → Res Bool} {s t : Rho → MSt → SM} : ∀ Z σ H, tM X.K T W F0 G i (mif i f s t) Z σ H → tIfS (tT X.K T W f) (tM X.K T W F0 G i s) (tM X.K T W F0 G i t) Z σ H := fun Z σ H ⟨ρ, F, p, m, S, g, h⟩ => by
    refine ⟨_, lend F H S, g.lent, ?_⟩
    unfold mif at h
    cases e : f (DN.lent i ρ m) with
    | ok b =>
      rw [e] at h
      refine fun v F1 H1 n rv => ?_
      obtain rfl : v = b := rv
      obtain ⟨g1, n1⟩ := g.back n
      cases v with
      | true => exact ⟨ρ, _, p, m, S, g1, aftM.mono n1.f h⟩
      | false => exact ⟨ρ, _, p, m, S, g1, aftM.mono n1.f h⟩
    | ex n =>
      rw [e] at h
      exact fun F1 H1 n => h σ _ H1 (g.nx.trans (g.back n).2)
    | bad => rw [e] at h; exact h
theorem mt_if {c : Expr} {a b : List Stmt} {pos : Pos} {f : Rho → Res Bool} {s t : Rho → MSt → SM} (hc : DQ X T W c f) (ha : DMsT X T W F0 G i a s) (hb : DMsT X T W F0 G i b t) : DMT X T W F0 G i (.If c a b pos) (mif i f s t) :=
  PSTto (CwR.pst_if hc ha hb) mif_to
/-- a comparison whose left side wants a token -/
theorem pst_ifC {a b : Expr} {op : CmpOp} {qp pos : Pos} {r : R2} {ta tb : TE} {A B : List Stmt} {t u : TS} (ho : OpR X (compareOp op) r) (ha : PET X a ta) (hb : PE X b tb) (hA : PSsT X A t) (hB : PSsT X B u) (hm : behindInMarks op b = false) :
    PST X (.If (.Compare a [op] [b] qp) A B pos) (tIfS (tTest (tOp r ta tb)) t u) := by
  intro pins s σ H D h0 I h
  refine wpAny_If (Q := _) (wpAny_isTrue_Compare1 (wpAny_mono (PySem.wpAny_toks (ha pins s σ H _ h0 I h)) (fun v s1 q => ?_) fun _ _ x => x.2) hm)
  obtain ⟨k1, x, H1, I1, r1, q1⟩ := q
  refine wpAny_mono (PySem.wpAny_toks (hb.run pins s1 σ H1 _ I1 q1)) (fun w s2 q => ?_) fun _ _ x => x.2
  obtain ⟨k2, y, H2, I2, r2, q2⟩ := q
  refine wpAny_mono (PySem.wpAny_toks (ho pins s2 σ H2 x y v w _ I2 r1 r2 q2)) (fun c s3 q => ?_) fun _ _ x => x.2
  obtain ⟨k3, y, H3, I3, r3, k, e, q3⟩ := q
  subst e
  cases r3
  refine wpAny_truthy_bool ?_
  have h3 : 1 ≤ s3.toks := Nat.le_trans h0 (Nat.le_trans k1 (Nat.le_trans k2 k3))
  cases k with
  | true => exact hA pins s3 σ H3 D h3 I3 q3
  | false => exact hB pins s3 σ H3 D h3 I3 q3
theorem mt_ifC {a b : Expr} {op : CmpOp} {qp pos : Pos} {O : D → D → Option D} {f g : Rho → Res D} {A B : List Stmt} {s t : Rho → MSt → SM} (ho : OpR X (compareOp op) (rD2 X.K T O)) (ha : DET X T W a f) (hb : DE X T W b g) (hA : DMsT X T W F0 G i A s) (hB : DMsT X T W F0 G i B t) (hm : behindInMarks op b = false) :
    DMT X T W F0 G i (.If (.Compare a [op] [b] qp) A B pos) (mif i (tst (bop O f g)) s t) :=
  PSTto (pst_ifC ho ha hb hA hB hm) fun Z σ H h => bin_to (tst_to (mif_to Z σ H h))
theorem mt_putN {x k : Str} {j : Nat} {e ix : Expr} {p kp upos spos pos : Pos} {f fk : Rho → Res D} (hu : X.A.units + 1 < cLine) (hv : PE X (.Name x p) (tVar i)) (hk : DE X T W ix fk) (he : DET X T W e f)
    (hsl : NoSl (.Constant (.str k) j kp) := by exact fun _ _ => rfl)
    (ha : ∀ v, assign (.Subscript (.Subscript (.Name x p) (.Constant (.str k) j kp) upos) ix spos) X.env v = (do
      let ov ← holding [v] (eval (.Subscript (.Name x p) (.Constant (.str k) j kp) upos) X.env)
      let iv ← holding [v, ov] (eval ix X.env)
      standAt spos
      holding [v, ov, iv] (setItem ov iv v)
      release [v, ov, iv] []) := by intro _; rfl)
    (hs : swapsWithSole [.Subscript (.Subscript (.Name x p) (.Constant (.str k) j kp) upos) ix spos] e pos.line X.env = pure false := by rfl) (hw : swappedStores [.Subscript (.Subscript (.Name x p) (.Constant (.str k) j kp) upos) ix spos] e X.env = pure none := by rfl)
    (h1 : (assignEach [.Subscript (.Subscript (.Name x p) (.Constant (.str k) j kp) upos) ix spos] X.env).map (·.2) = [assign (.Subscript (.Subscript (.Name x p) (.Constant (.str k) j kp) upos) ix spos) X.env] := by rfl) :
    DMT X T W F0 G i (.Assign [.Subscript (.Subscript (.Name x p) (.Constant (.str k) j kp) upos) ix spos] e pos) (mputN i k fk f) :=
  PSTto (pst_asg he (pg_sub (pe_dget hu hv pe_str hsl) hk set_list ha) hs hw h1) putN_to
theorem pet_callB {id : String} {x : Str} {r : List V → Hp → VK → Prop} {e : Expr} {es : List Expr} {t : TA} {p pos : Pos} (hc : CallR X (.builtin id) r) (hg : Gl X x) (hm : X.mg x = none) (hv : bootBuiltins x = some (.builtin id)) (ha : PAT X (e :: es) t) (hn : x ≠ "__name__" := by decide) (hdb : (x == ("__debug__" : Str)) = false := by decide)
    (he : starEach (e :: es) X.env = (false, eval e X.env) :: starEach es X.env := by rfl) (hpl : (backTo pos (starEach es X.env)).any (·.1) = false := by rfl) : PET X (.Call (.Name x p) (e :: es) [] pos) (tCB r t) := by
  intro pins s σ H Q h0 I h
  refine wpAny_Call_Name_kw (ld_blt I hg hm hv ?_ hn hdb)
  exact PyProof.Rows.callWith_builtin1 (thn (ha pos pins s σ H _ h0 I h) fun us s1 ⟨vs, H1, I1, r1, q1⟩ => hc pins s1 σ H1 vs us Q I1 r1 q1) he hpl
theorem et_callB {id : String} {x : Str} {O : List D → Option D} {e : Expr} {es : List Expr} {p pos : Pos} {f : Rho → Res (List D)} (hc : CallR X (.builtin id) (rDn X.K T O)) (hg : Gl X x) (hm : X.mg x = none) (hv : bootBuiltins x = some (.builtin id)) (ha : DAT X T W (e :: es) f)
    (hn : x ≠ "__name__" := by decide) (hdb : (x == ("__debug__" : Str)) = false := by decide) (he : starEach (e :: es) X.env = (false, eval e X.env) :: starEach es X.env := by rfl) (hpl : (backTo pos (starEach es X.env)).any (·.1) = false := by rfl) : DET X T W (.Call (.Name x p) (e :: es) [] pos) (cal O f) :=
  PETto (pet_callB hc hg hm hv ha hn hdb he hpl) fun σ H Q h => cal_to h
end
theorem fn_mT {P : Program} {w : World} {K : PySem.W.Frag} {mg : Str → Option Value} {base : Heap} {T : List (Addr × Str)} {k : Nat} {x qual : Str} {params : Arguments} {body : List Stmt} {scope : Scope} {kws : List (Str × V)} {f : Addr} {fd : FuncData} {N ps : List Str} {n : Nat} {s : Rho → MSt → SM}
    (Fd : FunD K x qual params body scope [] kws f fd) (S : FnScope N ps scope) (hn : ps.length = n) (hnc : ∀ y ∈ scope.names, y.2 ≠ .cell) (h1 : 1 ≤ ps.length)
    (hb : ∀ (cdv : Value) (A : Around) (outer : List Env) (s0 : Shared) (H0 : Hp) (E : XK) (F0 G : Hp), Room k (A.deeper (envOfC qual scope s0.heap.objs.size f cdv)) → DMsT (cxOf (L2.CX P w) P w K mg base N qual scope f cdv A outer s0 H0 E) T (WofE E) F0 G 0 body s) :
    FnOk P w K mg base (L2.CX P w) (k + 1) f fd ps (spM K T n (runM N.length s)) := by
  obtain ⟨oc, od, dV, kV, doc, pm, an, cdv, ct, osl, rfl, lk, hcd, _, _⟩ := Fd.ex
  refine fn_ofT lk hcd S hnc h1 (fun vs H Q E h => ?_) fun A outer s0 H vs Q E hr h => ?_
  · obtain ⟨F, p, m, S, vs', ds, rfl, _, _, _, r, hl, _⟩ := h
    rw [List.length_cons, r.length, hl, hn]
  · obtain ⟨F, p, m, S, vs', ds, rfl, z, tb, st, r, hl, h⟩ := h
    have n0 : Nx T F (cut H S) F H := ⟨Sub.refl F, z, fun a o e _ => (cut_some e).2, fun a o e => .inl e, fun _ => tb⟩
    have g : Mg K T F (cut H S) F H (L2.start N (.ref p :: vs')) (startR N.length (.adr p :: ds)) 0 p m S := ⟨⟨z, tb, Rl.start (.cons (.adr p) r)⟩, n0, start_no, rfl, st, fun a ha o e => by rw [cut_in ha] at e; cases e⟩
    refine ⟨_, hb cdv A outer s0 H E F (cut H S) hr, _, F, p, m, S, g, ?_⟩
    unfold runM at h
    cases e : s (startR N.length (.adr p :: ds)) m with
    | nx ρ m' => rw [e] at h; exact fun σ F' H' S' g' _ => h F' H' S' g'.nx g'.st g'.fr
    | fin b m' =>
      rw [e] at h
      cases b with
      | false => exact fun F' H' S' n' st' fr' => h F' H' S' n' st' fr'
      | true => exact h.elim
    | rt d => rw [e] at h; exact h.elim
    | ex n => rw [e] at h; exact fun σ F' H' n' => h F' H' n'
    | bad => rw [e] at h; exact h.elim
/-! x = e (lent), then f(state, .. x ..) -/
def mlet (i n : Nat) (s : Rho → SR) (den : Addr → MSt → List D → Res MSt) (f : Rho → Res (List D)) : Rho → MSt → SM := fun ρ m => match s (lent i ρ m) with
  | .nx ρ' => (match tabOf i ρ' with
    | some p => if adrOf i ρ = some p then (match f ρ' with
      | .ok ds => if ds.length + 1 = n ∧ D.imms ds = true then (match den p m ds with
        | .ok m' => .nx (cleanR i p ρ') m'
        | .ex n => .ex n
        | .bad => .bad) else .bad
      | .ex n => .ex n
      | .bad => .bad) else .bad
    | none => .bad)
  | .ex n _ => .ex n
  | _ => .bad
section
variable {X : Cx} {T : List (Addr × Str)} {W : WX} {F0 G : Hp} {i : Nat}
theorem m_let {j k n : Nat} {x y : Str} {st : Stmt} {s : Rho → SR} {den : Addr → MSt → List D → Res MSt} {es : List Expr} {p yp pos pos2 : Pos} {f : Rho → Res (List D)} {rest : List Stmt} {t : Rho → MSt → SM} (h1 : ∀ F0 H0, DS X T W F0 H0 st s) (O : OkM X.prog X.w X.K X.mg X.base T j x n den) (hr : Room k X.A) (tk : Takes X W) (hg : Gl X x) (hv : PE X (.Name y yp) (tVar i)) (ha : DA X T W es f) (h2 : DMs X T W F0 G i rest t) (hj : j ≤ k := by decide)
    (hdb : (x == ("__debug__" : Str)) = false := by decide) (he : starEach (.Name y yp :: es) X.env = (false, eval (.Name y yp) X.env) :: starEach es X.env := by rfl) (hpl : (backTo pos (starEach es X.env)).any (·.1) = false := by rfl)
    (hs : swapsWith (.Call (.Name x p) (.Name y yp :: es) [] pos) none pos2.line X.env = pure false := by rfl) :
    DMs X T W F0 G i (st :: .Expr (.Call (.Name x p) (.Name y yp :: es) [] pos) pos2 :: rest) (mseq (mlet i n s den f) t) := by
  obtain ⟨fd, ps, Gk, b⟩ := O.ex
  refine ⟨fun pins sh σ H Z I ⟨ρ, F, p, m, S, g, h⟩ => (pss_cons (h1 (lend F H S) H) (pss_cons (ps_expr (pe_callS (E := WE W) Gk (hr.mono hj) hg O.mg O.kp b (fun σ => passAt tk σ) (pa_cons hv ha he) hdb he hpl) hs) h2)).run pins sh σ H Z I ⟨_, lend F H S, g.lsg, ?_⟩⟩
  unfold mseq mlet at h
  cases e : s (DN.lent i ρ m) with
  | rt d => rw [e] at h; exact h.elim
  | bk ρ' => rw [e] at h; exact h.elim
  | ct ρ' => rw [e] at h; exact h.elim
  | bad => rw [e] at h; exact h.elim
  | ex n ρ' => rw [e] at h; exact fun σ' F' H' g' _ => h σ' _ H' (g.nx.trans (cut_nx g.st g.at_.z g'.nx))
  | nx ρ' =>
    rw [e] at h
    dsimp only at h
    cases e2 : tabOf i ρ' with
    | none => rw [e2] at h; exact h.elim
    | some p' =>
      rw [e2, adrOf_me g.me] at h
      dsimp only at h
      by_cases hp : some p = some p'
      case neg => rw [if_neg hp] at h; exact h.elim
      rw [if_pos hp] at h
      cases hp
      refine fun σ' F1 H1 g' sb => ?_
      have me : σ'[i]? = some (some (.ref p)) := by
        unfold tabOf at e2
        split at e2
        · rename_i o ks vs e3
          cases e2
          obtain ⟨v, q1, q2⟩ := g'.at_.r.z i _ e3
          cases q2 with
          | tab k1 k2 k3 k4 => rw [q1, k1 p rfl]
        · cases e2
      refine ⟨_, me, ρ', F1, g'.at_, ?_⟩
      cases e3 : f ρ' with
      | bad => rw [e3] at h; exact h.elim
      | ex n => rw [e3] at h; exact fun F2 H2 n => h σ' _ H2 (g.nx.trans (cut_nx g.st g.at_.z (g'.nx.trans n)))
      | ok ds =>
        rw [e3] at h
        dsimp only at h
        by_cases hc : ds.length + 1 = n ∧ D.imms ds = true
        case neg => rw [if_neg hc] at h; exact h.elim
        rw [if_pos hc] at h
        refine fun vs F2 H2 n2 rv => ?_
        have g2 := g'.step n2
        have g3 := clean_rl g g2 e2
        have sf := cut_soft g.st g2.nx
        have sb3 : Sub F (cut F2 S) := (cut_nx g.st g.at_.z g2.nx).f
        refine ⟨cut F2 S, p, m, S, vs, ds, rfl, g3.at_.z, g3.at_.t, g3.st, rv.cutS sf hc.2, hc.1, ?_⟩
        cases ed : den p m ds with
        | ok m' =>
          rw [ed] at h
          exact fun F' H' S' n' st' fr' => ⟨_, F', p, m', S', g3.after n' st' fr', aftM.mono (sb3.trans n'.f) h⟩
        | ex n =>
          rw [ed] at h
          intro F' H' n'
          have old : ∀ a o, G a = some o → (∀ ps, o ≠ .tbl ps) → cut H2 S a = some o := fun a o e no => by
            rw [cut_out fun z => by
              obtain ⟨ps, q⟩ := g3.fr a z o e
              exact no ps q]
            exact g3.nx.h a o e no
          refine h σ' F' H' ⟨g3.nx.f.trans n'.f, n'.z, fun a o e no => n'.h a o (old a o e no) no, fun a o e => ?_, fun t => n'.tab (cut_tabs (g3.nx.tab t) g3.st.softH)⟩
          rcases n'.new a o e with q | q
          · exact g3.nx.new a o q
          · refine .inr fun o' e' => ?_
            by_cases z : ∃ ps, o' = .tbl ps
            · exact .inl z
            · exact q o' (old a o' e' fun ps y => z ⟨ps, y⟩)
        | bad => rw [ed] at h; exact h.elim
end
end DN
/-! a law whose body goes over to M-mode; evaluating M-mode -/
namespace DN
open PySem PySem.Spec PyProof.Rows L2
open LamX (Tabs ExtN)
/-! ### evaluating -/
def finM : SM → Res MSt
  | .nx _ m => .ok m
  | .fin false m => .ok m
  | .ex n => .ex n
  | _ => .bad
theorem runM_eq {n : Nat} {g : Rho → MSt → SM} {p : Addr} {m : MSt} {ds : List D} {ρ : Rho} (h : startR n (.adr p :: ds) = ρ) : runM n g p m ds = finM (g ρ m) := by
  subst h
  unfold runM finM
  cases g (startR n (.adr p :: ds)) m with
  | fin b m => cases b <;> rfl
  | _ => rfl
theorem runK_eq {n : Nat} {g : Rho → Addr → SM} {ds : List D} {ρ : Rho} {r : Res D} (h : startR n ds = ρ) (hr : ∀ p, resM (g ρ p) = r) : runK n g ds = r := by
  subst h
  exact allP_of hr
def seqM (r : SM) (t : Rho → MSt → SM) : SM := match r with
  | .nx ρ m => t ρ m
  | r => r
def ifM (r : Res Bool) (s t : Rho → MSt → SM) (ρ : Rho) (m : MSt) : SM := match r with
  | .ok b => if b = true then s ρ m else t ρ m
  | .ex n => .ex n
  | .bad => .bad
def putM (k : Str) (r : Res D) (ρ : Rho) (m : MSt) : SM := match r with
  | .ok d => if d.imm = true ∧ k ∈ m.1 ∧ m.1.length < sizeLine then .nx ρ (m.1, fset m.1 m.2 k d) else .bad
  | .ex n => .ex n
  | .bad => .bad
def putLM (k : Str) (r : Res D) (ρ : Rho) (m : MSt) : SM := match r with
  | .ok (.lst ds) => if D.imms ds = true ∧ k ∈ m.1 ∧ m.1.length < sizeLine then .nx ρ (m.1, fset m.1 m.2 k (.lst ds)) else .bad
  | .ok _ => .bad
  | .ex n => .ex n
  | .bad => .bad
def putNM (k : Str) (r rk : Res D) (ρ : Rho) (m : MSt) : SM := match r with
  | .ok d => if d.imm = true then (match fget m.1 m.2 k with
    | some (.lst ds) => (match rk with
      | .ok (.int j) => (match ixN ds.length j with
        | some n => .nx ρ (m.1, fset m.1 m.2 k (.lst (ds.set n d)))
        | none => .bad)
      | .ok _ => .bad
      | .ex n => .ex n
      | .bad => .bad)
    | _ => .bad) else .bad
  | .ex n => .ex n
  | .bad => .bad
def stM (i : Nat) (r : SR) (ρ : Rho) (m : MSt) : SM := match r with
  | .nx ρ' => (match tabOf i ρ' with
    | some p => if adrOf i ρ = some p then .nx (cleanR i p ρ') m else .bad
    | none => .bad)
  | .rt d => if d.imm = true then .rt d else .bad
  | .ex n _ => .ex n
  | _ => .bad
def stU (i : Nat) (r : SR) (ρ : Rho) (m : MSt) : SM := match r with
  | .nx ρ' => if noOwn ρ' = true ∧ adrOf i ρ' = adrOf i ρ then .nx ρ' m else .bad
  | .rt d => .rt d
  | .ex n _ => .ex n
  | _ => .bad
def callM (n : Nat) (den : Addr → MSt → List D → Res MSt) (r : Res (List D)) (o : Option Addr) (ρ : Rho) (m : MSt) : SM := match r with
  | .ok ds => if ds.length + 1 = n ∧ D.imms ds = true then (match o with
    | some p => (match den p m ds with
      | .ok m' => .nx ρ m'
      | .ex n => .ex n
      | .bad => .bad)
    | none => .bad) else .bad
  | .ex n => .ex n
  | .bad => .bad
section
variable {i n : Nat} {ρ : Rho} {m : MSt} {p : Addr}
theorem mseq_def {s t} : mseq s t ρ m = seqM (s ρ m) t := by
  unfold mseq seqM
  cases s ρ m <;> rfl
theorem seqM_nx {t} : seqM (.nx ρ m) t = t ρ m := rfl
theorem mif_def {f s t} : mif i f s t ρ m = ifM (f (lent i ρ m)) s t ρ m := rfl
theorem ifM_t {s t} : ifM (.ok true) s t ρ m = s ρ m := rfl
theorem ifM_f {s t} : ifM (.ok false) s t ρ m = t ρ m := rfl
theorem mput_def {k f} : mput i k f ρ m = putM k (f (lent i ρ m)) ρ m := rfl
theorem mputL_def {k f} : mputL i k f ρ m = putLM k (f (lent i ρ m)) ρ m := rfl
theorem mputN_def {k fk f} : mputN i k fk f ρ m = putNM k (f (lent i ρ m)) (fk (lent i ρ m)) ρ m := rfl
theorem mst_def {s} : mst i s ρ m = stM i (s (lent i ρ m)) ρ m := rfl
theorem mstU_def {s} : mstU i s ρ m = stU i (s ρ) ρ m := rfl
theorem mcall_def {den f} : mcall i n den f ρ m = callM n den (f (lent i ρ m)) (adrOf i ρ) ρ m := rfl
theorem lent_zero {r : Rho} : lent 0 (.z (.adr p) :: r) m = .z (.tab (some p) m.1 m.2) :: r := rfl
theorem adr_zero {r : Rho} : adrOf 0 (.z (.adr p) :: r) = some p := rfl
theorem tabO_zero {o ks vs} {r : Rho} : tabOf 0 (.z (.tab o ks vs) :: r) = o := rfl
theorem stM_rt {d : D} (h : d.imm = true) : stM i (.rt d) ρ m = .rt d := by
  unfold stM
  dsimp only
  rw [if_pos h]
theorem stU_nx {ρ' : Rho} (h1 : noOwn ρ' = true) (h2 : adrOf i ρ' = adrOf i ρ) : stU i (.nx ρ') ρ m = .nx ρ' m := by
  unfold stU
  dsimp only
  rw [if_pos ⟨h1, h2⟩]
theorem callM_ok {den ds m'} (h1 : ds.length + 1 = n) (h2 : D.imms ds = true) (h3 : den p m ds = .ok m') : callM n den (.ok ds) (some p) ρ m = .nx ρ m' := by
  unfold callM
  dsimp only
  rw [if_pos ⟨h1, h2⟩, h3]
end
theorem bt_dict : bootBuiltins "dict" = some (.type "dict") := by decide +kernel
theorem imm_tup {ds} : D.imm (.tup ds) = D.imms ds := by
  rw [D.imm]
theorem imms_cons {d ds} : D.imms (d :: ds) = (D.imm d && D.imms ds) := rfl
end DN
/-! a tuple taken once, or not at all -/
namespace DN
open PySem PySem.Spec PyProof.Rows L2
open LamX (Tabs ExtN)
/-- t * 1 is t itself -/
theorem mul_one_meets {l : Addr} {ob : Obj} {items : Array Value} {n : Nat} {u : Tok} (hc : ob.cls = .type "tuple") (hd : ob.data = .seq items n) : Meets (Builtin.«tuple.__mul__» ⟨[.ref l, .int 1 u], []⟩) (fun _ R s => s.heap.get? l = some ob ∧ R (.ok (.ret (.ref l))) s) :=
  .of_wp fun prog w A R s h => by
    obtain ⟨hp, g, d, tk, os⟩ := s
    obtain ⟨hl, h⟩ := h
    obtain ⟨c, dc, dat, sl⟩ := ob
    simp only at hc hd
    subst hc hd
    have f1 := AutoSeq1.idx_int
    wp_walk using wpAny_loadPart' hl
    exact ⟨_, rfl, h⟩
/-- t * 0 is a tuple of nothing -/
theorem mul_nought_meets {l : Addr} {ob : Obj} {items : Array Value} {n : Nat} {u : Tok} (hc : ob.cls = .type "tuple") (hd : ob.data = .seq items n) (hi : items.isEmpty = false) : Meets (Builtin.«tuple.__mul__» ⟨[.ref l, .int 0 u], []⟩) (fun _ R s => s.heap.get? l = some ob ∧ R (.ok (.ret (.ref s.heap.objs.size))) { s with heap := s.heap.push { cls := .type "tuple", data := .seq #[] } }) :=
  .of_wp fun prog w A R s h => by
    obtain ⟨hp, g, d, tk, os⟩ := s
    obtain ⟨hl, h⟩ := h
    obtain ⟨c, dc, dat, sl⟩ := ob
    simp only at hc hd
    subst hc hd
    have f1 := AutoSeq1.idx_int
    have e1 : (items.isEmpty || (0 : Int) == 1) = false := by rw [hi]; rfl
    wp_walk using wpAny_loadPart' hl
    exact ⟨_, rfl, h⟩
def mul01D : D → D → Option D
  | .tup (x :: xs), .int k => if k = 1 then some (.tup (x :: xs)) else if k = 0 then some (.tup []) else none
  | _, _ => none
section
variable {X : Cx} {T : List (Addr × Str)} {W : WX}
theorem o_mul01 : OpR X (binaryOp .Mult) (rD2 X.K T mul01D) := by
  intro pins s σ H x y v u Q I rx ry h
  obtain ⟨Fz', d, e, z, hz, rd, re, hG, q⟩ := h
  unfold mul01D at hG
  split at hG
  · rename_i d0 ds k
    cases rd with
    | @tup a xs _ h1 r1 =>
      cases re
      cases rx
      obtain ⟨t, rfl⟩ := ry
      obtain ⟨its, r, ⟨⟨cls, dd, data, sl⟩, ho, hc, n, hd⟩, hs⟩ := I.tuple (hz.sub.st h1)
      simp only at hc hd
      subst hc hd
      have hi : its.toArray.isEmpty = false := by
        cases r1 with
        | cons _ _ =>
          cases r with
          | cons _ _ => rfl
      split at hG
      · rename_i hk
        subst hk
        cases hG
        refine wpAny_binaryOp_repeat_ref (T := "tuple") (U := "int") (by decide) ⟨_, ho, rfl⟩ (fun s' => typeIs_int s' 1 t) noFill_tuple_mul F.fills_int_mul F.slot_int_rmul repeat_tuple F.slot_int_index.lookup
          (call_meets F.slot_int_rmul (typeIs_int s 1 t) F.entry_int_rmul (F.args_int_rmul_2 _ _) (int_rmul_tuple 1 t a its.toArray n dd sl) ⟨ho, rfl, ⟨_, ho, rfl⟩, call_meets F.slot_tuple_mul ⟨_, ho, rfl⟩ F.entry_tuple_mul (F.args_tuple_mul_2 _ _) (mul_one_meets rfl rfl) ⟨ho, ?_⟩⟩)
        exact ⟨.ref a, H, I, rfl, done0 hz q (.tup h1 r1)⟩
      · split at hG
        · rename_i hk
          subst hk
          cases hG
          refine wpAny_binaryOp_repeat_ref (T := "tuple") (U := "int") (by decide) ⟨_, ho, rfl⟩ (fun s' => typeIs_int s' 0 t) noFill_tuple_mul F.fills_int_mul F.slot_int_rmul repeat_tuple F.slot_int_index.lookup
            (call_meets F.slot_int_rmul (typeIs_int s 0 t) F.entry_int_rmul (F.args_int_rmul_2 _ _) (int_rmul_tuple 0 t a its.toArray n dd sl) ⟨ho, rfl, ⟨_, ho, rfl⟩, call_meets F.slot_tuple_mul ⟨_, ho, rfl⟩ F.entry_tuple_mul (F.args_tuple_mul_2 _ _) (mul_nought_meets rfl rfl hi) ⟨ho, ?_⟩⟩)
          have hf := I.hok.fresh (Nat.le_refl s.heap.objs.size)
          exact ⟨.ref s.heap.objs.size, _, I.laid (t' := s.toks) (o := .tup []) (fun b ob q => Heap.get?_push_of_some _ q) (Nat.le_refl _) ⟨Nat.zero_le _, [], .nil, IsTup.new _ _⟩, rfl, donep hz hf ntT q (rp_tup hz hf .nil)⟩
        · cases hG
  · cases hG
end
end DN
/-! a tuple times any small number: none and once by DN42, more by DN1 -/
namespace DN
open PySem PySem.Spec PyProof.Rows L2
end DN
namespace LW
open PySem PySem.Spec PyProof.Rows L2 DN
open TL (numL numL_lt numL_step numL_digits numL_ne tl_num)

/-! ### figures of whole numbers -/
def figs (n : Nat) : Nat := (numL n).length
theorem figs_small {n : Nat} (h : n < 10) : figs n = 1 := by unfold figs; rw [numL_lt h]; rfl
theorem figs_step {n : Nat} (h : 10 ≤ n) : figs n = figs (n / 10) + 1 := by unfold figs; rw [numL_step h, List.length_append]; rfl
theorem figs_pos (n : Nat) : 1 ≤ figs n := by
  by_cases h : n < 10
  · rw [figs_small h]; exact Nat.le_refl 1
  · rw [figs_step (by omega)]; omega
theorem figs_lt : ∀ (n : Nat), n < 10 ^ figs n := fun n => by
  induction n using Nat.strongRecOn with
  | ind n ih =>
    by_cases h : n < 10
    · rw [figs_small h]; omega
    · have := ih (n / 10) (by omega)
      rw [figs_step (by omega), Nat.pow_succ]
      omega
theorem figs_ge : ∀ (n : Nat), 0 < n → 10 ^ (figs n - 1) ≤ n := fun n => by
  induction n using Nat.strongRecOn with
  | ind n ih =>
    intro h0
    by_cases h : n < 10
    · rw [figs_small h]
      show 10 ^ 0 ≤ n
      have : (10 : Nat) ^ 0 = 1 := rfl
      omega
    · have := ih (n / 10) (by omega) (by omega)
      rw [figs_step (by omega)]
      have h2 := figs_pos (n / 10)
      have e : figs (n / 10) + 1 - 1 = (figs (n / 10) - 1) + 1 := by omega
      rw [e, Nat.pow_succ]
      omega
theorem pow10_le {a b : Nat} (h : a ≤ b) : 10 ^ a ≤ 10 ^ b := Nat.pow_le_pow_right (by decide) h
theorem pow10_pos (a : Nat) : 0 < 10 ^ a := Nat.pow_pos (by decide)
theorem figs_le {n k : Nat} (hk : 1 ≤ k) (h : n < 10 ^ k) : figs n ≤ k := by
  by_cases h0 : n = 0
  · subst h0; rw [figs_small (by decide)]; exact hk
  · have h1 := figs_ge n (by omega)
    have h2 := figs_pos n
    by_cases hc : figs n ≤ k
    · exact hc
    · exfalso
      have := pow10_le (show k ≤ figs n - 1 by omega)
      omega
theorem str_tl (n : Nat) : (Str.ofString (toString (n : Int))).cps.toList = numL n := tl_num n
theorem str_tl_int {i : Int} (h : 0 ≤ i) : (Str.ofString (toString i)).cps.toList = numL i.natAbs := by
  obtain ⟨n, rfl⟩ : ∃ n : Nat, i = n := ⟨i.natAbs, by omega⟩
  rw [str_tl]; rfl
theorem str_len {i : Int} (h : 0 ≤ i) : (Str.ofString (toString i)).length = figs i.natAbs := by
  show (Str.ofString (toString i)).cps.size = _
  rw [← Array.length_toList, str_tl_int h]; rfl
theorem abs_if (i : Int) : (if i < 0 then -i else i) = (i.natAbs : Int) := by split <;> omega
/-- len(str(n)) -/
theorem lenstr {i : Int} (h : 0 ≤ i) (h2 : i.natAbs < 10 ^ 500) : strD [.int i] = some (.str (Str.ofString (toString i))) ∧ lenD [.str (Str.ofString (toString i))] = some (.int (figs i.natAbs)) := by
  have hp : (10 : Nat) ^ 500 < 2 ^ 1900 := by decide +kernel
  refine ⟨str_i (Nat.lt_trans h2 hp), ?_⟩
  rw [len_s, str_len h]
  rw [str_len h]
  have := figs_le (by decide) h2
  omega
end LW
namespace LW
open PySem PySem.Spec PyProof.Rows L2 DN
open TL (numL numL_lt numL_step numL_digits numL_ne tl_num)
/-! ### texts -/
theorem s_ext {x y : Str} (h : x.cps.toList = y.cps.toList) : x = y := by
  cases x
  cases y
  simp only at h
  congr
  exact Array.toList_inj.mp h
theorem s_len (x : Str) : x.length = x.cps.toList.length := (Array.length_toList).symm
theorem app_tl (a b : Str) : (a ++ b).cps.toList = a.cps.toList ++ b.cps.toList := by
  show (a.cps ++ b.cps).toList = _
  simp
theorem cutS_tl (z : Str) (lo hi : Option Int) : (cutS z lo hi).cps.toList = (z.cps.toList.drop (HT.sIx z.length 0 lo)).take (HT.sIx z.length z.length hi - HT.sIx z.length 0 lo) := rfl
theorem sl_s {x : Str} {lo hi : Option Int} (h : x.length ≤ 1000000) : slD (.str x) lo hi = some (.str (cutS x lo hi)) := by
  show (if x.length ≤ sizeLine then some (D.str (cutS x lo hi)) else none) = _
  rw [if_pos (by rw [sizeLine_eq]; omega)]
theorem repS_one (c : Nat) (k : Int) : (repS ⟨#[c]⟩ k).cps.toList = List.replicate k.toNat c := by
  unfold repS
  show ((List.replicate k.toNat [c]).flatten).toArray.toList = _
  rw [List.toList_toArray]
  induction k.toNat with
  | zero => rfl
  | succ n ih => rw [List.replicate_succ, List.flatten_cons, ih]; rfl
theorem one_s (c : Nat) (s : String) (h : Str.ofString s = ⟨#[c]⟩) (k : Int) : (repS (Str.ofString s) k).cps.toList = List.replicate k.toNat c := by rw [h]; exact repS_one c k
theorem mul_si {x : Str} {n : Int} (h : n ≤ 1000000 ∧ -1000000 ≤ n ∧ x.length * n.toNat ≤ 1000000) : mulD (.str x) (.int n) = some (.str (repS x n)) := by
  show (if n ≤ 1000000 ∧ -1000000 ≤ n ∧ x.length * n.toNat ≤ 1000000 then some (D.str (repS x n)) else none) = _
  rw [if_pos h]
/-- one sign so often -/
theorem mul_one {s : String} {n : Int} (c : Nat) (h : Str.ofString s = ⟨#[c]⟩) (h1 : n ≤ 1000000) (h2 : -1000000 ≤ n) : mulD (.str (Str.ofString s)) (.int n) = some (.str (repS (Str.ofString s) n)) := mul_si ⟨h1, h2, by
  rw [h]
  show 1 * n.toNat ≤ 1000000
  omega⟩
theorem add_ss {x y : Str} (h : x.length + y.length ≤ 1000000) : addD (.str x) (.str y) = some (.str (x ++ y)) := by
  show (if x.length + y.length ≤ sizeLine then some (D.str (x ++ y)) else none) = _
  rw [if_pos (by rw [sizeLine_eq]; omega)]
end LW
namespace LW
open PySem PySem.Spec PyProof.Rows L2 DN
open TL (numL numL_lt numL_step numL_digits numL_ne tl_num)
/-! ### numbers' texts -/
def S (l : List Nat) : Str := ⟨l.toArray⟩
theorem S_tl (l : List Nat) : (S l).cps.toList = l := by simp [S]
theorem S_len (l : List Nat) : (S l).length = l.length := by rw [s_len, S_tl]
theorem S_of {x : Str} {l : List Nat} (h : x.cps.toList = l) : x = S l := s_ext (by rw [S_tl]; exact h)
theorem minus_s : Str.ofString "-" = ⟨#[45]⟩ := by decide +kernel
theorem zero_s : Str.ofString "0" = ⟨#[48]⟩ := by decide +kernel
theorem dot_s : Str.ofString "." = ⟨#[46]⟩ := by decide +kernel
theorem S_app (a b : List Nat) : S a ++ S b = S (a ++ b) := S_of (by rw [app_tl, S_tl, S_tl])
theorem dot_S : Str.ofString "." = S [46] := dot_s
theorem minus_S : Str.ofString "-" = S [45] := minus_s
theorem add_S {a b : List Nat} (h : a.length + b.length ≤ 1000000) : addD (.str (S a)) (.str (S b)) = some (.str (S (a ++ b))) := by
  rw [add_ss (by rw [S_len, S_len]; exact h), S_app]
theorem len_S {a : List Nat} (h : a.length ≤ 1000000) : lenD [.str (S a)] = some (.int a.length) := by
  rw [len_s (by rw [S_len]; exact h), S_len]
theorem cut_S (l : List Nat) (lo hi : Option Int) : cutS (S l) lo hi = S ((l.drop (HT.sIx l.length 0 lo)).take (HT.sIx l.length l.length hi - HT.sIx l.length 0 lo)) := S_of (by
  rw [cutS_tl, S_tl, S_len])
theorem sl_S {l : List Nat} {lo hi : Option Int} (h : l.length ≤ 1000000) : slD (.str (S l)) lo hi = some (.str (S ((l.drop (HT.sIx l.length 0 lo)).take (HT.sIx l.length l.length hi - HT.sIx l.length 0 lo)))) := by
  rw [sl_s (by rw [S_len]; exact h), cut_S]
theorem sl_lo1 {l : List Nat} (h : l.length ≤ 1000000) (h1 : 1 ≤ l.length) : slD (.str (S l)) (some 1) none = some (.str (S (l.drop 1))) := by
  rw [sl_S h, HT.sIx_none, show HT.sIx l.length 0 (some 1) = min 1 l.length from HT.sIx_nat _ _ 1, show min 1 l.length = 1 by omega]
  congr 3
  exact List.take_of_length_le (by rw [List.length_drop]; omega)
end LW
namespace LW
open PySem PySem.Spec PyProof.Rows L2 DN
/-! ### rounding, plainly -/
inductive Hw where | nought | more | even | away
  deriving DecidableEq
inductive Mn where | even | away | nought | up | down
  deriving DecidableEq
def Hw.s : Hw → Str
  | .nought => "nought" | .more => "more" | .even => "even" | .away => "away"
def Mn.s : Mn → Str
  | .nought => "nought" | .up => "up" | .down => "down" | .even => "even" | .away => "away"
def Mn.by : Mn → Bool → Hw
  | .up, false => .more | .up, true => .nought | .down, false => .nought | .down, true => .more | .even, _ => .even | .away, _ => .away | .nought, _ => .nought
def takenZ (h : Hw) (q r l : Int) : Int := if r = 0 then q else match h with
  | .nought => q
  | .more => q + 1
  | .even => if 2 * r = l then q + (if q % 2 = 1 then 1 else 0) else q + (if l < 2 * r then 1 else 0)
  | .away => if 2 * r = l then q + 1 else q + (if l < 2 * r then 1 else 0)
def strip : Nat → Int → Int → Int × Int
  | 0, a, b => (a, b)
  | n + 1, a, b => if a % 10 = 0 then strip n (a / 10) (b + 1) else (a, b)
def sgZ (bl : Bool) : Int := 1 - 2 * (if bl = true then 1 else 0)
def hgZ (s : Int × Int) : Int := s.2 + (figs s.1.natAbs : Int) - 1
def fitZ (h : Hw) (w p : Int) (bl : Bool) : Option (Int × Int) :=
  if 40 < hgZ (strip 5000 w p) then none else if hgZ (strip 5000 w p) < -40 then (if h = .more then some (sgZ bl, -40) else some (0, 0)) else some (sgZ bl * (strip 5000 w p).1, (strip 5000 w p).2)
def pw0 (U L : Nat) : Int := (figs U : Int) - (figs L : Int) - 8
def pwN (U L : Nat) : Int := if L * 10 ^ (pw0 U L).toNat * 10 ^ 8 ≤ U * 10 ^ (-(pw0 U L)).toNat then pw0 U L + 1 else pw0 U L
def exZ (m : Mn) (u l : Int) : Option (Int × Int) :=
  if u = 0 then some (0, 0) else
    let p := pwN u.natAbs l.natAbs
    let U : Int := (u.natAbs : Int) * 10 ^ (-p).toNat
    let L : Int := (l.natAbs : Int) * 10 ^ p.toNat
    let bl := decide (u < 0) != decide (l < 0)
    fitZ (m.by bl) (takenZ (m.by bl) (U / L) (U % L) L) p bl
theorem pow_add10 (a b : Nat) : (10 : Nat) ^ a * 10 ^ b = 10 ^ (a + b) := (Nat.pow_add 10 a b).symm
theorem pw_hi {U L : Nat} {p : Int} (hL : 0 < L) (hp : p = pw0 U L + 1) : U * 10 ^ (-p).toNat < L * 10 ^ p.toNat * 10 ^ 8 := by
  have h1 := figs_lt U
  have h2 := figs_ge L hL
  have h3 := figs_pos L
  unfold pw0 at hp
  have e : figs U + (-p).toNat = (figs L - 1) + p.toNat + 8 := by omega
  have a1 : U * 10 ^ (-p).toNat < 10 ^ figs U * 10 ^ (-p).toNat := Nat.mul_lt_mul_of_pos_right h1 (pow10_pos _)
  have a2 : 10 ^ (figs L - 1) * 10 ^ p.toNat * 10 ^ 8 ≤ L * 10 ^ p.toNat * 10 ^ 8 := Nat.mul_le_mul_right _ (Nat.mul_le_mul_right _ h2)
  rw [pow_add10, e] at a1
  rw [pow_add10, pow_add10] at a2
  omega
theorem pw_lo {U L : Nat} {p : Int} (hU : 0 < U) (hp : p = pw0 U L) : L * 10 ^ (p.toNat + 7) ≤ U * 10 ^ (-p).toNat := by
  have h1 := figs_lt L
  have h2 := figs_ge U hU
  have h3 := figs_pos U
  unfold pw0 at hp
  have e : (figs U - 1) + (-p).toNat = figs L + (p.toNat + 7) := by omega
  have a1 : L * 10 ^ (p.toNat + 7) < 10 ^ figs L * 10 ^ (p.toNat + 7) := Nat.mul_lt_mul_of_pos_right h1 (pow10_pos _)
  have a2 : 10 ^ (figs U - 1) * 10 ^ (-p).toNat ≤ U * 10 ^ (-p).toNat := Nat.mul_le_mul_right _ h2
  rw [pow_add10] at a1
  rw [pow_add10, e] at a2
  omega
theorem pw_same {U L : Nat} {p : Int} : (U * 10 ^ (-(p + 1)).toNat < L * 10 ^ ((p + 1).toNat + 7)) ↔ ¬ L * 10 ^ p.toNat * 10 ^ 8 ≤ U * 10 ^ (-p).toNat := by
  rw [Nat.not_le]
  by_cases h : 0 ≤ p
  · have e1 : (-(p + 1)).toNat = 0 := by omega
    have e2 : (-p).toNat = 0 := by omega
    have e3 : (p + 1).toNat + 7 = p.toNat + 8 := by omega
    rw [e1, e2, e3, Nat.pow_add, Nat.mul_assoc]
  · have e1 : (-p).toNat = (-(p + 1)).toNat + 1 := by omega
    have e2 : p.toNat = 0 := by omega
    have e3 : (p + 1).toNat + 7 = 7 := by omega
    have e4 : (10 : Nat) ^ ((-(p + 1)).toNat + 1) = 10 ^ (-(p + 1)).toNat * 10 := Nat.pow_succ _ _
    rw [e1, e2, e3, e4]
    generalize (10 : Nat) ^ (-(p + 1)).toNat = x
    have : U * (x * 10) = U * x * 10 := by rw [Nat.mul_assoc]
    rw [this]
    generalize U * x = y
    omega
theorem pw_low {U L : Nat} (hU : 0 < U) (hL : 0 < L) : L * 10 ^ (pwN U L).toNat * 10 ^ 7 ≤ U * 10 ^ (-(pwN U L)).toNat ∧ U * 10 ^ (-(pwN U L)).toNat < L * 10 ^ (pwN U L).toNat * 10 ^ 8 := by
  unfold pwN
  by_cases h : L * 10 ^ (pw0 U L).toNat * 10 ^ 8 ≤ U * 10 ^ (-(pw0 U L)).toNat
  · rw [if_pos h]
    refine ⟨?_, pw_hi hL rfl⟩
    have := (Decidable.not_iff_not.mpr (pw_same (U := U) (L := L) (p := pw0 U L))).mpr (fun z => z h)
    rw [Nat.not_lt, Nat.pow_add, ← Nat.mul_assoc] at this
    exact this
  · rw [if_neg h]
    have := pw_lo (L := L) hU rfl
    rw [Nat.pow_add, ← Nat.mul_assoc] at this
    exact ⟨this, by omega⟩
/-! the parts -/
theorem strip_neg : ∀ (n : Nat) (a b : Int), strip n (-a) b = (-(strip n a b).1, (strip n a b).2)
  | 0, _, _ => rfl
  | n + 1, a, b => by
    unfold strip
    by_cases h : a % 10 = 0
    · have e : -a / 10 = -(a / 10) := by omega
      rw [if_pos h, if_pos (by omega), e, strip_neg n]
    · rw [if_neg h, if_neg (by omega)]
theorem strip_pos : ∀ (n : Nat) (a b : Int), 0 < a → 0 < (strip n a b).1 ∧ (strip n a b).1 ≤ a ∧ b ≤ (strip n a b).2 ∧ (strip n a b).2 ≤ b + n
  | 0, a, b, h => ⟨h, Int.le_refl a, Int.le_refl b, by show b ≤ b + (0 : Nat); omega⟩
  | n + 1, a, b, h => by
    unfold strip
    by_cases h0 : a % 10 = 0
    · rw [if_pos h0]
      obtain ⟨h1, h2, h3, h4⟩ := strip_pos n (a / 10) (b + 1) (by omega)
      exact ⟨h1, by omega, by omega, by omega⟩
    · rw [if_neg h0]
      exact ⟨h, Int.le_refl a, Int.le_refl b, by show b ≤ b + ((n + 1 : Nat) : Int); omega⟩
theorem natAbs_mul_pow {u : Int} {n k : Nat} (h : u.natAbs < 10 ^ k) : (u * 10 ^ n).natAbs < 10 ^ (k + n) := by
  have e : ((10 : Int) ^ n).natAbs = 10 ^ n := by rw [Int.natAbs_pow]; rfl
  rw [Int.natAbs_mul, e, Nat.pow_add]
  exact Nat.mul_lt_mul_of_pos_right h (pow10_pos n)
theorem pow_z (n : Nat) : ((10 : Int) ^ n).natAbs = 10 ^ n := by rw [Int.natAbs_pow]; rfl
theorem mul_z {i j : Int} (h1 : i.natAbs < 10 ^ 2000) (h2 : j.natAbs < 10 ^ 2000) : mulD (.int i) (.int j) = some (.int (i * j)) := by
  have p : (10 : Nat) ^ 2000 ≤ 2 ^ 100000 := by decide +kernel
  exact mul_w (Nat.lt_of_lt_of_le h1 p) (Nat.lt_of_lt_of_le h2 p)
theorem div_z {i j : Int} (h : 0 < j) (h2 : j.natAbs < 10 ^ 2000) : divD (.int i) (.int j) = some (.int (i / j)) := by
  have p : (10 : Nat) ^ 2000 ≤ 2 ^ 8000 := by decide +kernel
  exact div_w h (Nat.lt_of_lt_of_le h2 p)
theorem mul_t {u : Int} {n : Nat} (h : u.natAbs < 10 ^ 1000) (hn : n ≤ 900) : mulD (.int u) (.int (10 ^ n)) = some (.int (u * 10 ^ n)) :=
  mul_z (Nat.lt_of_lt_of_le h (pow10_le (by decide))) (by rw [pow_z]; exact Nat.pow_lt_pow_right (by decide) (by omega))
theorem maxz (x : Int) : (if (0 : Int) > x then 0 else x) = (x.toNat : Int) := by split <;> omega
theorem pow_ge1 (n : Nat) : (1 : Int) ≤ 10 ^ n := by
  have : (0 : Int) < 10 ^ n := Int.pow_pos (by decide)
  omega
end LW
namespace LW
open PySem PySem.Spec PyProof.Rows L2 DN
/-! ### rounding over the fractions -/
def T (p : Int) : Rat := (10 : Rat) ^ p
theorem T_pos (p : Int) : 0 < T p := Rat.zpow_pos (by decide)
theorem T_add (a b : Int) : T (a + b) = T a * T b := Rat.zpow_add (by decide) a b
theorem T_zero : T 0 = 1 := Rat.zpow_zero 10
theorem T_one : T 1 = 10 := Rat.zpow_one 10
theorem T_nat (n : Nat) : T (n : Int) = ((10 ^ n : Int) : Rat) := by
  unfold T
  rw [Rat.zpow_natCast, Rat.intCast_pow]
  rfl
theorem T_neg (p : Int) : T p * T (-p) = 1 := by rw [← T_add, show p + -p = 0 by omega, T_zero]
theorem T_ge1 (n : Nat) : 1 ≤ T (n : Int) := by
  rw [T_nat]
  exact Rat.intCast_le_intCast.mpr (pow_ge1 n)
theorem T_mono {a b : Int} (h : a ≤ b) : T a ≤ T b := by
  obtain ⟨n, e⟩ := Int.eq_ofNat_of_zero_le (show 0 ≤ b - a by omega)
  have e2 : b = a + (n : Int) := by omega
  rw [e2, T_add]
  have := Rat.mul_le_mul_of_nonneg_left (T_ge1 n) (Rat.le_of_lt (T_pos a))
  rwa [Rat.mul_one] at this
theorem T_lt {a b : Int} (h : a < b) : T a < T b := by
  have h1 := T_mono (show a + 1 ≤ b by omega)
  have h2 := T_pos a
  rw [T_add, T_one] at h1
  grind
theorem T_lt_iff {a b : Int} : T a < T b ↔ a < b := ⟨fun h => by
  by_cases q : a < b
  · exact q
  · have := T_mono (show b ≤ a by omega)
    grind, T_lt⟩
theorem le_div {a b c : Rat} (hc : 0 < c) : a ≤ b / c ↔ a * c ≤ b := by rw [← Rat.not_lt, ← Rat.not_lt, Rat.div_lt_iff hc]
theorem mul_cancel {a b c : Rat} (hc : 0 < c) (h : a * c = b * c) : a = b := by
  have n : c ≠ 0 := fun z => by grind
  rw [← Rat.mul_div_cancel (a := a) n, h, Rat.mul_div_cancel n]
def vl (s : Int × Int) : Rat := (s.1 : Rat) * T s.2
/-- one power about a fraction above 0 -/
def PwOf (v : Rat) (p : Int) : Prop := T (p + 7) ≤ v ∧ v < T (p + 8)
theorem pw_uniq {v : Rat} {p q : Int} (h : PwOf v p) (g : PwOf v q) : p = q := by
  have a := T_lt_iff.mp (show T (p + 7) < T (q + 8) from by have := h.1; have := g.2; grind)
  have b := T_lt_iff.mp (show T (q + 7) < T (p + 8) from by have := h.2; have := g.1; grind)
  omega
theorem frac_T {U L : Nat} (hL : 0 < L) (p : Int) : ((U : Int) : Rat) / ((L : Int) : Rat) * T (-p) = (((U : Int) * 10 ^ (-p).toNat : Int) : Rat) / (((L : Int) * 10 ^ p.toNat : Int) : Rat) := by
  have hL' : (0 : Rat) < ((L : Int) : Rat) := Rat.intCast_pos.mpr (by omega)
  rw [Rat.intCast_mul, Rat.intCast_mul, ← T_nat, ← T_nat]
  have e : T (-p) * T (p.toNat : Int) = T ((-p).toNat : Int) := by rw [← T_add]; congr 1; omega
  have h1 := T_pos (p.toNat : Int)
  grind
theorem pw_R {U L : Nat} (hU : 0 < U) (hL : 0 < L) : PwOf (((U : Int) : Rat) / ((L : Int) : Rat)) (pwN U L) := by
  obtain ⟨h1, h2⟩ := pw_low hU hL
  have e := frac_T (U := U) hL (pwN U L)
  generalize pwN U L = p at *
  have lp : (0 : Rat) < (((L : Int) * 10 ^ p.toNat : Int) : Rat) := Rat.intCast_pos.mpr (Int.mul_pos (by omega) (by have := pow_ge1 p.toNat; omega))
  have t1 : (10 : Rat) ^ 7 ≤ ((U : Int) : Rat) / ((L : Int) : Rat) * T (-p) := by
    rw [e]
    have : (10 : Rat) ^ 7 * (((L : Int) * 10 ^ p.toNat : Int) : Rat) ≤ (((U : Int) * 10 ^ (-p).toNat : Int) : Rat) := by
      have : (((10 : Int) ^ 7 * ((L : Int) * 10 ^ p.toNat) : Int) : Rat) ≤ (((U : Int) * 10 ^ (-p).toNat : Int) : Rat) := by
        refine Rat.intCast_le_intCast.mpr ?_
        have := Int.ofNat_le.mpr h1
        simp only [Int.natCast_mul, Int.natCast_pow] at this
        rw [Int.mul_comm]
        exact this
      rwa [Rat.intCast_mul] at this
    exact (le_div lp).mpr this
  have t2 : ((U : Int) : Rat) / ((L : Int) : Rat) * T (-p) < (10 : Rat) ^ 8 := by
    rw [e]
    have : (((U : Int) * 10 ^ (-p).toNat : Int) : Rat) < (10 : Rat) ^ 8 * (((L : Int) * 10 ^ p.toNat : Int) : Rat) := by
      have : (((U : Int) * 10 ^ (-p).toNat : Int) : Rat) < (((10 : Int) ^ 8 * ((L : Int) * 10 ^ p.toNat) : Int) : Rat) := by
        refine Rat.intCast_lt_intCast.mpr ?_
        have := Int.ofNat_lt.mpr h2
        simp only [Int.natCast_mul, Int.natCast_pow] at this
        rw [Int.mul_comm ((10 : Int) ^ 8)]
        exact this
      rwa [Rat.intCast_mul (10 ^ 8)] at this
    rw [Rat.div_lt_iff lp]
    exact this
  have t7 : T 7 = (10 : Rat) ^ 7 := Rat.zpow_natCast 10 7
  have t8 : T 8 = (10 : Rat) ^ 8 := Rat.zpow_natCast 10 8
  have hp := T_pos p
  have hn := T_neg p
  have key : ∀ v : Rat, v * T (-p) * T p = v := fun v => by grind
  constructor
  · have := Rat.mul_le_mul_of_nonneg_right t1 (Rat.le_of_lt hp)
    rw [key, ← t7, ← T_add, Int.add_comm] at this
    exact this
  · have := Rat.mul_lt_mul_of_pos_right t2 hp
    rw [key, ← t8, ← T_add, Int.add_comm] at this
    exact this
/-- a fraction rounded to a whole number -/
def tkR (h : Hw) (x : Rat) : Int := if x = (x.floor : Rat) then x.floor else match h with
  | .nought => x.floor
  | .more => x.floor + 1
  | .even => if 2 * (x - x.floor) = 1 then x.floor + (if x.floor % 2 = 1 then 1 else 0) else x.floor + (if 1 < 2 * (x - x.floor) then 1 else 0)
  | .away => if 2 * (x - x.floor) = 1 then x.floor + 1 else x.floor + (if 1 < 2 * (x - x.floor) then 1 else 0)
theorem floor_div {U L : Int} (hL : 0 < L) : ((U : Rat) / (L : Rat)).floor = U / L := by
  have hL' : (0 : Rat) < (L : Rat) := Rat.intCast_pos.mpr hL
  have h1 : U / L ≤ ((U : Rat) / (L : Rat)).floor := by
    rw [Rat.le_floor_iff, le_div hL', ← Rat.intCast_mul, Rat.intCast_le_intCast]
    exact Int.ediv_mul_le U (by omega)
  have h2 : ((U : Rat) / (L : Rat)).floor < U / L + 1 := by
    rw [Rat.floor_lt_iff, Rat.div_lt_iff hL', ← Rat.intCast_mul, Rat.intCast_lt_intCast]
    exact Int.lt_ediv_add_one_mul_self U hL
  omega
theorem taken_R (h : Hw) {U L : Int} (hL : 0 < L) : takenZ h (U / L) (U % L) L = tkR h ((U : Rat) / (L : Rat)) := by
  have hL' : (0 : Rat) < (L : Rat) := Rat.intCast_pos.mpr hL
  have e : (U : Rat) = (L : Rat) * ((U / L : Int) : Rat) + ((U % L : Int) : Rat) := by
    rw [← Rat.intCast_mul, ← Rat.intCast_add, Rat.intCast_inj]
    exact (Int.mul_ediv_add_emod U L).symm
  have e2 : (U : Rat) / (L : Rat) - ((U / L : Int) : Rat) = ((U % L : Int) : Rat) / (L : Rat) := by grind
  have c0 : (U : Rat) / (L : Rat) = ((U / L : Int) : Rat) ↔ U % L = 0 := by
    rw [← Rat.intCast_eq_zero_iff]
    constructor
    · intro q; grind
    · intro q; grind
  have c1 : 2 * ((U : Rat) / (L : Rat) - ((U / L : Int) : Rat)) = 1 ↔ 2 * (U % L) = L := by
    rw [e2, ← Rat.intCast_inj, Rat.intCast_mul]
    have : ((2 : Int) : Rat) = 2 := rfl
    rw [this]
    constructor
    · intro q; grind
    · intro q; grind
  have c2 : 1 < 2 * ((U : Rat) / (L : Rat) - ((U / L : Int) : Rat)) ↔ L < 2 * (U % L) := by
    rw [e2, ← Rat.intCast_lt_intCast, Rat.intCast_mul, show ∀ a b : Rat, 2 * (a / b) = (2 * a) / b from fun a b => by grind, Rat.lt_div_iff hL']
    have : ((2 : Int) : Rat) = 2 := rfl
    rw [this]
    constructor
    · intro q; grind
    · intro q; grind
  unfold tkR takenZ
  rw [floor_div hL]
  simp only [c0, c1, c2]
  all_goals (cases h <;> rfl)
/-- the values are read off -/
theorem tk_bound (h : Hw) (x : Rat) : x.floor ≤ tkR h x ∧ tkR h x ≤ x.floor + 1 := by
  unfold tkR
  split
  · omega
  · cases h <;> (repeat' split) <;> omega
theorem tk_int (h : Hw) (n : Int) : tkR h (n : Rat) = n := by
  unfold tkR
  rw [Rat.floor_intCast, if_pos rfl]
/-! stripped -/
theorem vl_strip : ∀ (n : Nat) (a b : Int), vl (strip n a b) = vl (a, b)
  | 0, _, _ => rfl
  | n + 1, a, b => by
    unfold strip
    by_cases h : a % 10 = 0
    · rw [if_pos h, vl_strip n]
      unfold vl
      have e : (a : Rat) = ((a / 10 : Int) : Rat) * 10 := by
        have : ((a : Int) : Rat) = (((a / 10) * 10 : Int) : Rat) := Rat.intCast_inj.mpr (by omega)
        rwa [Rat.intCast_mul] at this
      show ((a / 10 : Int) : Rat) * T (b + 1) = (a : Rat) * T b
      rw [T_add, T_one, e]
      grind
    · rw [if_neg h]
theorem strip_end : ∀ (n : Nat) (a b : Int), a ≠ 0 → a.natAbs < 10 ^ n → (strip n a b).1 % 10 ≠ 0
  | 0, a, b, h0, h => by
    have : (10 : Nat) ^ 0 = 1 := rfl
    omega
  | n + 1, a, b, h0, h => by
    unfold strip
    by_cases q : a % 10 = 0
    · rw [if_pos q]
      refine strip_end n _ _ (by omega) ?_
      have : (10 : Nat) ^ (n + 1) = 10 ^ n * 10 := Nat.pow_succ _ _
      omega
    · rw [if_neg q]; exact q
theorem figs_10 {a : Int} (h : 0 < a) (q : a % 10 = 0) : figs a.natAbs = figs (a / 10).natAbs + 1 := by
  have e : (a / 10).natAbs = a.natAbs / 10 := by omega
  rw [e]
  exact figs_step (by omega)
theorem hg_strip : ∀ (n : Nat) (a b : Int), 0 < a → hgZ (strip n a b) = hgZ (a, b)
  | 0, _, _, _ => rfl
  | n + 1, a, b, h => by
    unfold strip
    by_cases q : a % 10 = 0
    · rw [if_pos q, hg_strip n _ _ (by omega)]
      unfold hgZ
      have := figs_10 h q
      simp only
      omega
    · rw [if_neg q]
/-- a height tells a size -/
theorem hg_T {a b : Int} (h : 0 < a) : T (hgZ (a, b)) ≤ vl (a, b) ∧ vl (a, b) < T (hgZ (a, b) + 1) := by
  have h1 := figs_lt a.natAbs
  have h2 := figs_ge a.natAbs (by omega)
  have h3 := figs_pos a.natAbs
  unfold hgZ vl
  simp only
  have e1 : b + (figs a.natAbs : Int) - 1 = ((figs a.natAbs - 1 : Nat) : Int) + b := by omega
  have e2 : b + (figs a.natAbs : Int) - 1 + 1 = ((figs a.natAbs : Nat) : Int) + b := by omega
  rw [e2, e1, T_add, T_add, T_nat, T_nat]
  have a1 : ((10 : Int) ^ (figs a.natAbs - 1)) ≤ a := by
    have := Int.ofNat_le.mpr h2
    rw [Int.natCast_pow] at this
    have e : ((a.natAbs : Nat) : Int) = a := by omega
    rw [e] at this
    exact this
  have a2 : a < ((10 : Int) ^ (figs a.natAbs)) := by
    have := Int.ofNat_lt.mpr h1
    rw [Int.natCast_pow] at this
    have e : ((a.natAbs : Nat) : Int) = a := by omega
    rw [e] at this
    exact this
  exact ⟨Rat.mul_le_mul_of_nonneg_right (Rat.intCast_le_intCast.mpr a1) (Rat.le_of_lt (T_pos b)), Rat.mul_lt_mul_of_pos_right (Rat.intCast_lt_intCast.mpr a2) (T_pos b)⟩
theorem hg_hi {a b : Int} (h : 0 < a) (k : Int) : k < hgZ (a, b) ↔ T (k + 1) ≤ vl (a, b) := by
  obtain ⟨h1, h2⟩ := hg_T (b := b) h
  constructor
  · intro q
    have := T_mono (show k + 1 ≤ hgZ (a, b) by omega)
    grind
  · intro q
    have := T_lt_iff.mp (show T (k + 1) < T (hgZ (a, b) + 1) by grind)
    omega
theorem hg_lo {a b : Int} (h : 0 < a) (k : Int) : hgZ (a, b) < k ↔ vl (a, b) < T k := by
  have := hg_hi (b := b) h (k - 1)
  rw [show k - 1 + 1 = k by omega] at this
  grind
def NumOk (a b : Int) : Prop := (a = 0 ∧ b = 0) ∨ (a ≠ 0 ∧ a % 10 ≠ 0 ∧ a.natAbs < 10 ^ 8 ∧ -40 ≤ b + (figs a.natAbs : Int) - 1 ∧ b + (figs a.natAbs : Int) - 1 ≤ 40)
theorem vl_neg (s : Int × Int) : vl (-s.1, s.2) = -vl s := by
  unfold vl
  simp only
  rw [Rat.intCast_neg]
  grind
theorem vl_zero (b : Int) : vl (0, b) = 0 := by
  show ((0 : Int) : Rat) * T b = 0
  rw [Rat.intCast_zero, Rat.zero_mul]
/-- digits that end in no 0 are told by the value -/
theorem vl_inj {s t : Int × Int} (hs : s.1 % 10 ≠ 0) (ht : t.1 % 10 ≠ 0) (h : vl s = vl t) : s = t := by
  have key : ∀ (a b a' b' : Int), a % 10 ≠ 0 → a' % 10 ≠ 0 → b ≤ b' → vl (a, b) = vl (a', b') → a = a' ∧ b = b' := by
    intro a b a' b' h1 h2 hb e
    obtain ⟨n, hn⟩ := Int.eq_ofNat_of_zero_le (show 0 ≤ b' - b by omega)
    have e2 : b' = (n : Int) + b := by omega
    subst e2
    unfold vl at e
    simp only at e
    rw [T_add, T_nat] at e
    have hb := T_pos b
    have e3 : (a : Rat) = (a' : Rat) * ((10 ^ n : Int) : Rat) := mul_cancel hb (by rw [e, Rat.mul_assoc])
    rw [← Rat.intCast_mul, Rat.intCast_inj] at e3
    cases n with
    | zero => exact ⟨by simpa using e3, by simp⟩
    | succ n =>
      exfalso
      rw [Int.pow_succ, ← Int.mul_assoc] at e3
      omega
  obtain ⟨a, b⟩ := s
  obtain ⟨a', b'⟩ := t
  by_cases q : b ≤ b'
  · obtain ⟨h1, h2⟩ := key a b a' b' hs ht q h
    rw [h1, h2]
  · obtain ⟨h1, h2⟩ := key a' b' a b ht hs (by omega) h.symm
    rw [h1, h2]
/-! the rounded value -/
def pR (v : Rat) : Int := pwN v.num.natAbs v.den
theorem num_pos' {v : Rat} (h : 0 < v) : 0 < v.num := by
  have := (Rat.lt_iff 0 v).mp h
  simpa using this
theorem pR_of {v : Rat} (h : 0 < v) : PwOf v (pR v) := by
  have h1 := num_pos' h
  have := pw_R (U := v.num.natAbs) (L := v.den) (by omega) (by have := v.den_nz; omega)
  have e : (((v.num.natAbs : Nat) : Int) : Rat) / (((v.den : Nat) : Int) : Rat) = v := by
    rw [show ((v.num.natAbs : Nat) : Int) = v.num by omega, Rat.intCast_natCast]
    rw [← Rat.mkRat_eq_div]
    exact Rat.mkRat_self v
  rw [e] at this
  exact this
def rwR (h : Hw) (v : Rat) : Rat := (tkR h (v * T (-(pR v))) : Rat) * T (pR v)
def rd1 (h : Hw) (v : Rat) : Option Rat := if T 41 ≤ rwR h v then none else if rwR h v < T (-40) then some (if h = .more then T (-40) else 0) else some (rwR h v)
def rdR (m : Mn) (v : Rat) : Option Rat := if v = 0 then some 0 else if v < 0 then (rd1 (m.by true) (-v)).map (fun r => -r) else rd1 (m.by false) v
def ExIs : Option (Int × Int) → Option Rat → Prop
  | none, none => True
  | some s, some r => NumOk s.1 s.2 ∧ vl s = r
  | _, _ => False
theorem T_7 : T 7 = ((10000000 : Int) : Rat) := by
  rw [show (7 : Int) = ((7 : Nat) : Int) from rfl, T_nat]; rfl
theorem T_8 : T 8 = ((100000000 : Int) : Rat) := by
  rw [show (8 : Int) = ((8 : Nat) : Int) from rfl, T_nat]; rfl
/-- scaled, it has eight figures -/
theorem sc_bound {v : Rat} {p : Int} (h : PwOf v p) : T 7 ≤ v * T (-p) ∧ v * T (-p) < T 8 := by
  obtain ⟨h1, h2⟩ := h
  have hp := T_pos (-p)
  have a1 := Rat.mul_le_mul_of_nonneg_right h1 (Rat.le_of_lt hp)
  have a2 := Rat.mul_lt_mul_of_pos_right h2 hp
  rw [← T_add] at a1 a2
  rw [show p + 7 + -p = 7 by omega] at a1
  rw [show p + 8 + -p = 8 by omega] at a2
  exact ⟨a1, a2⟩
theorem tk_range (h : Hw) {v : Rat} {p : Int} (hp : PwOf v p) : 10000000 ≤ tkR h (v * T (-p)) ∧ tkR h (v * T (-p)) ≤ 100000000 := by
  obtain ⟨h1, h2⟩ := sc_bound hp
  rw [T_7] at h1
  rw [T_8] at h2
  have f1 := Rat.le_floor_iff.mpr h1
  have f2 := Rat.floor_lt_iff.mpr h2
  have := tk_bound h (v * T (-p))
  omega
theorem fit_R (h : Hw) {w p : Int} (bl : Bool) (hw : 0 < w) : fitZ h w p bl = if T 41 ≤ vl (w, p) then none else if vl (w, p) < T (-40) then (if h = .more then some (sgZ bl, -40) else some (0, 0)) else some (sgZ bl * (strip 5000 w p).1, (strip 5000 w p).2) := by
  unfold fitZ
  rw [hg_strip 5000 w p hw]
  have a := hg_hi (b := p) hw 40
  have b := hg_lo (b := p) hw (-40)
  rw [show (40 : Int) + 1 = 41 from rfl] at a
  simp only [a, b]
theorem NumOk.neg {a b : Int} (h : NumOk a b) : NumOk (-a) b := by
  unfold NumOk at *
  rw [Int.natAbs_neg]
  omega
theorem NumOk.sg {a b : Int} (h : NumOk a b) (bl : Bool) : NumOk (sgZ bl * a) b := by
  cases bl with
  | false => rw [show sgZ false = 1 from rfl, Int.one_mul]; exact h
  | true => rw [show sgZ true = -1 from rfl, Int.neg_one_mul]; exact h.neg
theorem one_ok : NumOk 1 (-40) := .inr ⟨by decide, by decide, by decide, by decide +kernel, by decide +kernel⟩
theorem zero_ok : NumOk 0 0 := .inl ⟨rfl, rfl⟩
theorem strip_ok {w p : Int} (h1 : 0 < w) (h2 : w ≤ 100000000) (h3 : ¬ T 41 ≤ vl (w, p)) (h4 : ¬ vl (w, p) < T (-40)) : NumOk (strip 5000 w p).1 (strip 5000 w p).2 := by
  obtain ⟨a1, a2, _, _⟩ := strip_pos 5000 w p h1
  have b8 : w.natAbs < 10 ^ 9 := by omega
  have e := strip_end 5000 w p (by omega) (Nat.lt_of_lt_of_le b8 (pow10_le (by decide)))
  have hg := hg_strip 5000 w p h1
  have a := hg_hi (b := p) h1 40
  have b := hg_lo (b := p) h1 (-40)
  rw [show (40 : Int) + 1 = 41 from rfl] at a
  rw [← a] at h3
  rw [← b] at h4
  rw [← hg] at h3 h4
  unfold hgZ at h3 h4
  refine .inr ⟨by omega, e, by omega, by omega, by omega⟩
theorem ex_fit (h : Hw) {v : Rat} {p : Int} (bl : Bool) (hv : 0 < v) (hp : PwOf v p) : ExIs (fitZ h (tkR h (v * T (-p))) p bl) ((rd1 h v).map fun r => (sgZ bl : Rat) * r) := by
  have e := pw_uniq hp (pR_of hv)
  subst e
  obtain ⟨w1, w2⟩ := tk_range h hp
  rw [fit_R h bl (by omega)]
  have er : vl (tkR h (v * T (-(pR v))), pR v) = rwR h v := rfl
  rw [er]
  unfold rd1
  by_cases c1 : T 41 ≤ rwR h v
  · rw [if_pos c1, if_pos c1]; trivial
  · rw [if_neg c1, if_neg c1]
    by_cases c2 : rwR h v < T (-40)
    · rw [if_pos c2, if_pos c2]
      by_cases c3 : h = .more
      · rw [if_pos c3, if_pos c3]
        refine ⟨?_, rfl⟩
        have := one_ok.sg bl
        rwa [Int.mul_one] at this
      · rw [if_neg c3, if_neg c3]
        refine ⟨zero_ok, ?_⟩
        rw [vl_zero]
        exact (Rat.mul_zero _).symm
    · rw [if_neg c2, if_neg c2]
      refine ⟨(strip_ok (by omega) w2 (by rw [er]; exact c1) (by rw [er]; exact c2)).sg bl, ?_⟩
      show ((sgZ bl * (strip 5000 _ _).1 : Int) : Rat) * T (strip 5000 _ _).2 = _
      rw [Rat.intCast_mul, Rat.mul_assoc]
      have := vl_strip 5000 (tkR h (v * T (-(pR v)))) (pR v)
      rw [er] at this
      rw [← this]
      rfl
theorem ex_R (m : Mn) {u l : Int} (hl : l ≠ 0) : ExIs (exZ m u l) (rdR m ((u : Rat) / (l : Rat))) := by
  unfold exZ rdR
  by_cases h0 : u = 0
  · subst h0
    have : ((0 : Int) : Rat) / (l : Rat) = 0 := by rw [Rat.intCast_zero]; grind
    rw [if_pos rfl, this, if_pos rfl]
    exact ⟨zero_ok, vl_zero 0⟩
  · rw [if_neg h0]
    have hU : 0 < u.natAbs := by omega
    have hL : 0 < l.natAbs := by omega
    have hp := pw_R hU hL
    have fr := frac_T (U := u.natAbs) hL (pwN u.natAbs l.natAbs)
    have ul : (0 : Rat) < ((u.natAbs : Int) : Rat) := Rat.intCast_pos.mpr (by omega)
    have ll : (0 : Rat) < ((l.natAbs : Int) : Rat) := Rat.intCast_pos.mpr (by omega)
    have hv : (0 : Rat) < ((u.natAbs : Int) : Rat) / ((l.natAbs : Int) : Rat) := by
      rw [Rat.lt_div_iff ll, Rat.zero_mul]; exact ul
    have l0 : 0 < (l.natAbs : Int) * 10 ^ (pwN u.natAbs l.natAbs).toNat := Int.mul_pos (by omega) (by have := pow_ge1 (pwN u.natAbs l.natAbs).toNat; omega)
    have sv : (u : Rat) / (l : Rat) = (sgZ (decide (u < 0) != decide (l < 0)) : Rat) * (((u.natAbs : Int) : Rat) / ((l.natAbs : Int) : Rat)) := by
      by_cases c1 : u < 0 <;> by_cases c2 : l < 0
      · rw [decide_eq_true c1, decide_eq_true c2, show (u.natAbs : Int) = -u by omega, show (l.natAbs : Int) = -l by omega, Rat.intCast_neg, Rat.intCast_neg]
        show _ = ((1 : Int) : Rat) * _
        have : ((1 : Int) : Rat) = 1 := rfl
        grind
      · rw [decide_eq_true c1, decide_eq_false c2, show (u.natAbs : Int) = -u by omega, show (l.natAbs : Int) = l by omega, Rat.intCast_neg]
        show _ = ((-1 : Int) : Rat) * _
        have : ((-1 : Int) : Rat) = -1 := rfl
        grind
      · rw [decide_eq_false c1, decide_eq_true c2, show (u.natAbs : Int) = u by omega, show (l.natAbs : Int) = -l by omega, Rat.intCast_neg]
        show _ = ((-1 : Int) : Rat) * _
        have : ((-1 : Int) : Rat) = -1 := rfl
        grind
      · rw [decide_eq_false c1, decide_eq_false c2, show (u.natAbs : Int) = u by omega, show (l.natAbs : Int) = l by omega]
        show _ = ((1 : Int) : Rat) * _
        have : ((1 : Int) : Rat) = 1 := rfl
        grind
    rw [sv]
    simp only [taken_R _ l0, ← fr]
    generalize ((u.natAbs : Int) : Rat) / ((l.natAbs : Int) : Rat) = v at *
    generalize (decide (u < 0) != decide (l < 0)) = bl at *
    have q := ex_fit (m.by bl) bl hv hp
    cases bl with
    | false =>
      have e1 : (sgZ false : Rat) * v = v := by rw [show sgZ false = 1 from rfl]; exact Rat.one_mul v
      rw [e1, if_neg (by grind), if_neg (by grind)]
      have e2 : (rd1 (m.by false) v).map (fun r => (sgZ false : Rat) * r) = rd1 (m.by false) v := by
        cases rd1 (m.by false) v with
        | none => rfl
        | some r => exact congrArg some (Rat.one_mul r)
      rw [e2] at q
      exact q
    | true =>
      have e0 : (sgZ true : Rat) = -1 := rfl
      have e1 : (sgZ true : Rat) * v = -v := by rw [e0]; grind
      rw [e1, if_neg (by grind), if_pos (by grind), Rat.neg_neg]
      have e2 : (rd1 (m.by true) v).map (fun r => (sgZ true : Rat) * r) = (rd1 (m.by true) v).map (fun r => -r) := by
        congr 1
        funext r
        rw [e0]; grind
      rw [e2] at q
      exact q
/-! ### laws of rounding -/
def Mn.turn : Mn → Mn
  | .up => .down | .down => .up | .even => .even | .away => .away | .nought => .nought
/-! numbers are kept -/
theorem fix1 (h : Hw) {a b : Int} (ha : 0 < a) (ok : NumOk a b) : rd1 h (vl (a, b)) = some (vl (a, b)) := by
  rcases ok with ⟨z, _⟩ | ⟨_, _, h3, h4, h5⟩
  · omega
  have hv : 0 < vl (a, b) := Rat.mul_pos (Rat.intCast_pos.mpr ha) (T_pos b)
  obtain ⟨t1, t2⟩ := hg_T (b := b) ha
  have hp := pR_of hv
  have hh : hgZ (a, b) = b + (figs a.natAbs : Int) - 1 := rfl
  rw [← hh] at h4 h5
  have ep : pR (vl (a, b)) = hgZ (a, b) - 7 := pw_uniq hp ⟨by rw [show hgZ (a, b) - 7 + 7 = hgZ (a, b) by omega]; exact t1, by rw [show hgZ (a, b) - 7 + 8 = hgZ (a, b) + 1 by omega]; exact t2⟩
  have fl := figs_le (k := 8) (by decide) h3
  obtain ⟨n, hn⟩ := Int.eq_ofNat_of_zero_le (show 0 ≤ b - pR (vl (a, b)) by rw [ep, hh]; omega)
  have e1 : vl (a, b) * T (-(pR (vl (a, b)))) = ((a * 10 ^ n : Int) : Rat) := by
    rw [Rat.intCast_mul, ← T_nat, ← hn]
    show (a : Rat) * T b * T (-(pR (vl (a, b)))) = _
    rw [Rat.mul_assoc, ← T_add]
    rfl
  have er : rwR h (vl (a, b)) = vl (a, b) := by
    unfold rwR
    rw [e1, tk_int, ← e1, Rat.mul_assoc, ← T_add, show -(pR (vl (a, b))) + pR (vl (a, b)) = 0 by omega, T_zero, Rat.mul_one]
  unfold rd1
  rw [er, if_neg, if_neg]
  · have := T_mono h4
    grind
  · have := T_mono (show hgZ (a, b) + 1 ≤ 41 by omega)
    grind
theorem rd_fix (m : Mn) {a b : Int} (ok : NumOk a b) : rdR m (vl (a, b)) = some (vl (a, b)) := by
  by_cases h0 : a = 0
  · subst h0
    rw [vl_zero]
    exact if_pos rfl
  · unfold rdR
    have e : vl (-a, b) = -vl (a, b) := vl_neg (a, b)
    by_cases h1 : 0 < a
    · have hv : 0 < vl (a, b) := Rat.mul_pos (Rat.intCast_pos.mpr h1) (T_pos b)
      rw [if_neg (by grind), if_neg (by grind), fix1 _ h1 ok]
    · have hv : 0 < vl (-a, b) := Rat.mul_pos (Rat.intCast_pos.mpr (by omega)) (T_pos b)
      rw [if_neg (by grind), if_pos (by grind), ← e, fix1 _ (by omega) ok.neg, e]
      exact congrArg some (Rat.neg_neg _)
theorem num_inj {s t : Int × Int} (hs : NumOk s.1 s.2) (ht : NumOk t.1 t.2) (h : vl s = vl t) : s = t := by
  obtain ⟨a, b⟩ := s
  obtain ⟨c, d⟩ := t
  have key : ∀ a b : Int, a ≠ 0 → vl (a, b) ≠ 0 := fun a b ha z => by
    rcases Rat.mul_eq_zero.mp z with z | z
    · exact ha (Rat.intCast_eq_zero_iff.mp z)
    · have := T_pos b
      grind
  rcases hs with ⟨h1, h2⟩ | ⟨h1, h2, _⟩
  · rcases ht with ⟨g1, g2⟩ | ⟨g1, g2, _⟩
    · simp only at h1 h2 g1 g2
      rw [h1, h2, g1, g2]
    · simp only at h1
      subst h1
      rw [vl_zero] at h
      exact absurd h.symm (key _ _ g1)
  · rcases ht with ⟨g1, g2⟩ | ⟨g1, g2, _⟩
    · simp only at g1
      subst g1
      rw [vl_zero] at h
      exact absurd h (key _ _ h1)
    · exact vl_inj h2 g2 h
theorem ExIs.uniq {x y : Option (Int × Int)} {r : Option Rat} (hx : ExIs x r) (hy : ExIs y r) : x = y := by
  cases x with
  | none =>
    cases y with
    | none => rfl
    | some t => cases r <;> simp [ExIs] at hx hy
  | some s =>
    cases r with
    | none => exact hx.elim
    | some r =>
      cases y with
      | none => exact hy.elim
      | some t => exact congrArg some (num_inj hx.1 hy.1 (hx.2.trans hy.2.symm))
/-- the value alone tells -/
theorem ex_same (m : Mn) {u l u' l' : Int} (hl : l ≠ 0) (hl' : l' ≠ 0) (h : (u : Rat) / (l : Rat) = (u' : Rat) / (l' : Rat)) : exZ m u l = exZ m u' l' := by
  have a := ex_R m (u := u) hl
  have b := ex_R m (u := u') hl'
  rw [h] at a
  exact a.uniq b
def neg1 (s : Int × Int) : Int × Int := (-s.1, s.2)
theorem ex_fix (m : Mn) {u l a b : Int} (hl : l ≠ 0) (ok : NumOk a b) (h : (u : Rat) / (l : Rat) = vl (a, b)) : exZ m u l = some (a, b) := by
  have x := ex_R m (u := u) hl
  rw [h, rd_fix m ok] at x
  exact x.uniq ⟨ok, rfl⟩
theorem ex_some (m : Mn) {u l : Int} {s : Int × Int} (hl : l ≠ 0) (h : exZ m u l = some s) : NumOk s.1 s.2 ∧ rdR m ((u : Rat) / (l : Rat)) = some (vl s) := by
  have x := ex_R m (u := u) hl
  rw [h] at x
  cases y : rdR m ((u : Rat) / (l : Rat)) with
  | none => rw [y] at x; exact x.elim
  | some r => rw [y] at x; exact ⟨x.1, by rw [x.2]⟩
/-! down and up -/
/-! as functions of the value -/
def exV (m : Mn) (v : Rat) : Option (Int × Int) := exZ m v.num (v.den : Int)
theorem num_den (v : Rat) : ((v.num : Int) : Rat) / (((v.den : Nat) : Int) : Rat) = v := by
  rw [Rat.intCast_natCast, ← Rat.mkRat_eq_div]
  exact Rat.mkRat_self v
theorem den_ne (v : Rat) : ((v.den : Nat) : Int) ≠ 0 := by have := v.den_nz; omega
theorem ex_V (m : Mn) {u l : Int} (hl : l ≠ 0) : exZ m u l = exV m ((u : Rat) / (l : Rat)) := ex_same m hl (den_ne _) (num_den _).symm
theorem exV_some {m : Mn} {v : Rat} {s : Int × Int} (h : exV m v = some s) : NumOk s.1 s.2 ∧ rdR m v = some (vl s) := by
  have := ex_some m (den_ne v) h
  rw [num_den] at this
  exact this
theorem vl_at {a b p : Int} (h : p ≤ b) : vl (a, b) = ((a * 10 ^ (b - p).toNat : Int) : Rat) * T p := by
  unfold vl
  simp only
  rw [Rat.intCast_mul, ← T_nat, Rat.mul_assoc, ← T_add]
  congr 2
  omega
theorem frac_val (u p : Int) : ((u * 10 ^ p.toNat : Int) : Rat) / ((10 ^ (-p).toNat : Int) : Rat) = (u : Rat) * T p := by
  rw [Rat.intCast_mul, ← T_nat, ← T_nat]
  have e : T p * T ((-p).toNat : Int) = T (p.toNat : Int) := by rw [← T_add]; congr 1; omega
  have h := T_pos ((-p).toNat : Int)
  rw [← e, ← Rat.mul_assoc, Rat.mul_div_cancel (by grind)]
end LW
namespace LW
open PySem PySem.Spec PyProof.Rows L2 DN
/-! ### a sign sought in a text -/
def posF (c : Nat) : List Nat → Nat → List Nat
  | [], _ => []
  | a :: r, k => if a = c then k :: posF c r (k + 1) else posF c r (k + 1)
theorem sub_one {l : List Nat} {c i : Nat} : (i + (S [c]).length ≤ (S l).length ∧ Builtin.Str.subAt (S l) (S [c]) i = true) ↔ l[i]? = some c := by
  have := StrLaws.subAt_one (S l) c i
  rw [S_tl] at this
  exact this
theorem occ_loop (c lim : Nat) (l : List Nat) : ∀ (n k f : Nat) (arr : Array Nat), n = l.length + 1 - k → k ≤ l.length → f ≤ k →
    (forIn (List.range' k n) (arr, f) (StrLaws.occBody (S l) (S [c]) l.length lim)).run.fst.toList = arr.toList ++ (posF c (l.drop k) k).take (lim - arr.size)
  | 0, k, f, arr, hn, hk, hf => by omega
  | n + 1, k, f, arr, hn, hk, hf => by
    rw [List.range'_succ, List.forIn_cons]
    unfold StrLaws.occBody
    have sl : (S [c]).length = 1 := S_len [c]
    have ls : (S l).length = l.length := S_len l
    by_cases hkl : k < l.length
    · have hd : l.drop k = l[k] :: l.drop (k + 1) := List.drop_eq_getElem_cons hkl
      have ge : l[k]? = some l[k] := List.getElem?_eq_getElem hkl
      have so := sub_one (l := l) (c := c) (i := k)
      rw [ge, sl, ls] at so
      rw [hd]
      unfold posF
      by_cases hc : l[k] = c
      · have s2 := so.mpr (by rw [hc])
        rw [if_pos hc]
        by_cases hz : arr.size < lim
        · rw [if_pos (by exact ⟨⟨⟨hz, hf⟩, by rw [sl]; exact s2.1⟩, s2.2⟩)]
          have ih := occ_loop c lim l n (k + 1) (k + (S [c]).length) (arr.push k) (by omega) (by omega) (by omega)
          refine Eq.trans ih ?_
          rw [Array.toList_push, Array.size_push, List.append_assoc]
          congr 1
          obtain ⟨z, hz⟩ : ∃ z, lim - arr.size = z + 1 := ⟨lim - arr.size - 1, by omega⟩
          rw [hz, List.take_succ_cons, show lim - (arr.size + 1) = z by omega]
          rfl
        · rw [if_neg (by intro h; exact hz h.1.1.1)]
          have ih := occ_loop c lim l n (k + 1) f arr (by omega) (by omega) (by omega)
          refine Eq.trans ih ?_
          rw [show lim - arr.size = 0 by omega, List.take_zero, List.take_zero]
      · rw [if_neg hc, if_neg (by
          intro h
          have := so.mp ⟨by have := h.1.2; rw [sl] at this; exact this, h.2⟩
          exact hc (Option.some.inj this))]
        exact occ_loop c lim l n (k + 1) f arr (by omega) (by omega) (by omega)
    · have hkl : k = l.length := by omega
      subst hkl
      have n0 : n = 0 := by omega
      subst n0
      rw [if_neg (by
        intro h
        have := h.1.2
        rw [sl] at this
        omega)]
      rw [List.drop_length]
      show arr.toList = arr.toList ++ List.take _ (posF c [] l.length)
      unfold posF
      simp
theorem occ_pos (c lim : Nat) (l : List Nat) : Builtin.Str.occurrences (S l) (S [c]) 0 (S l).length lim = (posF c l 0).take lim := by
  rw [StrLaws.occ_eq, S_len]
  have := occ_loop c lim l (l.length + 1 - 0) 0 0 #[] rfl (by omega) (by omega)
  simpa using this
theorem pos_none {c : Nat} : ∀ {l : List Nat} (k : Nat), c ∉ l → posF c l k = []
  | [], _, _ => rfl
  | a :: r, k, h => by
    unfold posF
    rw [if_neg (show ¬ a = c from fun z => h (by rw [z]; exact List.mem_cons_self))]
    exact pos_none (k + 1) fun z => h (List.mem_cons_of_mem _ z)
theorem pos_app {c : Nat} : ∀ {a : List Nat} (b : List Nat) (k : Nat), c ∉ a → posF c (a ++ c :: b) k = (k + a.length) :: posF c b (k + a.length + 1)
  | [], b, k, _ => by
    show posF c (c :: b) k = _
    rw [posF, if_pos rfl]
    rfl
  | x :: r, b, k, h => by
    show posF c (x :: (r ++ c :: b)) k = _
    rw [posF, if_neg (show ¬ x = c from fun z => h (by rw [z]; exact List.mem_cons_self)), pos_app b (k + 1) fun z => h (List.mem_cons_of_mem _ z), List.length_cons]
    congr 1
    · omega
    · congr 1
      omega
theorem pos_shift (c : Nat) : ∀ (l : List Nat) (k j : Nat), posF c l (k + j) = (posF c l k).map (· + j)
  | [], _, _ => rfl
  | a :: r, k, j => by
    rw [posF, posF]
    have := pos_shift c r (k + 1) j
    rw [show k + 1 + j = k + j + 1 by omega] at this
    split
    · rw [List.map_cons, this]
    · exact this
/-- a text is without the sign, or it is cut at its first one -/
theorem cut_at (c : Nat) : ∀ (l : List Nat), c ∉ l ∨ ∃ a b, l = a ++ c :: b ∧ c ∉ a
  | [] => .inl (by simp)
  | x :: r => by
    by_cases h : x = c
    · exact .inr ⟨[], r, by rw [h]; rfl, by simp⟩
    · rcases cut_at c r with q | ⟨a, b, e, q⟩
      · exact .inl (by simp; exact ⟨fun z => h z.symm, q⟩)
      · exact .inr ⟨x :: a, b, by rw [e]; rfl, by simp; exact ⟨fun z => h z.symm, q⟩⟩
theorem sub_S (l : List Nat) (i j : Nat) : Builtin.Str.strSub (S l) i j = S ((l.drop i).take (j - i)) := S_of (by rw [StrLaws.strSub_toList, S_tl])
theorem part_none {c : Nat} {l : List Nat} (h : c ∉ l) : Txt.partition (S l) (S [c]) = (S l, S [], S []) := by
  unfold Txt.partition
  rw [occ_pos, pos_none 0 h]
  rfl
theorem part_some {c : Nat} {a b : List Nat} (h : c ∉ a) : Txt.partition (S (a ++ c :: b)) (S [c]) = (S a, S [c], S b) := by
  unfold Txt.partition
  rw [occ_pos, pos_app b 0 h]
  show (Builtin.Str.strSub (S (a ++ c :: b)) 0 (0 + a.length), S [c], Builtin.Str.strSub (S (a ++ c :: b)) (0 + a.length + (S [c]).length) (S (a ++ c :: b)).length) = _
  rw [sub_S, sub_S, S_len, S_len]
  have e1 : List.take (0 + a.length - 0) (List.drop 0 (a ++ c :: b)) = a := by simp
  have e2 : List.take ((a ++ c :: b).length - (0 + a.length + [c].length)) (List.drop (0 + a.length + [c].length) (a ++ c :: b)) = b := by
    have d : List.drop (0 + a.length + [c].length) (a ++ c :: b) = b := by
      rw [show a ++ c :: b = (a ++ [c]) ++ b by simp, show 0 + a.length + [c].length = (a ++ [c]).length by simp, List.drop_left]
    rw [d]
    exact List.take_of_length_le (by simp; omega)
  rw [e1, e2]
theorem kind_1 {c : Nat} (h : c < 256) : Builtin.Str.strKind (S [c]) = 1 := by
  unfold Builtin.Str.strKind
  rw [if_pos]
  simp [S, h]
theorem kind_ge (x : Str) : 1 ≤ Builtin.Str.strKind x := by
  unfold Builtin.Str.strKind
  split
  · omega
  · split <;> omega
theorem split_none {c : Nat} {l : List Nat} (h : c ∉ l) : Txt.split (S l) (S [c]) = [S l] := by
  unfold Txt.split
  split
  · rfl
  · rw [occ_pos, pos_none 0 h]
    rfl
theorem pos_len (c : Nat) : ∀ (l : List Nat) (k : Nat), (posF c l k).length ≤ l.length
  | [], _ => Nat.le_refl _
  | a :: r, k => by
    rw [posF]
    have := pos_len c r (k + 1)
    split <;> simp <;> omega
theorem parts_app {c : Nat} {a b : List Nat} (h : c ∉ a) : Builtin.Str.partsBetween (S (a ++ c :: b)) (posF c (a ++ c :: b) 0) 1 = S a :: Builtin.Str.partsBetween (S b) (posF c b 0) 1 := by
  rw [pos_app b 0 h]
  unfold Builtin.Str.partsBetween
  simp only [List.map_cons, List.cons_append, List.zip_cons_cons, List.map_cons]
  refine congr (congrArg List.cons ?_) ?_
  · rw [sub_S]
    simp
  · have ps := pos_shift c b 0 (0 + a.length + 1)
    rw [Nat.zero_add] at ps
    have drop_eq : ∀ i, List.drop (i + (a.length + 1)) (a ++ c :: b) = List.drop i b := fun i => by
      rw [show a ++ c :: b = (a ++ [c]) ++ b by simp, show i + (a.length + 1) = (a ++ [c]).length + i by simp; omega, List.drop_append]
      simp
    have key : ∀ (is js : List Nat), ((is.map (· + (a.length + 1))).zip (js.map (· + (a.length + 1)))).map (fun p => Builtin.Str.strSub (S (a ++ c :: b)) p.1 p.2) = (is.zip js).map fun p => Builtin.Str.strSub (S b) p.1 p.2 := by
      intro is
      induction is with
      | nil => intro js; rfl
      | cons i is ih =>
        intro js
        cases js with
        | nil => rfl
        | cons j js =>
          simp only [List.map_cons, List.zip_cons_cons]
          rw [ih js, sub_S, sub_S, drop_eq, show j + (a.length + 1) - (i + (a.length + 1)) = j - i by omega]
    have := key (0 :: (posF c b 0).map (· + 1)) (posF c b 0 ++ [(S b).length])
    refine Eq.trans ?_ this
    congr 1
    rw [Nat.zero_add] at ps ⊢
    rw [ps]
    congr 1
    · simp only [List.map_cons, List.map_map]
      congr 1
      · omega
      · congr 1
        funext x
        show x + (a.length + 1) + 1 = x + 1 + (a.length + 1)
        omega
    · rw [List.map_append, S_len, S_len]
      congr 1
      simp
      omega
theorem parts_pos (c : Nat) (l : List Nat) : Txt.split (S l) (S [c]) = Builtin.Str.partsBetween (S l) (posF c l 0) 1 ∨ c ∉ l ∨ 256 ≤ c := by
  rcases cut_at c l with h | ⟨a, b, e, h⟩
  · exact .inr (.inl h)
  · by_cases hc : c < 256
    · left
      unfold Txt.split
      have l1 : decide ((S l).length < (S [c]).length) = false := decide_eq_false (by rw [S_len, S_len, e]; simp)
      have l2 : decide (Builtin.Str.strKind (S l) < Builtin.Str.strKind (S [c])) = false := decide_eq_false (by rw [kind_1 hc]; have := kind_ge (S l); omega)
      have tk : (posF c l 0).take ((S l).length + 1) = posF c l 0 := List.take_of_length_le (by have := pos_len c l 0; rw [S_len]; omega)
      rw [l1, l2, occ_pos, tk, e, pos_app b 0 h]
      rfl
    · exact .inr (.inr (by omega))
theorem parts_none {c : Nat} {l : List Nat} (h : c ∉ l) : Builtin.Str.partsBetween (S l) (posF c l 0) 1 = [S l] := by
  rw [pos_none 0 h]
  show [Builtin.Str.strSub (S l) 0 (S l).length] = _
  rw [sub_S, S_len]
  simp
theorem split_some {c : Nat} {a b : List Nat} (hc : c < 256) (h : c ∉ a) : Txt.split (S (a ++ c :: b)) (S [c]) = S a :: Txt.split (S b) (S [c]) := by
  rcases parts_pos c (a ++ c :: b) with e | e | e
  · rw [e, parts_app h]
    rcases parts_pos c b with q | q | q
    · rw [q]
    · rw [split_none q, parts_none q]
    · omega
  · exact absurd (by simp) e
  · omega
/-- a text cut at each such sign -/
def cutL (c : Nat) : List Nat → List (List Nat)
  | [] => [[]]
  | a :: r => if a = c then [] :: cutL c r else match cutL c r with
    | [] => [[a]]
    | x :: xs => (a :: x) :: xs
theorem cutL_app {c : Nat} : ∀ {a : List Nat} (b : List Nat), c ∉ a → cutL c (a ++ c :: b) = a :: cutL c b
  | [], b, _ => by
    show cutL c (c :: b) = _
    rw [cutL, if_pos rfl]
  | x :: r, b, h => by
    show cutL c (x :: (r ++ c :: b)) = _
    rw [cutL, if_neg (show ¬ x = c from fun z => h (by rw [z]; exact List.mem_cons_self)), cutL_app b fun z => h (List.mem_cons_of_mem _ z)]
theorem cutL_none {c : Nat} : ∀ {l : List Nat}, c ∉ l → cutL c l = [l]
  | [], _ => rfl
  | x :: r, h => by
    rw [cutL, if_neg (show ¬ x = c from fun z => h (by rw [z]; exact List.mem_cons_self)), cutL_none fun z => h (List.mem_cons_of_mem _ z)]
theorem split_S {c : Nat} (hc : c < 256) (l : List Nat) : Txt.split (S l) (S [c]) = (cutL c l).map S := by
  induction hn : l.length using Nat.strongRecOn generalizing l with
  | ind n ih =>
    rcases cut_at c l with h | ⟨a, b, e, h⟩
    · rw [split_none h, cutL_none h]; rfl
    · subst e
      rw [split_some hc h, cutL_app b h, ih b.length (by rw [← hn]; simp; omega) b rfl]
      rfl
end LW
namespace LW
open PySem PySem.Spec PyProof.Rows L2 DN
open TL (numL numL_lt numL_step numL_digits numL_ne tl_num)
open NumText (AllDigits digitsVal)
local macro_rules | `(tactic| walk_at "ev") => `(tactic| simp -implicitDefEqProofs (disch := first | omega | (simp only [List.length_cons, List.length_nil]; omega)) only [mkTR_ok, mkLR_ok, ix_tm, ix_lm, ix_t0, ix_t1, ix_t2, ix_t3, ix_t4, ix_t5, ix_t6, ix_t7, ix_l0, ix_l1, ix_l2, ix_l3, ix_l4, ix_l5, ix_l6, ix_l7, bin_def, una_def, cal_def, acons_def, anil_def, con_def, callD_def, tst_def, sseq_def, sret_def, sasg_def, sif_def, sskip_def, sraise_def, andQ_def, orQ_def, notQ_def, andE_def, orE_def, notE_def, mkT_def, mkL_def, slc_def, psm_def, pno_def, sfor_def, chn_def, var_zero, var_succ, app2_ok, app1_ok, appL_ok, consR_ok, ofO_some, call0, call1, call2, call3, call4, call5, tstR_ok, seqR_nx, seqR_rt, seqR_ex, retR_ok, retR_ex, asgR_n, asgR_ex, asgR_2, asgR_2L, asgR_3, ifR_t, ifR_f, finR_rt, finR_nx, finR_ex, andR_t, andR_f, orR_t, orR_f, notR_ok, andER_t, andER_f, orER_t, orER_f, notER_ok, psmR_ok, slcR_ok, forR_ok, chn_le, chn_lt, add_ii, sub_ii, neg_i, lt_ii, le_ii, gt_ii, ge_ii, eq_ii, ne_ii, eq_ss, ne_ss, eq_bb, ne_bb, mul_l, mul_r, div_s, mod_p, len_t, len_l, len_a, abs_i, max_ii, min_ii, int_i, int_b, int_t, int_f, List.set_cons_zero, List.set_cons_succ, Bool.not_true, Bool.not_false, decide_true, decide_false, sown_def, ownRR_ok, frz_lst, frz_z, frz_u, frz_succ, sfrz_def, bor_def, borQ_def, flat_i, flat_s, flat_b, flat_n, own_zero, own_succ, sapp_def, sput_def, ixO_def])
local macro_rules | `(tactic| simp?! [$ls,*]) => `(tactic| simp -implicitDefEqProofs (disch := first | omega | (simp only [List.length_cons, List.length_nil]; omega)) only [mkTR_ok, mkLR_ok, ix_tm, ix_lm, ix_t0, ix_t1, ix_t2, ix_t3, ix_t4, ix_t5, ix_t6, ix_t7, ix_l0, ix_l1, ix_l2, ix_l3, ix_l4, ix_l5, ix_l6, ix_l7, bin_def, una_def, cal_def, acons_def, anil_def, con_def, callD_def, tst_def, sseq_def, sret_def, sasg_def, sif_def, sskip_def, sraise_def, andQ_def, orQ_def, notQ_def, andE_def, orE_def, notE_def, mkT_def, mkL_def, slc_def, psm_def, pno_def, sfor_def, chn_def, var_zero, var_succ, app2_ok, app1_ok, appL_ok, consR_ok, ofO_some, call0, call1, call2, call3, call4, call5, tstR_ok, seqR_nx, seqR_rt, seqR_ex, retR_ok, retR_ex, asgR_n, asgR_ex, asgR_2, asgR_2L, asgR_3, ifR_t, ifR_f, finR_rt, finR_nx, finR_ex, andR_t, andR_f, orR_t, orR_f, notR_ok, andER_t, andER_f, orER_t, orER_f, notER_ok, psmR_ok, slcR_ok, forR_ok, chn_le, chn_lt, add_ii, sub_ii, neg_i, lt_ii, le_ii, gt_ii, ge_ii, eq_ii, ne_ii, eq_ss, ne_ss, eq_bb, ne_bb, mul_l, mul_r, div_s, mod_p, len_t, len_l, len_a, abs_i, max_ii, min_ii, int_i, int_b, int_t, int_f, List.set_cons_zero, List.set_cons_succ, Bool.not_true, Bool.not_false, decide_true, decide_false, sown_def, ownRR_ok, frz_lst, frz_z, frz_u, frz_succ, sfrz_def, bor_def, borQ_def, flat_i, flat_s, flat_b, flat_n, own_zero, own_succ, sapp_def, sput_def, ixO_def, $ls,*])
def N_ten : List Str := ["power"]
def g_ten : Rho → SR :=
  (sret (cal intD (acons (bop addD (con (.str "1")) (bop mulD (con (.str "0")) (var 0))) anil)))
def d_ten (ds : List D) : Res D := runB 1 g_ten ds
theorem v_ten {a0 : D} : d_ten [a0] = finR (g_ten [.z a0]) := runB_eq rfl
def N_figures_of : List Str := ["whole"]
def g_figures_of : Rho → SR :=
  (sret (cal lenD (acons (cal strD (acons (cal absD (acons (var 0) anil)) anil)) anil)))
def d_figures_of (ds : List D) : Res D := runB 1 g_figures_of ds
theorem v_figures_of {a0 : D} : d_figures_of [a0] = finR (g_figures_of [.z a0]) := runB_eq rfl
def N_height : List Str := ["number"]
def g_height : Rho → SR :=
  (sret (bop subD (bop addD (bop ixD (var 0) (con (.int 1))) (callD 1 d_figures_of (acons (bop ixD (var 0) (con (.int 0))) anil))) (con (.int 1))))
def d_height (ds : List D) : Res D := runB 1 g_height ds
theorem v_height {a0 : D} : d_height [a0] = finR (g_height [.z a0]) := runB_eq rfl
def N__law_cell_at : List Str := ["script", "k"]
def t1__law_cell_at : Rho → SR :=
  (sret (con (.int 0)))
def g__law_cell_at : Rho → SR :=
  sseq (sif (tst (bop ltD (var 1) (cal lenD (acons (var 0) anil)))) (sret (bop ixD (var 0) (var 1))) sskip) (t1__law_cell_at)
def d__law_cell_at (ds : List D) : Res D := runB 2 g__law_cell_at ds
theorem v__law_cell_at {a0 a1 : D} : d__law_cell_at [a0, a1] = finR (g__law_cell_at [.z a0, .z a1]) := runB_eq rfl
def N__law_mixed : List Str := ["script", "k", "drawn"]
def t1__law_mixed : Rho → SR :=
  (sret (bop modD (bop addD (bop addD (bop mulD (var 2) (var 2)) (bop mulD (con (.int 7)) (var 2))) (var 1)) (con (.int 2147483629))))
def g__law_mixed : Rho → SR :=
  sseq (sasg (bop modD (bop mulD (bop addD (bop addD (callD 2 d__law_cell_at (acons (var 0) (acons (var 1) anil))) (bop mulD (con (.int 7919)) (var 1))) (con (.int 1))) (con (.int 48271))) (con (.int 2147483647))) (gn 2)) (t1__law_mixed)
def d__law_mixed (ds : List D) : Res D := runB 3 g__law_mixed ds
theorem v__law_mixed {a0 a1 : D} : d__law_mixed [a0, a1] = finR (g__law_mixed [.z a0, .z a1, .u]) := runB_eq rfl
def N__law_drawn : List Str := ["number", "k", "drawn"]
def t1__law_drawn : Rho → SR :=
  (sret (bop modD (bop addD (bop addD (bop mulD (var 2) (var 2)) (bop mulD (con (.int 3)) (var 2))) (var 1)) (con (.int 2147483629))))
def g__law_drawn : Rho → SR :=
  sseq (sasg (bop modD (bop mulD (bop addD (bop addD (var 0) (bop mulD (con (.int 104729)) (var 1))) (con (.int 17))) (con (.int 69621))) (con (.int 2147483647))) (gn 2)) (t1__law_drawn)
def d__law_drawn (ds : List D) : Res D := runB 3 g__law_drawn ds
theorem v__law_drawn {a0 a1 : D} : d__law_drawn [a0, a1] = finR (g__law_drawn [.z a0, .z a1, .u]) := runB_eq rfl
def N__law_height : List Str := ["number"]
def g__law_height : Rho → SR :=
  (sret (bop subD (bop addD (bop ixD (var 0) (con (.int 1))) (cal lenD (acons (cal strD (acons (cal absD (acons (bop ixD (var 0) (con (.int 0))) anil)) anil)) anil))) (con (.int 1))))
def d__law_height (ds : List D) : Res D := runB 1 g__law_height ds
theorem v__law_height {a0 : D} : d__law_height [a0] = finR (g__law_height [.z a0]) := runB_eq rfl
def N__law_tidy : List Str := ["digits", "power"]
def c1__law_tidy : Rho → Res Bool :=
  (tst (bop eqD (bop modD (var 0) (con (.int 10))) (con (.int 0))))
def b2__law_tidy : Rho → SR :=
  (sseq (sasg (bop divD (var 0) (con (.int 10))) (gn 0))
    (sasg (bop addD (var 1) (con (.int 1))) (gn 1)))
def t2__law_tidy : Rho → SR :=
  (sret (mkT (acons (var 0) (acons (var 1) anil))))
def t1__law_tidy : Rho → SR :=
  sseq (whileD c1__law_tidy b2__law_tidy 100000) (t2__law_tidy)
def g__law_tidy : Rho → SR :=
  sseq (sif (tst (bop eqD (var 0) (con (.int 0)))) (sret (mkT (acons (con (.int 0)) (acons (con (.int 0)) anil)))) sskip) (t1__law_tidy)
def d__law_tidy (ds : List D) : Res D := runB 2 g__law_tidy ds
theorem v__law_tidy {a0 a1 : D} : d__law_tidy [a0, a1] = finR (g__law_tidy [.z a0, .z a1]) := runB_eq rfl
def N_taken : List Str := ["whole", "rest", "lower", "manner"]
def t3_taken : Rho → SR :=
  (sret (bop addD (var 0) (cal intD (acons (bop gtD (bop mulD (con (.int 2)) (var 1)) (var 2)) anil))))
def t2_taken : Rho → SR :=
  sseq (sif (tst (bop eqD (bop mulD (con (.int 2)) (var 1)) (var 2))) (sret (bop addD (var 0) (cal intD (acons (orE (bop eqD (var 3) (con (.str "away"))) (bop eqD (bop modD (var 0) (con (.int 2))) (con (.int 1)))) anil)))) sskip) (t3_taken)
def t1_taken : Rho → SR :=
  sseq (sif (tst (bop eqD (var 3) (con (.str "more")))) (sret (bop addD (var 0) (con (.int 1)))) sskip) (t2_taken)
def g_taken : Rho → SR :=
  sseq (sif (orQ (tst (bop eqD (var 1) (con (.int 0)))) (tst (bop eqD (var 3) (con (.str "nought"))))) (sret (var 0)) sskip) (t1_taken)
def d_taken (ds : List D) : Res D := runB 4 g_taken ds
theorem v_taken {a0 a1 a2 a3 : D} : d_taken [a0, a1, a2, a3] = finR (g_taken [.z a0, .z a1, .z a2, .z a3]) := runB_eq rfl
def N_by_size : List Str := ["manner", "below"]
def t2_by_size : Rho → SR :=
  (sret (var 0))
def t1_by_size : Rho → SR :=
  sseq (sif (tst (bop eqD (var 0) (con (.str "down")))) (sret (bop ixD (mkL (acons (con (.str "nought")) (acons (con (.str "more")) anil))) (cal intD (acons (var 1) anil)))) sskip) (t2_by_size)
def g_by_size : Rho → SR :=
  sseq (sif (tst (bop eqD (var 0) (con (.str "up")))) (sret (bop ixD (mkL (acons (con (.str "more")) (acons (con (.str "nought")) anil))) (cal intD (acons (var 1) anil)))) sskip) (t1_by_size)
def d_by_size (ds : List D) : Res D := runB 2 g_by_size ds
theorem v_by_size {a0 a1 : D} : d_by_size [a0, a1] = finR (g_by_size [.z a0, .z a1]) := runB_eq rfl
def N_fitted : List Str := ["whole", "power", "below", "manner", "sign"]
def c1_fitted : Rho → Res Bool :=
  (tst (bop eqD (bop modD (var 0) (con (.int 10))) (con (.int 0))))
def b2_fitted : Rho → SR :=
  (sseq (sasg (bop divD (var 0) (con (.int 10))) (gn 0))
    (sasg (bop addD (var 1) (con (.int 1))) (gn 1)))
def t5_fitted : Rho → SR :=
  (sret (mkT (acons (bop mulD (var 4) (var 0)) (acons (var 1) anil))))
def t4_fitted : Rho → SR :=
  sseq (sif (tst (bop ltD (callD 1 d_height (acons (mkT (acons (var 0) (acons (var 1) anil))) anil)) (una negD (con (.int 40))))) (sseq (sif (tst (bop eqD (var 3) (con (.str "more")))) (sret (mkT (acons (var 4) (acons (una negD (con (.int 40))) anil)))) sskip)
    (sret (mkT (acons (con (.int 0)) (acons (con (.int 0)) anil))))) sskip) (t5_fitted)
def t3_fitted : Rho → SR :=
  sseq (sif (tst (bop gtD (callD 1 d_height (acons (mkT (acons (var 0) (acons (var 1) anil))) anil)) (con (.int 40)))) (sraise "TooGreat") sskip) (t4_fitted)
def t2_fitted : Rho → SR :=
  sseq (sasg (bop subD (con (.int 1)) (bop mulD (con (.int 2)) (cal intD (acons (var 2) anil)))) (gn 4)) (t3_fitted)
def t1_fitted : Rho → SR :=
  sseq (whileD c1_fitted b2_fitted 100000) (t2_fitted)
def g_fitted : Rho → SR :=
  sseq (sif (tst (bop eqD (var 0) (con (.int 0)))) (sret (mkT (acons (con (.int 0)) (acons (con (.int 0)) anil)))) sskip) (t1_fitted)
def d_fitted (ds : List D) : Res D := runB 5 g_fitted ds
theorem v_fitted {a0 a1 a2 a3 : D} : d_fitted [a0, a1, a2, a3] = finR (g_fitted [.z a0, .z a1, .z a2, .z a3, .u]) := runB_eq rfl
def N_power_for : List Str := ["upper", "lower", "power"]
def c1_power_for : Rho → Res Bool :=
  (tst (bop geD (bop mulD (var 0) (callD 1 d_ten (acons (cal maxD (acons (una negD (var 2)) (acons (con (.int 0)) anil))) anil))) (bop mulD (bop mulD (var 1) (callD 1 d_ten (acons (cal maxD (acons (var 2) (acons (con (.int 0)) anil))) anil))) (callD 1 d_ten (acons (con (.int 8)) anil)))))
def b2_power_for : Rho → SR :=
  (sasg (bop addD (var 2) (con (.int 1))) (gn 2))
def t2_power_for : Rho → SR :=
  (sret (var 2))
def t1_power_for : Rho → SR :=
  sseq (whileD c1_power_for b2_power_for 100000) (t2_power_for)
def g_power_for : Rho → SR :=
  sseq (sasg (bop subD (bop subD (callD 1 d_figures_of (acons (var 0) anil)) (callD 1 d_figures_of (acons (var 1) anil))) (con (.int 8))) (gn 2)) (t1_power_for)
def d_power_for (ds : List D) : Res D := runB 3 g_power_for ds
theorem v_power_for {a0 a1 : D} : d_power_for [a0, a1] = finR (g_power_for [.z a0, .z a1, .u]) := runB_eq rfl
def N_exact : List Str := ["upper", "lower", "manner", "below", "power", "how"]
def t8_exact : Rho → SR :=
  (sret (callD 4 d_fitted (acons (callD 4 d_taken (acons (bop divD (var 0) (var 1)) (acons (bop modD (var 0) (var 1)) (acons (var 1) (acons (var 5) anil))))) (acons (var 4) (acons (var 3) (acons (var 5) anil))))))
def t7_exact : Rho → SR :=
  sseq (sasg (callD 2 d_by_size (acons (var 2) (acons (var 3) anil))) (gn 5)) (t8_exact)
def t6_exact : Rho → SR :=
  sseq (sasg (bop mulD (var 1) (callD 1 d_ten (acons (cal maxD (acons (var 4) (acons (con (.int 0)) anil))) anil))) (gn 1)) (t7_exact)
def t5_exact : Rho → SR :=
  sseq (sasg (bop mulD (var 0) (callD 1 d_ten (acons (cal maxD (acons (una negD (var 4)) (acons (con (.int 0)) anil))) anil))) (gn 0)) (t6_exact)
def t4_exact : Rho → SR :=
  sseq (sasg (callD 2 d_power_for (acons (var 0) (acons (var 1) anil))) (gn 4)) (t5_exact)
def t3_exact : Rho → SR :=
  sseq (sasg (cal absD (acons (var 1) anil)) (gn 1)) (t4_exact)
def t2_exact : Rho → SR :=
  sseq (sasg (cal absD (acons (var 0) anil)) (gn 0)) (t3_exact)
def t1_exact : Rho → SR :=
  sseq (sasg (bop neD (bop ltD (var 0) (con (.int 0))) (bop ltD (var 1) (con (.int 0)))) (gn 3)) (t2_exact)
def g_exact : Rho → SR :=
  sseq (sif (tst (bop eqD (var 0) (con (.int 0)))) (sret (mkT (acons (con (.int 0)) (acons (con (.int 0)) anil)))) sskip) (t1_exact)
def d_exact (ds : List D) : Res D := runB 6 g_exact ds
theorem v_exact {a0 a1 a2 : D} : d_exact [a0, a1, a2] = finR (g_exact [.z a0, .z a1, .z a2, .u, .u, .u]) := runB_eq rfl
def N__law_ten : List Str := ["power", "found", "k"]
def b1__law_ten : Rho → SR :=
  (sasg (bop mulD (var 1) (con (.int 10))) (gn 1))
def t2__law_ten : Rho → SR :=
  (sret (var 1))
def t1__law_ten : Rho → SR :=
  sseq (sfor (rng1 (acons (var 0) anil)) (gn 2) b1__law_ten) (t2__law_ten)
def g__law_ten : Rho → SR :=
  sseq (sasg (con (.int 1)) (gn 1)) (t1__law_ten)
def d__law_ten (ds : List D) : Res D := runB 3 g__law_ten ds
theorem v__law_ten {a0 : D} : d__law_ten [a0] = finR (g__law_ten [.z a0, .u, .u]) := runB_eq rfl
def N__law_exact : List Str := ["upper", "lower", "manner", "power", "entire", "twice", "found"]
def c1__law_exact : Rho → Res Bool :=
  (tst (bop ltD (bop mulD (cal absD (acons (var 0) anil)) (callD 1 d__law_ten (acons (cal maxD (acons (una negD (var 3)) (acons (con (.int 0)) anil))) anil))) (bop mulD (var 1) (callD 1 d__law_ten (acons (bop addD (cal maxD (acons (var 3) (acons (con (.int 0)) anil))) (con (.int 7))) anil)))))
def b2__law_exact : Rho → SR :=
  (sasg (bop subD (var 3) (con (.int 1))) (gn 3))
def t12__law_exact : Rho → SR :=
  (sret (var 6))
def t11__law_exact : Rho → SR :=
  sseq (sif (tst (bop ltD (callD 1 d__law_height (acons (var 6) anil)) (una negD (con (.int 40))))) (sret (callD 2 d__law_tidy (acons (bop subD (cal intD (acons (andE (bop eqD (var 2) (con (.str "up"))) (bop gtD (var 0) (con (.int 0)))) anil)) (cal intD (acons (andE (bop eqD (var 2) (con (.str "down"))) (bop ltD (var 0) (con (.int 0)))) anil))) (acons (una negD (con (.int 40))) anil)))) sskip) (t12__law_exact)
def t10__law_exact : Rho → SR :=
  sseq (sif (tst (bop gtD (callD 1 d__law_height (acons (var 6) anil)) (con (.int 40)))) (sret (con .non)) sskip) (t11__law_exact)
def t9__law_exact : Rho → SR :=
  sseq (sasg (callD 2 d__law_tidy (acons (var 4) (acons (var 3) anil))) (gn 6)) (t10__law_exact)
def t8__law_exact : Rho → SR :=
  sseq (sif (tst (bop gtD (bop modD (var 0) (var 1)) (con (.int 0)))) (sif (andQ (tst (bop inD (var 2) (mkT (acons (con (.str "even")) (acons (con (.str "away")) anil))))) (tst (bop eqD (var 5) (con (.int 0))))) (sasg (bop addD (var 4) (bop ixD (mkL (acons (bop modD (var 4) (con (.int 2))) (acons (cal intD (acons (bop gtD (var 0) (con (.int 0))) anil)) anil))) (cal intD (acons (bop eqD (var 2) (con (.str "away"))) anil)))) (gn 4)) (sif (tst (bop inD (var 2) (mkT (acons (con (.str "even")) (acons (con (.str "away")) anil))))) (sasg (bop addD (var 4) (cal intD (acons (bop gtD (var 5) (con (.int 0))) anil))) (gn 4)) (sasg (bop addD (var 4) (cal intD (acons (orE (bop eqD (var 2) (con (.str "up"))) (andE (bop eqD (var 2) (con (.str "nought"))) (bop ltD (var 0) (con (.int 0))))) anil))) (gn 4)))) sskip) (t9__law_exact)
def t7__law_exact : Rho → SR :=
  sseq (sasg (bop subD (bop mulD (con (.int 2)) (var 0)) (bop mulD (bop addD (bop mulD (con (.int 2)) (var 4)) (con (.int 1))) (var 1))) (gn 5)) (t8__law_exact)
def t6__law_exact : Rho → SR :=
  sseq (sasg (bop divD (var 0) (var 1)) (gn 4)) (t7__law_exact)
def t5__law_exact : Rho → SR :=
  sseq (sasg (bop mulD (var 1) (callD 1 d__law_ten (acons (cal maxD (acons (var 3) (acons (con (.int 0)) anil))) anil))) (gn 1)) (t6__law_exact)
def t4__law_exact : Rho → SR :=
  sseq (sasg (bop mulD (var 0) (callD 1 d__law_ten (acons (cal maxD (acons (una negD (var 3)) (acons (con (.int 0)) anil))) anil))) (gn 0)) (t5__law_exact)
def t3__law_exact : Rho → SR :=
  sseq (whileD c1__law_exact b2__law_exact 100000) (t4__law_exact)
def t2__law_exact : Rho → SR :=
  sseq (sasg (bop subD (bop subD (cal lenD (acons (cal strD (acons (cal absD (acons (var 0) anil)) anil)) anil)) (cal lenD (acons (cal strD (acons (var 1) anil)) anil))) (con (.int 7))) (gn 3)) (t3__law_exact)
def t1__law_exact : Rho → SR :=
  sseq (sif (tst (bop eqD (var 0) (con (.int 0)))) (sret (mkT (acons (con (.int 0)) (acons (con (.int 0)) anil)))) sskip) (t2__law_exact)
def g__law_exact : Rho → SR :=
  sseq (sif (tst (bop ltD (var 1) (con (.int 0)))) (sseq (sasg (una negD (var 0)) (gn 0))
    (sasg (una negD (var 1)) (gn 1))) sskip) (t1__law_exact)
def d__law_exact (ds : List D) : Res D := runB 7 g__law_exact ds
theorem v__law_exact {a0 a1 a2 : D} : d__law_exact [a0, a1, a2] = finR (g__law_exact [.z a0, .z a1, .z a2, .u, .u, .u, .u]) := runB_eq rfl
def N__law_manner : List Str := ["number"]
def g__law_manner : Rho → SR :=
  (sret (bop ixD (mkT (acons (con (.str "even")) (acons (con (.str "away")) (acons (con (.str "nought")) (acons (con (.str "up")) (acons (con (.str "down")) anil)))))) (bop modD (var 0) (con (.int 5)))))
def d__law_manner (ds : List D) : Res D := runB 1 g__law_manner ds
theorem v__law_manner {a0 : D} : d__law_manner [a0] = finR (g__law_manner [.z a0]) := runB_eq rfl
def N_level : List Str := ["one", "other", "power"]
def t1_level : Rho → SR :=
  (sret (mkT (acons (bop mulD (bop ixD (var 0) (con (.int 0))) (callD 1 d_ten (acons (bop subD (bop ixD (var 0) (con (.int 1))) (var 2)) anil))) (acons (bop mulD (bop ixD (var 1) (con (.int 0))) (callD 1 d_ten (acons (bop subD (bop ixD (var 1) (con (.int 1))) (var 2)) anil))) (acons (var 2) anil)))))
def g_level : Rho → SR :=
  sseq (sasg (cal minD (acons (bop ixD (var 0) (con (.int 1))) (acons (bop ixD (var 1) (con (.int 1))) anil))) (gn 2)) (t1_level)
def d_level (ds : List D) : Res D := runB 3 g_level ds
theorem v_level {a0 a1 : D} : d_level [a0, a1] = finR (g_level [.z a0, .z a1, .u]) := runB_eq rfl
def N_of_power : List Str := ["whole", "power", "manner"]
def g_of_power : Rho → SR :=
  (sret (callD 3 d_exact (acons (bop mulD (var 0) (callD 1 d_ten (acons (cal maxD (acons (var 1) (acons (con (.int 0)) anil))) anil))) (acons (callD 1 d_ten (acons (cal maxD (acons (una negD (var 1)) (acons (con (.int 0)) anil))) anil)) (acons (var 2) anil)))))
def d_of_power (ds : List D) : Res D := runB 3 g_of_power ds
theorem v_of_power {a0 a1 a2 : D} : d_of_power [a0, a1, a2] = finR (g_of_power [.z a0, .z a1, .z a2]) := runB_eq rfl
def N_plus : List Str := ["one", "other", "manner", "left", "right", "power"]
def t1_plus : Rho → SR :=
  (sret (callD 3 d_of_power (acons (bop addD (var 3) (var 4)) (acons (var 5) (acons (var 2) anil)))))
def g_plus : Rho → SR :=
  sseq (sasg (callD 2 d_level (acons (var 0) (acons (var 1) anil))) (gt 3 (gsc (gn 3) (gsc (gn 4) (gsc (gn 5) gsn))))) (t1_plus)
def d_plus (ds : List D) : Res D := runB 6 g_plus ds
theorem v_plus {a0 a1 a2 : D} : d_plus [a0, a1, a2] = finR (g_plus [.z a0, .z a1, .z a2, .u, .u, .u]) := runB_eq rfl
def N_turned : List Str := ["one"]
def g_turned : Rho → SR :=
  (sret (mkT (acons (una negD (bop ixD (var 0) (con (.int 0)))) (acons (bop ixD (var 0) (con (.int 1))) anil))))
def d_turned (ds : List D) : Res D := runB 1 g_turned ds
theorem v_turned {a0 : D} : d_turned [a0] = finR (g_turned [.z a0]) := runB_eq rfl
def N_minus : List Str := ["one", "other", "manner"]
def g_minus : Rho → SR :=
  (sret (callD 3 d_plus (acons (var 0) (acons (callD 1 d_turned (acons (var 1) anil)) (acons (var 2) anil)))))
def d_minus (ds : List D) : Res D := runB 3 g_minus ds
theorem v_minus {a0 a1 a2 : D} : d_minus [a0, a1, a2] = finR (g_minus [.z a0, .z a1, .z a2]) := runB_eq rfl
def N_times : List Str := ["one", "other", "manner"]
def g_times : Rho → SR :=
  (sret (callD 3 d_of_power (acons (bop mulD (bop ixD (var 0) (con (.int 0))) (bop ixD (var 1) (con (.int 0)))) (acons (bop addD (bop ixD (var 0) (con (.int 1))) (bop ixD (var 1) (con (.int 1)))) (acons (var 2) anil)))))
def d_times (ds : List D) : Res D := runB 3 g_times ds
theorem v_times {a0 a1 a2 : D} : d_times [a0, a1, a2] = finR (g_times [.z a0, .z a1, .z a2]) := runB_eq rfl
def N_over : List Str := ["one", "other", "manner", "power"]
def t2_over : Rho → SR :=
  (sret (callD 3 d_exact (acons (bop mulD (bop ixD (var 0) (con (.int 0))) (callD 1 d_ten (acons (cal maxD (acons (var 3) (acons (con (.int 0)) anil))) anil))) (acons (bop mulD (bop ixD (var 1) (con (.int 0))) (callD 1 d_ten (acons (cal maxD (acons (una negD (var 3)) (acons (con (.int 0)) anil))) anil))) (acons (var 2) anil)))))
def t1_over : Rho → SR :=
  sseq (sasg (bop subD (bop ixD (var 0) (con (.int 1))) (bop ixD (var 1) (con (.int 1)))) (gn 3)) (t2_over)
def g_over : Rho → SR :=
  sseq (sif (tst (bop eqD (bop ixD (var 1) (con (.int 0))) (con (.int 0)))) (sraise "NoDeed") sskip) (t1_over)
def d_over (ds : List D) : Res D := runB 4 g_over ds
theorem v_over {a0 a1 a2 : D} : d_over [a0, a1, a2] = finR (g_over [.z a0, .z a1, .z a2, .u]) := runB_eq rfl
def N_less : List Str := ["one", "other", "left", "right", "power"]
def t1_less : Rho → SR :=
  (sret (bop ltD (var 2) (var 3)))
def g_less : Rho → SR :=
  sseq (sasg (callD 2 d_level (acons (var 0) (acons (var 1) anil))) (gt 3 (gsc (gn 2) (gsc (gn 3) (gsc (gn 4) gsn))))) (t1_less)
def d_less (ds : List D) : Res D := runB 5 g_less ds
theorem v_less {a0 a1 : D} : d_less [a0, a1] = finR (g_less [.z a0, .z a1, .u, .u, .u]) := runB_eq rfl
def N__law_deed : List Str := ["word", "one", "other", "manner", "power", "sign", "low", "found"]
def t6__law_deed : Rho → SR :=
  (sret (callD 3 d__law_exact (acons (var 7) (acons (callD 1 d__law_ten (acons (una negD (var 6)) anil)) (acons (var 3) anil)))))
def t5__law_deed : Rho → SR :=
  sseq (sasg (bop addD (var 7) (bop mulD (bop mulD (var 5) (bop ixD (var 2) (con (.int 0)))) (callD 1 d__law_ten (acons (bop subD (bop ixD (var 2) (con (.int 1))) (var 6)) anil)))) (gn 7)) (t6__law_deed)
def t4__law_deed : Rho → SR :=
  sseq (sasg (bop mulD (bop ixD (var 1) (con (.int 0))) (callD 1 d__law_ten (acons (bop subD (bop ixD (var 1) (con (.int 1))) (var 6)) anil))) (gn 7)) (t5__law_deed)
def t3__law_deed : Rho → SR :=
  sseq (sasg (cal min3D (acons (bop ixD (var 1) (con (.int 1))) (acons (bop ixD (var 2) (con (.int 1))) (acons (con (.int 0)) anil)))) (gn 6)) (t4__law_deed)
def t2__law_deed : Rho → SR :=
  sseq (sasg (bop subD (con (.int 1)) (bop mulD (con (.int 2)) (cal intD (acons (bop eqD (var 0) (con (.str "minus"))) anil)))) (gn 5)) (t3__law_deed)
def t1__law_deed : Rho → SR :=
  sseq (sif (tst (bop eqD (var 0) (con (.str "over")))) (sseq (sasg (bop subD (bop ixD (var 1) (con (.int 1))) (bop ixD (var 2) (con (.int 1)))) (gn 4))
    (sret (callD 3 d__law_exact (acons (bop mulD (bop ixD (var 1) (con (.int 0))) (callD 1 d__law_ten (acons (cal maxD (acons (var 4) (acons (con (.int 0)) anil))) anil))) (acons (bop mulD (bop ixD (var 2) (con (.int 0))) (callD 1 d__law_ten (acons (cal maxD (acons (una negD (var 4)) (acons (con (.int 0)) anil))) anil))) (acons (var 3) anil)))))) sskip) (t2__law_deed)
def g__law_deed : Rho → SR :=
  sseq (sif (tst (bop eqD (var 0) (con (.str "times")))) (sseq (sasg (bop addD (bop ixD (var 1) (con (.int 1))) (bop ixD (var 2) (con (.int 1)))) (gn 4))
    (sret (callD 3 d__law_exact (acons (bop mulD (bop mulD (bop ixD (var 1) (con (.int 0))) (bop ixD (var 2) (con (.int 0)))) (callD 1 d__law_ten (acons (cal maxD (acons (var 4) (acons (con (.int 0)) anil))) anil))) (acons (callD 1 d__law_ten (acons (cal maxD (acons (una negD (var 4)) (acons (con (.int 0)) anil))) anil)) (acons (var 3) anil)))))) sskip) (t1__law_deed)
def d__law_deed (ds : List D) : Res D := runB 8 g__law_deed ds
theorem v__law_deed {a0 a1 a2 a3 : D} : d__law_deed [a0, a1, a2, a3] = finR (g__law_deed [.z a0, .z a1, .z a2, .z a3, .u, .u, .u, .u]) := runB_eq rfl
def N_whole_root : List Str := ["whole", "low", "high", "middle"]
def c1_whole_root : Rho → Res Bool :=
  (tst (bop gtD (bop subD (var 2) (var 1)) (con (.int 1))))
def b2_whole_root : Rho → SR :=
  (sseq (sasg (bop divD (bop addD (var 1) (var 2)) (con (.int 2))) (gn 3))
    (sif (tst (bop leD (bop mulD (var 3) (var 3)) (var 0))) (sasg (var 3) (gn 1)) (sasg (var 3) (gn 2))))
def t3_whole_root : Rho → SR :=
  (sret (var 1))
def t2_whole_root : Rho → SR :=
  sseq (whileD c1_whole_root b2_whole_root 100000) (t3_whole_root)
def t1_whole_root : Rho → SR :=
  sseq (sasg (callD 1 d_ten (acons (bop addD (bop divD (bop addD (callD 1 d_figures_of (acons (var 0) anil)) (con (.int 1))) (con (.int 2))) (con (.int 1))) anil)) (gn 2)) (t2_whole_root)
def g_whole_root : Rho → SR :=
  sseq (sasg (con (.int 0)) (gn 1)) (t1_whole_root)
def d_whole_root (ds : List D) : Res D := runB 4 g_whole_root ds
theorem v_whole_root {a0 : D} : d_whole_root [a0] = finR (g_whole_root [.z a0, .u, .u, .u]) := runB_eq rfl
def N_root : List Str := ["one", "manner", "digits", "power", "found", "how"]
def c1_root : Rho → Res Bool :=
  (tst (bop ltD (var 2) (callD 1 d_ten (acons (bop subD (bop mulD (con (.int 2)) (con (.int 8))) (con (.int 2))) anil))))
def b2_root : Rho → SR :=
  (sseq (sasg (bop mulD (var 2) (con (.int 100))) (gn 2))
    (sasg (bop subD (var 3) (con (.int 1))) (gn 3)))
def t10_root : Rho → SR :=
  (sret (callD 4 d_fitted (acons (var 4) (acons (var 3) (acons (con (.bl false)) (acons (var 5) anil))))))
def t9_root : Rho → SR :=
  sseq (sif (andQ (tst (bop inD (var 5) (mkT (acons (con (.str "even")) (acons (con (.str "away")) anil))))) (tst (bop ltD (bop mulD (bop addD (bop mulD (con (.int 2)) (var 4)) (con (.int 1))) (bop addD (bop mulD (con (.int 2)) (var 4)) (con (.int 1)))) (bop mulD (con (.int 4)) (var 2))))) (sasg (bop addD (var 4) (con (.int 1))) (gn 4)) sskip) (t10_root)
def t8_root : Rho → SR :=
  sseq (sif (andQ (tst (bop eqD (var 5) (con (.str "more")))) (tst (bop ltD (bop mulD (var 4) (var 4)) (var 2)))) (sasg (bop addD (var 4) (con (.int 1))) (gn 4)) sskip) (t9_root)
def t7_root : Rho → SR :=
  sseq (sasg (callD 2 d_by_size (acons (var 1) (acons (con (.bl false)) anil))) (gn 5)) (t8_root)
def t6_root : Rho → SR :=
  sseq (sasg (callD 1 d_whole_root (acons (var 2) anil)) (gn 4)) (t7_root)
def t5_root : Rho → SR :=
  sseq (whileD c1_root b2_root 100000) (t6_root)
def t4_root : Rho → SR :=
  sseq (sasg (bop divD (var 3) (con (.int 2))) (gn 3)) (t5_root)
def t3_root : Rho → SR :=
  sseq (sif (tst (bop eqD (bop modD (var 3) (con (.int 2))) (con (.int 1)))) (sseq (sasg (bop mulD (var 2) (con (.int 10))) (gn 2))
    (sasg (bop subD (var 3) (con (.int 1))) (gn 3))) sskip) (t4_root)
def t2_root : Rho → SR :=
  sseq (sif (tst (bop eqD (var 2) (con (.int 0)))) (sret (var 0)) sskip) (t3_root)
def t1_root : Rho → SR :=
  sseq (sif (tst (bop ltD (var 2) (con (.int 0)))) (sraise "NoDeed") sskip) (t2_root)
def g_root : Rho → SR :=
  sseq (sasg (var 0) (gt 2 (gsc (gn 2) (gsc (gn 3) gsn)))) (t1_root)
def d_root (ds : List D) : Res D := runB 6 g_root ds
theorem v_root {a0 a1 : D} : d_root [a0, a1] = finR (g_root [.z a0, .z a1, .u, .u, .u, .u]) := runB_eq rfl
def N_is_key : List Str := ["thing"]
def t3_is_key : Rho → SR :=
  (sret (andE (bop eqD (cal lenD (acons (var 0) anil)) (con (.int 4))) (andE (bop inD (slc (var 0) pno (psm (con (.int 3)))) (mkT (acons (con (.str "put")) (acons (con (.str "get")) anil)))) (bop inD (bop ixD (var 0) (con (.int 3))) (con (.str "0123456789"))))))
def t2_is_key : Rho → SR :=
  sseq (sif (tst (bop eqD (cal lenD (acons (var 0) anil)) (con (.int 1)))) (sret (bop inD (var 0) (con (.str "0123456789")))) sskip) (t3_is_key)
def t1_is_key : Rho → SR :=
  sseq (sif (orQ (tst (bop inD (var 0) (con (.tup [.str "sign", .str "enter", .str "root", .str "swap", .str "roll", .str "last", .str "clear"])))) (orQ (tst (inT ["plus", "minus", "times", "over"] (var 0))) (tst (bop eqD (var 0) (con (.str ".")))))) (sret (con (.bl true))) sskip) (t2_is_key)
def g_is_key : Rho → SR :=
  sseq (sif (notQ (tst (cal isiD (acons (var 0) (acons (con (.ty "str")) anil))))) (sret (con (.bl false))) sskip) (t1_is_key)
def d_is_key (ds : List D) : Res D := runB 1 g_is_key ds
def N_begin : List Str := ["manner"]
def g_begin : Rho → SR :=
  (sret (mkT (acons (var 0) (acons (bop mulD (mkT (acons (con (.tup [.int 0, .int 0])) anil)) (con (.int 4))) (acons (con (.tup [.int 0, .int 0])) (acons (bop mulD (mkT (acons (con (.tup [.int 0, .int 0])) anil)) (con (.int 10))) (acons (con .non) (acons (con (.bl false)) (acons (con .non) anil)))))))))
def d_begin (ds : List D) : Res D := runB 1 g_begin ds
def N_told_by : List Str := ["entry", "ahead", "point", "behind"]
def t1_told_by : Rho → SR :=
  (sret (callD 3 d_exact (acons (cal intD (acons (bop addD (var 1) (var 3)) anil)) (acons (callD 1 d_ten (acons (cal lenD (acons (var 3) anil)) anil)) (acons (con (.str "even")) anil)))))
def g_told_by : Rho → SR :=
  sseq (sasg (met partD (var 0) (acons (con (.str ".")) anil)) (gt 3 (gsc (gn 1) (gsc (gn 2) (gsc (gn 3) gsn))))) (t1_told_by)
def d_told_by (ds : List D) : Res D := runB 4 g_told_by ds
theorem v_told_by {a0 : D} : d_told_by [a0] = finR (g_told_by [.z a0, .u, .u, .u]) := runB_eq rfl
def N_lifted : List Str := ["pile"]
def g_lifted : Rho → SR :=
  (sret (bop addD (mkT (acons (bop ixD (var 0) (con (.int 0))) anil)) (slc (var 0) pno (psm (con (.int 3))))))
def d_lifted (ds : List D) : Res D := runB 1 g_lifted ds
def N_if_due : List Str := ["pile", "lift"]
def t1_if_due : Rho → SR :=
  (sret (var 0))
def g_if_due : Rho → SR :=
  sseq (sif (tst (var 1)) (sret (callD 1 d_lifted (acons (var 0) anil))) sskip) (t1_if_due)
def d_if_due (ds : List D) : Res D := runB 2 g_if_due ds
def N_typed : List Str := ["state", "key", "manner", "pile", "last", "boxes", "entry", "lift", "odd", "sign"]
def e1_typed : Rho → Res D :=
  (var 9)
def t2_typed : Rho → SR :=
  (sret (mkT (acons (var 2) (acons (bop addD (mkT (acons (callD 1 d_told_by (acons (var 6) anil)) anil)) (slc (var 3) (psm (con (.int 1))) pno)) (acons (var 4) (acons (var 5) (acons (var 6) (acons (var 7) (acons (var 8) anil)))))))))
def t1_typed : Rho → SR :=
  sseq (sif (tst (bop isN (var 6) (con .non))) (sseq (sasg (callD 2 d_if_due (acons (var 3) (acons (var 7) anil))) (gn 3))
    (sasg (dgetD ["."] (acons (con (.str "0.")) anil) (var 1) (var 1)) (gn 6))) (sif (tst (bop eqD (var 1) (con (.str ".")))) (sif (tst (bop niD (con (.str ".")) (var 6))) (sasg (bop addD (var 6) (var 1)) (gn 6)) sskip) (sif (tst (bop ltD (cal lenD (acons (lcD (its (var 6)) 9 (tst (bop inD (var 9) (con (.str "0123456789")))) e1_typed) anil)) (con (.int 8)))) (sasg (bop addD (var 6) (var 1)) (gn 6)) sskip))) (t2_typed)
def g_typed : Rho → SR :=
  sseq (sasg (var 0) (gt 7 (gsc (gn 2) (gsc (gn 3) (gsc (gn 4) (gsc (gn 5) (gsc (gn 6) (gsc (gn 7) (gsc (gn 8) gsn))))))))) (t1_typed)
def d_typed (ds : List D) : Res D := runB 10 g_typed ds
theorem v_typed {a0 a1 : D} : d_typed [a0, a1] = finR (g_typed [.z a0, .z a1, .u, .u, .u, .u, .u, .u, .u, .u]) := runB_eq rfl
def N_signed : List Str := ["state", "manner", "pile", "last", "boxes", "entry", "lift", "odd"]
def t3_signed : Rho → SR :=
  (sret (mkT (acons (var 1) (acons (bop addD (mkT (acons (callD 1 d_told_by (acons (var 5) anil)) anil)) (slc (var 2) (psm (con (.int 1))) pno)) (acons (var 3) (acons (var 4) (acons (var 5) (acons (var 6) (acons (var 7) anil)))))))))
def t2_signed : Rho → SR :=
  sseq (sif (tst (met startsD (var 5) (acons (con (.str "-")) anil))) (sasg (slc (var 5) (psm (con (.int 1))) pno) (gn 5)) (sasg (bop addD (con (.str "-")) (var 5)) (gn 5))) (t3_signed)
def t1_signed : Rho → SR :=
  sseq (sif (tst (bop isN (var 5) (con .non))) (sret (mkT (acons (var 1) (acons (bop addD (mkT (acons (callD 1 d_turned (acons (bop ixD (var 2) (con (.int 0))) anil)) anil)) (slc (var 2) (psm (con (.int 1))) pno)) (acons (var 3) (acons (var 4) (acons (con .non) (acons (con (.bl true)) (acons (var 7) anil))))))))) sskip) (t2_signed)
def g_signed : Rho → SR :=
  sseq (sasg (var 0) (gt 7 (gsc (gn 1) (gsc (gn 2) (gsc (gn 3) (gsc (gn 4) (gsc (gn 5) (gsc (gn 6) (gsc (gn 7) gsn))))))))) (t1_signed)
def d_signed (ds : List D) : Res D := runB 8 g_signed ds
theorem v_signed {a0 : D} : d_signed [a0] = finR (g_signed [.z a0, .u, .u, .u, .u, .u, .u, .u]) := runB_eq rfl
def N_told_of : List Str := ["key", "manner", "pile", "deed"]
def t2_told_of : Rho → SR :=
  (sret (mkT (acons (callF 3 (fun n => (if n = "plus" then some (fun ds => if ds.length = 3 then d_plus ds else .bad) else (if n = "minus" then some (fun ds => if ds.length = 3 then d_minus ds else .bad) else (if n = "times" then some (fun ds => if ds.length = 3 then d_times ds else .bad) else (if n = "over" then some (fun ds => if ds.length = 3 then d_over ds else .bad) else none))))) (acons (bop ixD (var 2) (con (.int 1))) (acons (bop ixD (var 2) (con (.int 0))) (acons (var 1) anil)))) (acons (bop ixD (var 2) (con (.int 2))) (acons (bop ixD (var 2) (con (.int 3))) (acons (bop ixD (var 2) (con (.int 3))) anil))))))
def t1_told_of : Rho → SR :=
  sseq (sasg (tabF [("plus", "plus"), ("minus", "minus"), ("times", "times"), ("over", "over")] (var 0)) (gn 3)) (t2_told_of)
def g_told_of : Rho → SR :=
  sseq (sif (tst (bop eqD (var 0) (con (.str "root")))) (sret (bop addD (mkT (acons (callD 2 d_root (acons (bop ixD (var 2) (con (.int 0))) (acons (var 1) anil))) anil)) (slc (var 2) (psm (con (.int 1))) pno))) sskip) (t1_told_of)
def d_told_of (ds : List D) : Res D := runB 4 g_told_of ds
theorem v_told_of {a0 a1 a2 : D} : d_told_of [a0, a1, a2] = finR (g_told_of [.z a0, .z a1, .z a2, .u]) := runB_eq rfl
def N_with_deed : List Str := ["state", "key", "manner", "pile", "last", "boxes", "entry", "lift", "odd", "found"]
def t2_with_deed : Rho → SR :=
  (sret (mkT (acons (var 2) (acons (var 9) (acons (bop ixD (var 3) (con (.int 0))) (acons (var 5) (acons (con .non) (acons (con (.bl true)) (acons (var 8) anil)))))))))
def t1_with_deed : Rho → SR :=
  sseq (stry2 (sasg (callD 3 d_told_of (acons (var 1) (acons (var 2) (acons (var 3) anil)))) (gn 9)) "NoDeed" (sret (mkT (acons (var 2) (acons (var 3) (acons (var 4) (acons (var 5) (acons (con .non) (acons (var 7) (acons (con (.str "deed")) anil))))))))) "TooGreat" (sret (mkT (acons (var 2) (acons (var 3) (acons (var 4) (acons (var 5) (acons (con .non) (acons (var 7) (acons (con (.str "great")) anil)))))))))) (t2_with_deed)
def g_with_deed : Rho → SR :=
  sseq (sasg (var 0) (gt 7 (gsc (gn 2) (gsc (gn 3) (gsc (gn 4) (gsc (gn 5) (gsc (gn 6) (gsc (gn 7) (gsc (gn 8) gsn))))))))) (t1_with_deed)
def d_with_deed (ds : List D) : Res D := runB 10 g_with_deed ds
theorem v_with_deed {a0 a1 : D} : d_with_deed [a0, a1] = finR (g_with_deed [.z a0, .z a1, .u, .u, .u, .u, .u, .u, .u, .u]) := runB_eq rfl
def N_with_box : List Str := ["state", "key", "manner", "pile", "last", "boxes", "entry", "lift", "odd", "at"]
def t3_with_box : Rho → SR :=
  (sret (mkT (acons (var 2) (acons (bop addD (mkT (acons (bop ixD (var 5) (var 9)) anil)) (slc (callD 2 d_if_due (acons (var 3) (acons (var 7) anil))) (psm (con (.int 1))) pno)) (acons (var 4) (acons (var 5) (acons (con .non) (acons (con (.bl true)) (acons (var 8) anil)))))))))
def t2_with_box : Rho → SR :=
  sseq (sif (tst (met startsD (var 1) (acons (con (.str "put")) anil))) (sseq (sasg (bop addD (bop addD (slc (var 5) pno (psm (var 9))) (mkT (acons (bop ixD (var 3) (con (.int 0))) anil))) (slc (var 5) (psm (bop addD (var 9) (con (.int 1)))) pno)) (gn 5))
    (sret (mkT (acons (var 2) (acons (var 3) (acons (var 4) (acons (var 5) (acons (con .non) (acons (con (.bl true)) (acons (var 8) anil)))))))))) sskip) (t3_with_box)
def t1_with_box : Rho → SR :=
  sseq (sasg (cal intD (acons (bop ixD (var 1) (con (.int 3))) anil)) (gn 9)) (t2_with_box)
def g_with_box : Rho → SR :=
  sseq (sasg (var 0) (gt 7 (gsc (gn 2) (gsc (gn 3) (gsc (gn 4) (gsc (gn 5) (gsc (gn 6) (gsc (gn 7) (gsc (gn 8) gsn))))))))) (t1_with_box)
def d_with_box (ds : List D) : Res D := runB 10 g_with_box ds
def N_moved : List Str := ["state", "key", "manner", "pile", "last", "boxes", "entry", "lift", "odd"]
def t5_moved : Rho → SR :=
  (sret (mkT (acons (var 2) (acons (bop addD (mkT (acons (con (.tup [.int 0, .int 0])) anil)) (slc (var 3) (psm (con (.int 1))) pno)) (acons (var 4) (acons (var 5) (acons (con .non) (acons (con (.bl false)) (acons (var 8) anil)))))))))
def t4_moved : Rho → SR :=
  sseq (sif (tst (bop eqD (var 1) (con (.str "last")))) (sret (mkT (acons (var 2) (acons (bop addD (mkT (acons (var 4) anil)) (slc (callD 2 d_if_due (acons (var 3) (acons (var 7) anil))) (psm (con (.int 1))) pno)) (acons (var 4) (acons (var 5) (acons (con .non) (acons (con (.bl true)) (acons (var 8) anil))))))))) sskip) (t5_moved)
def t3_moved : Rho → SR :=
  sseq (sif (tst (bop eqD (var 1) (con (.str "roll")))) (sret (mkT (acons (var 2) (acons (bop addD (slc (var 3) (psm (con (.int 1))) pno) (slc (var 3) pno (psm (con (.int 1))))) (acons (var 4) (acons (var 5) (acons (con .non) (acons (con (.bl true)) (acons (var 8) anil))))))))) sskip) (t4_moved)
def t2_moved : Rho → SR :=
  sseq (sif (tst (bop eqD (var 1) (con (.str "swap")))) (sret (mkT (acons (var 2) (acons (bop addD (mkT (acons (bop ixD (var 3) (con (.int 1))) (acons (bop ixD (var 3) (con (.int 0))) anil))) (slc (var 3) (psm (con (.int 2))) pno)) (acons (var 4) (acons (var 5) (acons (con .non) (acons (con (.bl true)) (acons (var 8) anil))))))))) sskip) (t3_moved)
def t1_moved : Rho → SR :=
  sseq (sif (tst (bop eqD (var 1) (con (.str "enter")))) (sret (mkT (acons (var 2) (acons (callD 1 d_lifted (acons (var 3) anil)) (acons (var 4) (acons (var 5) (acons (con .non) (acons (con (.bl false)) (acons (var 8) anil))))))))) sskip) (t2_moved)
def g_moved : Rho → SR :=
  sseq (sasg (var 0) (gt 7 (gsc (gn 2) (gsc (gn 3) (gsc (gn 4) (gsc (gn 5) (gsc (gn 6) (gsc (gn 7) (gsc (gn 8) gsn))))))))) (t1_moved)
def d_moved (ds : List D) : Res D := runB 9 g_moved ds
def N_pressed : List Str := ["state", "key"]
def t6_pressed : Rho → SR :=
  (sret (callD 2 d_moved (acons (var 0) (acons (var 1) anil))))
def t5_pressed : Rho → SR :=
  sseq (sif (andQ (tst (bop eqD (cal lenD (acons (var 1) anil)) (con (.int 4)))) (tst (bop inD (bop ixD (var 1) (con (.int 3))) (con (.str "0123456789"))))) (sret (callD 2 d_with_box (acons (var 0) (acons (var 1) anil)))) sskip) (t6_pressed)
def t4_pressed : Rho → SR :=
  sseq (sif (orQ (tst (inT ["plus", "minus", "times", "over"] (var 1))) (tst (bop eqD (var 1) (con (.str "root"))))) (sret (callD 2 d_with_deed (acons (var 0) (acons (var 1) anil)))) sskip) (t5_pressed)
def t3_pressed : Rho → SR :=
  sseq (sif (tst (bop eqD (var 1) (con (.str "sign")))) (sret (callD 1 d_signed (acons (var 0) anil))) sskip) (t4_pressed)
def t2_pressed : Rho → SR :=
  sseq (sif (orQ (tst (bop eqD (var 1) (con (.str ".")))) (tst (bop inD (var 1) (con (.str "0123456789"))))) (sret (callD 2 d_typed (acons (var 0) (acons (var 1) anil)))) sskip) (t3_pressed)
def t1_pressed : Rho → SR :=
  sseq (sif (tst (bop isNotN (bop ixD (var 0) (con (.int 6))) (con .non))) (sseq (sif (tst (bop neD (var 1) (con (.str "clear")))) (sret (var 0)) sskip)
    (sret (bop addD (slc (var 0) pno (psm (con (.int 4)))) (mkT (acons (con .non) (acons (con (.bl false)) (acons (con .non) anil))))))) sskip) (t2_pressed)
def g_pressed : Rho → SR :=
  sseq (sif (notQ (tst (callD 1 d_is_key (acons (var 1) anil)))) (sraise "NoKey") sskip) (t1_pressed)
def d_pressed (ds : List D) : Res D := runB 2 g_pressed ds
theorem v_pressed {a0 a1 : D} : d_pressed [a0, a1] = finR (g_pressed [.z a0, .z a1]) := runB_eq rfl
def N__law_state : List Str := ["state", "pile", "boxes"]
def t2__law_state : Rho → SR :=
  (sret (mkT (acons (tabix (var 0) (con (.str "manner"))) (acons (var 1) (acons (tabix (var 0) (con (.str "last"))) (acons (var 2) (acons (tabix (var 0) (con (.str "entry"))) (acons (tabix (var 0) (con (.str "lift"))) (acons (tabix (var 0) (con (.str "odd"))) anil)))))))))
def t1__law_state : Rho → SR :=
  sseq (sasg (cal tupD (acons (tabix (var 0) (con (.str "boxes"))) anil)) (gn 2)) (t2__law_state)
def g__law_state : Rho → SR :=
  sseq (sasg (cal tupD (acons (tabix (var 0) (con (.str "pile"))) anil)) (gn 1)) (t1__law_state)
def d__law_state (ds : List D) : Res D := runB 3 g__law_state ds
def N__law_push : List Str := ["state", "number"]
def g__law_push : Rho → MSt → SM :=
  (mseq (mif 0 (tst (tabix (var 0) (con (.str "lift")))) (mputL 0 "pile" (bop catO (slc (tabix (var 0) (con (.str "pile"))) pno (psm (con (.int 1)))) (slc (tabix (var 0) (con (.str "pile"))) pno (psm (con (.int 3)))))) .nx)
    (mputN 0 "pile" (con (.int 0)) (var 1)))
def d__law_push (p : Addr) (m : MSt) (ds : List D) : Res MSt := runM 2 g__law_push p m ds
def N__law_end : List Str := ["state"]
def g__law_end : Rho → MSt → SM :=
  (mseq (mput 0 "entry" (con .non))
    (mput 0 "lift" (con (.bl true))))
def d__law_end (p : Addr) (m : MSt) (ds : List D) : Res MSt := runM 1 g__law_end p m ds
def N__law_typed : List Str := ["state", "key", "entry"]
def w1__law_typed : Rho → MSt → SM :=
  (mif 0 (tst (bop ltD (cal lenD (acons (una (replD "." "") (una (replD "-" "") (var 2))) anil)) (con (.int 8)))) (mstU 0 (sasg (bop addD (var 2) (var 1)) (gn 2))) .nx)
def w2__law_typed : Rho → MSt → SM :=
  (mseq (mcall 0 2 d__law_push (acons (mkT (acons (con (.int 0)) (acons (con (.int 0)) anil))) anil))
    (mstU 0 (sasg (bop addD (bop mulD (con (.str "0")) (cal intD (acons (bop eqD (var 1) (con (.str "."))) anil))) (var 1)) (gn 2))))
def w3__law_typed : Rho → MSt → SM :=
  (mif 0 (tst (bop eqD (var 1) (con (.str ".")))) (mstU 0 (sasg (bop addD (var 2) (bop mulD (var 1) (cal intD (acons (bop niD (con (.str ".")) (var 2)) anil)))) (gn 2))) w1__law_typed)
def g__law_typed : Rho → MSt → SM :=
  (mseq (mst 0 (sasg (tabix (var 0) (con (.str "entry"))) (gn 2)))
    (mseq (mif 0 (tst (bop isN (var 2) (con .non))) w2__law_typed w3__law_typed)
    (mseq (mput 0 "entry" (var 2))
    (mputN 0 "pile" (con (.int 0)) (callD 2 d__law_tidy (acons (cal intD (acons (una (replD "." "") (var 2)) anil)) (acons (una negD (cal lenD (acons (bop ixD (met splitD (bop addD (var 2) (con (.str "."))) (acons (con (.str ".")) anil)) (con (.int 1))) anil))) anil)))))))
def d__law_typed (p : Addr) (m : MSt) (ds : List D) : Res MSt := runM 3 g__law_typed p m ds
theorem v__law_typed {a1 : D} {p : Addr} {m : MSt} : d__law_typed p m [a1] = finM (g__law_typed [.z (.adr p), .z a1, .u] m) := runM_eq rfl
def N__law_reckoned : List Str := ["state", "key", "x", "y", "z", "t", "found"]
def w1__law_reckoned : Rho → MSt → SM :=
  (mseq (mput 0 "odd" (con (.str "deed")))
    (mseq (mput 0 "entry" (con .non))
    (fun _ m => .fin false m)))
def w2__law_reckoned : Rho → MSt → SM :=
  (mseq (mput 0 "odd" (con (.str "great")))
    (mseq (mput 0 "entry" (con .non))
    (fun _ m => .fin false m)))
def w3__law_reckoned : Rho → MSt → SM :=
  (mseq (mst 0 (sasg (callD 4 d__law_deed (acons (var 1) (acons (var 3) (acons (var 2) (acons (tabix (var 0) (con (.str "manner"))) anil))))) (gn 6)))
    (mseq (mif 0 (tst (bop isN (var 6) (con .non))) w2__law_reckoned .nx)
    (mputL 0 "pile" (mkL (acons (var 6) (acons (var 4) (acons (var 5) (acons (var 5) anil))))))))
def g__law_reckoned : Rho → MSt → SM :=
  (mseq (mst 0 (sasg (tabix (var 0) (con (.str "pile"))) (gt 4 (gsc (gn 2) (gsc (gn 3) (gsc (gn 4) (gsc (gn 5) gsn)))))))
    (mseq (mif 0 (orQ (andQ (tst (bop eqD (var 1) (con (.str "over")))) (tst (bop eqD (bop ixD (var 2) (con (.int 0))) (con (.int 0))))) (andQ (tst (bop eqD (var 1) (con (.str "root")))) (tst (bop ltD (bop ixD (var 2) (con (.int 0))) (con (.int 0)))))) w1__law_reckoned .nx)
    (mseq (mif 0 (tst (bop eqD (var 1) (con (.str "root")))) (mputL 0 "pile" (mkL (acons (callD 2 d_root (acons (var 2) (acons (tabix (var 0) (con (.str "manner"))) anil))) (acons (var 3) (acons (var 4) (acons (var 5) anil)))))) w3__law_reckoned)
    (mseq (mput 0 "last" (var 2))
    (mcall 0 1 d__law_end anil)))))
def d__law_reckoned (p : Addr) (m : MSt) (ds : List D) : Res MSt := runM 7 g__law_reckoned p m ds
theorem v__law_reckoned {a1 : D} {p : Addr} {m : MSt} : d__law_reckoned p m [a1] = finM (g__law_reckoned [.z (.adr p), .z a1, .u, .u, .u, .u, .u] m) := runM_eq rfl
def N__law_press : List Str := ["state", "key", "x", "y", "z", "t", "entry", "some"]
def w1__law_press : Rho → MSt → SM :=
  (mseq (mif 0 (tst (bop eqD (var 1) (con (.str "clear")))) (mupd 0 ["odd", "entry", "lift"] (acons (con .non) (acons (con .non) (acons (con (.bl false)) anil)))) .nx)
    (fun _ m => .fin false m))
def w2__law_press : Rho → MSt → SM :=
  (mputL 0 "pile" (pickO (acons (var 3) (acons (var 2) (acons (var 4) (acons (var 5) anil)))) (acons (var 3) (acons (var 4) (acons (var 5) (acons (var 2) anil)))) (cal intD (acons (bop eqD (var 1) (con (.str "roll"))) anil))))
def w3__law_press : Rho → MSt → SM :=
  (mseq (mlet 0 2 (sasg (cal dictD (acons (bop addD (cal lzipD (acons (con (.str "0123456789")) (acons (tabix (var 0) (con (.str "boxes"))) anil))) (mkL (acons (mkT (acons (con (.str "t")) (acons (tabix (var 0) (con (.str "last"))) anil))) anil))) anil)) (gn 7)) d__law_push (acons (tabix (var 7) (bop ixD (var 1) (con (.int 3)))) anil))
    .nx)
def w4__law_press : Rho → MSt → SM :=
  (mif 0 (tst (bop eqD (slc (var 1) pno (psm (con (.int 3)))) (con (.str "put")))) (mputN 0 "boxes" (cal intD (acons (bop ixD (var 1) (con (.int 3))) anil)) (var 2)) w2__law_press)
def w5__law_press : Rho → MSt → SM :=
  (mseq (mif 0 (orQ (tst (bop eqD (slc (var 1) pno (psm (con (.int 3)))) (con (.str "get")))) (tst (bop eqD (var 1) (con (.str "last"))))) w3__law_press w4__law_press)
    (mcall 0 1 d__law_end anil))
def w6__law_press : Rho → MSt → SM :=
  (mseq (mputL 0 "pile" (pickO (acons (var 2) (acons (var 2) (acons (var 3) (acons (var 4) anil)))) (acons (mkT (acons (con (.int 0)) (acons (con (.int 0)) anil))) (acons (var 3) (acons (var 4) (acons (var 5) anil)))) (cal intD (acons (bop eqD (var 1) (con (.str "clear"))) anil))))
    (mseq (mput 0 "entry" (con .non))
    (mput 0 "lift" (con (.bl false)))))
def w7__law_press : Rho → MSt → SM :=
  (mif 0 (tst (bop inD (var 1) (mkT (acons (con (.str "plus")) (acons (con (.str "minus")) (acons (con (.str "times")) (acons (con (.str "over")) (acons (con (.str "root")) anil)))))))) (mcall 0 2 d__law_reckoned (acons (var 1) anil)) w5__law_press)
def w8__law_press : Rho → MSt → SM :=
  (mseq (mputL 0 "pile" (mkL (acons (mkT (acons (una negD (bop ixD (var 2) (con (.int 0)))) (acons (bop ixD (var 2) (con (.int 1))) anil))) (acons (var 3) (acons (var 4) (acons (var 5) anil))))))
    (mput 0 "lift" (con (.bl true))))
def w9__law_press : Rho → MSt → SM :=
  (mif 0 (orQ (tst (bop eqD (var 1) (con (.str "enter")))) (tst (bop eqD (var 1) (con (.str "clear"))))) w6__law_press w7__law_press)
def w10__law_press : Rho → MSt → SM :=
  (mseq (mst 0 (sasg (tabix (var 0) (con (.str "entry"))) (gn 6)))
    (mseq (mput 0 "entry" (bop ixD (mkL (acons (bop addD (con (.str "-")) (var 6)) (acons (slc (var 6) (psm (con (.int 1))) pno) anil))) (cal intD (acons (bop eqD (bop ixD (var 6) (con (.int 0))) (con (.str "-"))) anil))))
    (mputL 0 "pile" (mkL (acons (mkT (acons (una negD (bop ixD (var 2) (con (.int 0)))) (acons (bop ixD (var 2) (con (.int 1))) anil))) (acons (var 3) (acons (var 4) (acons (var 5) anil))))))))
def w11__law_press : Rho → MSt → SM :=
  (mif 0 (tst (bop eqD (var 1) (con (.str "sign")))) w8__law_press w9__law_press)
def w12__law_press : Rho → MSt → SM :=
  (mif 0 (andQ (tst (bop eqD (var 1) (con (.str "sign")))) (tst (bop isNotN (tabix (var 0) (con (.str "entry"))) (con .non)))) w10__law_press w11__law_press)
def g__law_press : Rho → MSt → SM :=
  (mseq (mif 0 (tst (bop isNotN (tabix (var 0) (con (.str "odd"))) (con .non))) w1__law_press .nx)
    (mseq (mst 0 (sasg (tabix (var 0) (con (.str "pile"))) (gt 4 (gsc (gn 2) (gsc (gn 3) (gsc (gn 4) (gsc (gn 5) gsn)))))))
    (mif 0 (tst (bop inD (var 1) (con (.str "0123456789.")))) (mcall 0 2 d__law_typed (acons (var 1) anil)) w12__law_press)))
def d__law_press (p : Addr) (m : MSt) (ds : List D) : Res MSt := runM 8 g__law_press p m ds
theorem v__law_press {a1 : D} {p : Addr} {m : MSt} : d__law_press p m [a1] = finM (g__law_press [.z (.adr p), .z a1, .u, .u, .u, .u, .u, .u] m) := runM_eq rfl
def N__law_key : List Str := ["number", "some"]
def t2__law_key : Rho → SR :=
  (sret (bop ixD (bop addD (var 1) (mkL (acons (con (.str "put9")) (acons (con (.str "get0")) (acons (con (.str "get9")) (acons (con (.str "put4")) (acons (con (.str "get4")) (acons (con (.str "times")) (acons (con (.str "over")) (acons (con (.str "enter")) (acons (con (.str "0")) anil))))))))))) (bop modD (var 0) (con (.int 40)))))
def t1__law_key : Rho → SR :=
  sseq (sasg (bop addD (var 1) (mkL (acons (con (.str "minus")) (acons (con (.str "times")) (acons (con (.str "over")) (acons (con (.str "plus")) (acons (con (.str "minus")) (acons (con (.str "times")) (acons (con (.str "root")) (acons (con (.str "swap")) (acons (con (.str "roll")) (acons (con (.str "last")) (acons (con (.str "clear")) (acons (con (.str "put0")) anil)))))))))))))) (gn 1)) (t2__law_key)
def g__law_key : Rho → SR :=
  sseq (sasg (mkL (acons (con (.str "0")) (acons (con (.str "1")) (acons (con (.str "2")) (acons (con (.str "3")) (acons (con (.str "4")) (acons (con (.str "5")) (acons (con (.str "6")) (acons (con (.str "7")) (acons (con (.str "8")) (acons (con (.str "9")) (acons (con (.str "1")) (acons (con (.str "5")) (acons (con (.str "9")) (acons (con (.str ".")) (acons (con (.str ".")) (acons (con (.str "sign")) (acons (con (.str "enter")) (acons (con (.str "enter")) (acons (con (.str "plus")) anil)))))))))))))))))))) (gn 1)) (t1__law_key)
def d__law_key (ds : List D) : Res D := runB 2 g__law_key ds
theorem v__law_key {a0 : D} : d__law_key [a0] = finR (g__law_key [.z a0, .u]) := runB_eq rfl
def N__law_row : List Str := ["number", "many", "k"]
def e1__law_row : Rho → Res D :=
  (callD 1 d__law_key (acons (bop divD (callD 2 d__law_drawn (acons (var 0) (acons (var 2) anil))) (con (.int 4))) anil))
def g__law_row : Rho → SR :=
  (sret (cal tupD (acons (lcD (rng1 (acons (var 1) anil)) 2 yes e1__law_row) anil)))
def d__law_row (ds : List D) : Res D := runB 3 g__law_row ds
theorem v__law_row {a0 a1 : D} : d__law_row [a0, a1] = finR (g__law_row [.z a0, .z a1, .u]) := runB_eq rfl
def N_run : List Str := ["state", "row", "key"]
def b1_run : Rho → SR :=
  (sasg (callD 2 d_pressed (acons (var 0) (acons (var 2) anil))) (gn 0))
def t1_run : Rho → SR :=
  (sret (var 0))
def g_run : Rho → SR :=
  sseq (sfor (its (var 1)) (gn 2) b1_run) (t1_run)
def d_run (ds : List D) : Res D := runB 3 g_run ds
theorem v_run {a0 a1 : D} : d_run [a0, a1] = finR (g_run [.z a0, .z a1, .u]) := runB_eq rfl
def N__law_line : List Str := ["number", "some"]
def t2__law_line : Rho → SR :=
  (sret (bop ixD (bop addD (var 1) (mkL (acons (con (.str "get0")) (acons (con (.str "sign")) (acons (con (.str "minus")) (acons (con (.str "over")) (acons (con (.str "put1")) (acons (con (.str "get1")) (acons (con (.str "clear")) anil))))))))) (bop modD (var 0) (con (.int 32)))))
def t1__law_line : Rho → SR :=
  sseq (sasg (bop addD (var 1) (mkL (acons (con (.str "nought")) (acons (con (.str "nought")) (acons (con (.str "less")) (acons (con (.str "1")) (acons (con (.str "2")) (acons (con (.str "enter")) (acons (con (.str "plus")) (acons (con (.str "minus")) (acons (con (.str "times")) (acons (con (.str "swap")) (acons (con (.str "roll")) (acons (con (.str "put0")) anil)))))))))))))) (gn 1)) (t2__law_line)
def g__law_line : Rho → SR :=
  sseq (sasg (mkL (acons (con (.str "mark1")) (acons (con (.str "mark2")) (acons (con (.str "mark3")) (acons (con (.str "go1")) (acons (con (.str "go2")) (acons (con (.str "go3")) (acons (con (.str "call1")) (acons (con (.str "call2")) (acons (con (.str "call3")) (acons (con (.str "back")) (acons (con (.str "stop")) (acons (con (.str "less")) (acons (con (.str "same")) anil)))))))))))))) (gn 1)) (t1__law_line)
def d__law_line (ds : List D) : Res D := runB 2 g__law_line ds
theorem v__law_line {a0 : D} : d__law_line [a0] = finR (g__law_line [.z a0, .u]) := runB_eq rfl
def N_behind_mark : List Str := ["program", "figure"]
def t1_behind_mark : Rho → SR :=
  (sret (bop addD (metP (var 0) (acons (bop addD (con (.str "mark")) (var 1)) anil)) (con (.int 1))))
def g_behind_mark : Rho → SR :=
  sseq (sif (tst (bop niP (bop addD (con (.str "mark")) (var 1)) (var 0))) (sret (con .non)) sskip) (t1_behind_mark)
def d_behind_mark (ds : List D) : Res D := runB 2 g_behind_mark ds
theorem v_behind_mark {a0 a1 : D} : d_behind_mark [a0, a1] = finR (g_behind_mark [.z a0, .z a1]) := runB_eq rfl
def N_is_so : List Str := ["word", "pile"]
def t2_is_so : Rho → SR :=
  (sret (bop eqD (bop ixD (var 1) (con (.int 0))) (con (.tup [.int 0, .int 0]))))
def t1_is_so : Rho → SR :=
  sseq (sif (tst (bop eqD (var 0) (con (.str "same")))) (sret (bop eqD (bop ixD (var 1) (con (.int 0))) (bop ixD (var 1) (con (.int 1))))) sskip) (t2_is_so)
def g_is_so : Rho → SR :=
  sseq (sif (tst (bop eqD (var 0) (con (.str "less")))) (sret (callD 2 d_less (acons (bop ixD (var 1) (con (.int 0))) (acons (bop ixD (var 1) (con (.int 1))) anil)))) sskip) (t1_is_so)
def d_is_so (ds : List D) : Res D := runB 2 g_is_so ds
theorem v_is_so {a0 a1 : D} : d_is_so [a0, a1] = finR (g_is_so [.z a0, .z a1]) := runB_eq rfl
def N_led : List Str := ["program", "state", "place", "line", "calls", "word", "goal"]
def t7_led : Rho → SR :=
  (sret (mkT (acons (var 6) (acons (bop addD (var 4) (mkT (acons (bop addD (var 3) (con (.int 1))) anil))) anil))))
def t6_led : Rho → SR :=
  sseq (sif (tst (bop eqD (cal lenD (acons (var 4) anil)) (con (.int 4)))) (sret (con .non)) sskip) (t7_led)
def t5_led : Rho → SR :=
  sseq (sif (tst (met startsD (var 5) (acons (con (.str "go")) anil))) (sret (mkT (acons (var 6) (acons (var 4) anil)))) sskip) (t6_led)
def t4_led : Rho → SR :=
  sseq (sif (tst (bop isN (var 6) (con .non))) (sret (con .non)) sskip) (t5_led)
def t3_led : Rho → SR :=
  sseq (sasg (callD 2 d_behind_mark (acons (var 0) (acons (bop ixD (var 5) (una negD (con (.int 1)))) anil))) (gn 6)) (t4_led)
def t2_led : Rho → SR :=
  sseq (sif (tst (bop eqD (var 5) (con (.str "back")))) (sseq (sif (tst (bop eqD (cal lenD (acons (var 4) anil)) (con (.int 0)))) (sret (con .non)) sskip)
    (sret (mkT (acons (bop ixD (var 4) (una negD (con (.int 1)))) (acons (slc (var 4) pno (psm (una negD (con (.int 1))))) anil))))) sskip) (t3_led)
def t1_led : Rho → SR :=
  sseq (sasg (bop ixP (var 0) (var 3)) (gn 5)) (t2_led)
def g_led : Rho → SR :=
  sseq (sasg (var 2) (gt 2 (gsc (gn 3) (gsc (gn 4) gsn)))) (t1_led)
def d_led (ds : List D) : Res D := runB 7 g_led ds
theorem v_led {a0 a1 a2 : D} : d_led [a0, a1, a2] = finR (g_led [.z a0, .z a1, .z a2, .u, .u, .u, .u]) := runB_eq rfl
def N_step : List Str := ["program", "state", "place", "line", "calls", "word", "new", "goal"]
def t8_step : Rho → SR :=
  (sret (mkT (acons (var 1) (acons (var 7) (acons (con (.str "on")) anil)))))
def t7_step : Rho → SR :=
  sseq (sif (tst (bop isN (var 7) (con .non))) (sret (mkT (acons (var 1) (acons (var 2) (acons (con (.str "lost")) anil))))) sskip) (t8_step)
def t6_step : Rho → SR :=
  sseq (sasg (callD 3 d_led (acons (var 0) (acons (var 1) (acons (var 2) anil)))) (gn 7)) (t7_step)
def t5_step : Rho → SR :=
  sseq (sif (tst (met startsD (var 5) (acons (con (.str "mark")) anil))) (sret (mkT (acons (var 1) (acons (mkT (acons (bop addD (var 3) (con (.int 1))) (acons (var 4) anil))) (acons (con (.str "on")) anil))))) sskip) (t6_step)
def t4_step : Rho → SR :=
  sseq (sif (tst (bop inD (var 5) (mkT (acons (con (.str "less")) (acons (con (.str "same")) (acons (con (.str "nought")) anil)))))) (sseq (sasg (bop addD (bop addD (slc (var 1) pno (psm (con (.int 4)))) (mkT (acons (con .non) (acons (con (.bl true)) anil)))) (slc (var 1) (psm (con (.int 6))) pno)) (gn 6))
    (sret (mkT (acons (var 6) (acons (mkT (acons (bop subD (bop addD (var 3) (con (.int 2))) (cal intD (acons (callD 2 d_is_so (acons (var 5) (acons (bop ixD (var 1) (con (.int 1))) anil))) anil))) (acons (var 4) anil))) (acons (con (.str "on")) anil)))))) sskip) (t5_step)
def t3_step : Rho → SR :=
  sseq (sif (tst (callD 1 d_is_key (acons (var 5) anil))) (sseq (sasg (callD 2 d_pressed (acons (var 1) (acons (var 5) anil))) (gn 6))
    (sseq (sif (tst (bop isNotN (bop ixD (var 6) (con (.int 6))) (con .non))) (sret (mkT (acons (var 6) (acons (var 2) (acons (con (.str "odd")) anil))))) sskip)
    (sret (mkT (acons (var 6) (acons (mkT (acons (bop addD (var 3) (con (.int 1))) (acons (var 4) anil))) (acons (con (.str "on")) anil))))))) sskip) (t4_step)
def t2_step : Rho → SR :=
  sseq (sasg (bop ixP (var 0) (var 3)) (gn 5)) (t3_step)
def t1_step : Rho → SR :=
  sseq (sif (orQ (notQ (tst (chn leD ltD (con (.int 0)) (var 3) (cal lenP (acons (var 0) anil))))) (tst (bop eqD (bop ixP (var 0) (var 3)) (con (.str "stop"))))) (sret (mkT (acons (var 1) (acons (var 2) (acons (con (.str "ended")) anil))))) sskip) (t2_step)
def g_step : Rho → SR :=
  sseq (sasg (var 2) (gt 2 (gsc (gn 3) (gsc (gn 4) gsn)))) (t1_step)
def d_step (ds : List D) : Res D := runB 8 g_step ds
theorem v_step {a0 a1 a2 : D} : d_step [a0, a1, a2] = finR (g_step [.z a0, .z a1, .z a2, .u, .u, .u, .u, .u]) := runB_eq rfl
def N__law_program_v2 : List Str := ["number", "most", "k"]
def e1__law_program_v2 : Rho → Res D :=
  (callD 1 d__law_line (acons (bop divD (callD 2 d__law_drawn (acons (var 0) (acons (var 2) anil))) (con (.int 4))) anil))
def g__law_program_v2 : Rho → SR :=
  (sret (cal tupP (acons (lcD (rng1 (acons (bop modD (var 0) (bop addD (var 1) (con (.int 1)))) anil)) 2 yes e1__law_program_v2) anil)))
def d__law_program_v2 (ds : List D) : Res D := runB 3 g__law_program_v2 ds
theorem v__law_program_v2 {a0 a1 : D} : d__law_program_v2 [a0, a1] = finR (g__law_program_v2 [.z a0, .z a1, .u]) := runB_eq rfl
def N__law_open : List Str := ["state", "names", "found"]
def g__law_open : Rho → Addr → SM :=
  (kseq (sasg (mkT (acons (con (.str "manner")) (acons (con (.str "pile")) (acons (con (.str "last")) (acons (con (.str "boxes")) (acons (con (.str "entry")) (acons (con (.str "lift")) (acons (con (.str "odd")) anil)))))))) (gn 1))
    (kdict 2 (acons (cal lzipD (acons (var 1) (acons (var 0) anil))) anil)
    (mseq (mputL 2 "pile" (cal listO (acons (tabix (var 2) (con (.str "pile"))) anil)))
    (mseq (mputL 2 "boxes" (cal listO (acons (tabix (var 2) (con (.str "boxes"))) anil)))
    (fun _ m => .fin true m)))))
def d__law_open (p : Addr) (ds : List D) : Res MSt := runMk 3 g__law_open p ds
def N__law_led : List Str := ["program", "line", "calls", "word", "mark"]
def t4__law_led : Rho → SR :=
  (sret (bop addD (metP (var 0) (acons (var 4) anil)) (con (.int 1))))
def t3__law_led : Rho → SR :=
  sseq (sif (orQ (tst (bop niP (var 4) (var 0))) (andQ (tst (bop eqD (slc (var 3) pno (psm (con (.int 4)))) (con (.str "call")))) (tst (bop gtD (cal lenD (acons (var 2) anil)) (con (.int 3)))))) (sret (con .non)) sskip) (t4__law_led)
def t2__law_led : Rho → SR :=
  sseq (sasg (bop addD (con (.str "mark")) (bop ixD (var 3) (una negD (con (.int 1))))) (gn 4)) (t3__law_led)
def t1__law_led : Rho → SR :=
  sseq (sif (tst (bop eqD (var 3) (con (.str "back")))) (sret (bop ixD (mkL (acons (con .non) (acons (bop ixD (bop addD (var 2) (mkT (acons (con (.int 0)) anil))) (bop subD (cal lenD (acons (var 2) anil)) (con (.int 1)))) anil))) (cal intD (acons (bop neD (var 2) (mkT anil)) anil)))) sskip) (t2__law_led)
def g__law_led : Rho → SR :=
  sseq (sasg (bop ixP (var 0) (var 1)) (gn 3)) (t1__law_led)
def d__law_led (ds : List D) : Res D := runB 5 g__law_led ds
theorem v__law_led {a0 a1 a2 : D} : d__law_led [a0, a1, a2] = finR (g__law_led [.z a0, .z a1, .z a2, .u, .u]) := runB_eq rfl
def N__law_holds : List Str := ["word", "pile", "low", "left", "right"]
def t4__law_holds : Rho → SR :=
  (sret (bop ixD (mkL (acons (bop eqD (var 3) (var 4)) (acons (bop ltD (var 3) (var 4)) anil))) (cal intD (acons (bop eqD (var 0) (con (.str "less"))) anil))))
def t3__law_holds : Rho → SR :=
  sseq (sasg (bop mulD (bop ixD (bop ixD (var 1) (con (.int 1))) (con (.int 0))) (callD 1 d__law_ten (acons (bop subD (bop ixD (bop ixD (var 1) (con (.int 1))) (con (.int 1))) (var 2)) anil))) (gn 4)) (t4__law_holds)
def t2__law_holds : Rho → SR :=
  sseq (sasg (bop mulD (bop ixD (bop ixD (var 1) (con (.int 0))) (con (.int 0))) (callD 1 d__law_ten (acons (bop subD (bop ixD (bop ixD (var 1) (con (.int 0))) (con (.int 1))) (var 2)) anil))) (gn 3)) (t3__law_holds)
def t1__law_holds : Rho → SR :=
  sseq (sasg (cal minD (acons (bop ixD (bop ixD (var 1) (con (.int 0))) (con (.int 1))) (acons (bop ixD (bop ixD (var 1) (con (.int 1))) (con (.int 1))) anil))) (gn 2)) (t2__law_holds)
def g__law_holds : Rho → SR :=
  sseq (sif (tst (bop eqD (var 0) (con (.str "nought")))) (sret (bop eqD (bop ixD (bop ixD (var 1) (con (.int 0))) (con (.int 0))) (con (.int 0)))) sskip) (t1__law_holds)
def d__law_holds (ds : List D) : Res D := runB 5 g__law_holds ds
theorem v__law_holds {a0 a1 : D} : d__law_holds [a0, a1] = finR (g__law_holds [.z a0, .z a1, .u, .u, .u]) := runB_eq rfl
def N__law_due_v2 : List Str := ["program", "state", "place", "line", "calls", "word", "new", "goal"]
def g__law_due_v2 : Rho → Addr → SM :=
  (kseq (sasg (var 2) (gt 2 (gsc (gn 3) (gsc (gn 4) gsn))))
    (kseq (sif (orQ (notQ (tst (chn leD ltD (con (.int 0)) (var 3) (cal lenP (acons (var 0) anil))))) (tst (bop eqD (bop ixP (var 0) (var 3)) (con (.str "stop"))))) (sret (mkT (acons (var 1) (acons (var 2) (acons (con (.str "ended")) anil))))) sskip)
    (kseq (sasg (bop ixP (var 0) (var 3)) (gn 5))
    (kseq (sif (tst (bop inD (var 5) (mkT (acons (con (.str "less")) (acons (con (.str "same")) (acons (con (.str "nought")) anil)))))) (sseq (sasg (bop addD (slc (var 1) pno (psm (con (.int 4)))) (mkT (acons (con .non) (acons (con (.bl true)) (acons (bop ixD (var 1) (con (.int 6))) anil))))) (gn 6))
    (sret (mkT (acons (var 6) (acons (mkT (acons (bop subD (bop addD (var 3) (con (.int 2))) (cal intD (acons (callD 2 d__law_holds (acons (var 5) (acons (bop ixD (var 1) (con (.int 1))) anil))) anil))) (acons (var 4) anil))) (acons (con (.str "on")) anil)))))) sskip)
    (kseq (sif (tst (bop eqD (slc (var 5) pno (psm (con (.int 4)))) (con (.str "mark")))) (sret (mkT (acons (var 1) (acons (mkT (acons (bop addD (var 3) (con (.int 1))) (acons (var 4) anil))) (acons (con (.str "on")) anil))))) sskip)
    (kseq (sif (orQ (tst (bop eqD (var 5) (con (.str "back")))) (orQ (tst (bop eqD (slc (var 5) pno (psm (con (.int 2)))) (con (.str "go")))) (tst (bop eqD (slc (var 5) pno (psm (con (.int 4)))) (con (.str "call")))))) (sseq (sasg (callD 3 d__law_led (acons (var 0) (acons (var 3) (acons (var 4) anil)))) (gn 7))
    (sseq (sif (tst (bop isN (var 7) (con .non))) (sret (mkT (acons (var 1) (acons (var 2) (acons (con (.str "lost")) anil))))) sskip)
    (sseq (sif (tst (bop eqD (var 5) (con (.str "back")))) (sasg (slc (var 4) pno (psm (una negD (con (.int 1))))) (gn 4)) sskip)
    (sret (mkT (acons (var 1) (acons (mkT (acons (var 7) (acons (bop addD (var 4) (bop mul01D (mkT (acons (bop addD (var 3) (con (.int 1))) anil)) (cal intD (acons (bop eqD (slc (var 5) pno (psm (con (.int 4)))) (con (.str "call"))) anil)))) anil))) (acons (con (.str "on")) anil)))))))) sskip)
    (kmk 6 1 d__law_open (acons (var 1) anil)
    (mseq (mcall 6 2 d__law_press (acons (var 5) anil))
    (mseq (mif 6 (tst (bop isNotN (tabix (var 6) (con (.str "odd"))) (con .non))) (mst 6 (sret (mkT (acons (callD 1 d__law_state (acons (var 6) anil)) (acons (var 2) (acons (con (.str "odd")) anil)))))) .nx)
    (mst 6 (sret (mkT (acons (callD 1 d__law_state (acons (var 6) anil)) (acons (mkT (acons (bop addD (var 3) (con (.int 1))) (acons (var 4) anil))) (acons (con (.str "on")) anil)))))))))))))))
noncomputable def d__law_due_v2 (ds : List D) : Res D := runK 8 g__law_due_v2 ds
structure Top (w : World) (K : PySem.W.Frag) (mg : Str → Option Value) : Prop where
  f_ten : ∃ fd, FunD K "ten" "ten" (defArgs s_ten) (defBody s_ten) (defScope s_ten) [] [] (He.ga K "ten") fd
  m_ten : mg "ten" = some (.ref (He.ga K "ten"))
  f_figures_of : ∃ fd, FunD K "figures_of" "figures_of" (defArgs s_figures_of) (defBody s_figures_of) (defScope s_figures_of) [] [] (He.ga K "figures_of") fd
  m_figures_of : mg "figures_of" = some (.ref (He.ga K "figures_of"))
  f_height : ∃ fd, FunD K "height" "height" (defArgs s_height) (defBody s_height) (defScope s_height) [] [] (He.ga K "height") fd
  m_height : mg "height" = some (.ref (He.ga K "height"))
  f_taken : ∃ fd, FunD K "taken" "taken" (defArgs s_taken) (defBody s_taken) (defScope s_taken) [] [] (He.ga K "taken") fd
  m_taken : mg "taken" = some (.ref (He.ga K "taken"))
  f_by_size : ∃ fd, FunD K "by_size" "by_size" (defArgs s_by_size) (defBody s_by_size) (defScope s_by_size) [] [] (He.ga K "by_size") fd
  m_by_size : mg "by_size" = some (.ref (He.ga K "by_size"))
  f_fitted : ∃ fd, FunD K "fitted" "fitted" (defArgs s_fitted) (defBody s_fitted) (defScope s_fitted) [] [] (He.ga K "fitted") fd
  m_fitted : mg "fitted" = some (.ref (He.ga K "fitted"))
  f_power_for : ∃ fd, FunD K "power_for" "power_for" (defArgs s_power_for) (defBody s_power_for) (defScope s_power_for) [] [] (He.ga K "power_for") fd
  m_power_for : mg "power_for" = some (.ref (He.ga K "power_for"))
  f_exact : ∃ fd, FunD K "exact" "exact" (defArgs s_exact) (defBody s_exact) (defScope s_exact) [] [] (He.ga K "exact") fd
  m_exact : mg "exact" = some (.ref (He.ga K "exact"))
  f_level : ∃ fd, FunD K "level" "level" (defArgs s_level) (defBody s_level) (defScope s_level) [] [] (He.ga K "level") fd
  m_level : mg "level" = some (.ref (He.ga K "level"))
  f_of_power : ∃ fd, FunD K "of_power" "of_power" (defArgs s_of_power) (defBody s_of_power) (defScope s_of_power) [] [] (He.ga K "of_power") fd
  m_of_power : mg "of_power" = some (.ref (He.ga K "of_power"))
  f_plus : ∃ fd, FunD K "plus" "plus" (defArgs s_plus) (defBody s_plus) (defScope s_plus) [] [] (He.ga K "plus") fd
  m_plus : mg "plus" = some (.ref (He.ga K "plus"))
  f_turned : ∃ fd, FunD K "turned" "turned" (defArgs s_turned) (defBody s_turned) (defScope s_turned) [] [] (He.ga K "turned") fd
  m_turned : mg "turned" = some (.ref (He.ga K "turned"))
  f_minus : ∃ fd, FunD K "minus" "minus" (defArgs s_minus) (defBody s_minus) (defScope s_minus) [] [] (He.ga K "minus") fd
  m_minus : mg "minus" = some (.ref (He.ga K "minus"))
  f_times : ∃ fd, FunD K "times" "times" (defArgs s_times) (defBody s_times) (defScope s_times) [] [] (He.ga K "times") fd
  m_times : mg "times" = some (.ref (He.ga K "times"))
  f_over : ∃ fd, FunD K "over" "over" (defArgs s_over) (defBody s_over) (defScope s_over) [] [] (He.ga K "over") fd
  m_over : mg "over" = some (.ref (He.ga K "over"))
  f_less : ∃ fd, FunD K "less" "less" (defArgs s_less) (defBody s_less) (defScope s_less) [] [] (He.ga K "less") fd
  m_less : mg "less" = some (.ref (He.ga K "less"))
  f_whole_root : ∃ fd, FunD K "whole_root" "whole_root" (defArgs s_whole_root) (defBody s_whole_root) (defScope s_whole_root) [] [] (He.ga K "whole_root") fd
  m_whole_root : mg "whole_root" = some (.ref (He.ga K "whole_root"))
  f_root : ∃ fd, FunD K "root" "root" (defArgs s_root) (defBody s_root) (defScope s_root) [] [] (He.ga K "root") fd
  m_root : mg "root" = some (.ref (He.ga K "root"))
  f_is_key : ∃ fd, FunD K "is_key" "is_key" (defArgs s_is_key) (defBody s_is_key) (defScope s_is_key) [] [] (He.ga K "is_key") fd
  m_is_key : mg "is_key" = some (.ref (He.ga K "is_key"))
  f_begin : ∃ fd, FunD K "begin" "begin" (defArgs s_begin) (defBody s_begin) (defScope s_begin) [] [] (He.ga K "begin") fd
  m_begin : mg "begin" = some (.ref (He.ga K "begin"))
  f_told_by : ∃ fd, FunD K "told_by" "told_by" (defArgs s_told_by) (defBody s_told_by) (defScope s_told_by) [] [] (He.ga K "told_by") fd
  m_told_by : mg "told_by" = some (.ref (He.ga K "told_by"))
  f_lifted : ∃ fd, FunD K "lifted" "lifted" (defArgs s_lifted) (defBody s_lifted) (defScope s_lifted) [] [] (He.ga K "lifted") fd
  m_lifted : mg "lifted" = some (.ref (He.ga K "lifted"))
  f_if_due : ∃ fd, FunD K "if_due" "if_due" (defArgs s_if_due) (defBody s_if_due) (defScope s_if_due) [] [] (He.ga K "if_due") fd
  m_if_due : mg "if_due" = some (.ref (He.ga K "if_due"))
  f_typed : ∃ fd, FunD K "typed" "typed" (defArgs s_typed) (defBody s_typed) (defScope s_typed) [] [] (He.ga K "typed") fd
  m_typed : mg "typed" = some (.ref (He.ga K "typed"))
  f_signed : ∃ fd, FunD K "signed" "signed" (defArgs s_signed) (defBody s_signed) (defScope s_signed) [] [] (He.ga K "signed") fd
  m_signed : mg "signed" = some (.ref (He.ga K "signed"))
  f_told_of : ∃ fd, FunD K "told_of" "told_of" (defArgs s_told_of) (defBody s_told_of) (defScope s_told_of) [] [] (He.ga K "told_of") fd
  m_told_of : mg "told_of" = some (.ref (He.ga K "told_of"))
  f_with_deed : ∃ fd, FunD K "with_deed" "with_deed" (defArgs s_with_deed) (defBody s_with_deed) (defScope s_with_deed) [] [] (He.ga K "with_deed") fd
  m_with_deed : mg "with_deed" = some (.ref (He.ga K "with_deed"))
  f_with_box : ∃ fd, FunD K "with_box" "with_box" (defArgs s_with_box) (defBody s_with_box) (defScope s_with_box) [] [] (He.ga K "with_box") fd
  m_with_box : mg "with_box" = some (.ref (He.ga K "with_box"))
  f_moved : ∃ fd, FunD K "moved" "moved" (defArgs s_moved) (defBody s_moved) (defScope s_moved) [] [] (He.ga K "moved") fd
  m_moved : mg "moved" = some (.ref (He.ga K "moved"))
  f_pressed : ∃ fd, FunD K "pressed" "pressed" (defArgs s_pressed) (defBody s_pressed) (defScope s_pressed) [] [] (He.ga K "pressed") fd
  m_pressed : mg "pressed" = some (.ref (He.ga K "pressed"))
  f_run : ∃ fd, FunD K "run" "run" (defArgs s_run) (defBody s_run) (defScope s_run) [] [] (He.ga K "run") fd
  m_run : mg "run" = some (.ref (He.ga K "run"))
  f_behind_mark : ∃ fd, FunD K "behind_mark" "behind_mark" (defArgs s_behind_mark) (defBody s_behind_mark) (defScope s_behind_mark) [] [] (He.ga K "behind_mark") fd
  m_behind_mark : mg "behind_mark" = some (.ref (He.ga K "behind_mark"))
  f_is_so : ∃ fd, FunD K "is_so" "is_so" (defArgs s_is_so) (defBody s_is_so) (defScope s_is_so) [] [] (He.ga K "is_so") fd
  m_is_so : mg "is_so" = some (.ref (He.ga K "is_so"))
  f_led : ∃ fd, FunD K "led" "led" (defArgs s_led) (defBody s_led) (defScope s_led) [] [] (He.ga K "led") fd
  m_led : mg "led" = some (.ref (He.ga K "led"))
  f_step : ∃ fd, FunD K "step" "step" (defArgs s_step) (defBody s_step) (defScope s_step) [] [] (He.ga K "step") fd
  m_step : mg "step" = some (.ref (He.ga K "step"))
  f__law_cell_at : ∃ fd, FunD K "_law_cell_at" "_law_cell_at" (defArgs s__law_cell_at) (defBody s__law_cell_at) (defScope s__law_cell_at) [] [] (He.ga K "_law_cell_at") fd
  m__law_cell_at : mg "_law_cell_at" = some (.ref (He.ga K "_law_cell_at"))
  f__law_mixed : ∃ fd, FunD K "_law_mixed" "_law_mixed" (defArgs s__law_mixed) (defBody s__law_mixed) (defScope s__law_mixed) [] [] (He.ga K "_law_mixed") fd
  m__law_mixed : mg "_law_mixed" = some (.ref (He.ga K "_law_mixed"))
  f__law_drawn : ∃ fd, FunD K "_law_drawn" "_law_drawn" (defArgs s__law_drawn) (defBody s__law_drawn) (defScope s__law_drawn) [] [] (He.ga K "_law_drawn") fd
  m__law_drawn : mg "_law_drawn" = some (.ref (He.ga K "_law_drawn"))
  f__law_ten : ∃ fd, FunD K "_law_ten" "_law_ten" (defArgs s__law_ten) (defBody s__law_ten) (defScope s__law_ten) [] [] (He.ga K "_law_ten") fd
  m__law_ten : mg "_law_ten" = some (.ref (He.ga K "_law_ten"))
  f__law_height : ∃ fd, FunD K "_law_height" "_law_height" (defArgs s__law_height) (defBody s__law_height) (defScope s__law_height) [] [] (He.ga K "_law_height") fd
  m__law_height : mg "_law_height" = some (.ref (He.ga K "_law_height"))
  f__law_tidy : ∃ fd, FunD K "_law_tidy" "_law_tidy" (defArgs s__law_tidy) (defBody s__law_tidy) (defScope s__law_tidy) [] [] (He.ga K "_law_tidy") fd
  m__law_tidy : mg "_law_tidy" = some (.ref (He.ga K "_law_tidy"))
  f__law_exact : ∃ fd, FunD K "_law_exact" "_law_exact" (defArgs s__law_exact) (defBody s__law_exact) (defScope s__law_exact) [] [] (He.ga K "_law_exact") fd
  m__law_exact : mg "_law_exact" = some (.ref (He.ga K "_law_exact"))
  f__law_manner : ∃ fd, FunD K "_law_manner" "_law_manner" (defArgs s__law_manner) (defBody s__law_manner) (defScope s__law_manner) [] [] (He.ga K "_law_manner") fd
  m__law_manner : mg "_law_manner" = some (.ref (He.ga K "_law_manner"))
  f__law_deed : ∃ fd, FunD K "_law_deed" "_law_deed" (defArgs s__law_deed) (defBody s__law_deed) (defScope s__law_deed) [] [] (He.ga K "_law_deed") fd
  m__law_deed : mg "_law_deed" = some (.ref (He.ga K "_law_deed"))
  f__law_state : ∃ fd, FunD K "_law_state" "_law_state" (defArgs s__law_state) (defBody s__law_state) (defScope s__law_state) [] [] (He.ga K "_law_state") fd
  m__law_state : mg "_law_state" = some (.ref (He.ga K "_law_state"))
  f__law_push : ∃ fd, FunD K "_law_push" "_law_push" (defArgs s__law_push) (defBody s__law_push) (defScope s__law_push) [] [] (He.ga K "_law_push") fd
  m__law_push : mg "_law_push" = some (.ref (He.ga K "_law_push"))
  f__law_end : ∃ fd, FunD K "_law_end" "_law_end" (defArgs s__law_end) (defBody s__law_end) (defScope s__law_end) [] [] (He.ga K "_law_end") fd
  m__law_end : mg "_law_end" = some (.ref (He.ga K "_law_end"))
  f__law_typed : ∃ fd, FunD K "_law_typed" "_law_typed" (defArgs s__law_typed) (defBody s__law_typed) (defScope s__law_typed) [] [] (He.ga K "_law_typed") fd
  m__law_typed : mg "_law_typed" = some (.ref (He.ga K "_law_typed"))
  f__law_reckoned : ∃ fd, FunD K "_law_reckoned" "_law_reckoned" (defArgs s__law_reckoned) (defBody s__law_reckoned) (defScope s__law_reckoned) [] [] (He.ga K "_law_reckoned") fd
  m__law_reckoned : mg "_law_reckoned" = some (.ref (He.ga K "_law_reckoned"))
  f__law_press : ∃ fd, FunD K "_law_press" "_law_press" (defArgs s__law_press) (defBody s__law_press) (defScope s__law_press) [] [] (He.ga K "_law_press") fd
  m__law_press : mg "_law_press" = some (.ref (He.ga K "_law_press"))
  f__law_key : ∃ fd, FunD K "_law_key" "_law_key" (defArgs s__law_key) (defBody s__law_key) (defScope s__law_key) [] [] (He.ga K "_law_key") fd
  m__law_key : mg "_law_key" = some (.ref (He.ga K "_law_key"))
  f__law_row : ∃ fd, FunD K "_law_row" "_law_row" (defArgs s__law_row) (defBody s__law_row) (defScope s__law_row) [] [] (He.ga K "_law_row") fd
  m__law_row : mg "_law_row" = some (.ref (He.ga K "_law_row"))
  f__law_line : ∃ fd, FunD K "_law_line" "_law_line" (defArgs s__law_line) (defBody s__law_line) (defScope s__law_line) [] [] (He.ga K "_law_line") fd
  m__law_line : mg "_law_line" = some (.ref (He.ga K "_law_line"))
  f__law_program : ∃ fd, FunD K "_law_program" "_law_program" (defArgs s__law_program) (defBody s__law_program) (defScope s__law_program) [] [] (He.ga K "_law_program") fd
  m__law_program : mg "_law_program" = some (.ref (He.ga K "_law_program"))
  f__law_open : ∃ fd, FunD K "_law_open" "_law_open" (defArgs s__law_open) (defBody s__law_open) (defScope s__law_open) [] [] (He.ga K "_law_open") fd
  m__law_open : mg "_law_open" = some (.ref (He.ga K "_law_open"))
  f__law_led : ∃ fd, FunD K "_law_led" "_law_led" (defArgs s__law_led) (defBody s__law_led) (defScope s__law_led) [] [] (He.ga K "_law_led") fd
  m__law_led : mg "_law_led" = some (.ref (He.ga K "_law_led"))
  f__law_holds : ∃ fd, FunD K "_law_holds" "_law_holds" (defArgs s__law_holds) (defBody s__law_holds) (defScope s__law_holds) [] [] (He.ga K "_law_holds") fd
  m__law_holds : mg "_law_holds" = some (.ref (He.ga K "_law_holds"))
  f__law_due : ∃ fd, FunD K "_law_due" "_law_due" (defArgs s__law_due) (defBody s__law_due) (defScope s__law_due) [] [] (He.ga K "_law_due") fd
  m__law_due : mg "_law_due" = some (.ref (He.ga K "_law_due"))
  f_law : ∃ fd, FunD K "law" "law" (defArgs s_law) (defBody s_law) (defScope s_law) [] [] (He.ga K "law") fd
  m_law : mg "law" = some (.ref (He.ga K "law"))
  b_int : mg "int" = none
  b_abs : mg "abs" = none
  b_str : mg "str" = none
  b_len : mg "len" = none
  b_max : mg "max" = none
  b_min : mg "min" = none
  b_isinstance : mg "isinstance" = none
  b_range : mg "range" = none
  b_tuple : mg "tuple" = none
  b_dict : mg "dict" = none
  b_list : mg "list" = none
  b_zip : mg "zip" = none
  c_HIGHEST : ∃ t, mg "HIGHEST" = some (.int (40) t)
  c_MOST : ∃ t, mg "MOST" = some (.int (8) t)
  c_BOXES : ∃ t, mg "BOXES" = some (.int (10) t)
  c_MOST_CALLS : ∃ t, mg "MOST_CALLS" = some (.int (4) t)
  c_FIGURES : ∃ t, mg "FIGURES" = some (.str "0123456789" t)
  m_PLAIN_KEYS : mg "PLAIN_KEYS" = some (.ref (He.ga K "PLAIN_KEYS"))
  c_PLAIN_KEYS : ∀ H, SqT K H (He.ga K "PLAIN_KEYS") (k_PLAIN_KEYS.map V.str)
  m_ZERO : mg "ZERO" = some (.ref (He.ga K "ZERO"))
  c_ZERO : ∀ H, SqT K H (He.ga K "ZERO") (([0, 0] : List Int).map V.int)
  d_DEEDS : DicF w K mg "DEEDS" [("plus", "plus"), ("minus", "minus"), ("times", "times"), ("over", "over")]
  x_NoDeed_TooGreat : mg "NoDeed" = some (.ref (He.ga K "NoDeed")) ∧ mg "TooGreat" = some (.ref (He.ga K "TooGreat")) ∧ PySem.W.exmOne K (.ref (He.ga K "NoDeed")) (.ref (He.ga K "NoDeed")) = some true ∧ PySem.W.exmOne K (.ref (He.ga K "TooGreat")) (.ref (He.ga K "NoDeed")) = some (decide (("TooGreat" : Str) = "NoDeed")) ∧ PySem.W.exmOne K (.ref (He.ga K "TooGreat")) (.ref (He.ga K "TooGreat")) = some true
  e_TooGreat : ExcN K mg "TooGreat"
  e_NoDeed : ExcN K mg "NoDeed"
  e_NoKey : ExcN K mg "NoKey"
section
variable {P : Program} {w : World} {K : PySem.W.Frag} {mg : Str → Option Value} {base : Heap} {T : List (Addr × Str)}
theorem sc_ten : FnScope N_ten ["power"] (defScope s_ten) := ⟨rfl, rfl, rfl, by decide +kernel, rfl, by decide +kernel, by decide +kernel⟩
theorem ok_ten (Z : Top w K mg) : OkD P w K mg base T 1 "ten" 1 d_ten := by
  obtain ⟨fd, Fd⟩ := Z.f_ten
  refine ⟨⟨fd, ["power"], fn_ok Fd sc_ten rfl fun cdv A outer s0 H0 E F0 hr => ?_, Fd.bindsN (ps := ["power"]) (fun _ _ _ _ _ _ us hl => match us, hl with | [_], _ => rfl)⟩, Fd.kp, Z.m_ten⟩
  have tk : Takes (cxOf (L2.CX P w) P w K mg base N_ten "ten" (defScope s_ten) (He.ga K "ten") cdv A outer s0 H0 E) (WofE E) := takes_of rfl rfl rfl rfl
  have po : PassesOwn (model P w) (cxOf (L2.CX P w) P w K mg base N_ten "ten" (defScope s_ten) (He.ga K "ten") cdv A outer s0 H0 E).A (cxOf (L2.CX P w) P w K mg base N_ten "ten" (defScope s_ten) (He.ga K "ten") cdv A outer s0 H0 E).env (cxOf (L2.CX P w) P w K mg base N_ten "ten" (defScope s_ten) (He.ga K "ten") cdv A outer s0 H0 E).xe := passes_of (X := (cxOf (L2.CX P w) P w K mg base N_ten "ten" (defScope s_ten) (He.ga K "ten") cdv A outer s0 H0 E)) rfl
  have hu := hr.units
  exact (s_one (s_ret (e_callTy c_int rfl Z.b_int bt_int (a_cons (e_bin o_add e_str (e_bin o_mul e_str (e_var (pv 0)))) a_nil))))
theorem sc_figures_of : FnScope N_figures_of ["whole"] (defScope s_figures_of) := ⟨rfl, rfl, rfl, by decide +kernel, rfl, by decide +kernel, by decide +kernel⟩
theorem ok_figures_of (Z : Top w K mg) : OkD P w K mg base T 1 "figures_of" 1 d_figures_of := by
  obtain ⟨fd, Fd⟩ := Z.f_figures_of
  refine ⟨⟨fd, ["whole"], fn_ok Fd sc_figures_of rfl fun cdv A outer s0 H0 E F0 hr => ?_, Fd.bindsN (ps := ["whole"]) (fun _ _ _ _ _ _ us hl => match us, hl with | [_], _ => rfl)⟩, Fd.kp, Z.m_figures_of⟩
  have tk : Takes (cxOf (L2.CX P w) P w K mg base N_figures_of "figures_of" (defScope s_figures_of) (He.ga K "figures_of") cdv A outer s0 H0 E) (WofE E) := takes_of rfl rfl rfl rfl
  have po : PassesOwn (model P w) (cxOf (L2.CX P w) P w K mg base N_figures_of "figures_of" (defScope s_figures_of) (He.ga K "figures_of") cdv A outer s0 H0 E).A (cxOf (L2.CX P w) P w K mg base N_figures_of "figures_of" (defScope s_figures_of) (He.ga K "figures_of") cdv A outer s0 H0 E).env (cxOf (L2.CX P w) P w K mg base N_figures_of "figures_of" (defScope s_figures_of) (He.ga K "figures_of") cdv A outer s0 H0 E).xe := passes_of (X := (cxOf (L2.CX P w) P w K mg base N_figures_of "figures_of" (defScope s_figures_of) (He.ga K "figures_of") cdv A outer s0 H0 E)) rfl
  have hu := hr.units
  exact (s_one (s_ret (e_callB c_len rfl Z.b_len bt_len (a_cons (e_callTy c_str rfl Z.b_str bt_str (a_cons (e_callB c_abs rfl Z.b_abs bt_abs (a_cons (e_var (pv 0)) a_nil)) a_nil)) a_nil))))
theorem sc_height : FnScope N_height ["number"] (defScope s_height) := ⟨rfl, rfl, rfl, by decide +kernel, rfl, by decide +kernel, by decide +kernel⟩
theorem ok_height (Z : Top w K mg) : OkD P w K mg base T 2 "height" 1 d_height := by
  obtain ⟨fd, Fd⟩ := Z.f_height
  refine ⟨⟨fd, ["number"], fn_ok Fd sc_height rfl fun cdv A outer s0 H0 E F0 hr => ?_, Fd.bindsN (ps := ["number"]) (fun _ _ _ _ _ _ us hl => match us, hl with | [_], _ => rfl)⟩, Fd.kp, Z.m_height⟩
  have tk : Takes (cxOf (L2.CX P w) P w K mg base N_height "height" (defScope s_height) (He.ga K "height") cdv A outer s0 H0 E) (WofE E) := takes_of rfl rfl rfl rfl
  have po : PassesOwn (model P w) (cxOf (L2.CX P w) P w K mg base N_height "height" (defScope s_height) (He.ga K "height") cdv A outer s0 H0 E).A (cxOf (L2.CX P w) P w K mg base N_height "height" (defScope s_height) (He.ga K "height") cdv A outer s0 H0 E).env (cxOf (L2.CX P w) P w K mg base N_height "height" (defScope s_height) (He.ga K "height") cdv A outer s0 H0 E).xe := passes_of (X := (cxOf (L2.CX P w) P w K mg base N_height "height" (defScope s_height) (He.ga K "height") cdv A outer s0 H0 E)) rfl
  have hu := hr.units
  exact (s_one (s_ret (e_bin o_sub (e_bin o_add (e_ix (e_var (pv 0)) e_int) (e_call (ok_figures_of Z) hr tk rfl (a_cons (e_ix (e_var (pv 0)) e_int) a_nil))) e_int)))
theorem sc_taken : FnScope N_taken ["whole", "rest", "lower", "manner"] (defScope s_taken) := ⟨rfl, rfl, rfl, by decide +kernel, rfl, by decide +kernel, by decide +kernel⟩
theorem ok_taken (Z : Top w K mg) : OkD P w K mg base T 1 "taken" 4 d_taken := by
  obtain ⟨fd, Fd⟩ := Z.f_taken
  refine ⟨⟨fd, ["whole", "rest", "lower", "manner"], fn_ok Fd sc_taken rfl fun cdv A outer s0 H0 E F0 hr => ?_, Fd.bindsN (ps := ["whole", "rest", "lower", "manner"]) (fun _ _ _ _ _ _ us hl => match us, hl with | [_, _, _, _], _ => rfl)⟩, Fd.kp, Z.m_taken⟩
  have tk : Takes (cxOf (L2.CX P w) P w K mg base N_taken "taken" (defScope s_taken) (He.ga K "taken") cdv A outer s0 H0 E) (WofE E) := takes_of rfl rfl rfl rfl
  have po : PassesOwn (model P w) (cxOf (L2.CX P w) P w K mg base N_taken "taken" (defScope s_taken) (He.ga K "taken") cdv A outer s0 H0 E).A (cxOf (L2.CX P w) P w K mg base N_taken "taken" (defScope s_taken) (He.ga K "taken") cdv A outer s0 H0 E).env (cxOf (L2.CX P w) P w K mg base N_taken "taken" (defScope s_taken) (He.ga K "taken") cdv A outer s0 H0 E).xe := passes_of (X := (cxOf (L2.CX P w) P w K mg base N_taken "taken" (defScope s_taken) (He.ga K "taken") cdv A outer s0 H0 E)) rfl
  have hu := hr.units
  exact (s_cons (s_if (q_w (w_or (q_cmp (o_eq hu) (e_var (pv 1)) e_int (nomark _)) (w_or1 (q_cmp (o_eq hu) (e_var (pv 3)) e_str (nomark _))))) (s_one (s_ret (e_var (pv 0)))) s_nil)
    (s_cons (s_if (q_cmp (o_eq hu) (e_var (pv 3)) e_str (nomark _)) (s_one (s_ret (e_bin o_add (e_var (pv 0)) e_int))) s_nil)
    (s_cons (s_if (q_cmp (o_eq hu) (e_bin o_mul e_int (e_var (pv 1))) (e_var (pv 2)) (nomark _)) (s_one (s_ret (e_bin o_add (e_var (pv 0)) (e_callTy c_int rfl Z.b_int bt_int (a_cons (e_or (e_cmp (o_eq hu) (e_var (pv 3)) e_str (nomark _)) (e_one (e_cmp (o_eq hu) (e_bin o_mod (e_var (pv 0)) e_int) e_int (nomark _)))) a_nil))))) s_nil)
    (s_one (s_ret (e_bin o_add (e_var (pv 0)) (e_callTy c_int rfl Z.b_int bt_int (a_cons (e_cmp o_gt (e_bin o_mul e_int (e_var (pv 1))) (e_var (pv 2)) (nomark _)) a_nil))))))))
theorem sc_by_size : FnScope N_by_size ["manner", "below"] (defScope s_by_size) := ⟨rfl, rfl, rfl, by decide +kernel, rfl, by decide +kernel, by decide +kernel⟩
theorem ok_by_size (Z : Top w K mg) : OkD P w K mg base T 1 "by_size" 2 d_by_size := by
  obtain ⟨fd, Fd⟩ := Z.f_by_size
  refine ⟨⟨fd, ["manner", "below"], fn_ok Fd sc_by_size rfl fun cdv A outer s0 H0 E F0 hr => ?_, Fd.bindsN (ps := ["manner", "below"]) (fun _ _ _ _ _ _ us hl => match us, hl with | [_, _], _ => rfl)⟩, Fd.kp, Z.m_by_size⟩
  have tk : Takes (cxOf (L2.CX P w) P w K mg base N_by_size "by_size" (defScope s_by_size) (He.ga K "by_size") cdv A outer s0 H0 E) (WofE E) := takes_of rfl rfl rfl rfl
  have po : PassesOwn (model P w) (cxOf (L2.CX P w) P w K mg base N_by_size "by_size" (defScope s_by_size) (He.ga K "by_size") cdv A outer s0 H0 E).A (cxOf (L2.CX P w) P w K mg base N_by_size "by_size" (defScope s_by_size) (He.ga K "by_size") cdv A outer s0 H0 E).env (cxOf (L2.CX P w) P w K mg base N_by_size "by_size" (defScope s_by_size) (He.ga K "by_size") cdv A outer s0 H0 E).xe := passes_of (X := (cxOf (L2.CX P w) P w K mg base N_by_size "by_size" (defScope s_by_size) (He.ga K "by_size") cdv A outer s0 H0 E)) rfl
  have hu := hr.units
  exact (s_cons (s_if (q_cmp (o_eq hu) (e_var (pv 0)) e_str (nomark _)) (s_one (s_ret (e_ix (e_lst (a_cons e_str (a_cons e_str a_nil))) (e_callTy c_int rfl Z.b_int bt_int (a_cons (e_var (pv 1)) a_nil))))) s_nil)
    (s_cons (s_if (q_cmp (o_eq hu) (e_var (pv 0)) e_str (nomark _)) (s_one (s_ret (e_ix (e_lst (a_cons e_str (a_cons e_str a_nil))) (e_callTy c_int rfl Z.b_int bt_int (a_cons (e_var (pv 1)) a_nil))))) s_nil)
    (s_one (s_ret (e_var (pv 0))))))
theorem sc_fitted : FnScope N_fitted ["whole", "power", "below", "manner"] (defScope s_fitted) := ⟨rfl, rfl, rfl, by decide +kernel, rfl, by decide +kernel, by decide +kernel⟩
theorem ok_fitted (Z : Top w K mg) : OkD P w K mg base T 3 "fitted" 4 d_fitted := by
  obtain ⟨fd, Fd⟩ := Z.f_fitted
  refine ⟨⟨fd, ["whole", "power", "below", "manner"], fn_ok Fd sc_fitted rfl fun cdv A outer s0 H0 E F0 hr => ?_, Fd.bindsN (ps := ["whole", "power", "below", "manner"]) (fun _ _ _ _ _ _ us hl => match us, hl with | [_, _, _, _], _ => rfl)⟩, Fd.kp, Z.m_fitted⟩
  have tk : Takes (cxOf (L2.CX P w) P w K mg base N_fitted "fitted" (defScope s_fitted) (He.ga K "fitted") cdv A outer s0 H0 E) (WofE E) := takes_of rfl rfl rfl rfl
  have po : PassesOwn (model P w) (cxOf (L2.CX P w) P w K mg base N_fitted "fitted" (defScope s_fitted) (He.ga K "fitted") cdv A outer s0 H0 E).A (cxOf (L2.CX P w) P w K mg base N_fitted "fitted" (defScope s_fitted) (He.ga K "fitted") cdv A outer s0 H0 E).env (cxOf (L2.CX P w) P w K mg base N_fitted "fitted" (defScope s_fitted) (He.ga K "fitted") cdv A outer s0 H0 E).xe := passes_of (X := (cxOf (L2.CX P w) P w K mg base N_fitted "fitted" (defScope s_fitted) (He.ga K "fitted") cdv A outer s0 H0 E)) rfl
  have hu := hr.units
  exact (s_cons (s_if (q_cmp (o_eq hu) (e_var (pv 0)) e_int (nomark _)) (s_one (s_ret (e_tup (a_cons e_int (a_cons e_int a_nil))))) s_nil)
    (s_cons (s_while 100000 po (q_cmp (o_eq hu) (e_bin o_mod (e_var (pv 0)) e_int) e_int (nomark _)) (s_cons (s_asg (e_bin o_div (e_var (pv 0)) e_int) (g_name (pg_name (i := 0) sc_fitted.nd rfl (Or.inl rfl))))
    (s_one (s_asg (e_bin o_add (e_var (pv 1)) e_int) (g_name (pg_name (i := 1) sc_fitted.nd rfl (Or.inl rfl)))))))
    (s_cons (s_asg (e_bin o_sub e_int (e_bin o_mul e_int (e_callTy c_int rfl Z.b_int bt_int (a_cons (e_var (pv 2)) a_nil)))) (g_name (pg_name (i := 4) sc_fitted.nd rfl (Or.inl rfl))))
    (s_cons (s_if (q_cmp o_gt (e_call (ok_height Z) hr tk rfl (a_cons (e_tup (a_cons (e_var (pv 0)) (a_cons (e_var (pv 1)) a_nil))) a_nil)) (e_gint Z.c_HIGHEST rfl) (nomark _)) (s_one (s_raise Z.e_TooGreat rfl tk rfl)) s_nil)
    (s_cons (s_if (q_cmp o_lt (e_call (ok_height Z) hr tk rfl (a_cons (e_tup (a_cons (e_var (pv 0)) (a_cons (e_var (pv 1)) a_nil))) a_nil)) (e_una u_neg (e_gint Z.c_HIGHEST rfl)) (nomark _)) (s_cons (s_if (q_cmp (o_eq hu) (e_var (pv 3)) e_str (nomark _)) (s_one (s_ret (e_tup (a_cons (e_var (pv 4)) (a_cons (e_una u_neg (e_gint Z.c_HIGHEST rfl)) a_nil))))) s_nil)
    (s_one (s_ret (e_tup (a_cons e_int (a_cons e_int a_nil)))))) s_nil)
    (s_one (s_ret (e_tup (a_cons (e_bin o_mul (e_var (pv 4)) (e_var (pv 0))) (a_cons (e_var (pv 1)) a_nil))))))))))
theorem sc_power_for : FnScope N_power_for ["upper", "lower"] (defScope s_power_for) := ⟨rfl, rfl, rfl, by decide +kernel, rfl, by decide +kernel, by decide +kernel⟩
theorem ok_power_for (Z : Top w K mg) : OkD P w K mg base T 2 "power_for" 2 d_power_for := by
  obtain ⟨fd, Fd⟩ := Z.f_power_for
  refine ⟨⟨fd, ["upper", "lower"], fn_ok Fd sc_power_for rfl fun cdv A outer s0 H0 E F0 hr => ?_, Fd.bindsN (ps := ["upper", "lower"]) (fun _ _ _ _ _ _ us hl => match us, hl with | [_, _], _ => rfl)⟩, Fd.kp, Z.m_power_for⟩
  have tk : Takes (cxOf (L2.CX P w) P w K mg base N_power_for "power_for" (defScope s_power_for) (He.ga K "power_for") cdv A outer s0 H0 E) (WofE E) := takes_of rfl rfl rfl rfl
  have po : PassesOwn (model P w) (cxOf (L2.CX P w) P w K mg base N_power_for "power_for" (defScope s_power_for) (He.ga K "power_for") cdv A outer s0 H0 E).A (cxOf (L2.CX P w) P w K mg base N_power_for "power_for" (defScope s_power_for) (He.ga K "power_for") cdv A outer s0 H0 E).env (cxOf (L2.CX P w) P w K mg base N_power_for "power_for" (defScope s_power_for) (He.ga K "power_for") cdv A outer s0 H0 E).xe := passes_of (X := (cxOf (L2.CX P w) P w K mg base N_power_for "power_for" (defScope s_power_for) (He.ga K "power_for") cdv A outer s0 H0 E)) rfl
  have hu := hr.units
  exact (s_cons (s_asg (e_bin o_sub (e_bin o_sub (e_call (ok_figures_of Z) hr tk rfl (a_cons (e_var (pv 0)) a_nil)) (e_call (ok_figures_of Z) hr tk rfl (a_cons (e_var (pv 1)) a_nil))) (e_gint Z.c_MOST rfl)) (g_name (pg_name (i := 2) sc_power_for.nd rfl (Or.inl rfl))))
    (s_cons (s_while 100000 po (q_cmp o_ge (e_bin o_mul (e_var (pv 0)) (e_call (ok_ten Z) hr tk rfl (a_cons (e_callB (c_max rfl) rfl Z.b_max bt_max (a_cons (e_una u_neg (e_var (pv 2))) (a_cons e_int a_nil))) a_nil))) (e_bin o_mul (e_bin o_mul (e_var (pv 1)) (e_call (ok_ten Z) hr tk rfl (a_cons (e_callB (c_max rfl) rfl Z.b_max bt_max (a_cons (e_var (pv 2)) (a_cons e_int a_nil))) a_nil))) (e_call (ok_ten Z) hr tk rfl (a_cons (e_gint Z.c_MOST rfl) a_nil))) (nomark _)) (s_one (s_asg (e_bin o_add (e_var (pv 2)) e_int) (g_name (pg_name (i := 2) sc_power_for.nd rfl (Or.inl rfl))))))
    (s_one (s_ret (e_var (pv 2))))))
theorem sc_exact : FnScope N_exact ["upper", "lower", "manner"] (defScope s_exact) := ⟨rfl, rfl, rfl, by decide +kernel, rfl, by decide +kernel, by decide +kernel⟩
theorem ok_exact (Z : Top w K mg) : OkD P w K mg base T 4 "exact" 3 d_exact := by
  obtain ⟨fd, Fd⟩ := Z.f_exact
  refine ⟨⟨fd, ["upper", "lower", "manner"], fn_ok Fd sc_exact rfl fun cdv A outer s0 H0 E F0 hr => ?_, Fd.bindsN (ps := ["upper", "lower", "manner"]) (fun _ _ _ _ _ _ us hl => match us, hl with | [_, _, _], _ => rfl)⟩, Fd.kp, Z.m_exact⟩
  have tk : Takes (cxOf (L2.CX P w) P w K mg base N_exact "exact" (defScope s_exact) (He.ga K "exact") cdv A outer s0 H0 E) (WofE E) := takes_of rfl rfl rfl rfl
  have po : PassesOwn (model P w) (cxOf (L2.CX P w) P w K mg base N_exact "exact" (defScope s_exact) (He.ga K "exact") cdv A outer s0 H0 E).A (cxOf (L2.CX P w) P w K mg base N_exact "exact" (defScope s_exact) (He.ga K "exact") cdv A outer s0 H0 E).env (cxOf (L2.CX P w) P w K mg base N_exact "exact" (defScope s_exact) (He.ga K "exact") cdv A outer s0 H0 E).xe := passes_of (X := (cxOf (L2.CX P w) P w K mg base N_exact "exact" (defScope s_exact) (He.ga K "exact") cdv A outer s0 H0 E)) rfl
  have hu := hr.units
  exact (s_cons (s_if (q_cmp (o_eq hu) (e_var (pv 0)) e_int (nomark _)) (s_one (s_ret (e_tup (a_cons e_int (a_cons e_int a_nil))))) s_nil)
    (s_cons (s_asg (e_cmp (o_ne hu) (e_cmp o_lt (e_var (pv 0)) e_int (nomark _)) (e_cmp o_lt (e_var (pv 1)) e_int (nomark _)) (nomark _)) (g_name (pg_name (i := 3) sc_exact.nd rfl (Or.inl rfl))))
    (s_cons (s_asg (e_callB c_abs rfl Z.b_abs bt_abs (a_cons (e_var (pv 0)) a_nil)) (g_name (pg_name (i := 0) sc_exact.nd rfl (Or.inl rfl))))
    (s_cons (s_asg (e_callB c_abs rfl Z.b_abs bt_abs (a_cons (e_var (pv 1)) a_nil)) (g_name (pg_name (i := 1) sc_exact.nd rfl (Or.inl rfl))))
    (s_cons (s_asg (e_call (ok_power_for Z) hr tk rfl (a_cons (e_var (pv 0)) (a_cons (e_var (pv 1)) a_nil))) (g_name (pg_name (i := 4) sc_exact.nd rfl (Or.inl rfl))))
    (s_cons (s_asg (e_bin o_mul (e_var (pv 0)) (e_call (ok_ten Z) hr tk rfl (a_cons (e_callB (c_max rfl) rfl Z.b_max bt_max (a_cons (e_una u_neg (e_var (pv 4))) (a_cons e_int a_nil))) a_nil))) (g_name (pg_name (i := 0) sc_exact.nd rfl (Or.inl rfl))))
    (s_cons (s_asg (e_bin o_mul (e_var (pv 1)) (e_call (ok_ten Z) hr tk rfl (a_cons (e_callB (c_max rfl) rfl Z.b_max bt_max (a_cons (e_var (pv 4)) (a_cons e_int a_nil))) a_nil))) (g_name (pg_name (i := 1) sc_exact.nd rfl (Or.inl rfl))))
    (s_cons (s_asg (e_call (ok_by_size Z) hr tk rfl (a_cons (e_var (pv 2)) (a_cons (e_var (pv 3)) a_nil))) (g_name (pg_name (i := 5) sc_exact.nd rfl (Or.inl rfl))))
    (s_one (s_ret (e_call (ok_fitted Z) hr tk rfl (a_cons (e_call (ok_taken Z) hr tk rfl (a_cons (e_bin o_div (e_var (pv 0)) (e_var (pv 1))) (a_cons (e_bin o_mod (e_var (pv 0)) (e_var (pv 1))) (a_cons (e_var (pv 1)) (a_cons (e_var (pv 5)) a_nil))))) (a_cons (e_var (pv 4)) (a_cons (e_var (pv 3)) (a_cons (e_var (pv 5)) a_nil)))))))))))))))
theorem sc_level : FnScope N_level ["one", "other"] (defScope s_level) := ⟨rfl, rfl, rfl, by decide +kernel, rfl, by decide +kernel, by decide +kernel⟩
theorem ok_level (Z : Top w K mg) : OkD P w K mg base T 2 "level" 2 d_level := by
  obtain ⟨fd, Fd⟩ := Z.f_level
  refine ⟨⟨fd, ["one", "other"], fn_ok Fd sc_level rfl fun cdv A outer s0 H0 E F0 hr => ?_, Fd.bindsN (ps := ["one", "other"]) (fun _ _ _ _ _ _ us hl => match us, hl with | [_, _], _ => rfl)⟩, Fd.kp, Z.m_level⟩
  have tk : Takes (cxOf (L2.CX P w) P w K mg base N_level "level" (defScope s_level) (He.ga K "level") cdv A outer s0 H0 E) (WofE E) := takes_of rfl rfl rfl rfl
  have po : PassesOwn (model P w) (cxOf (L2.CX P w) P w K mg base N_level "level" (defScope s_level) (He.ga K "level") cdv A outer s0 H0 E).A (cxOf (L2.CX P w) P w K mg base N_level "level" (defScope s_level) (He.ga K "level") cdv A outer s0 H0 E).env (cxOf (L2.CX P w) P w K mg base N_level "level" (defScope s_level) (He.ga K "level") cdv A outer s0 H0 E).xe := passes_of (X := (cxOf (L2.CX P w) P w K mg base N_level "level" (defScope s_level) (He.ga K "level") cdv A outer s0 H0 E)) rfl
  have hu := hr.units
  exact (s_cons (s_asg (e_callB (c_min rfl) rfl Z.b_min bt_min (a_cons (e_ix (e_var (pv 0)) e_int) (a_cons (e_ix (e_var (pv 1)) e_int) a_nil))) (g_name (pg_name (i := 2) sc_level.nd rfl (Or.inl rfl))))
    (s_one (s_ret (e_tup (a_cons (e_bin o_mul (e_ix (e_var (pv 0)) e_int) (e_call (ok_ten Z) hr tk rfl (a_cons (e_bin o_sub (e_ix (e_var (pv 0)) e_int) (e_var (pv 2))) a_nil))) (a_cons (e_bin o_mul (e_ix (e_var (pv 1)) e_int) (e_call (ok_ten Z) hr tk rfl (a_cons (e_bin o_sub (e_ix (e_var (pv 1)) e_int) (e_var (pv 2))) a_nil))) (a_cons (e_var (pv 2)) a_nil)))))))
theorem sc_of_power : FnScope N_of_power ["whole", "power", "manner"] (defScope s_of_power) := ⟨rfl, rfl, rfl, by decide +kernel, rfl, by decide +kernel, by decide +kernel⟩
theorem ok_of_power (Z : Top w K mg) : OkD P w K mg base T 5 "of_power" 3 d_of_power := by
  obtain ⟨fd, Fd⟩ := Z.f_of_power
  refine ⟨⟨fd, ["whole", "power", "manner"], fn_ok Fd sc_of_power rfl fun cdv A outer s0 H0 E F0 hr => ?_, Fd.bindsN (ps := ["whole", "power", "manner"]) (fun _ _ _ _ _ _ us hl => match us, hl with | [_, _, _], _ => rfl)⟩, Fd.kp, Z.m_of_power⟩
  have tk : Takes (cxOf (L2.CX P w) P w K mg base N_of_power "of_power" (defScope s_of_power) (He.ga K "of_power") cdv A outer s0 H0 E) (WofE E) := takes_of rfl rfl rfl rfl
  have po : PassesOwn (model P w) (cxOf (L2.CX P w) P w K mg base N_of_power "of_power" (defScope s_of_power) (He.ga K "of_power") cdv A outer s0 H0 E).A (cxOf (L2.CX P w) P w K mg base N_of_power "of_power" (defScope s_of_power) (He.ga K "of_power") cdv A outer s0 H0 E).env (cxOf (L2.CX P w) P w K mg base N_of_power "of_power" (defScope s_of_power) (He.ga K "of_power") cdv A outer s0 H0 E).xe := passes_of (X := (cxOf (L2.CX P w) P w K mg base N_of_power "of_power" (defScope s_of_power) (He.ga K "of_power") cdv A outer s0 H0 E)) rfl
  have hu := hr.units
  exact (s_one (s_ret (e_call (ok_exact Z) hr tk rfl (a_cons (e_bin o_mul (e_var (pv 0)) (e_call (ok_ten Z) hr tk rfl (a_cons (e_callB (c_max rfl) rfl Z.b_max bt_max (a_cons (e_var (pv 1)) (a_cons e_int a_nil))) a_nil))) (a_cons (e_call (ok_ten Z) hr tk rfl (a_cons (e_callB (c_max rfl) rfl Z.b_max bt_max (a_cons (e_una u_neg (e_var (pv 1))) (a_cons e_int a_nil))) a_nil)) (a_cons (e_var (pv 2)) a_nil))))))
theorem sc_plus : FnScope N_plus ["one", "other", "manner"] (defScope s_plus) := ⟨rfl, rfl, rfl, by decide +kernel, rfl, by decide +kernel, by decide +kernel⟩
theorem ok_plus (Z : Top w K mg) : OkD P w K mg base T 6 "plus" 3 d_plus := by
  obtain ⟨fd, Fd⟩ := Z.f_plus
  refine ⟨⟨fd, ["one", "other", "manner"], fn_ok Fd sc_plus rfl fun cdv A outer s0 H0 E F0 hr => ?_, Fd.bindsN (ps := ["one", "other", "manner"]) (fun _ _ _ _ _ _ us hl => match us, hl with | [_, _, _], _ => rfl)⟩, Fd.kp, Z.m_plus⟩
  have tk : Takes (cxOf (L2.CX P w) P w K mg base N_plus "plus" (defScope s_plus) (He.ga K "plus") cdv A outer s0 H0 E) (WofE E) := takes_of rfl rfl rfl rfl
  have po : PassesOwn (model P w) (cxOf (L2.CX P w) P w K mg base N_plus "plus" (defScope s_plus) (He.ga K "plus") cdv A outer s0 H0 E).A (cxOf (L2.CX P w) P w K mg base N_plus "plus" (defScope s_plus) (He.ga K "plus") cdv A outer s0 H0 E).env (cxOf (L2.CX P w) P w K mg base N_plus "plus" (defScope s_plus) (He.ga K "plus") cdv A outer s0 H0 E).xe := passes_of (X := (cxOf (L2.CX P w) P w K mg base N_plus "plus" (defScope s_plus) (He.ga K "plus") cdv A outer s0 H0 E)) rfl
  have hu := hr.units
  exact (s_cons (s_asg (e_call (ok_level Z) hr tk rfl (a_cons (e_var (pv 0)) (a_cons (e_var (pv 1)) a_nil))) (g_tup rfl (gs_cons (g_name (pg_name (i := 3) sc_plus.nd rfl (Or.inl rfl))) (gs_cons (g_name (pg_name (i := 4) sc_plus.nd rfl (Or.inl rfl))) (gs_cons (g_name (pg_name (i := 5) sc_plus.nd rfl (Or.inl rfl))) gs_nil)))))
    (s_one (s_ret (e_call (ok_of_power Z) hr tk rfl (a_cons (e_bin o_add (e_var (pv 3)) (e_var (pv 4))) (a_cons (e_var (pv 5)) (a_cons (e_var (pv 2)) a_nil)))))))
theorem sc_turned : FnScope N_turned ["one"] (defScope s_turned) := ⟨rfl, rfl, rfl, by decide +kernel, rfl, by decide +kernel, by decide +kernel⟩
theorem ok_turned (Z : Top w K mg) : OkD P w K mg base T 1 "turned" 1 d_turned := by
  obtain ⟨fd, Fd⟩ := Z.f_turned
  refine ⟨⟨fd, ["one"], fn_ok Fd sc_turned rfl fun cdv A outer s0 H0 E F0 hr => ?_, Fd.bindsN (ps := ["one"]) (fun _ _ _ _ _ _ us hl => match us, hl with | [_], _ => rfl)⟩, Fd.kp, Z.m_turned⟩
  have tk : Takes (cxOf (L2.CX P w) P w K mg base N_turned "turned" (defScope s_turned) (He.ga K "turned") cdv A outer s0 H0 E) (WofE E) := takes_of rfl rfl rfl rfl
  have po : PassesOwn (model P w) (cxOf (L2.CX P w) P w K mg base N_turned "turned" (defScope s_turned) (He.ga K "turned") cdv A outer s0 H0 E).A (cxOf (L2.CX P w) P w K mg base N_turned "turned" (defScope s_turned) (He.ga K "turned") cdv A outer s0 H0 E).env (cxOf (L2.CX P w) P w K mg base N_turned "turned" (defScope s_turned) (He.ga K "turned") cdv A outer s0 H0 E).xe := passes_of (X := (cxOf (L2.CX P w) P w K mg base N_turned "turned" (defScope s_turned) (He.ga K "turned") cdv A outer s0 H0 E)) rfl
  have hu := hr.units
  exact (s_one (s_ret (e_tup (a_cons (e_una u_neg (e_ix (e_var (pv 0)) e_int)) (a_cons (e_ix (e_var (pv 0)) e_int) a_nil)))))
theorem sc_minus : FnScope N_minus ["one", "other", "manner"] (defScope s_minus) := ⟨rfl, rfl, rfl, by decide +kernel, rfl, by decide +kernel, by decide +kernel⟩
theorem ok_minus (Z : Top w K mg) : OkD P w K mg base T 7 "minus" 3 d_minus := by
  obtain ⟨fd, Fd⟩ := Z.f_minus
  refine ⟨⟨fd, ["one", "other", "manner"], fn_ok Fd sc_minus rfl fun cdv A outer s0 H0 E F0 hr => ?_, Fd.bindsN (ps := ["one", "other", "manner"]) (fun _ _ _ _ _ _ us hl => match us, hl with | [_, _, _], _ => rfl)⟩, Fd.kp, Z.m_minus⟩
  have tk : Takes (cxOf (L2.CX P w) P w K mg base N_minus "minus" (defScope s_minus) (He.ga K "minus") cdv A outer s0 H0 E) (WofE E) := takes_of rfl rfl rfl rfl
  have po : PassesOwn (model P w) (cxOf (L2.CX P w) P w K mg base N_minus "minus" (defScope s_minus) (He.ga K "minus") cdv A outer s0 H0 E).A (cxOf (L2.CX P w) P w K mg base N_minus "minus" (defScope s_minus) (He.ga K "minus") cdv A outer s0 H0 E).env (cxOf (L2.CX P w) P w K mg base N_minus "minus" (defScope s_minus) (He.ga K "minus") cdv A outer s0 H0 E).xe := passes_of (X := (cxOf (L2.CX P w) P w K mg base N_minus "minus" (defScope s_minus) (He.ga K "minus") cdv A outer s0 H0 E)) rfl
  have hu := hr.units
  exact (s_one (s_ret (e_call (ok_plus Z) hr tk rfl (a_cons (e_var (pv 0)) (a_cons (e_call (ok_turned Z) hr tk rfl (a_cons (e_var (pv 1)) a_nil)) (a_cons (e_var (pv 2)) a_nil))))))
theorem sc_times : FnScope N_times ["one", "other", "manner"] (defScope s_times) := ⟨rfl, rfl, rfl, by decide +kernel, rfl, by decide +kernel, by decide +kernel⟩
theorem ok_times (Z : Top w K mg) : OkD P w K mg base T 6 "times" 3 d_times := by
  obtain ⟨fd, Fd⟩ := Z.f_times
  refine ⟨⟨fd, ["one", "other", "manner"], fn_ok Fd sc_times rfl fun cdv A outer s0 H0 E F0 hr => ?_, Fd.bindsN (ps := ["one", "other", "manner"]) (fun _ _ _ _ _ _ us hl => match us, hl with | [_, _, _], _ => rfl)⟩, Fd.kp, Z.m_times⟩
  have tk : Takes (cxOf (L2.CX P w) P w K mg base N_times "times" (defScope s_times) (He.ga K "times") cdv A outer s0 H0 E) (WofE E) := takes_of rfl rfl rfl rfl
  have po : PassesOwn (model P w) (cxOf (L2.CX P w) P w K mg base N_times "times" (defScope s_times) (He.ga K "times") cdv A outer s0 H0 E).A (cxOf (L2.CX P w) P w K mg base N_times "times" (defScope s_times) (He.ga K "times") cdv A outer s0 H0 E).env (cxOf (L2.CX P w) P w K mg base N_times "times" (defScope s_times) (He.ga K "times") cdv A outer s0 H0 E).xe := passes_of (X := (cxOf (L2.CX P w) P w K mg base N_times "times" (defScope s_times) (He.ga K "times") cdv A outer s0 H0 E)) rfl
  have hu := hr.units
  exact (s_one (s_ret (e_call (ok_of_power Z) hr tk rfl (a_cons (e_bin o_mul (e_ix (e_var (pv 0)) e_int) (e_ix (e_var (pv 1)) e_int)) (a_cons (e_bin o_add (e_ix (e_var (pv 0)) e_int) (e_ix (e_var (pv 1)) e_int)) (a_cons (e_var (pv 2)) a_nil))))))
theorem sc_over : FnScope N_over ["one", "other", "manner"] (defScope s_over) := ⟨rfl, rfl, rfl, by decide +kernel, rfl, by decide +kernel, by decide +kernel⟩
theorem ok_over (Z : Top w K mg) : OkD P w K mg base T 5 "over" 3 d_over := by
  obtain ⟨fd, Fd⟩ := Z.f_over
  refine ⟨⟨fd, ["one", "other", "manner"], fn_ok Fd sc_over rfl fun cdv A outer s0 H0 E F0 hr => ?_, Fd.bindsN (ps := ["one", "other", "manner"]) (fun _ _ _ _ _ _ us hl => match us, hl with | [_, _, _], _ => rfl)⟩, Fd.kp, Z.m_over⟩
  have tk : Takes (cxOf (L2.CX P w) P w K mg base N_over "over" (defScope s_over) (He.ga K "over") cdv A outer s0 H0 E) (WofE E) := takes_of rfl rfl rfl rfl
  have po : PassesOwn (model P w) (cxOf (L2.CX P w) P w K mg base N_over "over" (defScope s_over) (He.ga K "over") cdv A outer s0 H0 E).A (cxOf (L2.CX P w) P w K mg base N_over "over" (defScope s_over) (He.ga K "over") cdv A outer s0 H0 E).env (cxOf (L2.CX P w) P w K mg base N_over "over" (defScope s_over) (He.ga K "over") cdv A outer s0 H0 E).xe := passes_of (X := (cxOf (L2.CX P w) P w K mg base N_over "over" (defScope s_over) (He.ga K "over") cdv A outer s0 H0 E)) rfl
  have hu := hr.units
  exact (s_cons (s_if (q_cmp (o_eq hu) (e_ix (e_var (pv 1)) e_int) e_int (nomark _)) (s_one (s_raise Z.e_NoDeed rfl tk rfl)) s_nil)
    (s_cons (s_asg (e_bin o_sub (e_ix (e_var (pv 0)) e_int) (e_ix (e_var (pv 1)) e_int)) (g_name (pg_name (i := 3) sc_over.nd rfl (Or.inl rfl))))
    (s_one (s_ret (e_call (ok_exact Z) hr tk rfl (a_cons (e_bin o_mul (e_ix (e_var (pv 0)) e_int) (e_call (ok_ten Z) hr tk rfl (a_cons (e_callB (c_max rfl) rfl Z.b_max bt_max (a_cons (e_var (pv 3)) (a_cons e_int a_nil))) a_nil))) (a_cons (e_bin o_mul (e_ix (e_var (pv 1)) e_int) (e_call (ok_ten Z) hr tk rfl (a_cons (e_callB (c_max rfl) rfl Z.b_max bt_max (a_cons (e_una u_neg (e_var (pv 3))) (a_cons e_int a_nil))) a_nil))) (a_cons (e_var (pv 2)) a_nil))))))))
theorem sc_less : FnScope N_less ["one", "other"] (defScope s_less) := ⟨rfl, rfl, rfl, by decide +kernel, rfl, by decide +kernel, by decide +kernel⟩
theorem ok_less (Z : Top w K mg) : OkD P w K mg base T 3 "less" 2 d_less := by
  obtain ⟨fd, Fd⟩ := Z.f_less
  refine ⟨⟨fd, ["one", "other"], fn_ok Fd sc_less rfl fun cdv A outer s0 H0 E F0 hr => ?_, Fd.bindsN (ps := ["one", "other"]) (fun _ _ _ _ _ _ us hl => match us, hl with | [_, _], _ => rfl)⟩, Fd.kp, Z.m_less⟩
  have tk : Takes (cxOf (L2.CX P w) P w K mg base N_less "less" (defScope s_less) (He.ga K "less") cdv A outer s0 H0 E) (WofE E) := takes_of rfl rfl rfl rfl
  have po : PassesOwn (model P w) (cxOf (L2.CX P w) P w K mg base N_less "less" (defScope s_less) (He.ga K "less") cdv A outer s0 H0 E).A (cxOf (L2.CX P w) P w K mg base N_less "less" (defScope s_less) (He.ga K "less") cdv A outer s0 H0 E).env (cxOf (L2.CX P w) P w K mg base N_less "less" (defScope s_less) (He.ga K "less") cdv A outer s0 H0 E).xe := passes_of (X := (cxOf (L2.CX P w) P w K mg base N_less "less" (defScope s_less) (He.ga K "less") cdv A outer s0 H0 E)) rfl
  have hu := hr.units
  exact (s_cons (s_asg (e_call (ok_level Z) hr tk rfl (a_cons (e_var (pv 0)) (a_cons (e_var (pv 1)) a_nil))) (g_tup rfl (gs_cons (g_name (pg_name (i := 2) sc_less.nd rfl (Or.inl rfl))) (gs_cons (g_name (pg_name (i := 3) sc_less.nd rfl (Or.inl rfl))) (gs_cons (g_name (pg_name (i := 4) sc_less.nd rfl (Or.inl rfl))) gs_nil)))))
    (s_one (s_ret (e_cmp o_lt (e_var (pv 2)) (e_var (pv 3)) (nomark _)))))
theorem sc_whole_root : FnScope N_whole_root ["whole"] (defScope s_whole_root) := ⟨rfl, rfl, rfl, by decide +kernel, rfl, by decide +kernel, by decide +kernel⟩
theorem ok_whole_root (Z : Top w K mg) : OkD P w K mg base T 2 "whole_root" 1 d_whole_root := by
  obtain ⟨fd, Fd⟩ := Z.f_whole_root
  refine ⟨⟨fd, ["whole"], fn_ok Fd sc_whole_root rfl fun cdv A outer s0 H0 E F0 hr => ?_, Fd.bindsN (ps := ["whole"]) (fun _ _ _ _ _ _ us hl => match us, hl with | [_], _ => rfl)⟩, Fd.kp, Z.m_whole_root⟩
  have tk : Takes (cxOf (L2.CX P w) P w K mg base N_whole_root "whole_root" (defScope s_whole_root) (He.ga K "whole_root") cdv A outer s0 H0 E) (WofE E) := takes_of rfl rfl rfl rfl
  have po : PassesOwn (model P w) (cxOf (L2.CX P w) P w K mg base N_whole_root "whole_root" (defScope s_whole_root) (He.ga K "whole_root") cdv A outer s0 H0 E).A (cxOf (L2.CX P w) P w K mg base N_whole_root "whole_root" (defScope s_whole_root) (He.ga K "whole_root") cdv A outer s0 H0 E).env (cxOf (L2.CX P w) P w K mg base N_whole_root "whole_root" (defScope s_whole_root) (He.ga K "whole_root") cdv A outer s0 H0 E).xe := passes_of (X := (cxOf (L2.CX P w) P w K mg base N_whole_root "whole_root" (defScope s_whole_root) (He.ga K "whole_root") cdv A outer s0 H0 E)) rfl
  have hu := hr.units
  exact (s_cons (s_asg e_int (g_name (pg_name (i := 1) sc_whole_root.nd rfl (Or.inl rfl))))
    (s_cons (s_asg (e_call (ok_ten Z) hr tk rfl (a_cons (e_bin o_add (e_bin o_div (e_bin o_add (e_call (ok_figures_of Z) hr tk rfl (a_cons (e_var (pv 0)) a_nil)) e_int) e_int) e_int) a_nil)) (g_name (pg_name (i := 2) sc_whole_root.nd rfl (Or.inl rfl))))
    (s_cons (s_while 100000 po (q_cmp o_gt (e_bin o_sub (e_var (pv 2)) (e_var (pv 1))) e_int (nomark _)) (s_cons (s_asg (e_bin o_div (e_bin o_add (e_var (pv 1)) (e_var (pv 2))) e_int) (g_name (pg_name (i := 3) sc_whole_root.nd rfl (Or.inl rfl))))
    (s_one (s_if (q_cmp o_le (e_bin o_mul (e_var (pv 3)) (e_var (pv 3))) (e_var (pv 0)) (nomark _)) (s_one (s_asg (e_var (pv 3)) (g_name (pg_name (i := 1) sc_whole_root.nd rfl (Or.inl rfl))))) (s_one (s_asg (e_var (pv 3)) (g_name (pg_name (i := 2) sc_whole_root.nd rfl (Or.inl rfl)))))))))
    (s_one (s_ret (e_var (pv 1)))))))
theorem sc_root : FnScope N_root ["one", "manner"] (defScope s_root) := ⟨rfl, rfl, rfl, by decide +kernel, rfl, by decide +kernel, by decide +kernel⟩
theorem ok_root (Z : Top w K mg) : OkD P w K mg base T 4 "root" 2 d_root := by
  obtain ⟨fd, Fd⟩ := Z.f_root
  refine ⟨⟨fd, ["one", "manner"], fn_ok Fd sc_root rfl fun cdv A outer s0 H0 E F0 hr => ?_, Fd.bindsN (ps := ["one", "manner"]) (fun _ _ _ _ _ _ us hl => match us, hl with | [_, _], _ => rfl)⟩, Fd.kp, Z.m_root⟩
  have tk : Takes (cxOf (L2.CX P w) P w K mg base N_root "root" (defScope s_root) (He.ga K "root") cdv A outer s0 H0 E) (WofE E) := takes_of rfl rfl rfl rfl
  have po : PassesOwn (model P w) (cxOf (L2.CX P w) P w K mg base N_root "root" (defScope s_root) (He.ga K "root") cdv A outer s0 H0 E).A (cxOf (L2.CX P w) P w K mg base N_root "root" (defScope s_root) (He.ga K "root") cdv A outer s0 H0 E).env (cxOf (L2.CX P w) P w K mg base N_root "root" (defScope s_root) (He.ga K "root") cdv A outer s0 H0 E).xe := passes_of (X := (cxOf (L2.CX P w) P w K mg base N_root "root" (defScope s_root) (He.ga K "root") cdv A outer s0 H0 E)) rfl
  have hu := hr.units
  exact (s_cons (s_asg (e_var (pv 0)) (g_tup rfl (gs_cons (g_name (pg_name (i := 2) sc_root.nd rfl (Or.inl rfl))) (gs_cons (g_name (pg_name (i := 3) sc_root.nd rfl (Or.inl rfl))) gs_nil))))
    (s_cons (s_if (q_cmp o_lt (e_var (pv 2)) e_int (nomark _)) (s_one (s_raise Z.e_NoDeed rfl tk rfl)) s_nil)
    (s_cons (s_if (q_cmp (o_eq hu) (e_var (pv 2)) e_int (nomark _)) (s_one (s_ret (e_var (pv 0)))) s_nil)
    (s_cons (s_if (q_cmp (o_eq hu) (e_bin o_mod (e_var (pv 3)) e_int) e_int (nomark _)) (s_cons (s_asg (e_bin o_mul (e_var (pv 2)) e_int) (g_name (pg_name (i := 2) sc_root.nd rfl (Or.inl rfl))))
    (s_one (s_asg (e_bin o_sub (e_var (pv 3)) e_int) (g_name (pg_name (i := 3) sc_root.nd rfl (Or.inl rfl)))))) s_nil)
    (s_cons (s_asg (e_bin o_div (e_var (pv 3)) e_int) (g_name (pg_name (i := 3) sc_root.nd rfl (Or.inl rfl))))
    (s_cons (s_while 100000 po (q_cmp o_lt (e_var (pv 2)) (e_call (ok_ten Z) hr tk rfl (a_cons (e_bin o_sub (e_bin o_mul e_int (e_gint Z.c_MOST rfl)) e_int) a_nil)) (nomark _)) (s_cons (s_asg (e_bin o_mul (e_var (pv 2)) e_int) (g_name (pg_name (i := 2) sc_root.nd rfl (Or.inl rfl))))
    (s_one (s_asg (e_bin o_sub (e_var (pv 3)) e_int) (g_name (pg_name (i := 3) sc_root.nd rfl (Or.inl rfl)))))))
    (s_cons (s_asg (e_call (ok_whole_root Z) hr tk rfl (a_cons (e_var (pv 2)) a_nil)) (g_name (pg_name (i := 4) sc_root.nd rfl (Or.inl rfl))))
    (s_cons (s_asg (e_call (ok_by_size Z) hr tk rfl (a_cons (e_var (pv 1)) (a_cons e_bl a_nil))) (g_name (pg_name (i := 5) sc_root.nd rfl (Or.inl rfl))))
    (s_cons (s_if (q_w (w_and (q_cmp (o_eq hu) (e_var (pv 5)) e_str (nomark _)) (w_and1 (q_cmp o_lt (e_bin o_mul (e_var (pv 4)) (e_var (pv 4))) (e_var (pv 2)) (nomark _))))) (s_one (s_asg (e_bin o_add (e_var (pv 4)) e_int) (g_name (pg_name (i := 4) sc_root.nd rfl (Or.inl rfl))))) s_nil)
    (s_cons (s_if (q_w (w_and (q_cmp (o_in hu) (e_var (pv 5)) (e_tup (a_cons e_str (a_cons e_str a_nil))) (by rfl)) (w_and1 (q_cmp o_lt (e_bin o_mul (e_bin o_add (e_bin o_mul e_int (e_var (pv 4))) e_int) (e_bin o_add (e_bin o_mul e_int (e_var (pv 4))) e_int)) (e_bin o_mul e_int (e_var (pv 2))) (nomark _))))) (s_one (s_asg (e_bin o_add (e_var (pv 4)) e_int) (g_name (pg_name (i := 4) sc_root.nd rfl (Or.inl rfl))))) s_nil)
    (s_one (s_ret (e_call (ok_fitted Z) hr tk rfl (a_cons (e_var (pv 4)) (a_cons (e_var (pv 3)) (a_cons e_bl (a_cons (e_var (pv 5)) a_nil)))))))))))))))))
theorem sc_is_key : FnScope N_is_key ["thing"] (defScope s_is_key) := ⟨rfl, rfl, rfl, by decide +kernel, rfl, by decide +kernel, by decide +kernel⟩
theorem ok_is_key (Z : Top w K mg) : OkD P w K mg base T 8 "is_key" 1 d_is_key := by
  obtain ⟨fd, Fd⟩ := Z.f_is_key
  refine ⟨⟨fd, ["thing"], fn_ok Fd sc_is_key rfl fun cdv A outer s0 H0 E F0 hr => ?_, Fd.bindsN (ps := ["thing"]) (fun _ _ _ _ _ _ us hl => match us, hl with | [_], _ => rfl)⟩, Fd.kp, Z.m_is_key⟩
  have tk : Takes (cxOf (L2.CX P w) P w K mg base N_is_key "is_key" (defScope s_is_key) (He.ga K "is_key") cdv A outer s0 H0 E) (WofE E) := takes_of rfl rfl rfl rfl
  have po : PassesOwn (model P w) (cxOf (L2.CX P w) P w K mg base N_is_key "is_key" (defScope s_is_key) (He.ga K "is_key") cdv A outer s0 H0 E).A (cxOf (L2.CX P w) P w K mg base N_is_key "is_key" (defScope s_is_key) (He.ga K "is_key") cdv A outer s0 H0 E).env (cxOf (L2.CX P w) P w K mg base N_is_key "is_key" (defScope s_is_key) (He.ga K "is_key") cdv A outer s0 H0 E).xe := passes_of (X := (cxOf (L2.CX P w) P w K mg base N_is_key "is_key" (defScope s_is_key) (He.ga K "is_key") cdv A outer s0 H0 E)) rfl
  have hu := hr.units
  exact (s_cons (s_if (q_not (q_val (e_callB c_isi rfl Z.b_isinstance bt_isinstance (a_cons (e_var (pv 0)) (a_cons (e_ty Z.b_str bt_str rfl) a_nil))))) (s_one (s_ret e_bl)) s_nil)
    (s_cons (s_if (q_w (w_or (q_cmp (o_in hu) (e_var (pv 0)) (e_gtup (zs := ["sign", "enter", "root", "swap", "roll", "last", "clear"]) Z.m_PLAIN_KEYS Z.c_PLAIN_KEYS rfl) (by rfl)) (w_or (q_inT Z.d_DEEDS rfl (e_var (pv 0))) (w_or1 (q_cmp (o_eq hu) (e_var (pv 0)) e_str (nomark _)))))) (s_one (s_ret e_bl)) s_nil)
    (s_cons (s_if (q_cmp (o_eq hu) (e_callB c_len rfl Z.b_len bt_len (a_cons (e_var (pv 0)) a_nil)) e_int (nomark _)) (s_one (s_ret (e_cmp (o_in hu) (e_var (pv 0)) (e_gstr Z.c_FIGURES rfl) (by rfl)))) s_nil)
    (s_one (s_ret (e_and (e_cmp (o_eq hu) (e_callB c_len rfl Z.b_len bt_len (a_cons (e_var (pv 0)) a_nil)) e_int (nomark _)) (e_and (e_cmp (o_in hu) (e_sl (e_var (pv 0)) p_none (p_some e_int)) (e_tup (a_cons e_str (a_cons e_str a_nil))) (by rfl)) (e_one (e_cmp (o_in hu) (e_ix (e_var (pv 0)) e_int) (e_gstr Z.c_FIGURES rfl) (by rfl))))))))))
theorem sc_begin : FnScope N_begin ["manner"] (defScope s_begin) := ⟨rfl, rfl, rfl, by decide +kernel, rfl, by decide +kernel, by decide +kernel⟩
theorem ok_begin (Z : Top w K mg) : OkD P w K mg base T 1 "begin" 1 d_begin := by
  obtain ⟨fd, Fd⟩ := Z.f_begin
  refine ⟨⟨fd, ["manner"], fn_ok Fd sc_begin rfl fun cdv A outer s0 H0 E F0 hr => ?_, Fd.bindsN (ps := ["manner"]) (fun _ _ _ _ _ _ us hl => match us, hl with | [_], _ => rfl)⟩, Fd.kp, Z.m_begin⟩
  have tk : Takes (cxOf (L2.CX P w) P w K mg base N_begin "begin" (defScope s_begin) (He.ga K "begin") cdv A outer s0 H0 E) (WofE E) := takes_of rfl rfl rfl rfl
  have po : PassesOwn (model P w) (cxOf (L2.CX P w) P w K mg base N_begin "begin" (defScope s_begin) (He.ga K "begin") cdv A outer s0 H0 E).A (cxOf (L2.CX P w) P w K mg base N_begin "begin" (defScope s_begin) (He.ga K "begin") cdv A outer s0 H0 E).env (cxOf (L2.CX P w) P w K mg base N_begin "begin" (defScope s_begin) (He.ga K "begin") cdv A outer s0 H0 E).xe := passes_of (X := (cxOf (L2.CX P w) P w K mg base N_begin "begin" (defScope s_begin) (He.ga K "begin") cdv A outer s0 H0 E)) rfl
  have hu := hr.units
  exact (s_one (s_ret (e_tup (a_cons (e_var (pv 0)) (a_cons (e_bin o_mul (e_tup (a_cons (e_gtupI (zs := [0, 0]) Z.m_ZERO Z.c_ZERO rfl) a_nil)) e_int) (a_cons (e_gtupI (zs := [0, 0]) Z.m_ZERO Z.c_ZERO rfl) (a_cons (e_bin o_mul (e_tup (a_cons (e_gtupI (zs := [0, 0]) Z.m_ZERO Z.c_ZERO rfl) a_nil)) (e_gint Z.c_BOXES rfl)) (a_cons e_non (a_cons e_bl (a_cons e_non a_nil))))))))))
theorem sc_told_by : FnScope N_told_by ["entry"] (defScope s_told_by) := ⟨rfl, rfl, rfl, by decide +kernel, rfl, by decide +kernel, by decide +kernel⟩
theorem ok_told_by (Z : Top w K mg) : OkD P w K mg base T 5 "told_by" 1 d_told_by := by
  obtain ⟨fd, Fd⟩ := Z.f_told_by
  refine ⟨⟨fd, ["entry"], fn_ok Fd sc_told_by rfl fun cdv A outer s0 H0 E F0 hr => ?_, Fd.bindsN (ps := ["entry"]) (fun _ _ _ _ _ _ us hl => match us, hl with | [_], _ => rfl)⟩, Fd.kp, Z.m_told_by⟩
  have tk : Takes (cxOf (L2.CX P w) P w K mg base N_told_by "told_by" (defScope s_told_by) (He.ga K "told_by") cdv A outer s0 H0 E) (WofE E) := takes_of rfl rfl rfl rfl
  have po : PassesOwn (model P w) (cxOf (L2.CX P w) P w K mg base N_told_by "told_by" (defScope s_told_by) (He.ga K "told_by") cdv A outer s0 H0 E).A (cxOf (L2.CX P w) P w K mg base N_told_by "told_by" (defScope s_told_by) (He.ga K "told_by") cdv A outer s0 H0 E).env (cxOf (L2.CX P w) P w K mg base N_told_by "told_by" (defScope s_told_by) (He.ga K "told_by") cdv A outer s0 H0 E).xe := passes_of (X := (cxOf (L2.CX P w) P w K mg base N_told_by "told_by" (defScope s_told_by) (He.ga K "told_by") cdv A outer s0 H0 E)) rfl
  have hu := hr.units
  exact (s_cons (s_asg (e_met PySem.F.plainAttrs_str PySem.F.slot_str_partition PySem.F.type_str_partition m_part (e_var (pv 0)) (a_cons e_str a_nil)) (g_tup rfl (gs_cons (g_name (pg_name (i := 1) sc_told_by.nd rfl (Or.inl rfl))) (gs_cons (g_name (pg_name (i := 2) sc_told_by.nd rfl (Or.inl rfl))) (gs_cons (g_name (pg_name (i := 3) sc_told_by.nd rfl (Or.inl rfl))) gs_nil)))))
    (s_one (s_ret (e_call (ok_exact Z) hr tk rfl (a_cons (e_callTy c_int rfl Z.b_int bt_int (a_cons (e_bin o_add (e_var (pv 1)) (e_var (pv 3))) a_nil)) (a_cons (e_call (ok_ten Z) hr tk rfl (a_cons (e_callB c_len rfl Z.b_len bt_len (a_cons (e_var (pv 3)) a_nil)) a_nil)) (a_cons e_str a_nil)))))))
theorem sc_lifted : FnScope N_lifted ["pile"] (defScope s_lifted) := ⟨rfl, rfl, rfl, by decide +kernel, rfl, by decide +kernel, by decide +kernel⟩
theorem ok_lifted (Z : Top w K mg) : OkD P w K mg base T 1 "lifted" 1 d_lifted := by
  obtain ⟨fd, Fd⟩ := Z.f_lifted
  refine ⟨⟨fd, ["pile"], fn_ok Fd sc_lifted rfl fun cdv A outer s0 H0 E F0 hr => ?_, Fd.bindsN (ps := ["pile"]) (fun _ _ _ _ _ _ us hl => match us, hl with | [_], _ => rfl)⟩, Fd.kp, Z.m_lifted⟩
  have tk : Takes (cxOf (L2.CX P w) P w K mg base N_lifted "lifted" (defScope s_lifted) (He.ga K "lifted") cdv A outer s0 H0 E) (WofE E) := takes_of rfl rfl rfl rfl
  have po : PassesOwn (model P w) (cxOf (L2.CX P w) P w K mg base N_lifted "lifted" (defScope s_lifted) (He.ga K "lifted") cdv A outer s0 H0 E).A (cxOf (L2.CX P w) P w K mg base N_lifted "lifted" (defScope s_lifted) (He.ga K "lifted") cdv A outer s0 H0 E).env (cxOf (L2.CX P w) P w K mg base N_lifted "lifted" (defScope s_lifted) (He.ga K "lifted") cdv A outer s0 H0 E).xe := passes_of (X := (cxOf (L2.CX P w) P w K mg base N_lifted "lifted" (defScope s_lifted) (He.ga K "lifted") cdv A outer s0 H0 E)) rfl
  have hu := hr.units
  exact (s_one (s_ret (e_bin o_add (e_tup (a_cons (e_ix (e_var (pv 0)) e_int) a_nil)) (e_sl (e_var (pv 0)) p_none (p_some e_int)))))
theorem sc_if_due : FnScope N_if_due ["pile", "lift"] (defScope s_if_due) := ⟨rfl, rfl, rfl, by decide +kernel, rfl, by decide +kernel, by decide +kernel⟩
theorem ok_if_due (Z : Top w K mg) : OkD P w K mg base T 2 "if_due" 2 d_if_due := by
  obtain ⟨fd, Fd⟩ := Z.f_if_due
  refine ⟨⟨fd, ["pile", "lift"], fn_ok Fd sc_if_due rfl fun cdv A outer s0 H0 E F0 hr => ?_, Fd.bindsN (ps := ["pile", "lift"]) (fun _ _ _ _ _ _ us hl => match us, hl with | [_, _], _ => rfl)⟩, Fd.kp, Z.m_if_due⟩
  have tk : Takes (cxOf (L2.CX P w) P w K mg base N_if_due "if_due" (defScope s_if_due) (He.ga K "if_due") cdv A outer s0 H0 E) (WofE E) := takes_of rfl rfl rfl rfl
  have po : PassesOwn (model P w) (cxOf (L2.CX P w) P w K mg base N_if_due "if_due" (defScope s_if_due) (He.ga K "if_due") cdv A outer s0 H0 E).A (cxOf (L2.CX P w) P w K mg base N_if_due "if_due" (defScope s_if_due) (He.ga K "if_due") cdv A outer s0 H0 E).env (cxOf (L2.CX P w) P w K mg base N_if_due "if_due" (defScope s_if_due) (He.ga K "if_due") cdv A outer s0 H0 E).xe := passes_of (X := (cxOf (L2.CX P w) P w K mg base N_if_due "if_due" (defScope s_if_due) (He.ga K "if_due") cdv A outer s0 H0 E)) rfl
  have hu := hr.units
  exact (s_cons (s_if (q_val (e_var (pv 1))) (s_one (s_ret (e_call (ok_lifted Z) hr tk rfl (a_cons (e_var (pv 0)) a_nil)))) s_nil)
    (s_one (s_ret (e_var (pv 0)))))
theorem sc_typed : FnScope N_typed ["state", "key"] (defScope s_typed) := ⟨rfl, rfl, rfl, by decide +kernel, rfl, by decide +kernel, by decide +kernel⟩
theorem ok_typed (Z : Top w K mg) : OkD P w K mg base T 6 "typed" 2 d_typed := by
  obtain ⟨fd, Fd⟩ := Z.f_typed
  refine ⟨⟨fd, ["state", "key"], fn_ok Fd sc_typed rfl fun cdv A outer s0 H0 E F0 hr => ?_, Fd.bindsN (ps := ["state", "key"]) (fun _ _ _ _ _ _ us hl => match us, hl with | [_, _], _ => rfl)⟩, Fd.kp, Z.m_typed⟩
  have tk : Takes (cxOf (L2.CX P w) P w K mg base N_typed "typed" (defScope s_typed) (He.ga K "typed") cdv A outer s0 H0 E) (WofE E) := takes_of rfl rfl rfl rfl
  have po : PassesOwn (model P w) (cxOf (L2.CX P w) P w K mg base N_typed "typed" (defScope s_typed) (He.ga K "typed") cdv A outer s0 H0 E).A (cxOf (L2.CX P w) P w K mg base N_typed "typed" (defScope s_typed) (He.ga K "typed") cdv A outer s0 H0 E).env (cxOf (L2.CX P w) P w K mg base N_typed "typed" (defScope s_typed) (He.ga K "typed") cdv A outer s0 H0 E).xe := passes_of (X := (cxOf (L2.CX P w) P w K mg base N_typed "typed" (defScope s_typed) (He.ga K "typed") cdv A outer s0 H0 E)) rfl
  have hu := hr.units
  exact (s_cons (s_asg (e_var (pv 0)) (g_tup rfl (gs_cons (g_name (pg_name (i := 2) sc_typed.nd rfl (Or.inl rfl))) (gs_cons (g_name (pg_name (i := 3) sc_typed.nd rfl (Or.inl rfl))) (gs_cons (g_name (pg_name (i := 4) sc_typed.nd rfl (Or.inl rfl))) (gs_cons (g_name (pg_name (i := 5) sc_typed.nd rfl (Or.inl rfl))) (gs_cons (g_name (pg_name (i := 6) sc_typed.nd rfl (Or.inl rfl))) (gs_cons (g_name (pg_name (i := 7) sc_typed.nd rfl (Or.inl rfl))) (gs_cons (g_name (pg_name (i := 8) sc_typed.nd rfl (Or.inl rfl))) gs_nil)))))))))
    (s_cons (s_if (q_cmp o_is (e_var (pv 6)) e_non (nomark _)) (s_cons (s_asg (e_call (ok_if_due Z) hr tk rfl (a_cons (e_var (pv 3)) (a_cons (e_var (pv 7)) a_nil))) (g_name (pg_name (i := 3) sc_typed.nd rfl (Or.inl rfl))))
    (s_one (s_asg (e_dget (ks := ["."]) (lt1 hu) (dp_cons e_str dp_nil) (e_var (pv 1)) (e_var (pv 1)) (by simp) (by decide) (by decide +kernel) ⟨rfl, rfl, rfl, rfl⟩) (g_name (pg_name (i := 6) sc_typed.nd rfl (Or.inl rfl)))))) (s_one (s_if (q_cmp (o_eq hu) (e_var (pv 1)) e_str (nomark _)) (s_one (s_if (q_cmp (o_ni hu) e_str (e_var (pv 6)) (by rfl)) (s_one (s_asg (e_bin o_add (e_var (pv 6)) (e_var (pv 1))) (g_name (pg_name (i := 6) sc_typed.nd rfl (Or.inl rfl))))) s_nil)) (s_one (s_if (q_cmp o_lt (e_callB c_len rfl Z.b_len bt_len (a_cons (e_lc (x := "sign") (i := 9) rfl sc_typed.nd (i_any (e_var (pv 6))) (blkOk_by (N := N_typed) (sc := defScope s_typed) (by decide +kernel)) (fun _ _ _ _ _ => pg_name (i := 9) sc_typed.nd rfl (Or.inl rfl)) (fun _ _ _ _ _ => (ts_one (q_cmp (o_in hu) (e_var (pv 9)) (e_gstr Z.c_FIGURES rfl) (by rfl)))) (fun _ _ _ _ _ => (e_var (pv 9)))) a_nil)) (e_gint Z.c_MOST rfl) (nomark _)) (s_one (s_asg (e_bin o_add (e_var (pv 6)) (e_var (pv 1))) (g_name (pg_name (i := 6) sc_typed.nd rfl (Or.inl rfl))))) s_nil)))))
    (s_one (s_ret (e_tup (a_cons (e_var (pv 2)) (a_cons (e_bin o_add (e_tup (a_cons (e_call (ok_told_by Z) hr tk rfl (a_cons (e_var (pv 6)) a_nil)) a_nil)) (e_sl (e_var (pv 3)) (p_some e_int) p_none)) (a_cons (e_var (pv 4)) (a_cons (e_var (pv 5)) (a_cons (e_var (pv 6)) (a_cons (e_var (pv 7)) (a_cons (e_var (pv 8)) a_nil))))))))))))
theorem sc_signed : FnScope N_signed ["state"] (defScope s_signed) := ⟨rfl, rfl, rfl, by decide +kernel, rfl, by decide +kernel, by decide +kernel⟩
theorem ok_signed (Z : Top w K mg) : OkD P w K mg base T 6 "signed" 1 d_signed := by
  obtain ⟨fd, Fd⟩ := Z.f_signed
  refine ⟨⟨fd, ["state"], fn_ok Fd sc_signed rfl fun cdv A outer s0 H0 E F0 hr => ?_, Fd.bindsN (ps := ["state"]) (fun _ _ _ _ _ _ us hl => match us, hl with | [_], _ => rfl)⟩, Fd.kp, Z.m_signed⟩
  have tk : Takes (cxOf (L2.CX P w) P w K mg base N_signed "signed" (defScope s_signed) (He.ga K "signed") cdv A outer s0 H0 E) (WofE E) := takes_of rfl rfl rfl rfl
  have po : PassesOwn (model P w) (cxOf (L2.CX P w) P w K mg base N_signed "signed" (defScope s_signed) (He.ga K "signed") cdv A outer s0 H0 E).A (cxOf (L2.CX P w) P w K mg base N_signed "signed" (defScope s_signed) (He.ga K "signed") cdv A outer s0 H0 E).env (cxOf (L2.CX P w) P w K mg base N_signed "signed" (defScope s_signed) (He.ga K "signed") cdv A outer s0 H0 E).xe := passes_of (X := (cxOf (L2.CX P w) P w K mg base N_signed "signed" (defScope s_signed) (He.ga K "signed") cdv A outer s0 H0 E)) rfl
  have hu := hr.units
  exact (s_cons (s_asg (e_var (pv 0)) (g_tup rfl (gs_cons (g_name (pg_name (i := 1) sc_signed.nd rfl (Or.inl rfl))) (gs_cons (g_name (pg_name (i := 2) sc_signed.nd rfl (Or.inl rfl))) (gs_cons (g_name (pg_name (i := 3) sc_signed.nd rfl (Or.inl rfl))) (gs_cons (g_name (pg_name (i := 4) sc_signed.nd rfl (Or.inl rfl))) (gs_cons (g_name (pg_name (i := 5) sc_signed.nd rfl (Or.inl rfl))) (gs_cons (g_name (pg_name (i := 6) sc_signed.nd rfl (Or.inl rfl))) (gs_cons (g_name (pg_name (i := 7) sc_signed.nd rfl (Or.inl rfl))) gs_nil)))))))))
    (s_cons (s_if (q_cmp o_is (e_var (pv 5)) e_non (nomark _)) (s_one (s_ret (e_tup (a_cons (e_var (pv 1)) (a_cons (e_bin o_add (e_tup (a_cons (e_call (ok_turned Z) hr tk rfl (a_cons (e_ix (e_var (pv 2)) e_int) a_nil)) a_nil)) (e_sl (e_var (pv 2)) (p_some e_int) p_none)) (a_cons (e_var (pv 3)) (a_cons (e_var (pv 4)) (a_cons e_non (a_cons e_bl (a_cons (e_var (pv 7)) a_nil)))))))))) s_nil)
    (s_cons (s_if (q_val (e_met PySem.F.plainAttrs_str PySem.F.slot_str_startswith PySem.F.type_str_startswith m_starts (e_var (pv 5)) (a_cons e_str a_nil))) (s_one (s_asg (e_sl (e_var (pv 5)) (p_some e_int) p_none) (g_name (pg_name (i := 5) sc_signed.nd rfl (Or.inl rfl))))) (s_one (s_asg (e_bin o_add e_str (e_var (pv 5))) (g_name (pg_name (i := 5) sc_signed.nd rfl (Or.inl rfl))))))
    (s_one (s_ret (e_tup (a_cons (e_var (pv 1)) (a_cons (e_bin o_add (e_tup (a_cons (e_call (ok_told_by Z) hr tk rfl (a_cons (e_var (pv 5)) a_nil)) a_nil)) (e_sl (e_var (pv 2)) (p_some e_int) p_none)) (a_cons (e_var (pv 3)) (a_cons (e_var (pv 4)) (a_cons (e_var (pv 5)) (a_cons (e_var (pv 6)) (a_cons (e_var (pv 7)) a_nil)))))))))))))
theorem sc_told_of : FnScope N_told_of ["key", "manner", "pile"] (defScope s_told_of) := ⟨rfl, rfl, rfl, by decide +kernel, rfl, by decide +kernel, by decide +kernel⟩
theorem ok_told_of (Z : Top w K mg) : OkD P w K mg base T 8 "told_of" 3 d_told_of := by
  obtain ⟨fd, Fd⟩ := Z.f_told_of
  refine ⟨⟨fd, ["key", "manner", "pile"], fn_ok Fd sc_told_of rfl fun cdv A outer s0 H0 E F0 hr => ?_, Fd.bindsN (ps := ["key", "manner", "pile"]) (fun _ _ _ _ _ _ us hl => match us, hl with | [_, _, _], _ => rfl)⟩, Fd.kp, Z.m_told_of⟩
  have tk : Takes (cxOf (L2.CX P w) P w K mg base N_told_of "told_of" (defScope s_told_of) (He.ga K "told_of") cdv A outer s0 H0 E) (WofE E) := takes_of rfl rfl rfl rfl
  have po : PassesOwn (model P w) (cxOf (L2.CX P w) P w K mg base N_told_of "told_of" (defScope s_told_of) (He.ga K "told_of") cdv A outer s0 H0 E).A (cxOf (L2.CX P w) P w K mg base N_told_of "told_of" (defScope s_told_of) (He.ga K "told_of") cdv A outer s0 H0 E).env (cxOf (L2.CX P w) P w K mg base N_told_of "told_of" (defScope s_told_of) (He.ga K "told_of") cdv A outer s0 H0 E).xe := passes_of (X := (cxOf (L2.CX P w) P w K mg base N_told_of "told_of" (defScope s_told_of) (He.ga K "told_of") cdv A outer s0 H0 E)) rfl
  have hu := hr.units
  exact (s_cons (s_if (q_cmp (o_eq hu) (e_var (pv 0)) e_str (nomark _)) (s_one (s_ret (e_bin o_add (e_tup (a_cons (e_call (ok_root Z) hr tk rfl (a_cons (e_ix (e_var (pv 2)) e_int) (a_cons (e_var (pv 1)) a_nil))) a_nil)) (e_sl (e_var (pv 2)) (p_some e_int) p_none)))) s_nil)
    (s_cons (s_asg (e_tabF Z.d_DEEDS rfl (e_var (pv 0))) (g_name (pg_name (i := 3) sc_told_of.nd rfl (Or.inl rfl))))
    (s_one (s_ret (e_tup (a_cons (e_callF (fun n g (h : (if n = "plus" then some (fun ds => if ds.length = 3 then d_plus ds else .bad) else (if n = "minus" then some (fun ds => if ds.length = 3 then d_minus ds else .bad) else (if n = "times" then some (fun ds => if ds.length = 3 then d_times ds else .bad) else (if n = "over" then some (fun ds => if ds.length = 3 then d_over ds else .bad) else none)))) = some g) => (if q : n = "plus" then (by subst q; rw [if_pos rfl] at h; cases h; exact ⟨_, _, _, by omega, ok_plus Z, fun _ => rfl⟩) else (by rw [if_neg q] at h; exact (if q : n = "minus" then (by subst q; rw [if_pos rfl] at h; cases h; exact ⟨_, _, _, by omega, ok_minus Z, fun _ => rfl⟩) else (by rw [if_neg q] at h; exact (if q : n = "times" then (by subst q; rw [if_pos rfl] at h; cases h; exact ⟨_, _, _, by omega, ok_times Z, fun _ => rfl⟩) else (by rw [if_neg q] at h; exact (if q : n = "over" then (by subst q; rw [if_pos rfl] at h; cases h; exact ⟨_, _, _, by omega, ok_over Z, fun _ => rfl⟩) else (by rw [if_neg q] at h; exact (by cases h)))))))))) hr tk rfl (by first | exact Or.inl rfl | exact Or.inr (Or.inl rfl)) (a_cons (e_ix (e_var (pv 2)) e_int) (a_cons (e_ix (e_var (pv 2)) e_int) (a_cons (e_var (pv 1)) a_nil)))) (a_cons (e_ix (e_var (pv 2)) e_int) (a_cons (e_ix (e_var (pv 2)) e_int) (a_cons (e_ix (e_var (pv 2)) e_int) a_nil)))))))))
theorem sc_with_deed : FnScope N_with_deed ["state", "key"] (defScope s_with_deed) := ⟨rfl, rfl, rfl, by decide +kernel, rfl, by decide +kernel, by decide +kernel⟩
theorem ok_with_deed (Z : Top w K mg) : OkD P w K mg base T 9 "with_deed" 2 d_with_deed := by
  obtain ⟨fd, Fd⟩ := Z.f_with_deed
  refine ⟨⟨fd, ["state", "key"], fn_ok Fd sc_with_deed rfl fun cdv A outer s0 H0 E F0 hr => ?_, Fd.bindsN (ps := ["state", "key"]) (fun _ _ _ _ _ _ us hl => match us, hl with | [_, _], _ => rfl)⟩, Fd.kp, Z.m_with_deed⟩
  have tk : Takes (cxOf (L2.CX P w) P w K mg base N_with_deed "with_deed" (defScope s_with_deed) (He.ga K "with_deed") cdv A outer s0 H0 E) (WofE E) := takes_of rfl rfl rfl rfl
  have po : PassesOwn (model P w) (cxOf (L2.CX P w) P w K mg base N_with_deed "with_deed" (defScope s_with_deed) (He.ga K "with_deed") cdv A outer s0 H0 E).A (cxOf (L2.CX P w) P w K mg base N_with_deed "with_deed" (defScope s_with_deed) (He.ga K "with_deed") cdv A outer s0 H0 E).env (cxOf (L2.CX P w) P w K mg base N_with_deed "with_deed" (defScope s_with_deed) (He.ga K "with_deed") cdv A outer s0 H0 E).xe := passes_of (X := (cxOf (L2.CX P w) P w K mg base N_with_deed "with_deed" (defScope s_with_deed) (He.ga K "with_deed") cdv A outer s0 H0 E)) rfl
  have hu := hr.units
  exact (s_cons (s_asg (e_var (pv 0)) (g_tup rfl (gs_cons (g_name (pg_name (i := 2) sc_with_deed.nd rfl (Or.inl rfl))) (gs_cons (g_name (pg_name (i := 3) sc_with_deed.nd rfl (Or.inl rfl))) (gs_cons (g_name (pg_name (i := 4) sc_with_deed.nd rfl (Or.inl rfl))) (gs_cons (g_name (pg_name (i := 5) sc_with_deed.nd rfl (Or.inl rfl))) (gs_cons (g_name (pg_name (i := 6) sc_with_deed.nd rfl (Or.inl rfl))) (gs_cons (g_name (pg_name (i := 7) sc_with_deed.nd rfl (Or.inl rfl))) (gs_cons (g_name (pg_name (i := 8) sc_with_deed.nd rfl (Or.inl rfl))) gs_nil)))))))))
    (s_cons (s_try2 rfl rfl ⟨rfl, by decide, .inl Z.x_NoDeed_TooGreat.1⟩ ⟨rfl, by decide, .inl Z.x_NoDeed_TooGreat.2.1⟩ Z.x_NoDeed_TooGreat.2.2.1 Z.x_NoDeed_TooGreat.2.2.2.1 Z.x_NoDeed_TooGreat.2.2.2.2 (fun _ _ _ tk po => (s_one (s_asg (e_call (ok_told_of Z) hr tk rfl (a_cons (e_var (pv 1)) (a_cons (e_var (pv 2)) (a_cons (e_var (pv 3)) a_nil)))) (g_name (pg_name (i := 9) sc_with_deed.nd rfl (Or.inl rfl)))))) (fun _ _ _ => (s_one (s_ret (e_tup (a_cons (e_var (pv 2)) (a_cons (e_var (pv 3)) (a_cons (e_var (pv 4)) (a_cons (e_var (pv 5)) (a_cons e_non (a_cons (e_var (pv 7)) (a_cons e_str a_nil))))))))))) (fun _ _ _ => (s_one (s_ret (e_tup (a_cons (e_var (pv 2)) (a_cons (e_var (pv 3)) (a_cons (e_var (pv 4)) (a_cons (e_var (pv 5)) (a_cons e_non (a_cons (e_var (pv 7)) (a_cons e_str a_nil))))))))))))
    (s_one (s_ret (e_tup (a_cons (e_var (pv 2)) (a_cons (e_var (pv 9)) (a_cons (e_ix (e_var (pv 3)) e_int) (a_cons (e_var (pv 5)) (a_cons e_non (a_cons e_bl (a_cons (e_var (pv 8)) a_nil))))))))))))
theorem sc_with_box : FnScope N_with_box ["state", "key"] (defScope s_with_box) := ⟨rfl, rfl, rfl, by decide +kernel, rfl, by decide +kernel, by decide +kernel⟩
theorem ok_with_box (Z : Top w K mg) : OkD P w K mg base T 3 "with_box" 2 d_with_box := by
  obtain ⟨fd, Fd⟩ := Z.f_with_box
  refine ⟨⟨fd, ["state", "key"], fn_ok Fd sc_with_box rfl fun cdv A outer s0 H0 E F0 hr => ?_, Fd.bindsN (ps := ["state", "key"]) (fun _ _ _ _ _ _ us hl => match us, hl with | [_, _], _ => rfl)⟩, Fd.kp, Z.m_with_box⟩
  have tk : Takes (cxOf (L2.CX P w) P w K mg base N_with_box "with_box" (defScope s_with_box) (He.ga K "with_box") cdv A outer s0 H0 E) (WofE E) := takes_of rfl rfl rfl rfl
  have po : PassesOwn (model P w) (cxOf (L2.CX P w) P w K mg base N_with_box "with_box" (defScope s_with_box) (He.ga K "with_box") cdv A outer s0 H0 E).A (cxOf (L2.CX P w) P w K mg base N_with_box "with_box" (defScope s_with_box) (He.ga K "with_box") cdv A outer s0 H0 E).env (cxOf (L2.CX P w) P w K mg base N_with_box "with_box" (defScope s_with_box) (He.ga K "with_box") cdv A outer s0 H0 E).xe := passes_of (X := (cxOf (L2.CX P w) P w K mg base N_with_box "with_box" (defScope s_with_box) (He.ga K "with_box") cdv A outer s0 H0 E)) rfl
  have hu := hr.units
  exact (s_cons (s_asg (e_var (pv 0)) (g_tup rfl (gs_cons (g_name (pg_name (i := 2) sc_with_box.nd rfl (Or.inl rfl))) (gs_cons (g_name (pg_name (i := 3) sc_with_box.nd rfl (Or.inl rfl))) (gs_cons (g_name (pg_name (i := 4) sc_with_box.nd rfl (Or.inl rfl))) (gs_cons (g_name (pg_name (i := 5) sc_with_box.nd rfl (Or.inl rfl))) (gs_cons (g_name (pg_name (i := 6) sc_with_box.nd rfl (Or.inl rfl))) (gs_cons (g_name (pg_name (i := 7) sc_with_box.nd rfl (Or.inl rfl))) (gs_cons (g_name (pg_name (i := 8) sc_with_box.nd rfl (Or.inl rfl))) gs_nil)))))))))
    (s_cons (s_asg (e_callTy c_int rfl Z.b_int bt_int (a_cons (e_ix (e_var (pv 1)) e_int) a_nil)) (g_name (pg_name (i := 9) sc_with_box.nd rfl (Or.inl rfl))))
    (s_cons (s_if (q_val (e_met PySem.F.plainAttrs_str PySem.F.slot_str_startswith PySem.F.type_str_startswith m_starts (e_var (pv 1)) (a_cons e_str a_nil))) (s_cons (s_asg (e_bin o_add (e_bin o_add (e_sl (e_var (pv 5)) p_none (p_some (e_var (pv 9)))) (e_tup (a_cons (e_ix (e_var (pv 3)) e_int) a_nil))) (e_sl (e_var (pv 5)) (p_some (e_bin o_add (e_var (pv 9)) e_int)) p_none)) (g_name (pg_name (i := 5) sc_with_box.nd rfl (Or.inl rfl))))
    (s_one (s_ret (e_tup (a_cons (e_var (pv 2)) (a_cons (e_var (pv 3)) (a_cons (e_var (pv 4)) (a_cons (e_var (pv 5)) (a_cons e_non (a_cons e_bl (a_cons (e_var (pv 8)) a_nil))))))))))) s_nil)
    (s_one (s_ret (e_tup (a_cons (e_var (pv 2)) (a_cons (e_bin o_add (e_tup (a_cons (e_ix (e_var (pv 5)) (e_var (pv 9))) a_nil)) (e_sl (e_call (ok_if_due Z) hr tk rfl (a_cons (e_var (pv 3)) (a_cons (e_var (pv 7)) a_nil))) (p_some e_int) p_none)) (a_cons (e_var (pv 4)) (a_cons (e_var (pv 5)) (a_cons e_non (a_cons e_bl (a_cons (e_var (pv 8)) a_nil)))))))))))))
theorem sc_moved : FnScope N_moved ["state", "key"] (defScope s_moved) := ⟨rfl, rfl, rfl, by decide +kernel, rfl, by decide +kernel, by decide +kernel⟩
theorem ok_moved (Z : Top w K mg) : OkD P w K mg base T 3 "moved" 2 d_moved := by
  obtain ⟨fd, Fd⟩ := Z.f_moved
  refine ⟨⟨fd, ["state", "key"], fn_ok Fd sc_moved rfl fun cdv A outer s0 H0 E F0 hr => ?_, Fd.bindsN (ps := ["state", "key"]) (fun _ _ _ _ _ _ us hl => match us, hl with | [_, _], _ => rfl)⟩, Fd.kp, Z.m_moved⟩
  have tk : Takes (cxOf (L2.CX P w) P w K mg base N_moved "moved" (defScope s_moved) (He.ga K "moved") cdv A outer s0 H0 E) (WofE E) := takes_of rfl rfl rfl rfl
  have po : PassesOwn (model P w) (cxOf (L2.CX P w) P w K mg base N_moved "moved" (defScope s_moved) (He.ga K "moved") cdv A outer s0 H0 E).A (cxOf (L2.CX P w) P w K mg base N_moved "moved" (defScope s_moved) (He.ga K "moved") cdv A outer s0 H0 E).env (cxOf (L2.CX P w) P w K mg base N_moved "moved" (defScope s_moved) (He.ga K "moved") cdv A outer s0 H0 E).xe := passes_of (X := (cxOf (L2.CX P w) P w K mg base N_moved "moved" (defScope s_moved) (He.ga K "moved") cdv A outer s0 H0 E)) rfl
  have hu := hr.units
  exact (s_cons (s_asg (e_var (pv 0)) (g_tup rfl (gs_cons (g_name (pg_name (i := 2) sc_moved.nd rfl (Or.inl rfl))) (gs_cons (g_name (pg_name (i := 3) sc_moved.nd rfl (Or.inl rfl))) (gs_cons (g_name (pg_name (i := 4) sc_moved.nd rfl (Or.inl rfl))) (gs_cons (g_name (pg_name (i := 5) sc_moved.nd rfl (Or.inl rfl))) (gs_cons (g_name (pg_name (i := 6) sc_moved.nd rfl (Or.inl rfl))) (gs_cons (g_name (pg_name (i := 7) sc_moved.nd rfl (Or.inl rfl))) (gs_cons (g_name (pg_name (i := 8) sc_moved.nd rfl (Or.inl rfl))) gs_nil)))))))))
    (s_cons (s_if (q_cmp (o_eq hu) (e_var (pv 1)) e_str (nomark _)) (s_one (s_ret (e_tup (a_cons (e_var (pv 2)) (a_cons (e_call (ok_lifted Z) hr tk rfl (a_cons (e_var (pv 3)) a_nil)) (a_cons (e_var (pv 4)) (a_cons (e_var (pv 5)) (a_cons e_non (a_cons e_bl (a_cons (e_var (pv 8)) a_nil)))))))))) s_nil)
    (s_cons (s_if (q_cmp (o_eq hu) (e_var (pv 1)) e_str (nomark _)) (s_one (s_ret (e_tup (a_cons (e_var (pv 2)) (a_cons (e_bin o_add (e_tup (a_cons (e_ix (e_var (pv 3)) e_int) (a_cons (e_ix (e_var (pv 3)) e_int) a_nil))) (e_sl (e_var (pv 3)) (p_some e_int) p_none)) (a_cons (e_var (pv 4)) (a_cons (e_var (pv 5)) (a_cons e_non (a_cons e_bl (a_cons (e_var (pv 8)) a_nil)))))))))) s_nil)
    (s_cons (s_if (q_cmp (o_eq hu) (e_var (pv 1)) e_str (nomark _)) (s_one (s_ret (e_tup (a_cons (e_var (pv 2)) (a_cons (e_bin o_add (e_sl (e_var (pv 3)) (p_some e_int) p_none) (e_sl (e_var (pv 3)) p_none (p_some e_int))) (a_cons (e_var (pv 4)) (a_cons (e_var (pv 5)) (a_cons e_non (a_cons e_bl (a_cons (e_var (pv 8)) a_nil)))))))))) s_nil)
    (s_cons (s_if (q_cmp (o_eq hu) (e_var (pv 1)) e_str (nomark _)) (s_one (s_ret (e_tup (a_cons (e_var (pv 2)) (a_cons (e_bin o_add (e_tup (a_cons (e_var (pv 4)) a_nil)) (e_sl (e_call (ok_if_due Z) hr tk rfl (a_cons (e_var (pv 3)) (a_cons (e_var (pv 7)) a_nil))) (p_some e_int) p_none)) (a_cons (e_var (pv 4)) (a_cons (e_var (pv 5)) (a_cons e_non (a_cons e_bl (a_cons (e_var (pv 8)) a_nil)))))))))) s_nil)
    (s_one (s_ret (e_tup (a_cons (e_var (pv 2)) (a_cons (e_bin o_add (e_tup (a_cons (e_gtupI (zs := [0, 0]) Z.m_ZERO Z.c_ZERO rfl) a_nil)) (e_sl (e_var (pv 3)) (p_some e_int) p_none)) (a_cons (e_var (pv 4)) (a_cons (e_var (pv 5)) (a_cons e_non (a_cons e_bl (a_cons (e_var (pv 8)) a_nil)))))))))))))))
theorem sc_pressed : FnScope N_pressed ["state", "key"] (defScope s_pressed) := ⟨rfl, rfl, rfl, by decide +kernel, rfl, by decide +kernel, by decide +kernel⟩
theorem ok_pressed (Z : Top w K mg) : OkD P w K mg base T 10 "pressed" 2 d_pressed := by
  obtain ⟨fd, Fd⟩ := Z.f_pressed
  refine ⟨⟨fd, ["state", "key"], fn_ok Fd sc_pressed rfl fun cdv A outer s0 H0 E F0 hr => ?_, Fd.bindsN (ps := ["state", "key"]) (fun _ _ _ _ _ _ us hl => match us, hl with | [_, _], _ => rfl)⟩, Fd.kp, Z.m_pressed⟩
  have tk : Takes (cxOf (L2.CX P w) P w K mg base N_pressed "pressed" (defScope s_pressed) (He.ga K "pressed") cdv A outer s0 H0 E) (WofE E) := takes_of rfl rfl rfl rfl
  have po : PassesOwn (model P w) (cxOf (L2.CX P w) P w K mg base N_pressed "pressed" (defScope s_pressed) (He.ga K "pressed") cdv A outer s0 H0 E).A (cxOf (L2.CX P w) P w K mg base N_pressed "pressed" (defScope s_pressed) (He.ga K "pressed") cdv A outer s0 H0 E).env (cxOf (L2.CX P w) P w K mg base N_pressed "pressed" (defScope s_pressed) (He.ga K "pressed") cdv A outer s0 H0 E).xe := passes_of (X := (cxOf (L2.CX P w) P w K mg base N_pressed "pressed" (defScope s_pressed) (He.ga K "pressed") cdv A outer s0 H0 E)) rfl
  have hu := hr.units
  exact (s_cons (s_if (q_not (q_val (e_call (ok_is_key Z) hr tk rfl (a_cons (e_var (pv 1)) a_nil)))) (s_one (s_raise Z.e_NoKey rfl tk rfl)) s_nil)
    (s_cons (s_if (q_cmp o_isNot (e_ix (e_var (pv 0)) e_int) e_non (nomark _)) (s_cons (s_if (q_cmp (o_ne hu) (e_var (pv 1)) e_str (nomark _)) (s_one (s_ret (e_var (pv 0)))) s_nil)
    (s_one (s_ret (e_bin o_add (e_sl (e_var (pv 0)) p_none (p_some e_int)) (e_tup (a_cons e_non (a_cons e_bl (a_cons e_non a_nil)))))))) s_nil)
    (s_cons (s_if (q_w (w_or (q_cmp (o_eq hu) (e_var (pv 1)) e_str (nomark _)) (w_or1 (q_cmp (o_in hu) (e_var (pv 1)) (e_gstr Z.c_FIGURES rfl) (by rfl))))) (s_one (s_ret (e_call (ok_typed Z) hr tk rfl (a_cons (e_var (pv 0)) (a_cons (e_var (pv 1)) a_nil))))) s_nil)
    (s_cons (s_if (q_cmp (o_eq hu) (e_var (pv 1)) e_str (nomark _)) (s_one (s_ret (e_call (ok_signed Z) hr tk rfl (a_cons (e_var (pv 0)) a_nil)))) s_nil)
    (s_cons (s_if (q_w (w_or (q_inT Z.d_DEEDS rfl (e_var (pv 1))) (w_or1 (q_cmp (o_eq hu) (e_var (pv 1)) e_str (nomark _))))) (s_one (s_ret (e_call (ok_with_deed Z) hr tk rfl (a_cons (e_var (pv 0)) (a_cons (e_var (pv 1)) a_nil))))) s_nil)
    (s_cons (s_if (q_w (w_and (q_cmp (o_eq hu) (e_callB c_len rfl Z.b_len bt_len (a_cons (e_var (pv 1)) a_nil)) e_int (nomark _)) (w_and1 (q_cmp (o_in hu) (e_ix (e_var (pv 1)) e_int) (e_gstr Z.c_FIGURES rfl) (by rfl))))) (s_one (s_ret (e_call (ok_with_box Z) hr tk rfl (a_cons (e_var (pv 0)) (a_cons (e_var (pv 1)) a_nil))))) s_nil)
    (s_one (s_ret (e_call (ok_moved Z) hr tk rfl (a_cons (e_var (pv 0)) (a_cons (e_var (pv 1)) a_nil)))))))))))
theorem sc_run : FnScope N_run ["state", "row"] (defScope s_run) := ⟨rfl, rfl, rfl, by decide +kernel, rfl, by decide +kernel, by decide +kernel⟩
theorem ok_run (Z : Top w K mg) : OkD P w K mg base T 11 "run" 2 d_run := by
  obtain ⟨fd, Fd⟩ := Z.f_run
  refine ⟨⟨fd, ["state", "row"], fn_ok Fd sc_run rfl fun cdv A outer s0 H0 E F0 hr => ?_, Fd.bindsN (ps := ["state", "row"]) (fun _ _ _ _ _ _ us hl => match us, hl with | [_, _], _ => rfl)⟩, Fd.kp, Z.m_run⟩
  have tk : Takes (cxOf (L2.CX P w) P w K mg base N_run "run" (defScope s_run) (He.ga K "run") cdv A outer s0 H0 E) (WofE E) := takes_of rfl rfl rfl rfl
  have po : PassesOwn (model P w) (cxOf (L2.CX P w) P w K mg base N_run "run" (defScope s_run) (He.ga K "run") cdv A outer s0 H0 E).A (cxOf (L2.CX P w) P w K mg base N_run "run" (defScope s_run) (He.ga K "run") cdv A outer s0 H0 E).env (cxOf (L2.CX P w) P w K mg base N_run "run" (defScope s_run) (He.ga K "run") cdv A outer s0 H0 E).xe := passes_of (X := (cxOf (L2.CX P w) P w K mg base N_run "run" (defScope s_run) (He.ga K "run") cdv A outer s0 H0 E)) rfl
  have hu := hr.units
  exact (s_cons (s_for po rfl (i_any (e_var (pv 1))) (g_name (pg_name (i := 2) sc_run.nd rfl (Or.inl rfl))) (s_one (s_asg (e_call (ok_pressed Z) hr tk rfl (a_cons (e_var (pv 0)) (a_cons (e_var (pv 2)) a_nil))) (g_name (pg_name (i := 0) sc_run.nd rfl (Or.inl rfl))))))
    (s_one (s_ret (e_var (pv 0)))))
theorem sc_behind_mark : FnScope N_behind_mark ["program", "figure"] (defScope s_behind_mark) := ⟨rfl, rfl, rfl, by decide +kernel, rfl, by decide +kernel, by decide +kernel⟩
theorem ok_behind_mark (Z : Top w K mg) : OkD P w K mg base T 1 "behind_mark" 2 d_behind_mark := by
  obtain ⟨fd, Fd⟩ := Z.f_behind_mark
  refine ⟨⟨fd, ["program", "figure"], fn_ok Fd sc_behind_mark rfl fun cdv A outer s0 H0 E F0 hr => ?_, Fd.bindsN (ps := ["program", "figure"]) (fun _ _ _ _ _ _ us hl => match us, hl with | [_, _], _ => rfl)⟩, Fd.kp, Z.m_behind_mark⟩
  have tk : Takes (cxOf (L2.CX P w) P w K mg base N_behind_mark "behind_mark" (defScope s_behind_mark) (He.ga K "behind_mark") cdv A outer s0 H0 E) (WofE E) := takes_of rfl rfl rfl rfl
  have po : PassesOwn (model P w) (cxOf (L2.CX P w) P w K mg base N_behind_mark "behind_mark" (defScope s_behind_mark) (He.ga K "behind_mark") cdv A outer s0 H0 E).A (cxOf (L2.CX P w) P w K mg base N_behind_mark "behind_mark" (defScope s_behind_mark) (He.ga K "behind_mark") cdv A outer s0 H0 E).env (cxOf (L2.CX P w) P w K mg base N_behind_mark "behind_mark" (defScope s_behind_mark) (He.ga K "behind_mark") cdv A outer s0 H0 E).xe := passes_of (X := (cxOf (L2.CX P w) P w K mg base N_behind_mark "behind_mark" (defScope s_behind_mark) (He.ga K "behind_mark") cdv A outer s0 H0 E)) rfl
  have hu := hr.units
  exact (s_cons (s_if (q_cmp o_niP (e_bin o_add e_str (e_var (pv 1))) (e_var (pv 0)) (by rfl)) (s_one (s_ret e_non)) s_nil)
    (s_one (s_ret (e_bin o_add (e_indexP (e_var (pv 0)) (a_cons (e_bin o_add e_str (e_var (pv 1))) a_nil)) e_int))))
theorem sc_is_so : FnScope N_is_so ["word", "pile"] (defScope s_is_so) := ⟨rfl, rfl, rfl, by decide +kernel, rfl, by decide +kernel, by decide +kernel⟩
theorem ok_is_so (Z : Top w K mg) : OkD P w K mg base T 4 "is_so" 2 d_is_so := by
  obtain ⟨fd, Fd⟩ := Z.f_is_so
  refine ⟨⟨fd, ["word", "pile"], fn_ok Fd sc_is_so rfl fun cdv A outer s0 H0 E F0 hr => ?_, Fd.bindsN (ps := ["word", "pile"]) (fun _ _ _ _ _ _ us hl => match us, hl with | [_, _], _ => rfl)⟩, Fd.kp, Z.m_is_so⟩
  have tk : Takes (cxOf (L2.CX P w) P w K mg base N_is_so "is_so" (defScope s_is_so) (He.ga K "is_so") cdv A outer s0 H0 E) (WofE E) := takes_of rfl rfl rfl rfl
  have po : PassesOwn (model P w) (cxOf (L2.CX P w) P w K mg base N_is_so "is_so" (defScope s_is_so) (He.ga K "is_so") cdv A outer s0 H0 E).A (cxOf (L2.CX P w) P w K mg base N_is_so "is_so" (defScope s_is_so) (He.ga K "is_so") cdv A outer s0 H0 E).env (cxOf (L2.CX P w) P w K mg base N_is_so "is_so" (defScope s_is_so) (He.ga K "is_so") cdv A outer s0 H0 E).xe := passes_of (X := (cxOf (L2.CX P w) P w K mg base N_is_so "is_so" (defScope s_is_so) (He.ga K "is_so") cdv A outer s0 H0 E)) rfl
  have hu := hr.units
  exact (s_cons (s_if (q_cmp (o_eq hu) (e_var (pv 0)) e_str (nomark _)) (s_one (s_ret (e_call (ok_less Z) hr tk rfl (a_cons (e_ix (e_var (pv 1)) e_int) (a_cons (e_ix (e_var (pv 1)) e_int) a_nil))))) s_nil)
    (s_cons (s_if (q_cmp (o_eq hu) (e_var (pv 0)) e_str (nomark _)) (s_one (s_ret (e_cmp (o_eq hu) (e_ix (e_var (pv 1)) e_int) (e_ix (e_var (pv 1)) e_int) (nomark _)))) s_nil)
    (s_one (s_ret (e_cmp (o_eq hu) (e_ix (e_var (pv 1)) e_int) (e_gtupI (zs := [0, 0]) Z.m_ZERO Z.c_ZERO rfl) (nomark _))))))
theorem sc_led : FnScope N_led ["program", "state", "place"] (defScope s_led) := ⟨rfl, rfl, rfl, by decide +kernel, rfl, by decide +kernel, by decide +kernel⟩
theorem ok_led (Z : Top w K mg) : OkD P w K mg base T 2 "led" 3 d_led := by
  obtain ⟨fd, Fd⟩ := Z.f_led
  refine ⟨⟨fd, ["program", "state", "place"], fn_ok Fd sc_led rfl fun cdv A outer s0 H0 E F0 hr => ?_, Fd.bindsN (ps := ["program", "state", "place"]) (fun _ _ _ _ _ _ us hl => match us, hl with | [_, _, _], _ => rfl)⟩, Fd.kp, Z.m_led⟩
  have tk : Takes (cxOf (L2.CX P w) P w K mg base N_led "led" (defScope s_led) (He.ga K "led") cdv A outer s0 H0 E) (WofE E) := takes_of rfl rfl rfl rfl
  have po : PassesOwn (model P w) (cxOf (L2.CX P w) P w K mg base N_led "led" (defScope s_led) (He.ga K "led") cdv A outer s0 H0 E).A (cxOf (L2.CX P w) P w K mg base N_led "led" (defScope s_led) (He.ga K "led") cdv A outer s0 H0 E).env (cxOf (L2.CX P w) P w K mg base N_led "led" (defScope s_led) (He.ga K "led") cdv A outer s0 H0 E).xe := passes_of (X := (cxOf (L2.CX P w) P w K mg base N_led "led" (defScope s_led) (He.ga K "led") cdv A outer s0 H0 E)) rfl
  have hu := hr.units
  exact (s_cons (s_asg (e_var (pv 2)) (g_tup rfl (gs_cons (g_name (pg_name (i := 3) sc_led.nd rfl (Or.inl rfl))) (gs_cons (g_name (pg_name (i := 4) sc_led.nd rfl (Or.inl rfl))) gs_nil))))
    (s_cons (s_asg (e_ixP (e_var (pv 0)) (e_var (pv 3))) (g_name (pg_name (i := 5) sc_led.nd rfl (Or.inl rfl))))
    (s_cons (s_if (q_cmp (o_eq hu) (e_var (pv 5)) e_str (nomark _)) (s_cons (s_if (q_cmp (o_eq hu) (e_callB c_len rfl Z.b_len bt_len (a_cons (e_var (pv 4)) a_nil)) e_int (nomark _)) (s_one (s_ret e_non)) s_nil)
    (s_one (s_ret (e_tup (a_cons (e_ix (e_var (pv 4)) (e_una u_neg e_int)) (a_cons (e_sl (e_var (pv 4)) p_none (p_some (e_una u_neg e_int))) a_nil)))))) s_nil)
    (s_cons (s_asg (e_call (ok_behind_mark Z) hr tk rfl (a_cons (e_var (pv 0)) (a_cons (e_ix (e_var (pv 5)) (e_una u_neg e_int)) a_nil))) (g_name (pg_name (i := 6) sc_led.nd rfl (Or.inl rfl))))
    (s_cons (s_if (q_cmp o_is (e_var (pv 6)) e_non (nomark _)) (s_one (s_ret e_non)) s_nil)
    (s_cons (s_if (q_val (e_met PySem.F.plainAttrs_str PySem.F.slot_str_startswith PySem.F.type_str_startswith m_starts (e_var (pv 5)) (a_cons e_str a_nil))) (s_one (s_ret (e_tup (a_cons (e_var (pv 6)) (a_cons (e_var (pv 4)) a_nil))))) s_nil)
    (s_cons (s_if (q_cmp (o_eq hu) (e_callB c_len rfl Z.b_len bt_len (a_cons (e_var (pv 4)) a_nil)) (e_gint Z.c_MOST_CALLS rfl) (nomark _)) (s_one (s_ret e_non)) s_nil)
    (s_one (s_ret (e_tup (a_cons (e_var (pv 6)) (a_cons (e_bin o_add (e_var (pv 4)) (e_tup (a_cons (e_bin o_add (e_var (pv 3)) e_int) a_nil))) a_nil))))))))))))
theorem sc_step : FnScope N_step ["program", "state", "place"] (defScope s_step) := ⟨rfl, rfl, rfl, by decide +kernel, rfl, by decide +kernel, by decide +kernel⟩
theorem ok_step (Z : Top w K mg) : OkD P w K mg base T 11 "step" 3 d_step := by
  obtain ⟨fd, Fd⟩ := Z.f_step
  refine ⟨⟨fd, ["program", "state", "place"], fn_ok Fd sc_step rfl fun cdv A outer s0 H0 E F0 hr => ?_, Fd.bindsN (ps := ["program", "state", "place"]) (fun _ _ _ _ _ _ us hl => match us, hl with | [_, _, _], _ => rfl)⟩, Fd.kp, Z.m_step⟩
  have tk : Takes (cxOf (L2.CX P w) P w K mg base N_step "step" (defScope s_step) (He.ga K "step") cdv A outer s0 H0 E) (WofE E) := takes_of rfl rfl rfl rfl
  have po : PassesOwn (model P w) (cxOf (L2.CX P w) P w K mg base N_step "step" (defScope s_step) (He.ga K "step") cdv A outer s0 H0 E).A (cxOf (L2.CX P w) P w K mg base N_step "step" (defScope s_step) (He.ga K "step") cdv A outer s0 H0 E).env (cxOf (L2.CX P w) P w K mg base N_step "step" (defScope s_step) (He.ga K "step") cdv A outer s0 H0 E).xe := passes_of (X := (cxOf (L2.CX P w) P w K mg base N_step "step" (defScope s_step) (He.ga K "step") cdv A outer s0 H0 E)) rfl
  have hu := hr.units
  exact (s_cons (s_asg (e_var (pv 2)) (g_tup rfl (gs_cons (g_name (pg_name (i := 3) sc_step.nd rfl (Or.inl rfl))) (gs_cons (g_name (pg_name (i := 4) sc_step.nd rfl (Or.inl rfl))) gs_nil))))
    (s_cons (s_if (q_w (w_or (q_not (q_chn o_le o_lt e_int (e_var (pv 3)) (e_callB c_lenP rfl Z.b_len bt_len (a_cons (e_var (pv 0)) a_nil)))) (w_or1 (q_cmp (o_eq hu) (e_ixP (e_var (pv 0)) (e_var (pv 3))) e_str (nomark _))))) (s_one (s_ret (e_tup (a_cons (e_var (pv 1)) (a_cons (e_var (pv 2)) (a_cons e_str a_nil)))))) s_nil)
    (s_cons (s_asg (e_ixP (e_var (pv 0)) (e_var (pv 3))) (g_name (pg_name (i := 5) sc_step.nd rfl (Or.inl rfl))))
    (s_cons (s_if (q_val (e_call (ok_is_key Z) hr tk rfl (a_cons (e_var (pv 5)) a_nil))) (s_cons (s_asg (e_call (ok_pressed Z) hr tk rfl (a_cons (e_var (pv 1)) (a_cons (e_var (pv 5)) a_nil))) (g_name (pg_name (i := 6) sc_step.nd rfl (Or.inl rfl))))
    (s_cons (s_if (q_cmp o_isNot (e_ix (e_var (pv 6)) e_int) e_non (nomark _)) (s_one (s_ret (e_tup (a_cons (e_var (pv 6)) (a_cons (e_var (pv 2)) (a_cons e_str a_nil)))))) s_nil)
    (s_one (s_ret (e_tup (a_cons (e_var (pv 6)) (a_cons (e_tup (a_cons (e_bin o_add (e_var (pv 3)) e_int) (a_cons (e_var (pv 4)) a_nil))) (a_cons e_str a_nil)))))))) s_nil)
    (s_cons (s_if (q_cmp (o_in hu) (e_var (pv 5)) (e_tup (a_cons e_str (a_cons e_str (a_cons e_str a_nil)))) (by rfl)) (s_cons (s_asg (e_bin o_add (e_bin o_add (e_sl (e_var (pv 1)) p_none (p_some e_int)) (e_tup (a_cons e_non (a_cons e_bl a_nil)))) (e_sl (e_var (pv 1)) (p_some e_int) p_none)) (g_name (pg_name (i := 6) sc_step.nd rfl (Or.inl rfl))))
    (s_one (s_ret (e_tup (a_cons (e_var (pv 6)) (a_cons (e_tup (a_cons (e_bin o_sub (e_bin o_add (e_var (pv 3)) e_int) (e_callTy c_int rfl Z.b_int bt_int (a_cons (e_call (ok_is_so Z) hr tk rfl (a_cons (e_var (pv 5)) (a_cons (e_ix (e_var (pv 1)) e_int) a_nil))) a_nil))) (a_cons (e_var (pv 4)) a_nil))) (a_cons e_str a_nil))))))) s_nil)
    (s_cons (s_if (q_val (e_met PySem.F.plainAttrs_str PySem.F.slot_str_startswith PySem.F.type_str_startswith m_starts (e_var (pv 5)) (a_cons e_str a_nil))) (s_one (s_ret (e_tup (a_cons (e_var (pv 1)) (a_cons (e_tup (a_cons (e_bin o_add (e_var (pv 3)) e_int) (a_cons (e_var (pv 4)) a_nil))) (a_cons e_str a_nil)))))) s_nil)
    (s_cons (s_asg (e_call (ok_led Z) hr tk rfl (a_cons (e_var (pv 0)) (a_cons (e_var (pv 1)) (a_cons (e_var (pv 2)) a_nil)))) (g_name (pg_name (i := 7) sc_step.nd rfl (Or.inl rfl))))
    (s_cons (s_if (q_cmp o_is (e_var (pv 7)) e_non (nomark _)) (s_one (s_ret (e_tup (a_cons (e_var (pv 1)) (a_cons (e_var (pv 2)) (a_cons e_str a_nil)))))) s_nil)
    (s_one (s_ret (e_tup (a_cons (e_var (pv 1)) (a_cons (e_var (pv 7)) (a_cons e_str a_nil))))))))))))))
theorem sc__law_cell_at : FnScope N__law_cell_at ["script", "k"] (defScope s__law_cell_at) := ⟨rfl, rfl, rfl, by decide +kernel, rfl, by decide +kernel, by decide +kernel⟩
theorem ok__law_cell_at (Z : Top w K mg) : OkD P w K mg base T 1 "_law_cell_at" 2 d__law_cell_at := by
  obtain ⟨fd, Fd⟩ := Z.f__law_cell_at
  refine ⟨⟨fd, ["script", "k"], fn_ok Fd sc__law_cell_at rfl fun cdv A outer s0 H0 E F0 hr => ?_, Fd.bindsN (ps := ["script", "k"]) (fun _ _ _ _ _ _ us hl => match us, hl with | [_, _], _ => rfl)⟩, Fd.kp, Z.m__law_cell_at⟩
  have tk : Takes (cxOf (L2.CX P w) P w K mg base N__law_cell_at "_law_cell_at" (defScope s__law_cell_at) (He.ga K "_law_cell_at") cdv A outer s0 H0 E) (WofE E) := takes_of rfl rfl rfl rfl
  have po : PassesOwn (model P w) (cxOf (L2.CX P w) P w K mg base N__law_cell_at "_law_cell_at" (defScope s__law_cell_at) (He.ga K "_law_cell_at") cdv A outer s0 H0 E).A (cxOf (L2.CX P w) P w K mg base N__law_cell_at "_law_cell_at" (defScope s__law_cell_at) (He.ga K "_law_cell_at") cdv A outer s0 H0 E).env (cxOf (L2.CX P w) P w K mg base N__law_cell_at "_law_cell_at" (defScope s__law_cell_at) (He.ga K "_law_cell_at") cdv A outer s0 H0 E).xe := passes_of (X := (cxOf (L2.CX P w) P w K mg base N__law_cell_at "_law_cell_at" (defScope s__law_cell_at) (He.ga K "_law_cell_at") cdv A outer s0 H0 E)) rfl
  have hu := hr.units
  exact (s_cons (s_if (q_cmp o_lt (e_var (pv 1)) (e_callB c_len rfl Z.b_len bt_len (a_cons (e_var (pv 0)) a_nil)) (nomark _)) (s_one (s_ret (e_ix (e_var (pv 0)) (e_var (pv 1))))) s_nil)
    (s_one (s_ret e_int)))
theorem sc__law_mixed : FnScope N__law_mixed ["script", "k"] (defScope s__law_mixed) := ⟨rfl, rfl, rfl, by decide +kernel, rfl, by decide +kernel, by decide +kernel⟩
theorem ok__law_mixed (Z : Top w K mg) : OkD P w K mg base T 2 "_law_mixed" 2 d__law_mixed := by
  obtain ⟨fd, Fd⟩ := Z.f__law_mixed
  refine ⟨⟨fd, ["script", "k"], fn_ok Fd sc__law_mixed rfl fun cdv A outer s0 H0 E F0 hr => ?_, Fd.bindsN (ps := ["script", "k"]) (fun _ _ _ _ _ _ us hl => match us, hl with | [_, _], _ => rfl)⟩, Fd.kp, Z.m__law_mixed⟩
  have tk : Takes (cxOf (L2.CX P w) P w K mg base N__law_mixed "_law_mixed" (defScope s__law_mixed) (He.ga K "_law_mixed") cdv A outer s0 H0 E) (WofE E) := takes_of rfl rfl rfl rfl
  have po : PassesOwn (model P w) (cxOf (L2.CX P w) P w K mg base N__law_mixed "_law_mixed" (defScope s__law_mixed) (He.ga K "_law_mixed") cdv A outer s0 H0 E).A (cxOf (L2.CX P w) P w K mg base N__law_mixed "_law_mixed" (defScope s__law_mixed) (He.ga K "_law_mixed") cdv A outer s0 H0 E).env (cxOf (L2.CX P w) P w K mg base N__law_mixed "_law_mixed" (defScope s__law_mixed) (He.ga K "_law_mixed") cdv A outer s0 H0 E).xe := passes_of (X := (cxOf (L2.CX P w) P w K mg base N__law_mixed "_law_mixed" (defScope s__law_mixed) (He.ga K "_law_mixed") cdv A outer s0 H0 E)) rfl
  have hu := hr.units
  exact (s_cons (s_asg (e_bin o_mod (e_bin o_mul (e_bin o_add (e_bin o_add (e_call (ok__law_cell_at Z) hr tk rfl (a_cons (e_var (pv 0)) (a_cons (e_var (pv 1)) a_nil))) (e_bin o_mul e_int (e_var (pv 1)))) e_int) e_int) e_int) (g_name (pg_name (i := 2) sc__law_mixed.nd rfl (Or.inl rfl))))
    (s_one (s_ret (e_bin o_mod (e_bin o_add (e_bin o_add (e_bin o_mul (e_var (pv 2)) (e_var (pv 2))) (e_bin o_mul e_int (e_var (pv 2)))) (e_var (pv 1))) e_int))))
theorem sc__law_drawn : FnScope N__law_drawn ["number", "k"] (defScope s__law_drawn) := ⟨rfl, rfl, rfl, by decide +kernel, rfl, by decide +kernel, by decide +kernel⟩
theorem ok__law_drawn (Z : Top w K mg) : OkD P w K mg base T 1 "_law_drawn" 2 d__law_drawn := by
  obtain ⟨fd, Fd⟩ := Z.f__law_drawn
  refine ⟨⟨fd, ["number", "k"], fn_ok Fd sc__law_drawn rfl fun cdv A outer s0 H0 E F0 hr => ?_, Fd.bindsN (ps := ["number", "k"]) (fun _ _ _ _ _ _ us hl => match us, hl with | [_, _], _ => rfl)⟩, Fd.kp, Z.m__law_drawn⟩
  have tk : Takes (cxOf (L2.CX P w) P w K mg base N__law_drawn "_law_drawn" (defScope s__law_drawn) (He.ga K "_law_drawn") cdv A outer s0 H0 E) (WofE E) := takes_of rfl rfl rfl rfl
  have po : PassesOwn (model P w) (cxOf (L2.CX P w) P w K mg base N__law_drawn "_law_drawn" (defScope s__law_drawn) (He.ga K "_law_drawn") cdv A outer s0 H0 E).A (cxOf (L2.CX P w) P w K mg base N__law_drawn "_law_drawn" (defScope s__law_drawn) (He.ga K "_law_drawn") cdv A outer s0 H0 E).env (cxOf (L2.CX P w) P w K mg base N__law_drawn "_law_drawn" (defScope s__law_drawn) (He.ga K "_law_drawn") cdv A outer s0 H0 E).xe := passes_of (X := (cxOf (L2.CX P w) P w K mg base N__law_drawn "_law_drawn" (defScope s__law_drawn) (He.ga K "_law_drawn") cdv A outer s0 H0 E)) rfl
  have hu := hr.units
  exact (s_cons (s_asg (e_bin o_mod (e_bin o_mul (e_bin o_add (e_bin o_add (e_var (pv 0)) (e_bin o_mul e_int (e_var (pv 1)))) e_int) e_int) e_int) (g_name (pg_name (i := 2) sc__law_drawn.nd rfl (Or.inl rfl))))
    (s_one (s_ret (e_bin o_mod (e_bin o_add (e_bin o_add (e_bin o_mul (e_var (pv 2)) (e_var (pv 2))) (e_bin o_mul e_int (e_var (pv 2)))) (e_var (pv 1))) e_int))))
theorem sc__law_ten : FnScope N__law_ten ["power"] (defScope s__law_ten) := ⟨rfl, rfl, rfl, by decide +kernel, rfl, by decide +kernel, by decide +kernel⟩
theorem ok__law_ten (Z : Top w K mg) : OkD P w K mg base T 1 "_law_ten" 1 d__law_ten := by
  obtain ⟨fd, Fd⟩ := Z.f__law_ten
  refine ⟨⟨fd, ["power"], fn_ok Fd sc__law_ten rfl fun cdv A outer s0 H0 E F0 hr => ?_, Fd.bindsN (ps := ["power"]) (fun _ _ _ _ _ _ us hl => match us, hl with | [_], _ => rfl)⟩, Fd.kp, Z.m__law_ten⟩
  have tk : Takes (cxOf (L2.CX P w) P w K mg base N__law_ten "_law_ten" (defScope s__law_ten) (He.ga K "_law_ten") cdv A outer s0 H0 E) (WofE E) := takes_of rfl rfl rfl rfl
  have po : PassesOwn (model P w) (cxOf (L2.CX P w) P w K mg base N__law_ten "_law_ten" (defScope s__law_ten) (He.ga K "_law_ten") cdv A outer s0 H0 E).A (cxOf (L2.CX P w) P w K mg base N__law_ten "_law_ten" (defScope s__law_ten) (He.ga K "_law_ten") cdv A outer s0 H0 E).env (cxOf (L2.CX P w) P w K mg base N__law_ten "_law_ten" (defScope s__law_ten) (He.ga K "_law_ten") cdv A outer s0 H0 E).xe := passes_of (X := (cxOf (L2.CX P w) P w K mg base N__law_ten "_law_ten" (defScope s__law_ten) (He.ga K "_law_ten") cdv A outer s0 H0 E)) rfl
  have hu := hr.units
  exact (s_cons (s_asg e_int (g_name (pg_name (i := 1) sc__law_ten.nd rfl (Or.inl rfl))))
    (s_cons (s_for po rfl (i_rng1 rfl Z.b_range (a_cons (e_var (pv 0)) a_nil)) (g_name (pg_name (i := 2) sc__law_ten.nd rfl (Or.inl rfl))) (s_one (s_asg (e_bin o_mul (e_var (pv 1)) e_int) (g_name (pg_name (i := 1) sc__law_ten.nd rfl (Or.inl rfl))))))
    (s_one (s_ret (e_var (pv 1))))))
theorem sc__law_height : FnScope N__law_height ["number"] (defScope s__law_height) := ⟨rfl, rfl, rfl, by decide +kernel, rfl, by decide +kernel, by decide +kernel⟩
theorem ok__law_height (Z : Top w K mg) : OkD P w K mg base T 1 "_law_height" 1 d__law_height := by
  obtain ⟨fd, Fd⟩ := Z.f__law_height
  refine ⟨⟨fd, ["number"], fn_ok Fd sc__law_height rfl fun cdv A outer s0 H0 E F0 hr => ?_, Fd.bindsN (ps := ["number"]) (fun _ _ _ _ _ _ us hl => match us, hl with | [_], _ => rfl)⟩, Fd.kp, Z.m__law_height⟩
  have tk : Takes (cxOf (L2.CX P w) P w K mg base N__law_height "_law_height" (defScope s__law_height) (He.ga K "_law_height") cdv A outer s0 H0 E) (WofE E) := takes_of rfl rfl rfl rfl
  have po : PassesOwn (model P w) (cxOf (L2.CX P w) P w K mg base N__law_height "_law_height" (defScope s__law_height) (He.ga K "_law_height") cdv A outer s0 H0 E).A (cxOf (L2.CX P w) P w K mg base N__law_height "_law_height" (defScope s__law_height) (He.ga K "_law_height") cdv A outer s0 H0 E).env (cxOf (L2.CX P w) P w K mg base N__law_height "_law_height" (defScope s__law_height) (He.ga K "_law_height") cdv A outer s0 H0 E).xe := passes_of (X := (cxOf (L2.CX P w) P w K mg base N__law_height "_law_height" (defScope s__law_height) (He.ga K "_law_height") cdv A outer s0 H0 E)) rfl
  have hu := hr.units
  exact (s_one (s_ret (e_bin o_sub (e_bin o_add (e_ix (e_var (pv 0)) e_int) (e_callB c_len rfl Z.b_len bt_len (a_cons (e_callTy c_str rfl Z.b_str bt_str (a_cons (e_callB c_abs rfl Z.b_abs bt_abs (a_cons (e_ix (e_var (pv 0)) e_int) a_nil)) a_nil)) a_nil))) e_int)))
theorem sc__law_tidy : FnScope N__law_tidy ["digits", "power"] (defScope s__law_tidy) := ⟨rfl, rfl, rfl, by decide +kernel, rfl, by decide +kernel, by decide +kernel⟩
theorem ok__law_tidy (Z : Top w K mg) : OkD P w K mg base T 1 "_law_tidy" 2 d__law_tidy := by
  obtain ⟨fd, Fd⟩ := Z.f__law_tidy
  refine ⟨⟨fd, ["digits", "power"], fn_ok Fd sc__law_tidy rfl fun cdv A outer s0 H0 E F0 hr => ?_, Fd.bindsN (ps := ["digits", "power"]) (fun _ _ _ _ _ _ us hl => match us, hl with | [_, _], _ => rfl)⟩, Fd.kp, Z.m__law_tidy⟩
  have tk : Takes (cxOf (L2.CX P w) P w K mg base N__law_tidy "_law_tidy" (defScope s__law_tidy) (He.ga K "_law_tidy") cdv A outer s0 H0 E) (WofE E) := takes_of rfl rfl rfl rfl
  have po : PassesOwn (model P w) (cxOf (L2.CX P w) P w K mg base N__law_tidy "_law_tidy" (defScope s__law_tidy) (He.ga K "_law_tidy") cdv A outer s0 H0 E).A (cxOf (L2.CX P w) P w K mg base N__law_tidy "_law_tidy" (defScope s__law_tidy) (He.ga K "_law_tidy") cdv A outer s0 H0 E).env (cxOf (L2.CX P w) P w K mg base N__law_tidy "_law_tidy" (defScope s__law_tidy) (He.ga K "_law_tidy") cdv A outer s0 H0 E).xe := passes_of (X := (cxOf (L2.CX P w) P w K mg base N__law_tidy "_law_tidy" (defScope s__law_tidy) (He.ga K "_law_tidy") cdv A outer s0 H0 E)) rfl
  have hu := hr.units
  exact (s_cons (s_if (q_cmp (o_eq hu) (e_var (pv 0)) e_int (nomark _)) (s_one (s_ret (e_tup (a_cons e_int (a_cons e_int a_nil))))) s_nil)
    (s_cons (s_while 100000 po (q_cmp (o_eq hu) (e_bin o_mod (e_var (pv 0)) e_int) e_int (nomark _)) (s_cons (s_asg (e_bin o_div (e_var (pv 0)) e_int) (g_name (pg_name (i := 0) sc__law_tidy.nd rfl (Or.inl rfl))))
    (s_one (s_asg (e_bin o_add (e_var (pv 1)) e_int) (g_name (pg_name (i := 1) sc__law_tidy.nd rfl (Or.inl rfl)))))))
    (s_one (s_ret (e_tup (a_cons (e_var (pv 0)) (a_cons (e_var (pv 1)) a_nil)))))))
theorem sc__law_exact : FnScope N__law_exact ["upper", "lower", "manner"] (defScope s__law_exact) := ⟨rfl, rfl, rfl, by decide +kernel, rfl, by decide +kernel, by decide +kernel⟩
theorem ok__law_exact (Z : Top w K mg) : OkD P w K mg base T 2 "_law_exact" 3 d__law_exact := by
  obtain ⟨fd, Fd⟩ := Z.f__law_exact
  refine ⟨⟨fd, ["upper", "lower", "manner"], fn_ok Fd sc__law_exact rfl fun cdv A outer s0 H0 E F0 hr => ?_, Fd.bindsN (ps := ["upper", "lower", "manner"]) (fun _ _ _ _ _ _ us hl => match us, hl with | [_, _, _], _ => rfl)⟩, Fd.kp, Z.m__law_exact⟩
  have tk : Takes (cxOf (L2.CX P w) P w K mg base N__law_exact "_law_exact" (defScope s__law_exact) (He.ga K "_law_exact") cdv A outer s0 H0 E) (WofE E) := takes_of rfl rfl rfl rfl
  have po : PassesOwn (model P w) (cxOf (L2.CX P w) P w K mg base N__law_exact "_law_exact" (defScope s__law_exact) (He.ga K "_law_exact") cdv A outer s0 H0 E).A (cxOf (L2.CX P w) P w K mg base N__law_exact "_law_exact" (defScope s__law_exact) (He.ga K "_law_exact") cdv A outer s0 H0 E).env (cxOf (L2.CX P w) P w K mg base N__law_exact "_law_exact" (defScope s__law_exact) (He.ga K "_law_exact") cdv A outer s0 H0 E).xe := passes_of (X := (cxOf (L2.CX P w) P w K mg base N__law_exact "_law_exact" (defScope s__law_exact) (He.ga K "_law_exact") cdv A outer s0 H0 E)) rfl
  have hu := hr.units
  exact (s_cons (s_if (q_cmp o_lt (e_var (pv 1)) e_int (nomark _)) (s_cons (s_asg (e_una u_neg (e_var (pv 0))) (g_name (pg_name (i := 0) sc__law_exact.nd rfl (Or.inl rfl))))
    (s_one (s_asg (e_una u_neg (e_var (pv 1))) (g_name (pg_name (i := 1) sc__law_exact.nd rfl (Or.inl rfl)))))) s_nil)
    (s_cons (s_if (q_cmp (o_eq hu) (e_var (pv 0)) e_int (nomark _)) (s_one (s_ret (e_tup (a_cons e_int (a_cons e_int a_nil))))) s_nil)
    (s_cons (s_asg (e_bin o_sub (e_bin o_sub (e_callB c_len rfl Z.b_len bt_len (a_cons (e_callTy c_str rfl Z.b_str bt_str (a_cons (e_callB c_abs rfl Z.b_abs bt_abs (a_cons (e_var (pv 0)) a_nil)) a_nil)) a_nil)) (e_callB c_len rfl Z.b_len bt_len (a_cons (e_callTy c_str rfl Z.b_str bt_str (a_cons (e_var (pv 1)) a_nil)) a_nil))) e_int) (g_name (pg_name (i := 3) sc__law_exact.nd rfl (Or.inl rfl))))
    (s_cons (s_while 100000 po (q_cmp o_lt (e_bin o_mul (e_callB c_abs rfl Z.b_abs bt_abs (a_cons (e_var (pv 0)) a_nil)) (e_call (ok__law_ten Z) hr tk rfl (a_cons (e_callB (c_max rfl) rfl Z.b_max bt_max (a_cons (e_una u_neg (e_var (pv 3))) (a_cons e_int a_nil))) a_nil))) (e_bin o_mul (e_var (pv 1)) (e_call (ok__law_ten Z) hr tk rfl (a_cons (e_bin o_add (e_callB (c_max rfl) rfl Z.b_max bt_max (a_cons (e_var (pv 3)) (a_cons e_int a_nil))) e_int) a_nil))) (nomark _)) (s_one (s_asg (e_bin o_sub (e_var (pv 3)) e_int) (g_name (pg_name (i := 3) sc__law_exact.nd rfl (Or.inl rfl))))))
    (s_cons (s_asg (e_bin o_mul (e_var (pv 0)) (e_call (ok__law_ten Z) hr tk rfl (a_cons (e_callB (c_max rfl) rfl Z.b_max bt_max (a_cons (e_una u_neg (e_var (pv 3))) (a_cons e_int a_nil))) a_nil))) (g_name (pg_name (i := 0) sc__law_exact.nd rfl (Or.inl rfl))))
    (s_cons (s_asg (e_bin o_mul (e_var (pv 1)) (e_call (ok__law_ten Z) hr tk rfl (a_cons (e_callB (c_max rfl) rfl Z.b_max bt_max (a_cons (e_var (pv 3)) (a_cons e_int a_nil))) a_nil))) (g_name (pg_name (i := 1) sc__law_exact.nd rfl (Or.inl rfl))))
    (s_cons (s_asg (e_bin o_div (e_var (pv 0)) (e_var (pv 1))) (g_name (pg_name (i := 4) sc__law_exact.nd rfl (Or.inl rfl))))
    (s_cons (s_asg (e_bin o_sub (e_bin o_mul e_int (e_var (pv 0))) (e_bin o_mul (e_bin o_add (e_bin o_mul e_int (e_var (pv 4))) e_int) (e_var (pv 1)))) (g_name (pg_name (i := 5) sc__law_exact.nd rfl (Or.inl rfl))))
    (s_cons (s_if (q_cmp o_gt (e_bin o_mod (e_var (pv 0)) (e_var (pv 1))) e_int (nomark _)) (s_one (s_if (q_w (w_and (q_cmp (o_in hu) (e_var (pv 2)) (e_tup (a_cons e_str (a_cons e_str a_nil))) (by rfl)) (w_and1 (q_cmp (o_eq hu) (e_var (pv 5)) e_int (nomark _))))) (s_one (s_asg (e_bin o_add (e_var (pv 4)) (e_ix (e_lst (a_cons (e_bin o_mod (e_var (pv 4)) e_int) (a_cons (e_callTy c_int rfl Z.b_int bt_int (a_cons (e_cmp o_gt (e_var (pv 0)) e_int (nomark _)) a_nil)) a_nil))) (e_callTy c_int rfl Z.b_int bt_int (a_cons (e_cmp (o_eq hu) (e_var (pv 2)) e_str (nomark _)) a_nil)))) (g_name (pg_name (i := 4) sc__law_exact.nd rfl (Or.inl rfl))))) (s_one (s_if (q_cmp (o_in hu) (e_var (pv 2)) (e_tup (a_cons e_str (a_cons e_str a_nil))) (by rfl)) (s_one (s_asg (e_bin o_add (e_var (pv 4)) (e_callTy c_int rfl Z.b_int bt_int (a_cons (e_cmp o_gt (e_var (pv 5)) e_int (nomark _)) a_nil))) (g_name (pg_name (i := 4) sc__law_exact.nd rfl (Or.inl rfl))))) (s_one (s_asg (e_bin o_add (e_var (pv 4)) (e_callTy c_int rfl Z.b_int bt_int (a_cons (e_or (e_cmp (o_eq hu) (e_var (pv 2)) e_str (nomark _)) (e_one (e_and (e_cmp (o_eq hu) (e_var (pv 2)) e_str (nomark _)) (e_one (e_cmp o_lt (e_var (pv 0)) e_int (nomark _)))))) a_nil))) (g_name (pg_name (i := 4) sc__law_exact.nd rfl (Or.inl rfl))))))))) s_nil)
    (s_cons (s_asg (e_call (ok__law_tidy Z) hr tk rfl (a_cons (e_var (pv 4)) (a_cons (e_var (pv 3)) a_nil))) (g_name (pg_name (i := 6) sc__law_exact.nd rfl (Or.inl rfl))))
    (s_cons (s_if (q_cmp o_gt (e_call (ok__law_height Z) hr tk rfl (a_cons (e_var (pv 6)) a_nil)) e_int (nomark _)) (s_one (s_ret e_non)) s_nil)
    (s_cons (s_if (q_cmp o_lt (e_call (ok__law_height Z) hr tk rfl (a_cons (e_var (pv 6)) a_nil)) (e_una u_neg e_int) (nomark _)) (s_one (s_ret (e_call (ok__law_tidy Z) hr tk rfl (a_cons (e_bin o_sub (e_callTy c_int rfl Z.b_int bt_int (a_cons (e_and (e_cmp (o_eq hu) (e_var (pv 2)) e_str (nomark _)) (e_one (e_cmp o_gt (e_var (pv 0)) e_int (nomark _)))) a_nil)) (e_callTy c_int rfl Z.b_int bt_int (a_cons (e_and (e_cmp (o_eq hu) (e_var (pv 2)) e_str (nomark _)) (e_one (e_cmp o_lt (e_var (pv 0)) e_int (nomark _)))) a_nil))) (a_cons (e_una u_neg e_int) a_nil))))) s_nil)
    (s_one (s_ret (e_var (pv 6))))))))))))))))
theorem sc__law_manner : FnScope N__law_manner ["number"] (defScope s__law_manner) := ⟨rfl, rfl, rfl, by decide +kernel, rfl, by decide +kernel, by decide +kernel⟩
theorem ok__law_manner (Z : Top w K mg) : OkD P w K mg base T 1 "_law_manner" 1 d__law_manner := by
  obtain ⟨fd, Fd⟩ := Z.f__law_manner
  refine ⟨⟨fd, ["number"], fn_ok Fd sc__law_manner rfl fun cdv A outer s0 H0 E F0 hr => ?_, Fd.bindsN (ps := ["number"]) (fun _ _ _ _ _ _ us hl => match us, hl with | [_], _ => rfl)⟩, Fd.kp, Z.m__law_manner⟩
  have tk : Takes (cxOf (L2.CX P w) P w K mg base N__law_manner "_law_manner" (defScope s__law_manner) (He.ga K "_law_manner") cdv A outer s0 H0 E) (WofE E) := takes_of rfl rfl rfl rfl
  have po : PassesOwn (model P w) (cxOf (L2.CX P w) P w K mg base N__law_manner "_law_manner" (defScope s__law_manner) (He.ga K "_law_manner") cdv A outer s0 H0 E).A (cxOf (L2.CX P w) P w K mg base N__law_manner "_law_manner" (defScope s__law_manner) (He.ga K "_law_manner") cdv A outer s0 H0 E).env (cxOf (L2.CX P w) P w K mg base N__law_manner "_law_manner" (defScope s__law_manner) (He.ga K "_law_manner") cdv A outer s0 H0 E).xe := passes_of (X := (cxOf (L2.CX P w) P w K mg base N__law_manner "_law_manner" (defScope s__law_manner) (He.ga K "_law_manner") cdv A outer s0 H0 E)) rfl
  have hu := hr.units
  exact (s_one (s_ret (e_ix (e_tup (a_cons e_str (a_cons e_str (a_cons e_str (a_cons e_str (a_cons e_str a_nil)))))) (e_bin o_mod (e_var (pv 0)) e_int))))
theorem sc__law_deed : FnScope N__law_deed ["word", "one", "other", "manner"] (defScope s__law_deed) := ⟨rfl, rfl, rfl, by decide +kernel, rfl, by decide +kernel, by decide +kernel⟩
theorem ok__law_deed (Z : Top w K mg) : OkD P w K mg base T 3 "_law_deed" 4 d__law_deed := by
  obtain ⟨fd, Fd⟩ := Z.f__law_deed
  refine ⟨⟨fd, ["word", "one", "other", "manner"], fn_ok Fd sc__law_deed rfl fun cdv A outer s0 H0 E F0 hr => ?_, Fd.bindsN (ps := ["word", "one", "other", "manner"]) (fun _ _ _ _ _ _ us hl => match us, hl with | [_, _, _, _], _ => rfl)⟩, Fd.kp, Z.m__law_deed⟩
  have tk : Takes (cxOf (L2.CX P w) P w K mg base N__law_deed "_law_deed" (defScope s__law_deed) (He.ga K "_law_deed") cdv A outer s0 H0 E) (WofE E) := takes_of rfl rfl rfl rfl
  have po : PassesOwn (model P w) (cxOf (L2.CX P w) P w K mg base N__law_deed "_law_deed" (defScope s__law_deed) (He.ga K "_law_deed") cdv A outer s0 H0 E).A (cxOf (L2.CX P w) P w K mg base N__law_deed "_law_deed" (defScope s__law_deed) (He.ga K "_law_deed") cdv A outer s0 H0 E).env (cxOf (L2.CX P w) P w K mg base N__law_deed "_law_deed" (defScope s__law_deed) (He.ga K "_law_deed") cdv A outer s0 H0 E).xe := passes_of (X := (cxOf (L2.CX P w) P w K mg base N__law_deed "_law_deed" (defScope s__law_deed) (He.ga K "_law_deed") cdv A outer s0 H0 E)) rfl
  have hu := hr.units
  exact (s_cons (s_if (q_cmp (o_eq hu) (e_var (pv 0)) e_str (nomark _)) (s_cons (s_asg (e_bin o_add (e_ix (e_var (pv 1)) e_int) (e_ix (e_var (pv 2)) e_int)) (g_name (pg_name (i := 4) sc__law_deed.nd rfl (Or.inl rfl))))
    (s_one (s_ret (e_call (ok__law_exact Z) hr tk rfl (a_cons (e_bin o_mul (e_bin o_mul (e_ix (e_var (pv 1)) e_int) (e_ix (e_var (pv 2)) e_int)) (e_call (ok__law_ten Z) hr tk rfl (a_cons (e_callB (c_max rfl) rfl Z.b_max bt_max (a_cons (e_var (pv 4)) (a_cons e_int a_nil))) a_nil))) (a_cons (e_call (ok__law_ten Z) hr tk rfl (a_cons (e_callB (c_max rfl) rfl Z.b_max bt_max (a_cons (e_una u_neg (e_var (pv 4))) (a_cons e_int a_nil))) a_nil)) (a_cons (e_var (pv 3)) a_nil))))))) s_nil)
    (s_cons (s_if (q_cmp (o_eq hu) (e_var (pv 0)) e_str (nomark _)) (s_cons (s_asg (e_bin o_sub (e_ix (e_var (pv 1)) e_int) (e_ix (e_var (pv 2)) e_int)) (g_name (pg_name (i := 4) sc__law_deed.nd rfl (Or.inl rfl))))
    (s_one (s_ret (e_call (ok__law_exact Z) hr tk rfl (a_cons (e_bin o_mul (e_ix (e_var (pv 1)) e_int) (e_call (ok__law_ten Z) hr tk rfl (a_cons (e_callB (c_max rfl) rfl Z.b_max bt_max (a_cons (e_var (pv 4)) (a_cons e_int a_nil))) a_nil))) (a_cons (e_bin o_mul (e_ix (e_var (pv 2)) e_int) (e_call (ok__law_ten Z) hr tk rfl (a_cons (e_callB (c_max rfl) rfl Z.b_max bt_max (a_cons (e_una u_neg (e_var (pv 4))) (a_cons e_int a_nil))) a_nil))) (a_cons (e_var (pv 3)) a_nil))))))) s_nil)
    (s_cons (s_asg (e_bin o_sub e_int (e_bin o_mul e_int (e_callTy c_int rfl Z.b_int bt_int (a_cons (e_cmp (o_eq hu) (e_var (pv 0)) e_str (nomark _)) a_nil)))) (g_name (pg_name (i := 5) sc__law_deed.nd rfl (Or.inl rfl))))
    (s_cons (s_asg (e_callB (c_min3 rfl) rfl Z.b_min bt_min (a_cons (e_ix (e_var (pv 1)) e_int) (a_cons (e_ix (e_var (pv 2)) e_int) (a_cons e_int a_nil)))) (g_name (pg_name (i := 6) sc__law_deed.nd rfl (Or.inl rfl))))
    (s_cons (s_asg (e_bin o_mul (e_ix (e_var (pv 1)) e_int) (e_call (ok__law_ten Z) hr tk rfl (a_cons (e_bin o_sub (e_ix (e_var (pv 1)) e_int) (e_var (pv 6))) a_nil))) (g_name (pg_name (i := 7) sc__law_deed.nd rfl (Or.inl rfl))))
    (s_cons (s_asg (e_bin o_add (e_var (pv 7)) (e_bin o_mul (e_bin o_mul (e_var (pv 5)) (e_ix (e_var (pv 2)) e_int)) (e_call (ok__law_ten Z) hr tk rfl (a_cons (e_bin o_sub (e_ix (e_var (pv 2)) e_int) (e_var (pv 6))) a_nil)))) (g_name (pg_name (i := 7) sc__law_deed.nd rfl (Or.inl rfl))))
    (s_one (s_ret (e_call (ok__law_exact Z) hr tk rfl (a_cons (e_var (pv 7)) (a_cons (e_call (ok__law_ten Z) hr tk rfl (a_cons (e_una u_neg (e_var (pv 6))) a_nil)) (a_cons (e_var (pv 3)) a_nil))))))))))))
theorem sc__law_state : FnScope N__law_state ["state"] (defScope s__law_state) := ⟨rfl, rfl, rfl, by decide +kernel, rfl, by decide +kernel, by decide +kernel⟩
theorem ok__law_state (Z : Top w K mg) : OkD P w K mg base T 1 "_law_state" 1 d__law_state := by
  obtain ⟨fd, Fd⟩ := Z.f__law_state
  refine ⟨⟨fd, ["state"], fn_ok Fd sc__law_state rfl fun cdv A outer s0 H0 E F0 hr => ?_, Fd.bindsN (ps := ["state"]) (fun _ _ _ _ _ _ us hl => match us, hl with | [_], _ => rfl)⟩, Fd.kp, Z.m__law_state⟩
  have tk : Takes (cxOf (L2.CX P w) P w K mg base N__law_state "_law_state" (defScope s__law_state) (He.ga K "_law_state") cdv A outer s0 H0 E) (WofE E) := takes_of rfl rfl rfl rfl
  have po : PassesOwn (model P w) (cxOf (L2.CX P w) P w K mg base N__law_state "_law_state" (defScope s__law_state) (He.ga K "_law_state") cdv A outer s0 H0 E).A (cxOf (L2.CX P w) P w K mg base N__law_state "_law_state" (defScope s__law_state) (He.ga K "_law_state") cdv A outer s0 H0 E).env (cxOf (L2.CX P w) P w K mg base N__law_state "_law_state" (defScope s__law_state) (He.ga K "_law_state") cdv A outer s0 H0 E).xe := passes_of (X := (cxOf (L2.CX P w) P w K mg base N__law_state "_law_state" (defScope s__law_state) (He.ga K "_law_state") cdv A outer s0 H0 E)) rfl
  have hu := hr.units
  exact (s_cons (s_asg (e_callTy c_tup rfl Z.b_tuple bt_tuple (a_cons (e_tabix (lt1 hu) (e_var (pv 0)) e_str) a_nil)) (g_name (pg_name (i := 1) sc__law_state.nd rfl (Or.inl rfl))))
    (s_cons (s_asg (e_callTy c_tup rfl Z.b_tuple bt_tuple (a_cons (e_tabix (lt1 hu) (e_var (pv 0)) e_str) a_nil)) (g_name (pg_name (i := 2) sc__law_state.nd rfl (Or.inl rfl))))
    (s_one (s_ret (e_tup (a_cons (e_tabix (lt1 hu) (e_var (pv 0)) e_str) (a_cons (e_var (pv 1)) (a_cons (e_tabix (lt1 hu) (e_var (pv 0)) e_str) (a_cons (e_var (pv 2)) (a_cons (e_tabix (lt1 hu) (e_var (pv 0)) e_str) (a_cons (e_tabix (lt1 hu) (e_var (pv 0)) e_str) (a_cons (e_tabix (lt1 hu) (e_var (pv 0)) e_str) a_nil))))))))))))
theorem sc__law_push : FnScope N__law_push ["state", "number"] (defScope s__law_push) := ⟨rfl, rfl, rfl, by decide +kernel, rfl, by decide +kernel, by decide +kernel⟩
theorem ok__law_push (Z : Top w K mg) : OkM P w K mg base T 1 "_law_push" 2 d__law_push := by
  obtain ⟨fd, Fd⟩ := Z.f__law_push
  refine ⟨⟨fd, ["state", "number"], fn_m Fd sc__law_push rfl fun cdv A outer s0 H0 E F0 G hr => ?_, Fd.bindsN (ps := ["state", "number"]) (fun _ _ _ _ _ _ us hl => match us, hl with | [_, _], _ => rfl)⟩, Fd.kp, Z.m__law_push⟩
  have tk : Takes (cxOf (L2.CX P w) P w K mg base N__law_push "_law_push" (defScope s__law_push) (He.ga K "_law_push") cdv A outer s0 H0 E) (WofE E) := takes_of rfl rfl rfl rfl
  have po : PassesOwn (model P w) (cxOf (L2.CX P w) P w K mg base N__law_push "_law_push" (defScope s__law_push) (He.ga K "_law_push") cdv A outer s0 H0 E).A (cxOf (L2.CX P w) P w K mg base N__law_push "_law_push" (defScope s__law_push) (He.ga K "_law_push") cdv A outer s0 H0 E).env (cxOf (L2.CX P w) P w K mg base N__law_push "_law_push" (defScope s__law_push) (He.ga K "_law_push") cdv A outer s0 H0 E).xe := passes_of (X := (cxOf (L2.CX P w) P w K mg base N__law_push "_law_push" (defScope s__law_push) (He.ga K "_law_push") cdv A outer s0 H0 E)) rfl
  have hu := hr.units
  exact (m_cons (m_if (q_val (e_tabix (lt1 hu) (e_var (pv 0)) e_str)) (m_one (m_putL (lt1 hu) (pv 0) (o_cat (e_sl (e_tabix (lt1 hu) (e_var (pv 0)) e_str) p_none (p_some e_int)) (e_sl (e_tabix (lt1 hu) (e_var (pv 0)) e_str) p_none (p_some e_int))))) m_nil)
    (m_one (m_putN (lt1 hu) (pv 0) e_int (e_var (pv 1)))))
theorem sc__law_end : FnScope N__law_end ["state"] (defScope s__law_end) := ⟨rfl, rfl, rfl, by decide +kernel, rfl, by decide +kernel, by decide +kernel⟩
theorem ok__law_end (Z : Top w K mg) : OkM P w K mg base T 1 "_law_end" 1 d__law_end := by
  obtain ⟨fd, Fd⟩ := Z.f__law_end
  refine ⟨⟨fd, ["state"], fn_m Fd sc__law_end rfl fun cdv A outer s0 H0 E F0 G hr => ?_, Fd.bindsN (ps := ["state"]) (fun _ _ _ _ _ _ us hl => match us, hl with | [_], _ => rfl)⟩, Fd.kp, Z.m__law_end⟩
  have tk : Takes (cxOf (L2.CX P w) P w K mg base N__law_end "_law_end" (defScope s__law_end) (He.ga K "_law_end") cdv A outer s0 H0 E) (WofE E) := takes_of rfl rfl rfl rfl
  have po : PassesOwn (model P w) (cxOf (L2.CX P w) P w K mg base N__law_end "_law_end" (defScope s__law_end) (He.ga K "_law_end") cdv A outer s0 H0 E).A (cxOf (L2.CX P w) P w K mg base N__law_end "_law_end" (defScope s__law_end) (He.ga K "_law_end") cdv A outer s0 H0 E).env (cxOf (L2.CX P w) P w K mg base N__law_end "_law_end" (defScope s__law_end) (He.ga K "_law_end") cdv A outer s0 H0 E).xe := passes_of (X := (cxOf (L2.CX P w) P w K mg base N__law_end "_law_end" (defScope s__law_end) (He.ga K "_law_end") cdv A outer s0 H0 E)) rfl
  have hu := hr.units
  exact (m_cons (m_put (lt1 hu) (pv 0) e_non)
    (m_one (m_put (lt1 hu) (pv 0) e_bl)))
theorem sc__law_typed : FnScope N__law_typed ["state", "key"] (defScope s__law_typed) := ⟨rfl, rfl, rfl, by decide +kernel, rfl, by decide +kernel, by decide +kernel⟩
theorem ok__law_typed (Z : Top w K mg) : OkM P w K mg base T 2 "_law_typed" 2 d__law_typed := by
  obtain ⟨fd, Fd⟩ := Z.f__law_typed
  refine ⟨⟨fd, ["state", "key"], fn_mT Fd sc__law_typed rfl (by decide +kernel) (by decide) fun cdv A outer s0 H0 E F0 G hr => ?_, Fd.bindsN (ps := ["state", "key"]) (fun _ _ _ _ _ _ us hl => match us, hl with | [_, _], _ => rfl)⟩, Fd.kp, Z.m__law_typed⟩
  have tk : Takes (cxOf (L2.CX P w) P w K mg base N__law_typed "_law_typed" (defScope s__law_typed) (He.ga K "_law_typed") cdv A outer s0 H0 E) (WofE E) := takes_of rfl rfl rfl rfl
  have po : PassesOwn (model P w) (cxOf (L2.CX P w) P w K mg base N__law_typed "_law_typed" (defScope s__law_typed) (He.ga K "_law_typed") cdv A outer s0 H0 E).A (cxOf (L2.CX P w) P w K mg base N__law_typed "_law_typed" (defScope s__law_typed) (He.ga K "_law_typed") cdv A outer s0 H0 E).env (cxOf (L2.CX P w) P w K mg base N__law_typed "_law_typed" (defScope s__law_typed) (He.ga K "_law_typed") cdv A outer s0 H0 E).xe := passes_of (X := (cxOf (L2.CX P w) P w K mg base N__law_typed "_law_typed" (defScope s__law_typed) (He.ga K "_law_typed") cdv A outer s0 H0 E)) rfl
  have hu := hr.units
  exact (mt_cons (mt_of (m_st (fun _ _ => (s_asg (e_tabix (lt1 hu) (e_var (pv 0)) e_str) (g_name (pg_name (i := 2) sc__law_typed.nd rfl (Or.inl rfl)))))))
    (mt_cons (mt_if (q_cmp o_is (e_var (pv 2)) e_non (nomark _)) (mst_of (m_cons (m_call (ok__law_push Z) hr tk rfl (pv 0) (a_cons (e_tup (a_cons e_int (a_cons e_int a_nil))) a_nil))
    (m_one (m_stU (fun _ _ => (s_asg (e_bin o_add (e_bin o_mul e_str (e_callTy c_int rfl Z.b_int bt_int (a_cons (e_cmp (o_eq hu) (e_var (pv 1)) e_str (nomark _)) a_nil))) (e_var (pv 1))) (g_name (pg_name (i := 2) sc__law_typed.nd rfl (Or.inl rfl))))))))) (mt_one (mt_if (q_cmp (o_eq hu) (e_var (pv 1)) e_str (nomark _)) (mst_of (m_one (m_stU (fun _ _ => (s_asg (e_bin o_add (e_var (pv 2)) (e_bin o_mul (e_var (pv 1)) (e_callTy c_int rfl Z.b_int bt_int (a_cons (e_cmp (o_ni hu) e_str (e_var (pv 2)) (by rfl)) a_nil)))) (g_name (pg_name (i := 2) sc__law_typed.nd rfl (Or.inl rfl)))))))) (mt_one (mt_ifC o_lt (et_callB c_len rfl Z.b_len bt_len (at_cons (et_repl (et_repl (et_of (e_var (pv 2))))) at_nil)) e_int (mst_of (m_one (m_stU (fun _ _ => (s_asg (e_bin o_add (e_var (pv 2)) (e_var (pv 1))) (g_name (pg_name (i := 2) sc__law_typed.nd rfl (Or.inl rfl)))))))) (mst_of m_nil) (nomark _))))))
    (mt_cons (mt_of (m_put (lt1 hu) (pv 0) (e_var (pv 2))))
    (mt_one (mt_putN (lt1 hu) (pv 0) e_int (et_call (ok__law_tidy Z) hr tk rfl (at_cons (et_callTy c_int rfl Z.b_int bt_int (at_cons (et_repl (et_of (e_var (pv 2)))) at_nil)) (at_cons (et_of (e_una u_neg (e_callB c_len rfl Z.b_len bt_len (a_cons (e_ix (e_met PySem.F.plainAttrs_str PySem.F.slot_str_split PySem.F.type_str_split m_split (e_bin o_add (e_var (pv 2)) e_str) (a_cons e_str a_nil)) e_int) a_nil)))) at_nil))))))))
theorem sc__law_reckoned : FnScope N__law_reckoned ["state", "key"] (defScope s__law_reckoned) := ⟨rfl, rfl, rfl, by decide +kernel, rfl, by decide +kernel, by decide +kernel⟩
theorem ok__law_reckoned (Z : Top w K mg) : OkM P w K mg base T 5 "_law_reckoned" 2 d__law_reckoned := by
  obtain ⟨fd, Fd⟩ := Z.f__law_reckoned
  refine ⟨⟨fd, ["state", "key"], fn_m Fd sc__law_reckoned rfl fun cdv A outer s0 H0 E F0 G hr => ?_, Fd.bindsN (ps := ["state", "key"]) (fun _ _ _ _ _ _ us hl => match us, hl with | [_, _], _ => rfl)⟩, Fd.kp, Z.m__law_reckoned⟩
  have tk : Takes (cxOf (L2.CX P w) P w K mg base N__law_reckoned "_law_reckoned" (defScope s__law_reckoned) (He.ga K "_law_reckoned") cdv A outer s0 H0 E) (WofE E) := takes_of rfl rfl rfl rfl
  have po : PassesOwn (model P w) (cxOf (L2.CX P w) P w K mg base N__law_reckoned "_law_reckoned" (defScope s__law_reckoned) (He.ga K "_law_reckoned") cdv A outer s0 H0 E).A (cxOf (L2.CX P w) P w K mg base N__law_reckoned "_law_reckoned" (defScope s__law_reckoned) (He.ga K "_law_reckoned") cdv A outer s0 H0 E).env (cxOf (L2.CX P w) P w K mg base N__law_reckoned "_law_reckoned" (defScope s__law_reckoned) (He.ga K "_law_reckoned") cdv A outer s0 H0 E).xe := passes_of (X := (cxOf (L2.CX P w) P w K mg base N__law_reckoned "_law_reckoned" (defScope s__law_reckoned) (He.ga K "_law_reckoned") cdv A outer s0 H0 E)) rfl
  have hu := hr.units
  exact (m_cons (m_st (fun _ _ => (s_asg (e_tabix (lt1 hu) (e_var (pv 0)) e_str) (g_tup rfl (gs_cons (g_name (pg_name (i := 2) sc__law_reckoned.nd rfl (Or.inl rfl))) (gs_cons (g_name (pg_name (i := 3) sc__law_reckoned.nd rfl (Or.inl rfl))) (gs_cons (g_name (pg_name (i := 4) sc__law_reckoned.nd rfl (Or.inl rfl))) (gs_cons (g_name (pg_name (i := 5) sc__law_reckoned.nd rfl (Or.inl rfl))) gs_nil))))))))
    (m_cons (m_if (q_w (w_or (q_w (w_and (q_cmp (o_eq hu) (e_var (pv 1)) e_str (nomark _)) (w_and1 (q_cmp (o_eq hu) (e_ix (e_var (pv 2)) e_int) e_int (nomark _))))) (w_or1 (q_w (w_and (q_cmp (o_eq hu) (e_var (pv 1)) e_str (nomark _)) (w_and1 (q_cmp o_lt (e_ix (e_var (pv 2)) e_int) e_int (nomark _)))))))) (m_cons (m_put (lt1 hu) (pv 0) e_str)
    (m_cons (m_put (lt1 hu) (pv 0) e_non)
    (m_one m_retN))) m_nil)
    (m_cons (m_if (q_cmp (o_eq hu) (e_var (pv 1)) e_str (nomark _)) (m_one (m_putL (lt1 hu) (pv 0) (o_lst (a_cons (e_call (ok_root Z) hr tk rfl (a_cons (e_var (pv 2)) (a_cons (e_tabix (lt1 hu) (e_var (pv 0)) e_str) a_nil))) (a_cons (e_var (pv 3)) (a_cons (e_var (pv 4)) (a_cons (e_var (pv 5)) a_nil))))))) (m_cons (m_st (fun _ _ => (s_asg (e_call (ok__law_deed Z) hr tk rfl (a_cons (e_var (pv 1)) (a_cons (e_var (pv 3)) (a_cons (e_var (pv 2)) (a_cons (e_tabix (lt1 hu) (e_var (pv 0)) e_str) a_nil))))) (g_name (pg_name (i := 6) sc__law_reckoned.nd rfl (Or.inl rfl))))))
    (m_cons (m_if (q_cmp o_is (e_var (pv 6)) e_non (nomark _)) (m_cons (m_put (lt1 hu) (pv 0) e_str)
    (m_cons (m_put (lt1 hu) (pv 0) e_non)
    (m_one m_retN))) m_nil)
    (m_one (m_putL (lt1 hu) (pv 0) (o_lst (a_cons (e_var (pv 6)) (a_cons (e_var (pv 4)) (a_cons (e_var (pv 5)) (a_cons (e_var (pv 5)) a_nil))))))))))
    (m_cons (m_put (lt1 hu) (pv 0) (e_var (pv 2)))
    (m_one (m_call (ok__law_end Z) hr tk rfl (pv 0) a_nil))))))
theorem sc__law_press : FnScope N__law_press ["state", "key"] (defScope s__law_press) := ⟨rfl, rfl, rfl, by decide +kernel, rfl, by decide +kernel, by decide +kernel⟩
theorem ok__law_press (Z : Top w K mg) : OkM P w K mg base T 6 "_law_press" 2 d__law_press := by
  obtain ⟨fd, Fd⟩ := Z.f__law_press
  refine ⟨⟨fd, ["state", "key"], fn_m Fd sc__law_press rfl fun cdv A outer s0 H0 E F0 G hr => ?_, Fd.bindsN (ps := ["state", "key"]) (fun _ _ _ _ _ _ us hl => match us, hl with | [_, _], _ => rfl)⟩, Fd.kp, Z.m__law_press⟩
  have tk : Takes (cxOf (L2.CX P w) P w K mg base N__law_press "_law_press" (defScope s__law_press) (He.ga K "_law_press") cdv A outer s0 H0 E) (WofE E) := takes_of rfl rfl rfl rfl
  have po : PassesOwn (model P w) (cxOf (L2.CX P w) P w K mg base N__law_press "_law_press" (defScope s__law_press) (He.ga K "_law_press") cdv A outer s0 H0 E).A (cxOf (L2.CX P w) P w K mg base N__law_press "_law_press" (defScope s__law_press) (He.ga K "_law_press") cdv A outer s0 H0 E).env (cxOf (L2.CX P w) P w K mg base N__law_press "_law_press" (defScope s__law_press) (He.ga K "_law_press") cdv A outer s0 H0 E).xe := passes_of (X := (cxOf (L2.CX P w) P w K mg base N__law_press "_law_press" (defScope s__law_press) (He.ga K "_law_press") cdv A outer s0 H0 E)) rfl
  have hu := hr.units
  exact (m_cons (m_if (q_cmp o_isNot (e_tabix (lt1 hu) (e_var (pv 0)) e_str) e_non (nomark _)) (m_cons (m_if (q_cmp (o_eq hu) (e_var (pv 1)) e_str (nomark _)) (m_one (m_upd (ks := ["odd", "entry", "lift"]) (pv 0) (dp_cons e_non (dp_cons e_non (dp_cons e_bl dp_nil))) (by simp) (by decide) (by decide +kernel))) m_nil)
    (m_one m_retN)) m_nil)
    (m_cons (m_st (fun _ _ => (s_asg (e_tabix (lt1 hu) (e_var (pv 0)) e_str) (g_tup rfl (gs_cons (g_name (pg_name (i := 2) sc__law_press.nd rfl (Or.inl rfl))) (gs_cons (g_name (pg_name (i := 3) sc__law_press.nd rfl (Or.inl rfl))) (gs_cons (g_name (pg_name (i := 4) sc__law_press.nd rfl (Or.inl rfl))) (gs_cons (g_name (pg_name (i := 5) sc__law_press.nd rfl (Or.inl rfl))) gs_nil))))))))
    (m_one (m_if (q_cmp (o_in hu) (e_var (pv 1)) e_str (by rfl)) (m_one (m_call (ok__law_typed Z) hr tk rfl (pv 0) (a_cons (e_var (pv 1)) a_nil))) (m_one (m_if (q_w (w_and (q_cmp (o_eq hu) (e_var (pv 1)) e_str (nomark _)) (w_and1 (q_cmp o_isNot (e_tabix (lt1 hu) (e_var (pv 0)) e_str) e_non (nomark _))))) (m_cons (m_st (fun _ _ => (s_asg (e_tabix (lt1 hu) (e_var (pv 0)) e_str) (g_name (pg_name (i := 6) sc__law_press.nd rfl (Or.inl rfl))))))
    (m_cons (m_put (lt1 hu) (pv 0) (e_ix (e_lst (a_cons (e_bin o_add e_str (e_var (pv 6))) (a_cons (e_sl (e_var (pv 6)) (p_some e_int) p_none) a_nil))) (e_callTy c_int rfl Z.b_int bt_int (a_cons (e_cmp (o_eq hu) (e_ix (e_var (pv 6)) e_int) e_str (nomark _)) a_nil))))
    (m_one (m_putL (lt1 hu) (pv 0) (o_lst (a_cons (e_tup (a_cons (e_una u_neg (e_ix (e_var (pv 2)) e_int)) (a_cons (e_ix (e_var (pv 2)) e_int) a_nil))) (a_cons (e_var (pv 3)) (a_cons (e_var (pv 4)) (a_cons (e_var (pv 5)) a_nil))))))))) (m_one (m_if (q_cmp (o_eq hu) (e_var (pv 1)) e_str (nomark _)) (m_cons (m_putL (lt1 hu) (pv 0) (o_lst (a_cons (e_tup (a_cons (e_una u_neg (e_ix (e_var (pv 2)) e_int)) (a_cons (e_ix (e_var (pv 2)) e_int) a_nil))) (a_cons (e_var (pv 3)) (a_cons (e_var (pv 4)) (a_cons (e_var (pv 5)) a_nil))))))
    (m_one (m_put (lt1 hu) (pv 0) e_bl))) (m_one (m_if (q_w (w_or (q_cmp (o_eq hu) (e_var (pv 1)) e_str (nomark _)) (w_or1 (q_cmp (o_eq hu) (e_var (pv 1)) e_str (nomark _))))) (m_cons (m_putL (lt1 hu) (pv 0) (o_pick (a_cons (e_var (pv 2)) (a_cons (e_var (pv 2)) (a_cons (e_var (pv 3)) (a_cons (e_var (pv 4)) a_nil)))) (a_cons (e_tup (a_cons e_int (a_cons e_int a_nil))) (a_cons (e_var (pv 3)) (a_cons (e_var (pv 4)) (a_cons (e_var (pv 5)) a_nil)))) (e_callTy c_int rfl Z.b_int bt_int (a_cons (e_cmp (o_eq hu) (e_var (pv 1)) e_str (nomark _)) a_nil))))
    (m_cons (m_put (lt1 hu) (pv 0) e_non)
    (m_one (m_put (lt1 hu) (pv 0) e_bl)))) (m_one (m_if (q_cmp (o_in hu) (e_var (pv 1)) (e_tup (a_cons e_str (a_cons e_str (a_cons e_str (a_cons e_str (a_cons e_str a_nil)))))) (by rfl)) (m_one (m_call (ok__law_reckoned Z) hr tk rfl (pv 0) (a_cons (e_var (pv 1)) a_nil))) (m_cons (m_if (q_w (w_or (q_cmp (o_eq hu) (e_sl (e_var (pv 1)) p_none (p_some e_int)) e_str (nomark _)) (w_or1 (q_cmp (o_eq hu) (e_var (pv 1)) e_str (nomark _))))) (m_let (fun _ _ => (s_asg (e_dict rfl rfl Z.b_dict bt_dict (a_cons (e_bin o_add (e_lzip rfl rfl Z.b_list rfl Z.b_zip (a_cons e_str (a_cons (e_tabix (lt1 hu) (e_var (pv 0)) e_str) a_nil))) (e_lst (a_cons (e_tup (a_cons e_str (a_cons (e_tabix (lt1 hu) (e_var (pv 0)) e_str) a_nil))) a_nil))) a_nil)) (g_name (pg_name (i := 7) sc__law_press.nd rfl (Or.inl rfl))))) (ok__law_push Z) hr tk rfl (pv 0) (a_cons (e_tabix (lt1 hu) (e_var (pv 7)) (e_ix (e_var (pv 1)) e_int)) a_nil)
    m_nil) (m_one (m_if (q_cmp (o_eq hu) (e_sl (e_var (pv 1)) p_none (p_some e_int)) e_str (nomark _)) (m_one (m_putN (lt1 hu) (pv 0) (e_callTy c_int rfl Z.b_int bt_int (a_cons (e_ix (e_var (pv 1)) e_int) a_nil)) (e_var (pv 2)))) (m_one (m_putL (lt1 hu) (pv 0) (o_pick (a_cons (e_var (pv 3)) (a_cons (e_var (pv 2)) (a_cons (e_var (pv 4)) (a_cons (e_var (pv 5)) a_nil)))) (a_cons (e_var (pv 3)) (a_cons (e_var (pv 4)) (a_cons (e_var (pv 5)) (a_cons (e_var (pv 2)) a_nil)))) (e_callTy c_int rfl Z.b_int bt_int (a_cons (e_cmp (o_eq hu) (e_var (pv 1)) e_str (nomark _)) a_nil))))))))
    (m_one (m_call (ok__law_end Z) hr tk rfl (pv 0) a_nil)))))))))))))))
theorem sc__law_key : FnScope N__law_key ["number"] (defScope s__law_key) := ⟨rfl, rfl, rfl, by decide +kernel, rfl, by decide +kernel, by decide +kernel⟩
theorem ok__law_key (Z : Top w K mg) : OkD P w K mg base T 1 "_law_key" 1 d__law_key := by
  obtain ⟨fd, Fd⟩ := Z.f__law_key
  refine ⟨⟨fd, ["number"], fn_ok Fd sc__law_key rfl fun cdv A outer s0 H0 E F0 hr => ?_, Fd.bindsN (ps := ["number"]) (fun _ _ _ _ _ _ us hl => match us, hl with | [_], _ => rfl)⟩, Fd.kp, Z.m__law_key⟩
  have tk : Takes (cxOf (L2.CX P w) P w K mg base N__law_key "_law_key" (defScope s__law_key) (He.ga K "_law_key") cdv A outer s0 H0 E) (WofE E) := takes_of rfl rfl rfl rfl
  have po : PassesOwn (model P w) (cxOf (L2.CX P w) P w K mg base N__law_key "_law_key" (defScope s__law_key) (He.ga K "_law_key") cdv A outer s0 H0 E).A (cxOf (L2.CX P w) P w K mg base N__law_key "_law_key" (defScope s__law_key) (He.ga K "_law_key") cdv A outer s0 H0 E).env (cxOf (L2.CX P w) P w K mg base N__law_key "_law_key" (defScope s__law_key) (He.ga K "_law_key") cdv A outer s0 H0 E).xe := passes_of (X := (cxOf (L2.CX P w) P w K mg base N__law_key "_law_key" (defScope s__law_key) (He.ga K "_law_key") cdv A outer s0 H0 E)) rfl
  have hu := hr.units
  exact (s_cons (s_asg (e_lst (a_cons e_str (a_cons e_str (a_cons e_str (a_cons e_str (a_cons e_str (a_cons e_str (a_cons e_str (a_cons e_str (a_cons e_str (a_cons e_str (a_cons e_str (a_cons e_str (a_cons e_str (a_cons e_str (a_cons e_str (a_cons e_str (a_cons e_str (a_cons e_str (a_cons e_str a_nil)))))))))))))))))))) (g_name (pg_name (i := 1) sc__law_key.nd rfl (Or.inl rfl))))
    (s_cons (s_asg (e_bin o_add (e_var (pv 1)) (e_lst (a_cons e_str (a_cons e_str (a_cons e_str (a_cons e_str (a_cons e_str (a_cons e_str (a_cons e_str (a_cons e_str (a_cons e_str (a_cons e_str (a_cons e_str (a_cons e_str a_nil)))))))))))))) (g_name (pg_name (i := 1) sc__law_key.nd rfl (Or.inl rfl))))
    (s_one (s_ret (e_ix (e_bin o_add (e_var (pv 1)) (e_lst (a_cons e_str (a_cons e_str (a_cons e_str (a_cons e_str (a_cons e_str (a_cons e_str (a_cons e_str (a_cons e_str (a_cons e_str a_nil))))))))))) (e_bin o_mod (e_var (pv 0)) e_int))))))
theorem sc__law_row : FnScope N__law_row ["number", "many"] (defScope s__law_row) := ⟨rfl, rfl, rfl, by decide +kernel, rfl, by decide +kernel, by decide +kernel⟩
theorem ok__law_row (Z : Top w K mg) : OkD P w K mg base T 2 "_law_row" 2 d__law_row := by
  obtain ⟨fd, Fd⟩ := Z.f__law_row
  refine ⟨⟨fd, ["number", "many"], fn_ok Fd sc__law_row rfl fun cdv A outer s0 H0 E F0 hr => ?_, Fd.bindsN (ps := ["number", "many"]) (fun _ _ _ _ _ _ us hl => match us, hl with | [_, _], _ => rfl)⟩, Fd.kp, Z.m__law_row⟩
  have tk : Takes (cxOf (L2.CX P w) P w K mg base N__law_row "_law_row" (defScope s__law_row) (He.ga K "_law_row") cdv A outer s0 H0 E) (WofE E) := takes_of rfl rfl rfl rfl
  have po : PassesOwn (model P w) (cxOf (L2.CX P w) P w K mg base N__law_row "_law_row" (defScope s__law_row) (He.ga K "_law_row") cdv A outer s0 H0 E).A (cxOf (L2.CX P w) P w K mg base N__law_row "_law_row" (defScope s__law_row) (He.ga K "_law_row") cdv A outer s0 H0 E).env (cxOf (L2.CX P w) P w K mg base N__law_row "_law_row" (defScope s__law_row) (He.ga K "_law_row") cdv A outer s0 H0 E).xe := passes_of (X := (cxOf (L2.CX P w) P w K mg base N__law_row "_law_row" (defScope s__law_row) (He.ga K "_law_row") cdv A outer s0 H0 E)) rfl
  have hu := hr.units
  exact (s_one (s_ret (e_callTy c_tup rfl Z.b_tuple bt_tuple (a_cons (e_lc (x := "k") (i := 2) rfl sc__law_row.nd (i_rng1 rfl Z.b_range (a_cons (e_var (pv 1)) a_nil)) (blkOk_by (N := N__law_row) (sc := defScope s__law_row) (by decide +kernel)) (fun _ _ _ _ _ => pg_name (i := 2) sc__law_row.nd rfl (Or.inl rfl)) (fun _ _ _ _ _ => ts_nil) (fun _ _ _ _ _ => (e_call (ok__law_key Z) hr L2.takes0 rfl (a_cons (e_bin o_div (e_call (ok__law_drawn Z) hr L2.takes0 rfl (a_cons (e_var (pv 0)) (a_cons (e_var (pv 2)) a_nil))) e_int) a_nil)))) a_nil))))
theorem sc__law_line : FnScope N__law_line ["number"] (defScope s__law_line) := ⟨rfl, rfl, rfl, by decide +kernel, rfl, by decide +kernel, by decide +kernel⟩
theorem ok__law_line (Z : Top w K mg) : OkD P w K mg base T 1 "_law_line" 1 d__law_line := by
  obtain ⟨fd, Fd⟩ := Z.f__law_line
  refine ⟨⟨fd, ["number"], fn_ok Fd sc__law_line rfl fun cdv A outer s0 H0 E F0 hr => ?_, Fd.bindsN (ps := ["number"]) (fun _ _ _ _ _ _ us hl => match us, hl with | [_], _ => rfl)⟩, Fd.kp, Z.m__law_line⟩
  have tk : Takes (cxOf (L2.CX P w) P w K mg base N__law_line "_law_line" (defScope s__law_line) (He.ga K "_law_line") cdv A outer s0 H0 E) (WofE E) := takes_of rfl rfl rfl rfl
  have po : PassesOwn (model P w) (cxOf (L2.CX P w) P w K mg base N__law_line "_law_line" (defScope s__law_line) (He.ga K "_law_line") cdv A outer s0 H0 E).A (cxOf (L2.CX P w) P w K mg base N__law_line "_law_line" (defScope s__law_line) (He.ga K "_law_line") cdv A outer s0 H0 E).env (cxOf (L2.CX P w) P w K mg base N__law_line "_law_line" (defScope s__law_line) (He.ga K "_law_line") cdv A outer s0 H0 E).xe := passes_of (X := (cxOf (L2.CX P w) P w K mg base N__law_line "_law_line" (defScope s__law_line) (He.ga K "_law_line") cdv A outer s0 H0 E)) rfl
  have hu := hr.units
  exact (s_cons (s_asg (e_lst (a_cons e_str (a_cons e_str (a_cons e_str (a_cons e_str (a_cons e_str (a_cons e_str (a_cons e_str (a_cons e_str (a_cons e_str (a_cons e_str (a_cons e_str (a_cons e_str (a_cons e_str a_nil)))))))))))))) (g_name (pg_name (i := 1) sc__law_line.nd rfl (Or.inl rfl))))
    (s_cons (s_asg (e_bin o_add (e_var (pv 1)) (e_lst (a_cons e_str (a_cons e_str (a_cons e_str (a_cons e_str (a_cons e_str (a_cons e_str (a_cons e_str (a_cons e_str (a_cons e_str (a_cons e_str (a_cons e_str (a_cons e_str a_nil)))))))))))))) (g_name (pg_name (i := 1) sc__law_line.nd rfl (Or.inl rfl))))
    (s_one (s_ret (e_ix (e_bin o_add (e_var (pv 1)) (e_lst (a_cons e_str (a_cons e_str (a_cons e_str (a_cons e_str (a_cons e_str (a_cons e_str (a_cons e_str a_nil))))))))) (e_bin o_mod (e_var (pv 0)) e_int))))))
theorem sc__law_program : FnScope N__law_program_v2 ["number", "most"] (defScope s__law_program) := ⟨rfl, rfl, rfl, by decide +kernel, rfl, by decide +kernel, by decide +kernel⟩
theorem ok__law_program (Z : Top w K mg) : OkD P w K mg base T 2 "_law_program" 2 d__law_program_v2 := by
  obtain ⟨fd, Fd⟩ := Z.f__law_program
  refine ⟨⟨fd, ["number", "most"], fn_ok Fd sc__law_program rfl fun cdv A outer s0 H0 E F0 hr => ?_, Fd.bindsN (ps := ["number", "most"]) (fun _ _ _ _ _ _ us hl => match us, hl with | [_, _], _ => rfl)⟩, Fd.kp, Z.m__law_program⟩
  have tk : Takes (cxOf (L2.CX P w) P w K mg base N__law_program_v2 "_law_program" (defScope s__law_program) (He.ga K "_law_program") cdv A outer s0 H0 E) (WofE E) := takes_of rfl rfl rfl rfl
  have po : PassesOwn (model P w) (cxOf (L2.CX P w) P w K mg base N__law_program_v2 "_law_program" (defScope s__law_program) (He.ga K "_law_program") cdv A outer s0 H0 E).A (cxOf (L2.CX P w) P w K mg base N__law_program_v2 "_law_program" (defScope s__law_program) (He.ga K "_law_program") cdv A outer s0 H0 E).env (cxOf (L2.CX P w) P w K mg base N__law_program_v2 "_law_program" (defScope s__law_program) (He.ga K "_law_program") cdv A outer s0 H0 E).xe := passes_of (X := (cxOf (L2.CX P w) P w K mg base N__law_program_v2 "_law_program" (defScope s__law_program) (He.ga K "_law_program") cdv A outer s0 H0 E)) rfl
  have hu := hr.units
  exact (s_one (s_ret (e_callTy c_tupP rfl Z.b_tuple bt_tuple (a_cons (e_lc (x := "k") (i := 2) rfl sc__law_program.nd (i_rng1 rfl Z.b_range (a_cons (e_bin o_mod (e_var (pv 0)) (e_bin o_add (e_var (pv 1)) e_int)) a_nil)) (blkOk_by (N := N__law_program_v2) (sc := defScope s__law_program) (by decide +kernel)) (fun _ _ _ _ _ => pg_name (i := 2) sc__law_program.nd rfl (Or.inl rfl)) (fun _ _ _ _ _ => ts_nil) (fun _ _ _ _ _ => (e_call (ok__law_line Z) hr L2.takes0 rfl (a_cons (e_bin o_div (e_call (ok__law_drawn Z) hr L2.takes0 rfl (a_cons (e_var (pv 0)) (a_cons (e_var (pv 2)) a_nil))) e_int) a_nil)))) a_nil))))
theorem sc__law_open : FnScope N__law_open ["state"] (defScope s__law_open) := ⟨rfl, rfl, rfl, by decide +kernel, rfl, by decide +kernel, by decide +kernel⟩
theorem ok__law_open (Z : Top w K mg) : OkMk P w K mg base T 1 "_law_open" 1 d__law_open := by
  obtain ⟨fd, Fd⟩ := Z.f__law_open
  refine ⟨⟨fd, ["state"], fn_mk (i := 2) Fd sc__law_open rfl fun cdv A outer s0 H0 E F0 hr => ?_, Fd.bindsN (ps := ["state"]) (fun _ _ _ _ _ _ us hl => match us, hl with | [_], _ => rfl)⟩, Fd.kp, Z.m__law_open⟩
  have tk : Takes (cxOf (L2.CX P w) P w K mg base N__law_open "_law_open" (defScope s__law_open) (He.ga K "_law_open") cdv A outer s0 H0 E) (WofE E) := takes_of rfl rfl rfl rfl
  have po : PassesOwn (model P w) (cxOf (L2.CX P w) P w K mg base N__law_open "_law_open" (defScope s__law_open) (He.ga K "_law_open") cdv A outer s0 H0 E).A (cxOf (L2.CX P w) P w K mg base N__law_open "_law_open" (defScope s__law_open) (He.ga K "_law_open") cdv A outer s0 H0 E).env (cxOf (L2.CX P w) P w K mg base N__law_open "_law_open" (defScope s__law_open) (He.ga K "_law_open") cdv A outer s0 H0 E).xe := passes_of (X := (cxOf (L2.CX P w) P w K mg base N__law_open "_law_open" (defScope s__law_open) (He.ga K "_law_open") cdv A outer s0 H0 E)) rfl
  have hu := hr.units
  exact (k_cons (s_asg (e_tup (a_cons e_str (a_cons e_str (a_cons e_str (a_cons e_str (a_cons e_str (a_cons e_str (a_cons e_str a_nil)))))))) (g_name (pg_name (i := 1) sc__law_open.nd rfl (Or.inl rfl))))
    (k_dict rfl rfl Z.b_dict bt_dict (a_cons (e_lzip rfl rfl Z.b_list rfl Z.b_zip (a_cons (e_var (pv 1)) (a_cons (e_var (pv 0)) a_nil))) a_nil) (pg_name (i := 2) sc__law_open.nd rfl (Or.inl rfl)) 
    (m_cons (m_putL (lt1 hu) (pv 2) (o_list rfl Z.b_list bt_list (a_cons (e_tabix (lt1 hu) (e_var (pv 2)) e_str) a_nil)))
    (m_cons (m_putL (lt1 hu) (pv 2) (o_list rfl Z.b_list bt_list (a_cons (e_tabix (lt1 hu) (e_var (pv 2)) e_str) a_nil)))
    (m_one (m_retS (pv 2)))))))
theorem sc__law_led : FnScope N__law_led ["program", "line", "calls"] (defScope s__law_led) := ⟨rfl, rfl, rfl, by decide +kernel, rfl, by decide +kernel, by decide +kernel⟩
theorem ok__law_led (Z : Top w K mg) : OkD P w K mg base T 1 "_law_led" 3 d__law_led := by
  obtain ⟨fd, Fd⟩ := Z.f__law_led
  refine ⟨⟨fd, ["program", "line", "calls"], fn_ok Fd sc__law_led rfl fun cdv A outer s0 H0 E F0 hr => ?_, Fd.bindsN (ps := ["program", "line", "calls"]) (fun _ _ _ _ _ _ us hl => match us, hl with | [_, _, _], _ => rfl)⟩, Fd.kp, Z.m__law_led⟩
  have tk : Takes (cxOf (L2.CX P w) P w K mg base N__law_led "_law_led" (defScope s__law_led) (He.ga K "_law_led") cdv A outer s0 H0 E) (WofE E) := takes_of rfl rfl rfl rfl
  have po : PassesOwn (model P w) (cxOf (L2.CX P w) P w K mg base N__law_led "_law_led" (defScope s__law_led) (He.ga K "_law_led") cdv A outer s0 H0 E).A (cxOf (L2.CX P w) P w K mg base N__law_led "_law_led" (defScope s__law_led) (He.ga K "_law_led") cdv A outer s0 H0 E).env (cxOf (L2.CX P w) P w K mg base N__law_led "_law_led" (defScope s__law_led) (He.ga K "_law_led") cdv A outer s0 H0 E).xe := passes_of (X := (cxOf (L2.CX P w) P w K mg base N__law_led "_law_led" (defScope s__law_led) (He.ga K "_law_led") cdv A outer s0 H0 E)) rfl
  have hu := hr.units
  exact (s_cons (s_asg (e_ixP (e_var (pv 0)) (e_var (pv 1))) (g_name (pg_name (i := 3) sc__law_led.nd rfl (Or.inl rfl))))
    (s_cons (s_if (q_cmp (o_eq hu) (e_var (pv 3)) e_str (nomark _)) (s_one (s_ret (e_ix (e_lst (a_cons e_non (a_cons (e_ix (e_bin o_add (e_var (pv 2)) (e_tup (a_cons e_int a_nil))) (e_bin o_sub (e_callB c_len rfl Z.b_len bt_len (a_cons (e_var (pv 2)) a_nil)) e_int)) a_nil))) (e_callTy c_int rfl Z.b_int bt_int (a_cons (e_cmp (o_ne hu) (e_var (pv 2)) (e_tup a_nil) (nomark _)) a_nil))))) s_nil)
    (s_cons (s_asg (e_bin o_add e_str (e_ix (e_var (pv 3)) (e_una u_neg e_int))) (g_name (pg_name (i := 4) sc__law_led.nd rfl (Or.inl rfl))))
    (s_cons (s_if (q_w (w_or (q_cmp o_niP (e_var (pv 4)) (e_var (pv 0)) (by rfl)) (w_or1 (q_w (w_and (q_cmp (o_eq hu) (e_sl (e_var (pv 3)) p_none (p_some e_int)) e_str (nomark _)) (w_and1 (q_cmp o_gt (e_callB c_len rfl Z.b_len bt_len (a_cons (e_var (pv 2)) a_nil)) e_int (nomark _)))))))) (s_one (s_ret e_non)) s_nil)
    (s_one (s_ret (e_bin o_add (e_indexP (e_var (pv 0)) (a_cons (e_var (pv 4)) a_nil)) e_int)))))))
theorem sc__law_holds : FnScope N__law_holds ["word", "pile"] (defScope s__law_holds) := ⟨rfl, rfl, rfl, by decide +kernel, rfl, by decide +kernel, by decide +kernel⟩
theorem ok__law_holds (Z : Top w K mg) : OkD P w K mg base T 2 "_law_holds" 2 d__law_holds := by
  obtain ⟨fd, Fd⟩ := Z.f__law_holds
  refine ⟨⟨fd, ["word", "pile"], fn_ok Fd sc__law_holds rfl fun cdv A outer s0 H0 E F0 hr => ?_, Fd.bindsN (ps := ["word", "pile"]) (fun _ _ _ _ _ _ us hl => match us, hl with | [_, _], _ => rfl)⟩, Fd.kp, Z.m__law_holds⟩
  have tk : Takes (cxOf (L2.CX P w) P w K mg base N__law_holds "_law_holds" (defScope s__law_holds) (He.ga K "_law_holds") cdv A outer s0 H0 E) (WofE E) := takes_of rfl rfl rfl rfl
  have po : PassesOwn (model P w) (cxOf (L2.CX P w) P w K mg base N__law_holds "_law_holds" (defScope s__law_holds) (He.ga K "_law_holds") cdv A outer s0 H0 E).A (cxOf (L2.CX P w) P w K mg base N__law_holds "_law_holds" (defScope s__law_holds) (He.ga K "_law_holds") cdv A outer s0 H0 E).env (cxOf (L2.CX P w) P w K mg base N__law_holds "_law_holds" (defScope s__law_holds) (He.ga K "_law_holds") cdv A outer s0 H0 E).xe := passes_of (X := (cxOf (L2.CX P w) P w K mg base N__law_holds "_law_holds" (defScope s__law_holds) (He.ga K "_law_holds") cdv A outer s0 H0 E)) rfl
  have hu := hr.units
  exact (s_cons (s_if (q_cmp (o_eq hu) (e_var (pv 0)) e_str (nomark _)) (s_one (s_ret (e_cmp (o_eq hu) (e_ix (e_ix (e_var (pv 1)) e_int) e_int) e_int (nomark _)))) s_nil)
    (s_cons (s_asg (e_callB (c_min rfl) rfl Z.b_min bt_min (a_cons (e_ix (e_ix (e_var (pv 1)) e_int) e_int) (a_cons (e_ix (e_ix (e_var (pv 1)) e_int) e_int) a_nil))) (g_name (pg_name (i := 2) sc__law_holds.nd rfl (Or.inl rfl))))
    (s_cons (s_asg (e_bin o_mul (e_ix (e_ix (e_var (pv 1)) e_int) e_int) (e_call (ok__law_ten Z) hr tk rfl (a_cons (e_bin o_sub (e_ix (e_ix (e_var (pv 1)) e_int) e_int) (e_var (pv 2))) a_nil))) (g_name (pg_name (i := 3) sc__law_holds.nd rfl (Or.inl rfl))))
    (s_cons (s_asg (e_bin o_mul (e_ix (e_ix (e_var (pv 1)) e_int) e_int) (e_call (ok__law_ten Z) hr tk rfl (a_cons (e_bin o_sub (e_ix (e_ix (e_var (pv 1)) e_int) e_int) (e_var (pv 2))) a_nil))) (g_name (pg_name (i := 4) sc__law_holds.nd rfl (Or.inl rfl))))
    (s_one (s_ret (e_ix (e_lst (a_cons (e_cmp (o_eq hu) (e_var (pv 3)) (e_var (pv 4)) (nomark _)) (a_cons (e_cmp o_lt (e_var (pv 3)) (e_var (pv 4)) (nomark _)) a_nil))) (e_callTy c_int rfl Z.b_int bt_int (a_cons (e_cmp (o_eq hu) (e_var (pv 0)) e_str (nomark _)) a_nil)))))))))
theorem sc__law_due : FnScope N__law_due_v2 ["program", "state", "place"] (defScope s__law_due) := ⟨rfl, rfl, rfl, by decide +kernel, rfl, by decide +kernel, by decide +kernel⟩
theorem ok__law_due (Z : Top w K mg) : OkD P w K mg base T 7 "_law_due" 3 d__law_due_v2 := by
  obtain ⟨fd, Fd⟩ := Z.f__law_due
  refine ⟨⟨fd, ["program", "state", "place"], fn_k (i := 6) Fd sc__law_due rfl fun cdv A outer s0 H0 E F0 hr => ?_, Fd.bindsN (ps := ["program", "state", "place"]) (fun _ _ _ _ _ _ us hl => match us, hl with | [_, _, _], _ => rfl)⟩, Fd.kp, Z.m__law_due⟩
  have tk : Takes (cxOf (L2.CX P w) P w K mg base N__law_due_v2 "_law_due" (defScope s__law_due) (He.ga K "_law_due") cdv A outer s0 H0 E) (WofE E) := takes_of rfl rfl rfl rfl
  have po : PassesOwn (model P w) (cxOf (L2.CX P w) P w K mg base N__law_due_v2 "_law_due" (defScope s__law_due) (He.ga K "_law_due") cdv A outer s0 H0 E).A (cxOf (L2.CX P w) P w K mg base N__law_due_v2 "_law_due" (defScope s__law_due) (He.ga K "_law_due") cdv A outer s0 H0 E).env (cxOf (L2.CX P w) P w K mg base N__law_due_v2 "_law_due" (defScope s__law_due) (He.ga K "_law_due") cdv A outer s0 H0 E).xe := passes_of (X := (cxOf (L2.CX P w) P w K mg base N__law_due_v2 "_law_due" (defScope s__law_due) (He.ga K "_law_due") cdv A outer s0 H0 E)) rfl
  have hu := hr.units
  exact (k_cons (s_asg (e_var (pv 2)) (g_tup rfl (gs_cons (g_name (pg_name (i := 3) sc__law_due.nd rfl (Or.inl rfl))) (gs_cons (g_name (pg_name (i := 4) sc__law_due.nd rfl (Or.inl rfl))) gs_nil))))
    (k_cons (s_if (q_w (w_or (q_not (q_chn o_le o_lt e_int (e_var (pv 3)) (e_callB c_lenP rfl Z.b_len bt_len (a_cons (e_var (pv 0)) a_nil)))) (w_or1 (q_cmp (o_eq hu) (e_ixP (e_var (pv 0)) (e_var (pv 3))) e_str (nomark _))))) (s_one (s_ret (e_tup (a_cons (e_var (pv 1)) (a_cons (e_var (pv 2)) (a_cons e_str a_nil)))))) s_nil)
    (k_cons (s_asg (e_ixP (e_var (pv 0)) (e_var (pv 3))) (g_name (pg_name (i := 5) sc__law_due.nd rfl (Or.inl rfl))))
    (k_cons (s_if (q_cmp (o_in hu) (e_var (pv 5)) (e_tup (a_cons e_str (a_cons e_str (a_cons e_str a_nil)))) (by rfl)) (s_cons (s_asg (e_bin o_add (e_sl (e_var (pv 1)) p_none (p_some e_int)) (e_tup (a_cons e_non (a_cons e_bl (a_cons (e_ix (e_var (pv 1)) e_int) a_nil))))) (g_name (pg_name (i := 6) sc__law_due.nd rfl (Or.inl rfl))))
    (s_one (s_ret (e_tup (a_cons (e_var (pv 6)) (a_cons (e_tup (a_cons (e_bin o_sub (e_bin o_add (e_var (pv 3)) e_int) (e_callTy c_int rfl Z.b_int bt_int (a_cons (e_call (ok__law_holds Z) hr tk rfl (a_cons (e_var (pv 5)) (a_cons (e_ix (e_var (pv 1)) e_int) a_nil))) a_nil))) (a_cons (e_var (pv 4)) a_nil))) (a_cons e_str a_nil))))))) s_nil)
    (k_cons (s_if (q_cmp (o_eq hu) (e_sl (e_var (pv 5)) p_none (p_some e_int)) e_str (nomark _)) (s_one (s_ret (e_tup (a_cons (e_var (pv 1)) (a_cons (e_tup (a_cons (e_bin o_add (e_var (pv 3)) e_int) (a_cons (e_var (pv 4)) a_nil))) (a_cons e_str a_nil)))))) s_nil)
    (k_cons (s_if (q_w (w_or (q_cmp (o_eq hu) (e_var (pv 5)) e_str (nomark _)) (w_or (q_cmp (o_eq hu) (e_sl (e_var (pv 5)) p_none (p_some e_int)) e_str (nomark _)) (w_or1 (q_cmp (o_eq hu) (e_sl (e_var (pv 5)) p_none (p_some e_int)) e_str (nomark _)))))) (s_cons (s_asg (e_call (ok__law_led Z) hr tk rfl (a_cons (e_var (pv 0)) (a_cons (e_var (pv 3)) (a_cons (e_var (pv 4)) a_nil)))) (g_name (pg_name (i := 7) sc__law_due.nd rfl (Or.inl rfl))))
    (s_cons (s_if (q_cmp o_is (e_var (pv 7)) e_non (nomark _)) (s_one (s_ret (e_tup (a_cons (e_var (pv 1)) (a_cons (e_var (pv 2)) (a_cons e_str a_nil)))))) s_nil)
    (s_cons (s_if (q_cmp (o_eq hu) (e_var (pv 5)) e_str (nomark _)) (s_one (s_asg (e_sl (e_var (pv 4)) p_none (p_some (e_una u_neg e_int))) (g_name (pg_name (i := 4) sc__law_due.nd rfl (Or.inl rfl))))) s_nil)
    (s_one (s_ret (e_tup (a_cons (e_var (pv 1)) (a_cons (e_tup (a_cons (e_var (pv 7)) (a_cons (e_bin o_add (e_var (pv 4)) (e_bin o_mul01 (e_tup (a_cons (e_bin o_add (e_var (pv 3)) e_int) a_nil)) (e_callTy c_int rfl Z.b_int bt_int (a_cons (e_cmp (o_eq hu) (e_sl (e_var (pv 5)) p_none (p_some e_int)) e_str (nomark _)) a_nil)))) a_nil))) (a_cons e_str a_nil))))))))) s_nil)
    (k_mk (ok__law_open Z) hr tk rfl (a_cons (e_var (pv 1)) a_nil) (pg_name (i := 6) sc__law_due.nd rfl (Or.inl rfl)) 
    (m_cons (m_call (ok__law_press Z) hr tk rfl (pv 6) (a_cons (e_var (pv 5)) a_nil))
    (m_cons (m_if (q_cmp o_isNot (e_tabix (lt1 hu) (e_var (pv 6)) e_str) e_non (nomark _)) (m_one (m_st (fun _ _ => (s_ret (e_tup (a_cons (e_call (ok__law_state Z) hr tk rfl (a_cons (e_var (pv 6)) a_nil)) (a_cons (e_var (pv 2)) (a_cons e_str a_nil)))))))) m_nil)
    (m_one (m_st (fun _ _ => (s_ret (e_tup (a_cons (e_call (ok__law_state Z) hr tk rfl (a_cons (e_var (pv 6)) a_nil)) (a_cons (e_tup (a_cons (e_bin o_add (e_var (pv 3)) e_int) (a_cons (e_var (pv 4)) a_nil))) (a_cons e_str a_nil)))))))))))))))))
def N_law : List Str := ["script", "number", "state", "program", "line", "calls", "k", "turn", "due"]
noncomputable def e1_law : Rho → Res D :=
  (bop modD (bop divD (callD 2 d__law_drawn (acons (var 1) (acons (var 6) anil))) (con (.int 4))) (con (.int 31)))
noncomputable def b2_law : Rho → SR :=
  (sseq (sasg (callD 3 d__law_due_v2 (acons (var 3) (acons (var 2) (acons (mkT (acons (var 4) (acons (var 5) anil))) anil)))) (gn 8))
    (sseq (sif (tst (bop neD (callD 3 d_step (acons (var 3) (acons (var 2) (acons (mkT (acons (var 4) (acons (var 5) anil))) anil)))) (var 8))) (sret (con (.bl false))) sskip)
    (sseq (sasg (bop ixD (var 8) (con (.int 0))) (gn 2))
    (sasg (bop ixD (var 8) (con (.int 1))) (gt 2 (gsc (gn 4) (gsc (gn 5) gsn)))))))
noncomputable def t6_law : Rho → SR :=
  (sret (con (.bl true)))
noncomputable def t5_law : Rho → SR :=
  sseq (sfor (rng1 (acons (con (.int 3)) anil)) (gn 7) b2_law) (t6_law)
noncomputable def t4_law : Rho → SR :=
  sseq (sasg (cal tupD (acons (lcD (rng1 (acons (bop modD (bop divD (var 1) (con (.int 128))) (con (.int 5))) anil)) 6 yes e1_law) anil)) (gn 5)) (t5_law)
noncomputable def t3_law : Rho → SR :=
  sseq (sasg (bop modD (callD 2 d__law_mixed (acons (var 0) (acons (con (.int 3)) anil))) (bop addD (cal lenP (acons (var 3) anil)) (con (.int 2)))) (gn 4)) (t4_law)
noncomputable def t2_law : Rho → SR :=
  sseq (sasg (callD 2 d__law_program_v2 (acons (callD 2 d__law_mixed (acons (var 0) (acons (con (.int 2)) anil))) (acons (con (.int 30)) anil))) (gn 3)) (t3_law)
noncomputable def t1_law : Rho → SR :=
  sseq (sasg (callD 2 d_run (acons (callD 1 d_begin (acons (callD 1 d__law_manner (acons (var 1) anil)) anil)) (acons (callD 2 d__law_row (acons (callD 2 d__law_mixed (acons (var 0) (acons (con (.int 1)) anil))) (acons (bop modD (bop divD (var 1) (con (.int 5))) (con (.int 21))) anil))) anil))) (gn 2)) (t2_law)
noncomputable def g_law : Rho → SR :=
  sseq (sasg (callD 2 d__law_mixed (acons (var 0) (acons (con (.int 0)) anil))) (gn 1)) (t1_law)
noncomputable def d_law (ds : List D) : Res D := runB 9 g_law ds
theorem v_law {a0 : D} : d_law [a0] = finR (g_law [.z a0, .u, .u, .u, .u, .u, .u, .u, .u]) := runB_eq rfl
theorem sc_law : FnScope N_law ["script"] (defScope s_law) := ⟨rfl, rfl, rfl, by decide +kernel, rfl, by decide +kernel, by decide +kernel⟩
theorem law_fn (Z : Top w K mg) {fd : FuncData} (Fd : FunD K "law" "law" (defArgs s_law) (defBody s_law) (defScope s_law) [] [] (He.ga K "law") fd) : FnOk P w K mg base (L2.CX P w) 12 (He.ga K "law") fd ["script"] (spD K T 1 d_law) := by
  refine fn_ok Fd sc_law rfl fun cdv A outer s0 H0 E F0 hr => ?_
  have tk : Takes (cxOf (L2.CX P w) P w K mg base N_law "law" (defScope s_law) (He.ga K "law") cdv A outer s0 H0 E) (WofE E) := takes_of rfl rfl rfl rfl
  have po : PassesOwn (model P w) (cxOf (L2.CX P w) P w K mg base N_law "law" (defScope s_law) (He.ga K "law") cdv A outer s0 H0 E).A (cxOf (L2.CX P w) P w K mg base N_law "law" (defScope s_law) (He.ga K "law") cdv A outer s0 H0 E).env (cxOf (L2.CX P w) P w K mg base N_law "law" (defScope s_law) (He.ga K "law") cdv A outer s0 H0 E).xe := passes_of (X := (cxOf (L2.CX P w) P w K mg base N_law "law" (defScope s_law) (He.ga K "law") cdv A outer s0 H0 E)) rfl
  have hu := hr.units
  exact (s_cons (s_asg (e_call (ok__law_mixed Z) hr tk rfl (a_cons (e_var (pv 0)) (a_cons e_int a_nil))) (g_name (pg_name (i := 1) sc_law.nd rfl (Or.inr rfl))))
    (s_cons (s_asg (e_call (ok_run Z) hr tk rfl (a_cons (e_call (ok_begin Z) hr tk rfl (a_cons (e_call (ok__law_manner Z) hr tk rfl (a_cons (e_var (pv 1)) a_nil)) a_nil)) (a_cons (e_call (ok__law_row Z) hr tk rfl (a_cons (e_call (ok__law_mixed Z) hr tk rfl (a_cons (e_var (pv 0)) (a_cons e_int a_nil))) (a_cons (e_bin o_mod (e_bin o_div (e_var (pv 1)) e_int) e_int) a_nil))) a_nil))) (g_name (pg_name (i := 2) sc_law.nd rfl (Or.inl rfl))))
    (s_cons (s_asg (e_call (ok__law_program Z) hr tk rfl (a_cons (e_call (ok__law_mixed Z) hr tk rfl (a_cons (e_var (pv 0)) (a_cons e_int a_nil))) (a_cons e_int a_nil))) (g_name (pg_name (i := 3) sc_law.nd rfl (Or.inl rfl))))
    (s_cons (s_asg (e_bin o_mod (e_call (ok__law_mixed Z) hr tk rfl (a_cons (e_var (pv 0)) (a_cons e_int a_nil))) (e_bin o_add (e_callB c_lenP rfl Z.b_len bt_len (a_cons (e_var (pv 3)) a_nil)) e_int)) (g_name (pg_name (i := 4) sc_law.nd rfl (Or.inl rfl))))
    (s_cons (s_asg (e_callTy c_tup rfl Z.b_tuple bt_tuple (a_cons (e_lc (x := "k") (i := 6) rfl sc_law.nd (i_rng1 rfl Z.b_range (a_cons (e_bin o_mod (e_bin o_div (e_var (pv 1)) e_int) e_int) a_nil)) (blkOk_by (N := N_law) (sc := defScope s_law) (by decide +kernel)) (fun _ _ _ _ _ => pg_name (i := 6) sc_law.nd rfl (Or.inl rfl)) (fun _ _ _ _ _ => ts_nil) (fun _ _ _ _ _ => (e_bin o_mod (e_bin o_div (e_call (ok__law_drawn Z) hr L2.takes0 rfl (a_cons (e_var (pv 1)) (a_cons (e_var (pv 6)) a_nil))) e_int) e_int))) a_nil)) (g_name (pg_name (i := 5) sc_law.nd rfl (Or.inl rfl))))
    (s_cons (s_for po rfl (i_rng1 rfl Z.b_range (a_cons e_int a_nil)) (g_name (pg_name (i := 7) sc_law.nd rfl (Or.inl rfl))) (s_cons (s_asg (e_call (ok__law_due Z) hr tk rfl (a_cons (e_var (pv 3)) (a_cons (e_var (pv 2)) (a_cons (e_tup (a_cons (e_var (pv 4)) (a_cons (e_var (pv 5)) a_nil))) a_nil)))) (g_name (pg_name (i := 8) sc_law.nd rfl (Or.inl rfl))))
    (s_cons (s_if (q_cmp (o_ne hu) (e_call (ok_step Z) hr tk rfl (a_cons (e_var (pv 3)) (a_cons (e_var (pv 2)) (a_cons (e_tup (a_cons (e_var (pv 4)) (a_cons (e_var (pv 5)) a_nil))) a_nil)))) (e_var (pv 8)) (nomark _)) (s_one (s_ret e_bl)) s_nil)
    (s_cons (s_asg (e_ix (e_var (pv 8)) e_int) (g_name (pg_name (i := 2) sc_law.nd rfl (Or.inl rfl))))
    (s_one (s_asg (e_ix (e_var (pv 8)) e_int) (g_tup rfl (gs_cons (g_name (pg_name (i := 4) sc_law.nd rfl (Or.inl rfl))) (gs_cons (g_name (pg_name (i := 5) sc_law.nd rfl (Or.inl rfl))) gs_nil)))))))))
    (s_one (s_ret e_bl))))))))
end
theorem x_cell {ns : List Int} {k : Int} (h : 0 ≤ k) : ∃ c, d__law_cell_at [.arr ns, .int k] = .ok (.int c) := by
  by_cases hk : k < ns.length
  · have hi : ∃ c, ixD (.arr ns) (.int k) = some (.int c) := by
      refine ⟨ns.getD k.toNat 0, ?_⟩
      show (atI ns k).map D.int = _
      unfold atI ixN
      rw [if_pos h, if_pos hk]
      show (ns[k.toNat]?).map D.int = _
      rw [List.getElem?_eq_getElem (by omega), List.getD_eq_getElem?_getD, List.getElem?_eq_getElem (by omega)]
      rfl
    obtain ⟨c, hc⟩ := hi
    exact ⟨c, by simp?! [v__law_cell_at, g__law_cell_at, t1__law_cell_at, hk, hc]⟩
  · exact ⟨0, by simp?! [v__law_cell_at, g__law_cell_at, t1__law_cell_at, hk]⟩
theorem x_mixed {ns : List Int} {k : Int} (h : 0 ≤ k) (h2 : k < 1000) : ∃ m, d__law_mixed [.arr ns, .int k] = .ok (.int m) ∧ 0 ≤ m ∧ m < 2147483629 := by
  obtain ⟨c, hc⟩ := x_cell (ns := ns) h
  simp?! [v__law_mixed, g__law_mixed, t1__law_mixed, hc]
  exact ⟨_, rfl, Int.emod_nonneg _ (by decide), Int.emod_lt_of_pos _ (by decide)⟩
theorem x_drawn {n k : Int} (h : 0 ≤ k) (h2 : k < 1000) : ∃ m, d__law_drawn [.int n, .int k] = .ok (.int m) ∧ 0 ≤ m ∧ m < 2147483629 := by
  simp?! [v__law_drawn, g__law_drawn, t1__law_drawn]
  exact ⟨_, rfl, Int.emod_nonneg _ (by decide), Int.emod_lt_of_pos _ (by decide)⟩
/-! the law's own numbers -/
theorem x_tidy0 {b : Int} : d__law_tidy [.int 0, .int b] = .ok (.tup [.int 0, .int 0]) := by
  simp?! [v__law_tidy, g__law_tidy, beq_self_eq_true]
/-- ten -/
theorem dv_zeros : ∀ (k a : Nat), (List.replicate k 48).foldl (fun acc c => acc * 10 + (c - 48)) a = a * 10 ^ k
  | 0, a => by simp
  | k + 1, a => by
    rw [List.replicate_succ, List.foldl_cons, dv_zeros k]
    show (a * 10 + 0) * 10 ^ k = a * 10 ^ (k + 1)
    rw [Nat.pow_succ, Nat.add_zero, Nat.mul_assoc, Nat.mul_comm 10]
theorem int_digits {x : Str} {n : Nat} (h : NumText.AllDigits x.cps.toList) (h1 : x.cps.toList ≠ []) (h2 : x.cps.toList.length ≤ 640) (e : NumText.digitsVal x.cps.toList = n) : intD [.str x] = some (.int n) := by
  show (if x.length ≤ 640 then (PySem.intText? x).map D.int else none) = _
  rw [if_pos (by rw [s_len]; exact h2), PySem.intText_digits h h1 (by rw [s_len]; omega), e]
  rfl
theorem x_ten {k : Int} (h : 0 ≤ k) (h2 : k ≤ 600) : d_ten [.int k] = .ok (.int (10 ^ k.toNat)) := by
  have z1 : (Str.ofString "0").length = 1 := by decide +kernel
  have l1 : (repS (Str.ofString "0") k).length = k.toNat := by rw [s_len, one_s 48 "0" zero_s, List.length_replicate]
  have o1 : (Str.ofString "1").cps.toList = [49] := by decide +kernel
  have e : (Str.ofString "1" ++ repS (Str.ofString "0") k).cps.toList = 49 :: List.replicate k.toNat 48 := by
    rw [app_tl, one_s 48 "0" zero_s, o1]; rfl
  have e1 : mulD (.str (Str.ofString "0")) (.int k) = some (.str (repS (Str.ofString "0") k)) := mul_si ⟨by omega, by omega, by rw [z1]; omega⟩
  have e2 : addD (.str (Str.ofString "1")) (.str (repS (Str.ofString "0") k)) = some (.str (Str.ofString "1" ++ repS (Str.ofString "0") k)) := add_ss (by
    rw [l1]
    have : (Str.ofString "1").length = 1 := by decide +kernel
    omega)
  have e3 : intD [.str (Str.ofString "1" ++ repS (Str.ofString "0") k)] = some (.int ((10 ^ k.toNat : Nat) : Int)) := by
    refine int_digits ?_ ?_ ?_ ?_
    · rw [e]
      intro c hc
      rcases List.mem_cons.mp hc with rfl | hc
      · omega
      · have := List.eq_of_mem_replicate hc
        omega
    · rw [e]; exact List.cons_ne_nil _ _
    · rw [e, List.length_cons, List.length_replicate]; omega
    · rw [e]
      unfold NumText.digitsVal
      rw [List.foldl_cons, dv_zeros]
      simp
  simp?! [v_ten, g_ten, e1, e2, e3]
  simp
/-! heights -/
theorem x_figures {a : Int} (h : a.natAbs < 10 ^ 500) : d_figures_of [.int a] = .ok (.int (figs a.natAbs)) := by
  obtain ⟨q1, q2⟩ := lenstr (i := (a.natAbs : Int)) (by omega) h
  have q2 : lenD [.str (Str.ofString (toString (a.natAbs : Int)))] = some (.int (figs a.natAbs)) := q2
  simp?! [v_figures_of, g_figures_of, abs_if a, q1, q2]
theorem x_height {a b : Int} (h : a.natAbs < 10 ^ 500) : d_height [.tup [.int a, .int b]] = .ok (.int (b + (figs a.natAbs : Int) - 1)) := by
  simp?! [v_height, g_height, x_figures h]
theorem x_lheight {a b : Int} (h : a.natAbs < 10 ^ 500) : d__law_height [.tup [.int a, .int b]] = .ok (.int (b + (figs a.natAbs : Int) - 1)) := by
  obtain ⟨q1, q2⟩ := lenstr (i := (a.natAbs : Int)) (by omega) h
  have q2 : lenD [.str (Str.ofString (toString (a.natAbs : Int)))] = some (.int (figs a.natAbs)) := q2
  simp?! [v__law_height, g__law_height, abs_if a, q1, q2]
/-! _law_ten -/
theorem rng1_eq {f : Rho → Res (List D)} {ρ : Rho} {j : Int} (h : f ρ = .ok [.int j]) (h1 : 0 ≤ j) (h2 : j < 5000) : rng1 f ρ = .ok (rngD 0 j.toNat) := by
  unfold rng1
  rw [h]
  simp only [Res.bind]
  rw [if_pos ⟨by omega, by omega⟩]
theorem rngD_len {i : Int} {n : Nat} : (rngD i n).length = n := by unfold rngD; rw [List.length_map, List.length_range]
theorem lten_loop : ∀ (ds : List D) (a : Int) (b : D) (c : En), ∃ c', loopD (gn 2) b1__law_ten ds [.z b, .z (.int a), c] = .nx [.z b, .z (.int (a * 10 ^ ds.length)), c']
  | [], a, b, c => ⟨c, by rw [loop_nil]; simp⟩
  | d :: ds, a, b, c => by
    obtain ⟨c', h⟩ := lten_loop ds (a * 10) b (.z d)
    refine ⟨c', ?_⟩
    have hb : b1__law_ten [.z b, .z (.int a), .z d] = .nx [.z b, .z (.int (a * 10)), .z d] := by simp?! [b1__law_ten]
    rw [loop_cons (ρ1 := [.z b, .z (.int a), .z d]) rfl hb, h, List.length_cons, Int.pow_succ, Int.mul_assoc, Int.mul_comm 10]
theorem lten_t1 {n : Nat} {c : En} (hl : loopD (gn 2) b1__law_ten (rngD 0 n) [.z (.int (n : Int)), .z (.int 1), .u] = .nx [.z (.int (n : Int)), .z (.int (10 ^ n)), c]) (e : rng1 (acons (var 0) anil) [.z (.int (n : Int)), .z (.int 1), .u] = .ok (rngD 0 n)) :
    t1__law_ten [.z (.int (n : Int)), .z (.int 1), .u] = .rt (.int (10 ^ n)) := by
  unfold t1__law_ten
  rw [sseq_def, sfor_def, e, forR_ok, hl, seqR_nx]
  unfold t2__law_ten
  simp?! []
theorem lten_g {n : Int} : g__law_ten [.z (.int n), .u, .u] = t1__law_ten [.z (.int n), .z (.int 1), .u] := by
  unfold g__law_ten
  rw [sseq_def, sasg_def, con_def, asgR_n, seqR_nx, List.set_cons_succ, List.set_cons_zero]
theorem x_lten {n : Nat} (h : n ≤ 2000) : d__law_ten [.int (n : Int)] = .ok (.int (10 ^ n)) := by
  have q : acons (var 0) anil [.z (.int (n : Int)), .z (.int 1), .u] = .ok [.int (n : Int)] := by simp?! []
  have e := rng1_eq q (by omega) (by omega)
  rw [Int.toNat_natCast] at e
  obtain ⟨c', hl⟩ := lten_loop (rngD 0 n) 1 (.int (n : Int)) .u
  rw [rngD_len, Int.one_mul] at hl
  rw [v__law_ten, lten_g, lten_t1 hl e, finR_rt]
theorem x_ltenZ {k : Int} (h : 0 ≤ k) (h2 : k ≤ 2000) : d__law_ten [.int k] = .ok (.int (10 ^ k.toNat)) := by
  obtain ⟨n, rfl⟩ := Int.eq_ofNat_of_zero_le h
  rw [Int.toNat_natCast]
  exact x_lten (by omega)
/-! exact and what it calls -/
theorem x_tenN {n : Nat} (h : n ≤ 600) : d_ten [.int (n : Int)] = .ok (.int (10 ^ n)) := by
  rw [x_ten (by omega) (by omega), Int.toNat_natCast]
theorem x_ten8 : d_ten [.int 8] = .ok (.int (10 ^ 8)) := x_ten (by decide) (by decide)
theorem x_bysize (m : Mn) (b : Bool) : d_by_size [.str m.s, .bl b] = .ok (.str (m.by b).s) := by
  have e1 : ((Str.ofString "even") == (Str.ofString "up")) = false := by decide +kernel
  have e2 : ((Str.ofString "even") == (Str.ofString "down")) = false := by decide +kernel
  have e3 : ((Str.ofString "away") == (Str.ofString "up")) = false := by decide +kernel
  have e4 : ((Str.ofString "away") == (Str.ofString "down")) = false := by decide +kernel
  have e5 : ((Str.ofString "nought") == (Str.ofString "up")) = false := by decide +kernel
  have e6 : ((Str.ofString "nought") == (Str.ofString "down")) = false := by decide +kernel
  have e7 : ((Str.ofString "down") == (Str.ofString "up")) = false := by decide +kernel
  cases m <;> cases b <;> (simp?! [Mn.s, Mn.by, Hw.s, v_by_size, g_by_size, t1_by_size, t2_by_size, e1, e2, e3, e4, e5, e6, e7, beq_self_eq_true, if_true, if_false, Bool.false_eq_true]; done)
theorem x_taken (h : Hw) {q r l : Int} : d_taken [.int q, .int r, .int l, .str h.s] = .ok (.int (takenZ h q r l)) := by
  unfold takenZ
  by_cases r0 : r = 0
  · subst r0
    simp?! [v_taken, g_taken, beq_self_eq_true, if_true]
  · have er : (r == 0) = false := by simpa using r0
    rw [if_neg r0]
    have e1 : ((Str.ofString "more") == (Str.ofString "nought")) = false := by decide +kernel
    have e2 : ((Str.ofString "even") == (Str.ofString "nought")) = false := by decide +kernel
    have e3 : ((Str.ofString "away") == (Str.ofString "nought")) = false := by decide +kernel
    have e4 : ((Str.ofString "even") == (Str.ofString "more")) = false := by decide +kernel
    have e5 : ((Str.ofString "away") == (Str.ofString "more")) = false := by decide +kernel
    have e6 : ((Str.ofString "even") == (Str.ofString "away")) = false := by decide +kernel
    cases h with
    | nought => simp?! [Hw.s, v_taken, g_taken, er, beq_self_eq_true]
    | more => simp?! [Hw.s, v_taken, g_taken, t1_taken, er, e1, beq_self_eq_true]
    | even =>
      by_cases h2 : 2 * r = l
      · have e7 : (2 * r == l) = true := by simpa using h2
        by_cases h3 : q % 2 = 1
        · simp?! [Hw.s, v_taken, g_taken, t1_taken, t2_taken, er, e2, e4, e6, e7, h3, beq_self_eq_true]
          rw [if_pos h2]
        · have e8 : (q % 2 == 1) = false := by simpa using h3
          simp?! [Hw.s, v_taken, g_taken, t1_taken, t2_taken, er, e2, e4, e6, e7, e8]
          rw [if_pos h2, if_neg h3]; simp
      · have e7 : (2 * r == l) = false := by simpa using h2
        simp?! [Hw.s, v_taken, g_taken, t1_taken, t2_taken, t3_taken, er, e2, e4, e7]
        rw [if_neg h2]; simp
    | away =>
      by_cases h2 : 2 * r = l
      · have e7 : (2 * r == l) = true := by simpa using h2
        simp?! [Hw.s, v_taken, g_taken, t1_taken, t2_taken, er, e3, e5, e7, beq_self_eq_true]
        rw [if_pos h2]; simp
      · have e7 : (2 * r == l) = false := by simpa using h2
        simp?! [Hw.s, v_taken, g_taken, t1_taken, t2_taken, t3_taken, er, e3, e5, e7]
        rw [if_neg h2]; simp
/-- the loop of fitted -/
theorem x_fitloop : ∀ (n : Nat) (a b : Int), a ≠ 0 → a.natAbs < 10 ^ n → ∀ m x y z, n < m →
    whileD c1_fitted b2_fitted m [.z (.int a), .z (.int b), x, y, z] = .nx [.z (.int (strip n a b).1), .z (.int (strip n a b).2), x, y, z]
  | 0, a, b, h, h2, m, x, y, z, hm => by
    have : (10 : Nat) ^ 0 = 1 := rfl
    omega
  | n + 1, a, b, h, h2, m, x, y, z, hm => by
    obtain ⟨m, rfl⟩ : ∃ k, m = k + 1 := ⟨m - 1, by omega⟩
    unfold strip
    by_cases h0 : a % 10 = 0
    · have ih := x_fitloop n (a / 10) (b + 1) (by omega) (by
        have : (10 : Nat) ^ (n + 1) = 10 ^ n * 10 := by rw [Nat.pow_succ]
        omega) m x y z (by omega)
      have hc : c1_fitted [.z (.int a), .z (.int b), x, y, z] = .ok true := by simp?! [c1_fitted, h0, beq_self_eq_true]
      have hb : b2_fitted [.z (.int a), .z (.int b), x, y, z] = .nx [.z (.int (a / 10)), .z (.int (b + 1)), x, y, z] := by simp?! [b2_fitted]
      rw [while_t hc hb, ih, if_pos h0]
    · have e : (a % 10 == 0) = false := by simpa using h0
      have hc : c1_fitted [.z (.int a), .z (.int b), x, y, z] = .ok false := by simp?! [c1_fitted, e]
      rw [while_f hc, if_neg h0]
def optR : Option (Int × Int) → Res D
  | none => .ex "TooGreat"
  | some (a, b) => .ok (.tup [.int a, .int b])
theorem sg_eq (b : Bool) : (1 : Int) - 2 * (if b = true then 1 else 0) = sgZ b := rfl
theorem x_fitted (h : Hw) {w p : Int} {b : Bool} (h0 : 0 < w) (h1 : w.natAbs < 10 ^ 450) : d_fitted [.int w, .int p, .bl b, .str h.s] = optR (fitZ h w p b) := by
  have hl := x_fitloop 5000 w p (by omega) (Nat.lt_of_lt_of_le h1 (pow10_le (by decide))) 100000 (.z (.bl b)) (.z (.str h.s)) .u (by decide)
  obtain ⟨s1, s2, _, _⟩ := strip_pos 5000 w p h0
  have e0 : (w == 0) = false := by simpa using (show w ≠ 0 by omega)
  have hb : (strip 5000 w p).1.natAbs < 10 ^ 500 := Nat.lt_of_le_of_lt (by omega) (Nat.lt_of_lt_of_le h1 (pow10_le (by decide)))
  have hh := x_height (a := (strip 5000 w p).1) (b := (strip 5000 w p).2) hb
  have eh : (strip 5000 w p).2 + (figs (strip 5000 w p).1.natAbs : Int) - 1 = hgZ (strip 5000 w p) := rfl
  rw [eh] at hh
  unfold fitZ
  by_cases c1 : 40 < hgZ (strip 5000 w p)
  · rw [if_pos c1]
    simp?! [v_fitted, g_fitted, t1_fitted, t2_fitted, t3_fitted, e0, hl, hh, c1, sg_eq]
    rfl
  · rw [if_neg c1]
    have d1 : decide (40 < hgZ (strip 5000 w p)) = false := decide_eq_false c1
    by_cases c2 : hgZ (strip 5000 w p) < -40
    · rw [if_pos c2]
      have ek : (h.s == Str.ofString "more") = decide (h = .more) := by cases h <;> decide +kernel
      by_cases hm : h = .more
      · rw [decide_eq_true hm] at ek
        rw [if_pos hm]
        simp?! [v_fitted, g_fitted, t1_fitted, t2_fitted, t3_fitted, t4_fitted, e0, hl, hh, d1, c2, sg_eq, ek, optR]
      · rw [decide_eq_false hm] at ek
        rw [if_neg hm]
        simp?! [v_fitted, g_fitted, t1_fitted, t2_fitted, t3_fitted, t4_fitted, e0, hl, hh, d1, c2, sg_eq, ek, optR]
    · rw [if_neg c2]
      have d2 : decide (hgZ (strip 5000 w p) < -40) = false := decide_eq_false c2
      have m1 : mulD (.int (sgZ b)) (.int (strip 5000 w p).1) = some (.int (sgZ b * (strip 5000 w p).1)) := mul_l (by unfold sgZ; cases b <;> decide)
      simp?! [v_fitted, g_fitted, t1_fitted, t2_fitted, t3_fitted, t4_fitted, t5_fitted, e0, hl, hh, d1, d2, sg_eq, m1, optR]
theorem cast10 (a : Nat) : ((10 ^ a : Nat) : Int) = 10 ^ a := by
  rw [Int.natCast_pow]
  rfl
theorem c1_pf {U L : Nat} {p : Int} (bU : U < 10 ^ 200) (bL : L < 10 ^ 200) (h1 : -450 ≤ p) (h2 : p ≤ 450) :
    c1_power_for [.z (.int (U : Int)), .z (.int (L : Int)), .z (.int p)] = .ok (decide (L * 10 ^ p.toNat * 10 ^ 8 ≤ U * 10 ^ (-p).toNat)) := by
  have m1 := mul_t (u := (U : Int)) (n := (-p).toNat) (Nat.lt_of_lt_of_le bU (pow10_le (by decide))) (by omega)
  have m2 := mul_t (u := (L : Int)) (n := p.toNat) (Nat.lt_of_lt_of_le bL (pow10_le (by decide))) (by omega)
  have m3 := mul_t (u := (L : Int) * 10 ^ p.toNat) (n := 8) (Nat.lt_of_lt_of_le (natAbs_mul_pow (k := 200) bL) (pow10_le (by omega))) (by omega)
  have e : ((L : Int) * 10 ^ p.toNat * 10 ^ 8 ≤ (U : Int) * 10 ^ (-p).toNat) ↔ (L * 10 ^ p.toNat * 10 ^ 8 ≤ U * 10 ^ (-p).toNat) := by
    rw [← Int.ofNat_le, Int.natCast_mul, Int.natCast_mul, Int.natCast_mul, cast10, cast10, cast10]
  simp?! [c1_power_for, maxz, x_tenN, x_ten8, m1, m2, m3]
  rw [decide_eq_decide.mpr e]
theorem x_power {U L : Nat} (hU : 0 < U) (hL : 0 < L) (bU : U < 10 ^ 200) (bL : L < 10 ^ 200) : d_power_for [.int (U : Int), .int (L : Int)] = .ok (.int (pwN U L)) := by
  have f1 := figs_pos U
  have f2 := figs_le (by decide) bU
  have f3 := figs_pos L
  have f4 := figs_le (by decide) bL
  have e1 := x_figures (a := (U : Int)) (Nat.lt_of_lt_of_le bU (pow10_le (by decide)))
  have e2 := x_figures (a := (L : Int)) (Nat.lt_of_lt_of_le bL (pow10_le (by decide)))
  rw [Int.natAbs_natCast] at e1 e2
  have key : d_power_for [.int (U : Int), .int (L : Int)] = finR (t1_power_for [.z (.int (U : Int)), .z (.int (L : Int)), .z (.int (pw0 U L))]) := by
    simp?! [v_power_for, g_power_for, e1, e2]
    rfl
  rw [key]
  have b0 : -450 ≤ pw0 U L ∧ pw0 U L ≤ 440 := by unfold pw0; omega
  have c0 := c1_pf (p := pw0 U L) bU bL (by omega) (by omega)
  unfold pwN
  by_cases h : L * 10 ^ (pw0 U L).toNat * 10 ^ 8 ≤ U * 10 ^ (-(pw0 U L)).toNat
  · rw [decide_eq_true h] at c0
    have c1 := c1_pf (p := pw0 U L + 1) bU bL (by omega) (by omega)
    rw [decide_eq_false (Nat.not_le.mpr (pw_hi hL rfl))] at c1
    have hb : b2_power_for [.z (.int (U : Int)), .z (.int (L : Int)), .z (.int (pw0 U L))] = .nx [.z (.int (U : Int)), .z (.int (L : Int)), .z (.int (pw0 U L + 1))] := by simp?! [b2_power_for]
    have hw : whileD c1_power_for b2_power_for 100000 [.z (.int (U : Int)), .z (.int (L : Int)), .z (.int (pw0 U L))] = .nx [.z (.int (U : Int)), .z (.int (L : Int)), .z (.int (pw0 U L + 1))] := by
      rw [while_t (n := 99999) c0 hb, while_f (n := 99998) c1]
    rw [if_pos h]
    simp?! [t1_power_for, t2_power_for, hw]
  · rw [decide_eq_false h] at c0
    have hw : whileD c1_power_for b2_power_for 100000 [.z (.int (U : Int)), .z (.int (L : Int)), .z (.int (pw0 U L))] = .nx [.z (.int (U : Int)), .z (.int (L : Int)), .z (.int (pw0 U L))] := while_f (n := 99999) c0
    rw [if_neg h]
    simp?! [t1_power_for, t2_power_for, hw]
theorem finR_ret {r : Res D} {ρ : Rho} : finR (retR r ρ) = r := by cases r <;> rfl
theorem pw_bound {U L : Nat} (bU : U < 10 ^ 200) (bL : L < 10 ^ 200) : -250 ≤ pwN U L ∧ pwN U L ≤ 250 := by
  have f1 := figs_pos U
  have f2 := figs_le (by decide) bU
  have f3 := figs_pos L
  have f4 := figs_le (by decide) bL
  unfold pwN pw0
  split <;> omega
/-- the quotient and the rest that are rounded -/
theorem q_facts {U L : Nat} (hU : 0 < U) (hL : 0 < L) (bU : U < 10 ^ 200) : 0 < (U : Int) * 10 ^ (-(pwN U L)).toNat / ((L : Int) * 10 ^ (pwN U L).toNat) ∧ (U : Int) * 10 ^ (-(pwN U L)).toNat / ((L : Int) * 10 ^ (pwN U L).toNat) < 10 ^ 8 ∧ 0 < (L : Int) * 10 ^ (pwN U L).toNat ∧ 0 < (U : Int) * 10 ^ (-(pwN U L)).toNat := by
  obtain ⟨h1, h2⟩ := pw_low hU hL
  have l0 : 0 < L * 10 ^ (pwN U L).toNat := Nat.mul_pos hL (pow10_pos _)
  have u0 : 0 < U * 10 ^ (-(pwN U L)).toNat := Nat.mul_pos hU (pow10_pos _)
  have e1 : (U : Int) * 10 ^ (-(pwN U L)).toNat = ((U * 10 ^ (-(pwN U L)).toNat : Nat) : Int) := by rw [Int.natCast_mul, cast10]
  have e2 : (L : Int) * 10 ^ (pwN U L).toNat = ((L * 10 ^ (pwN U L).toNat : Nat) : Int) := by rw [Int.natCast_mul, cast10]
  rw [e1, e2]
  generalize U * 10 ^ (-(pwN U L)).toNat = x at *
  generalize L * 10 ^ (pwN U L).toNat = y at *
  have a1 : 0 < x / y := Nat.div_pos (by omega) l0
  have a2 : x / y < 10 ^ 8 := Nat.div_lt_of_lt_mul (by omega)
  rw [← Int.natCast_ediv]
  exact ⟨by omega, by omega, by omega, by omega⟩
theorem taken_bound (h : Hw) {q r l : Int} : q ≤ takenZ h q r l ∧ takenZ h q r l ≤ q + 1 := by
  unfold takenZ
  split
  · omega
  · cases h <;> (repeat' split) <;> omega
theorem x_exact (m : Mn) {u l : Int} (hl : l ≠ 0) (bu : u.natAbs < 10 ^ 200) (bl : l.natAbs < 10 ^ 200) : d_exact [.int u, .int l, .str m.s] = optR (exZ m u l) := by
  unfold exZ
  by_cases h0 : u = 0
  · subst h0
    rw [if_pos rfl]
    simp?! [v_exact, g_exact, beq_self_eq_true, optR]
  · rw [if_neg h0]
    have e0 : (u == 0) = false := by simpa using h0
    obtain ⟨p1, p2⟩ := pw_bound bu bl
    have hU : 0 < u.natAbs := by omega
    have hL : 0 < l.natAbs := by omega
    obtain ⟨f1, f2, f3, f4⟩ := q_facts hU hL bu
    have ep := x_power hU hL bu bl
    generalize hp : pwN u.natAbs l.natAbs = p at *
    have t1 := x_tenN (n := (-p).toNat) (by omega)
    have t2 := x_tenN (n := p.toNat) (by omega)
    have m1 := mul_t (u := (u.natAbs : Int)) (n := (-p).toNat) (Nat.lt_of_lt_of_le bu (pow10_le (by decide))) (by omega)
    have m2 := mul_t (u := (l.natAbs : Int)) (n := p.toNat) (Nat.lt_of_lt_of_le bl (pow10_le (by decide))) (by omega)
    have dv := div_z (i := (u.natAbs : Int) * 10 ^ (-p).toNat) f3 (Nat.lt_of_lt_of_le (natAbs_mul_pow (u := (l.natAbs : Int)) (k := 200) bl) (pow10_le (by omega)))
    have md := mod_p (i := (u.natAbs : Int) * 10 ^ (-p).toNat) f3
    have bs := x_bysize m (decide (u < 0) != decide (l < 0))
    have tb := taken_bound (m.by (decide (u < 0) != decide (l < 0))) (q := (u.natAbs : Int) * 10 ^ (-p).toNat / ((l.natAbs : Int) * 10 ^ p.toNat)) (r := (u.natAbs : Int) * 10 ^ (-p).toNat % ((l.natAbs : Int) * 10 ^ p.toNat)) (l := (l.natAbs : Int) * 10 ^ p.toNat)
    have p9 : (10 : Nat) ^ 9 ≤ 10 ^ 450 := pow10_le (by decide)
    have ft := x_fitted (m.by (decide (u < 0) != decide (l < 0))) (p := p) (b := decide (u < 0) != decide (l < 0)) (w := takenZ (m.by (decide (u < 0) != decide (l < 0))) ((u.natAbs : Int) * 10 ^ (-p).toNat / ((l.natAbs : Int) * 10 ^ p.toNat)) ((u.natAbs : Int) * 10 ^ (-p).toNat % ((l.natAbs : Int) * 10 ^ p.toNat)) ((l.natAbs : Int) * 10 ^ p.toNat)) (by omega) (by omega)
    have nb : ∀ a b : Bool, (!(a == b)) = (a != b) := fun a b => rfl
    have key : d_exact [.int u, .int l, .str m.s] = finR (t5_exact [.z (.int (u.natAbs : Int)), .z (.int (l.natAbs : Int)), .z (.str m.s), .z (.bl (decide (u < 0) != decide (l < 0))), .z (.int p), .u]) := by
      simp?! [v_exact, g_exact, t1_exact, t2_exact, t3_exact, t4_exact, e0, abs_if, ep, nb]
    rw [key]
    simp only
    generalize (decide (u < 0) != decide (l < 0)) = bb at *
    generalize m.by bb = hw at *
    generalize (u.natAbs : Int) * 10 ^ (-p).toNat = UU at *
    generalize (l.natAbs : Int) * 10 ^ p.toNat = LL at *
    simp?! [t5_exact, t6_exact, t7_exact, t8_exact, maxz, t1, t2, m1, m2, dv, md, bs, x_taken]
    rw [finR_ret]
    exact ft
/-! the law's exact -/
theorem x_tidyZ : ∀ (n : Nat) (a b : Int), a ≠ 0 → a.natAbs < 10 ^ n → ∀ m, n < m →
    whileD c1__law_tidy b2__law_tidy m [.z (.int a), .z (.int b)] = .nx [.z (.int (strip n a b).1), .z (.int (strip n a b).2)]
  | 0, a, b, h, h2, m, hm => by
    have : (10 : Nat) ^ 0 = 1 := rfl
    omega
  | n + 1, a, b, h, h2, m, hm => by
    obtain ⟨m, rfl⟩ : ∃ k, m = k + 1 := ⟨m - 1, by omega⟩
    unfold strip
    by_cases h0 : a % 10 = 0
    · have ih := x_tidyZ n (a / 10) (b + 1) (by omega) (by
        have : (10 : Nat) ^ (n + 1) = 10 ^ n * 10 := by rw [Nat.pow_succ]
        omega) m (by omega)
      have hc : c1__law_tidy [.z (.int a), .z (.int b)] = .ok true := by simp?! [c1__law_tidy, h0, beq_self_eq_true]
      have hb : b2__law_tidy [.z (.int a), .z (.int b)] = .nx [.z (.int (a / 10)), .z (.int (b + 1))] := by simp?! [b2__law_tidy]
      rw [while_t hc hb, ih, if_pos h0]
    · have e : (a % 10 == 0) = false := by simpa using h0
      have hc : c1__law_tidy [.z (.int a), .z (.int b)] = .ok false := by simp?! [c1__law_tidy, e]
      rw [while_f hc, if_neg h0]
theorem x_tidyS {a b : Int} (h0 : a ≠ 0) (h2 : a.natAbs < 10 ^ 450) : d__law_tidy [.int a, .int b] = .ok (.tup [.int (strip 5000 a b).1, .int (strip 5000 a b).2]) := by
  have e := x_tidyZ 5000 a b h0 (Nat.lt_of_lt_of_le h2 (pow10_le (by decide))) 100000 (by decide)
  have : (a == 0) = false := by simpa using h0
  simp?! [v__law_tidy, g__law_tidy, t1__law_tidy, t2__law_tidy, this, e]
theorem strip_1 {b : Int} : strip 5000 1 b = (1, b) := rfl
theorem strip_m1 {b : Int} : strip 5000 (-1) b = (-1, b) := rfl
def optL : Option (Int × Int) → D
  | none => .non
  | some (a, b) => .tup [.int a, .int b]
theorem c1_le {u : Int} {L : Nat} {p : Int} (bU : u.natAbs < 10 ^ 200) (bL : L < 10 ^ 200) (h1 : -450 ≤ p) (h2 : p ≤ 450) {m q r s : En} :
    c1__law_exact [.z (.int u), .z (.int (L : Int)), m, .z (.int p), q, r, s] = .ok (decide (u.natAbs * 10 ^ (-p).toNat < L * 10 ^ (p.toNat + 7))) := by
  have m1 := mul_t (u := (u.natAbs : Int)) (n := (-p).toNat) (Nat.lt_of_lt_of_le bU (pow10_le (by decide))) (by omega)
  have m2 := mul_t (u := (L : Int)) (n := p.toNat + 7) (Nat.lt_of_lt_of_le bL (pow10_le (by decide))) (by omega)
  have t1 := x_lten (n := (-p).toNat) (by omega)
  have t2 := x_lten (n := p.toNat + 7) (by omega)
  have c : (p.toNat : Int) + 7 = ((p.toNat + 7 : Nat) : Int) := by omega
  have e : ((u.natAbs : Int) * 10 ^ (-p).toNat < (L : Int) * 10 ^ (p.toNat + 7)) ↔ (u.natAbs * 10 ^ (-p).toNat < L * 10 ^ (p.toNat + 7)) := by
    rw [← Int.ofNat_lt, Int.natCast_mul, Int.natCast_mul, cast10, cast10]
  simp?! [c1__law_exact, maxz, abs_if, c, t1, t2, m1, m2]
  rw [decide_eq_decide.mpr e]
/-- the power that the law finds -/
theorem x_lpow {u : Int} {L : Nat} {m : En} (hU : 0 < u.natAbs) (hL : 0 < L) (bU : u.natAbs < 10 ^ 200) (bL : L < 10 ^ 200) :
    whileD c1__law_exact b2__law_exact 100000 [.z (.int u), .z (.int (L : Int)), m, .z (.int (pw0 u.natAbs L + 1)), .u, .u, .u] = .nx [.z (.int u), .z (.int (L : Int)), m, .z (.int (pwN u.natAbs L)), .u, .u, .u] := by
  have f1 := figs_pos u.natAbs
  have f2 := figs_le (by decide) bU
  have f3 := figs_pos L
  have f4 := figs_le (by decide) bL
  have b0 : -450 ≤ pw0 u.natAbs L ∧ pw0 u.natAbs L ≤ 440 := by unfold pw0; omega
  have c0 := c1_le (p := pw0 u.natAbs L + 1) bU bL (by omega) (by omega) (m := m) (q := .u) (r := .u) (s := .u)
  unfold pwN
  by_cases h : L * 10 ^ (pw0 u.natAbs L).toNat * 10 ^ 8 ≤ u.natAbs * 10 ^ (-(pw0 u.natAbs L)).toNat
  · rw [decide_eq_false (fun z => pw_same.mp z h)] at c0
    rw [while_f (n := 99999) c0, if_pos h]
  · rw [decide_eq_true (pw_same.mpr h)] at c0
    have c1 := c1_le (p := pw0 u.natAbs L) bU bL (by omega) (by omega) (m := m) (q := .u) (r := .u) (s := .u)
    rw [decide_eq_false (Nat.not_lt.mpr (pw_lo hU rfl))] at c1
    have es : pw0 u.natAbs L + 1 - 1 = pw0 u.natAbs L := by omega
    have hb : b2__law_exact [.z (.int u), .z (.int (L : Int)), m, .z (.int (pw0 u.natAbs L + 1)), .u, .u, .u] = .nx [.z (.int u), .z (.int (L : Int)), m, .z (.int (pw0 u.natAbs L)), .u, .u, .u] := by
      simp?! [b2__law_exact, es]
    rw [while_t (n := 99999) c0 hb, while_f (n := 99998) c1, if_neg h]
/-- the law's rounding: of entire and twice -/
def roundE (m : Mn) (v l e t : Int) : Int := if 0 < v % l then (match m with
  | .even => if t = 0 then e + e % 2 else e + (if 0 < t then 1 else 0)
  | .away => if t = 0 then e + (if 0 < v then 1 else 0) else e + (if 0 < t then 1 else 0)
  | .up => e + 1
  | .down => e
  | .nought => e + (if v < 0 then 1 else 0)) else e
theorem in_m (m : Mn) : inD (.str m.s) (.tup [.str "even", .str "away"]) = some (.bl (decide (m = .even) || decide (m = .away))) := by cases m <;> rfl
theorem dec_if (c : Prop) [Decidable c] : (if decide c = true then (1 : Int) else 0) = if c then 1 else 0 := by
  by_cases h : c <;> simp [h]
theorem t8_ev (m : Mn) {v l p e t : Int} (hl : 0 < l) : t8__law_exact [.z (.int v), .z (.int l), .z (.str m.s), .z (.int p), .z (.int e), .z (.int t), .u] = t9__law_exact [.z (.int v), .z (.int l), .z (.str m.s), .z (.int p), .z (.int (roundE m v l e t)), .z (.int t), .u] := by
  have md := mod_p (i := v) hl
  have i1 := in_m m
  have e1 : (m.s == Str.ofString "away") = decide (m = .away) := by cases m <;> decide +kernel
  have e2 : (m.s == Str.ofString "up") = decide (m = .up) := by cases m <;> decide +kernel
  have e3 : (m.s == Str.ofString "nought") = decide (m = .nought) := by cases m <;> decide +kernel
  unfold roundE
  by_cases h : 0 < v % l
  · rw [if_pos h]
    cases m with
    | even =>
      simp only [decide_eq_true, reduceCtorEq, decide_false, Bool.or_false, decide_true] at i1 e1 e2 e3
      by_cases h0 : t = 0
      · have et : (t == 0) = true := by simpa using h0
        simp?! [t8__law_exact, md, h, i1, e1, et, if_true, if_false, Bool.false_eq_true]
        simp only [if_pos h0]
      · have et : (t == 0) = false := by simpa using h0
        simp?! [t8__law_exact, md, h, i1, e1, et, dec_if]
        simp only [if_neg h0]
    | away =>
      simp only [decide_eq_true, reduceCtorEq, decide_false, Bool.false_or, decide_true] at i1 e1 e2 e3
      by_cases h0 : t = 0
      · have et : (t == 0) = true := by simpa using h0
        simp?! [t8__law_exact, md, h, i1, e1, et, dec_if, if_true, if_false, Bool.false_eq_true]
        simp only [if_pos h0]
      · have et : (t == 0) = false := by simpa using h0
        simp?! [t8__law_exact, md, h, i1, e1, et, dec_if]
        simp only [if_neg h0]
    | up =>
      simp only [decide_eq_true, reduceCtorEq, decide_false, Bool.false_or, decide_true] at i1 e1 e2 e3
      simp?! [t8__law_exact, md, h, i1, e2, if_true]
    | down =>
      simp only [decide_eq_true, reduceCtorEq, decide_false, Bool.false_or, decide_true] at i1 e1 e2 e3
      simp?! [t8__law_exact, md, h, i1, e2, e3]
      simp
    | nought =>
      simp only [decide_eq_true, reduceCtorEq, decide_false, Bool.false_or, decide_true] at i1 e1 e2 e3
      simp?! [t8__law_exact, md, h, i1, e2, e3, dec_if]
  · rw [if_neg h]
    have hd : decide (0 < v % l) = false := decide_eq_false h
    simp?! [t8__law_exact, md, hd]
/-- both roundings are one -/
theorem round_same (m : Mn) {V L : Int} (hL : 0 < L) (hV : 0 < V) (b : Bool) : roundE m (sgZ b * V) L (sgZ b * V / L) (2 * (sgZ b * V) - (2 * (sgZ b * V / L) + 1) * L) = sgZ b * takenZ (m.by b) (V / L) (V % L) L := by
  have r0 := Int.emod_nonneg V (show L ≠ 0 by omega)
  have r1 := Int.emod_lt_of_pos V hL
  have dm := Int.mul_ediv_add_emod V L
  cases b with
  | false =>
    have s1 : sgZ false = 1 := rfl
    rw [s1, Int.one_mul, Int.one_mul]
    have tw : 2 * V - (2 * (V / L) + 1) * L = 2 * (V % L) - L := by
      rw [Int.add_mul, Int.mul_assoc, Int.mul_comm (V / L) L]
      omega
    rw [tw]
    unfold roundE takenZ
    generalize V % L = r at *
    generalize V / L = q at *
    by_cases h : 0 < r
    · rw [if_pos h, if_neg (show ¬ r = 0 by omega)]
      cases m <;> simp only [Mn.by] <;> (repeat' split) <;> omega
    · rw [if_neg h, if_pos (show r = 0 by omega)]
  | true =>
    have s1 : sgZ true = -1 := rfl
    rw [s1]
    by_cases h : V % L = 0
    · have hz : -1 * V % L = 0 := Int.emod_eq_zero_of_dvd (by rw [Int.neg_one_mul]; exact Int.dvd_neg.mpr (Int.dvd_of_emod_eq_zero h))
      have hq : -1 * V / L = -1 * (V / L) := by
        rw [Int.neg_one_mul, Int.neg_ediv_of_dvd (Int.dvd_of_emod_eq_zero h), Int.neg_one_mul]
      unfold roundE takenZ
      rw [hz, if_neg (show ¬ (0 : Int) < 0 by omega), if_pos h, hq]
    · have hq : -1 * V / L = -(V / L) - 1 := by
        refine (Int.ediv_emod_unique hL (r := L - V % L) (q := -(V / L) - 1)).mpr ⟨?_, by omega, by omega⟩ |>.1
        rw [Int.mul_sub, Int.mul_neg, Int.mul_one]
        omega
      have hm : -1 * V % L = L - V % L := by
        refine (Int.ediv_emod_unique hL (r := L - V % L) (q := -(V / L) - 1)).mpr ⟨?_, by omega, by omega⟩ |>.2
        rw [Int.mul_sub, Int.mul_neg, Int.mul_one]
        omega
      have tw : 2 * (-1 * V) - (2 * (-(V / L) - 1) + 1) * L = L - 2 * (V % L) := by
        have e : (2 * (-(V / L) - 1) + 1) * L = -(2 * (L * (V / L))) - L := by
          rw [Int.add_mul, Int.mul_assoc, Int.sub_mul, Int.neg_mul, Int.mul_comm (V / L) L]
          omega
        rw [e]
        omega
      unfold roundE takenZ
      rw [hm, hq, tw, if_pos (show 0 < L - V % L by omega), if_neg h]
      have vneg : ¬ (0 < -1 * V) := by omega
      have vneg2 : -1 * V < 0 := by omega
      generalize -1 * V = v at *
      generalize V % L = r at *
      generalize V / L = q at *
      cases m <;> simp only [Mn.by] <;> (repeat' split) <;> omega
theorem sg_abs (b : Bool) (x : Int) : (sgZ b * x).natAbs = x.natAbs := by cases b <;> simp [sgZ]
theorem strip_sg (b : Bool) (n : Nat) (a p : Int) : strip n (sgZ b * a) p = (sgZ b * (strip n a p).1, (strip n a p).2) := by
  cases b with
  | false => have s1 : sgZ false = 1 := rfl; rw [s1, Int.one_mul, Int.one_mul]
  | true => have s1 : sgZ true = -1 := rfl; rw [s1, Int.neg_one_mul, strip_neg, Int.neg_one_mul]
theorem hg_sg (b : Bool) (s : Int × Int) : hgZ (sgZ b * s.1, s.2) = hgZ s := by unfold hgZ; rw [sg_abs]
/-- behind the rounding -/
theorem t9_ev (m : Mn) {V L p t w : Int} {b : Bool} (hV : 0 < V) (hw : 0 < w) (bw : w.natAbs < 10 ^ 450) : finR (t9__law_exact [.z (.int (sgZ b * V)), .z (.int L), .z (.str m.s), .z (.int p), .z (.int (sgZ b * w)), .z (.int t), .u]) = .ok (optL (fitZ (m.by b) w p b)) := by
  obtain ⟨s1, s2, _, _⟩ := strip_pos 5000 w p hw
  have td := x_tidyS (a := sgZ b * w) (b := p) (by cases b <;> simp [sgZ] <;> omega) (by rw [sg_abs]; exact bw)
  rw [strip_sg] at td
  have hb : (sgZ b * (strip 5000 w p).1).natAbs < 10 ^ 500 := by
    rw [sg_abs]
    exact Nat.lt_of_le_of_lt (by omega) (Nat.lt_of_lt_of_le bw (pow10_le (by decide)))
  have hh := x_lheight (a := sgZ b * (strip 5000 w p).1) (b := (strip 5000 w p).2) hb
  have eh : (strip 5000 w p).2 + (figs (sgZ b * (strip 5000 w p).1).natAbs : Int) - 1 = hgZ (strip 5000 w p) := hg_sg b (strip 5000 w p)
  rw [eh] at hh
  unfold fitZ
  by_cases c1 : 40 < hgZ (strip 5000 w p)
  · rw [if_pos c1]
    simp?! [t9__law_exact, t10__law_exact, td, hh, c1, optL]
  · rw [if_neg c1]
    have d1 : decide (40 < hgZ (strip 5000 w p)) = false := decide_eq_false c1
    by_cases c2 : hgZ (strip 5000 w p) < -40
    · rw [if_pos c2]
      have e2 : (m.s == Str.ofString "up") = decide (m = .up) := by cases m <;> decide +kernel
      have e3 : (m.s == Str.ofString "down") = decide (m = .down) := by cases m <;> decide +kernel
      have td1 := x_tidyS (a := 1) (b := -40) (by decide) (by decide +kernel)
      have td2 := x_tidyS (a := -1) (b := -40) (by decide) (by decide +kernel)
      rw [strip_1] at td1
      rw [strip_m1] at td2
      simp only at td1 td2
      have td0 := x_tidy0 (b := -40)
      have g1 : decide (0 < sgZ b * V) = !b := by cases b <;> simp [sgZ] <;> omega
      have g2 : decide (sgZ b * V < 0) = b := by cases b <;> simp [sgZ] <;> omega
      have z1 : (1 : Int) - 0 = 1 := rfl
      have z2 : (0 : Int) - 1 = -1 := rfl
      have z3 : (0 : Int) - 0 = 0 := rfl
      cases b <;> cases m <;> simp only [decide_true, reduceCtorEq, decide_false, Bool.not_true, Bool.not_false] at e2 e3 g1 g2 <;> (simp?! [t9__law_exact, t10__law_exact, t11__law_exact, td, hh, d1, c2, e2, e3, g1, g2, td0, td1, td2, z1, z2, z3, if_true, if_false, Bool.false_eq_true, finR_ret, Mn.by, reduceCtorEq, optL]; try rfl)
    · rw [if_neg c2]
      have d2 : decide (hgZ (strip 5000 w p) < -40) = false := decide_eq_false c2
      simp?! [t9__law_exact, t10__law_exact, t11__law_exact, t12__law_exact, td, hh, d1, d2, optL]
/-- from the power on: the numerator's sign is b's -/
theorem lx_core (m : Mn) {U L : Nat} {b : Bool} (hU : 0 < U) (hL : 0 < L) (bU : U < 10 ^ 200) (bL : L < 10 ^ 200) : finR (t2__law_exact [.z (.int (sgZ b * U)), .z (.int (L : Int)), .z (.str m.s), .u, .u, .u, .u]) =
    .ok (optL (fitZ (m.by b) (takenZ (m.by b) ((U : Int) * 10 ^ (-(pwN U L)).toNat / ((L : Int) * 10 ^ (pwN U L).toNat)) ((U : Int) * 10 ^ (-(pwN U L)).toNat % ((L : Int) * 10 ^ (pwN U L).toNat)) ((L : Int) * 10 ^ (pwN U L).toNat)) (pwN U L) b)) := by
  have na : (sgZ b * (U : Int)).natAbs = U := by rw [sg_abs]; rfl
  obtain ⟨p1, p2⟩ := pw_bound bU bL
  obtain ⟨f1, f2, f3, f4⟩ := q_facts hU hL bU
  have lp := x_lpow (u := sgZ b * (U : Int)) (m := .z (.str m.s)) (by rw [na]; exact hU) hL (by rw [na]; exact bU) bL
  rw [na] at lp
  obtain ⟨q1, q2⟩ := lenstr (i := (U : Int)) (by omega) (Nat.lt_of_lt_of_le bU (pow10_le (by decide)))
  obtain ⟨q3, q4⟩ := lenstr (i := (L : Int)) (by omega) (Nat.lt_of_lt_of_le bL (pow10_le (by decide)))
  rw [Int.natAbs_natCast] at q2 q4
  have e0 : (figs U : Int) - (figs L : Int) - 7 = pw0 U L + 1 := by unfold pw0; omega
  generalize hp : pwN U L = p at *
  have t1 := x_lten (n := (-p).toNat) (by omega)
  have t2 := x_lten (n := p.toNat) (by omega)
  have m1 := mul_t (u := sgZ b * (U : Int)) (n := (-p).toNat) (by rw [na]; exact Nat.lt_of_lt_of_le bU (pow10_le (by decide))) (by omega)
  have m2 := mul_t (u := (L : Int)) (n := p.toNat) (Nat.lt_of_lt_of_le bL (pow10_le (by decide))) (by omega)
  rw [Int.mul_assoc] at m1
  have bLL := Nat.lt_of_lt_of_le (natAbs_mul_pow (u := (L : Int)) (k := 200) (n := p.toNat) bL) (pow10_le (show 200 + p.toNat ≤ 500 by omega))
  have bUU := Nat.lt_of_lt_of_le (natAbs_mul_pow (u := (U : Int)) (k := 200) (n := (-p).toNat) bU) (pow10_le (show 200 + (-p).toNat ≤ 500 by omega))
  generalize hUU : (U : Int) * 10 ^ (-p).toNat = UU at *
  generalize hLL : (L : Int) * 10 ^ p.toNat = LL at *
  have key : finR (t2__law_exact [.z (.int (sgZ b * U)), .z (.int (L : Int)), .z (.str m.s), .u, .u, .u, .u]) = finR (t6__law_exact [.z (.int (sgZ b * UU)), .z (.int LL), .z (.str m.s), .z (.int p), .u, .u, .u]) := by
    simp?! [t2__law_exact, t3__law_exact, t4__law_exact, t5__law_exact, abs_if, na, q1, q2, q3, q4, e0, lp, maxz, t1, t2, m1, m2]
  rw [key]
  have dv := div_z (i := sgZ b * UU) f3 (Nat.lt_of_lt_of_le bLL (pow10_le (by decide)))
  have p8 : (10 : Nat) ^ 9 ≤ 10 ^ 450 := pow10_le (by decide)
  have bE : (2 * (sgZ b * UU / LL) + 1).natAbs < 10 ^ 2000 := by
    have p9 : (10 : Nat) ^ 12 ≤ 10 ^ 2000 := pow10_le (by decide)
    have a1 : sgZ b * UU / LL ≤ UU / LL := by
      refine Int.ediv_le_ediv f3 ?_
      cases b <;> simp [sgZ] <;> omega
    have a2 : -(UU / LL) - 1 ≤ sgZ b * UU / LL := by
      refine Int.le_ediv_of_mul_le f3 ?_
      have dm := Int.mul_ediv_add_emod UU LL
      have r1 := Int.emod_lt_of_pos UU f3
      have e : (-(UU / LL) - 1) * LL = -(LL * (UU / LL)) - LL := by rw [Int.sub_mul, Int.neg_mul, Int.one_mul, Int.mul_comm]
      rw [e]
      cases b <;> simp [sgZ] <;> omega
    omega
  have mE := mul_z (i := 2 * (sgZ b * UU / LL) + 1) (j := LL) bE (Nat.lt_of_lt_of_le bLL (pow10_le (by decide)))
  have tb := taken_bound (m.by b) (q := UU / LL) (r := UU % LL) (l := LL)
  have key2 : finR (t6__law_exact [.z (.int (sgZ b * UU)), .z (.int LL), .z (.str m.s), .z (.int p), .u, .u, .u]) = finR (t8__law_exact [.z (.int (sgZ b * UU)), .z (.int LL), .z (.str m.s), .z (.int p), .z (.int (sgZ b * UU / LL)), .z (.int (2 * (sgZ b * UU) - (2 * (sgZ b * UU / LL) + 1) * LL)), .u]) := by
    simp?! [t6__law_exact, t7__law_exact, dv, mE]
  rw [key2, t8_ev m f3, round_same m f3 f4 b]
  exact t9_ev m f4 (by omega) (by omega)
theorem x_lexact (m : Mn) {u l : Int} (hl : l ≠ 0) (bu : u.natAbs < 10 ^ 200) (bl : l.natAbs < 10 ^ 200) : d__law_exact [.int u, .int l, .str m.s] = .ok (optL (exZ m u l)) := by
  unfold exZ
  have key : d__law_exact [.int u, .int l, .str m.s] = finR (t1__law_exact [.z (.int (if l < 0 then -u else u)), .z (.int (l.natAbs : Int)), .z (.str m.s), .u, .u, .u, .u]) := by
    by_cases h : l < 0
    · have e : -l = (l.natAbs : Int) := by omega
      rw [if_pos h]
      simp?! [v__law_exact, g__law_exact, h, e]
    · have e : l = (l.natAbs : Int) := by omega
      have hd : decide (l < 0) = false := decide_eq_false h
      rw [if_neg h]
      simp?! [v__law_exact, g__law_exact, hd]
      rw [← e]
  rw [key]
  by_cases h0 : u = 0
  · subst h0
    have z : (if l < 0 then -(0 : Int) else 0) = 0 := by split <;> rfl
    rw [if_pos rfl, z]
    simp?! [t1__law_exact, beq_self_eq_true, optL]
  · rw [if_neg h0]
    have e : (if l < 0 then -u else u) = sgZ (decide (u < 0) != decide (l < 0)) * (u.natAbs : Int) := by
      by_cases h1 : l < 0 <;> by_cases h2 : u < 0 <;> simp [h1, h2, sgZ] <;> omega
    have e0 : ((if l < 0 then -u else u) == 0) = false := by
      rw [beq_eq_false_iff_ne]
      split <;> omega
    have key2 : finR (t1__law_exact [.z (.int (if l < 0 then -u else u)), .z (.int (l.natAbs : Int)), .z (.str m.s), .u, .u, .u, .u]) = finR (t2__law_exact [.z (.int (if l < 0 then -u else u)), .z (.int (l.natAbs : Int)), .z (.str m.s), .u, .u, .u, .u]) := by
      simp?! [t1__law_exact, e0]
    rw [key2, e]
    exact lx_core m (by omega) (by omega) bu bl
/-! manners -/
def FracOk (u l : Int) : Prop := l ≠ 0 ∧ u.natAbs < 10 ^ 200 ∧ l.natAbs < 10 ^ 200
theorem x_manner {n : Int} : ∃ m : Mn, d__law_manner [.int n] = .ok (.str m.s) := by
  have key : d__law_manner [.int n] = .ok (([.str Mn.even.s, .str Mn.away.s, .str Mn.nought.s, .str Mn.up.s, .str Mn.down.s] : List D).getD (n % 5).toNat .non) := by
    simp?! [v__law_manner, g__law_manner]
    rfl
  have h : (n % 5).toNat < 5 := by omega
  rw [key]
  generalize (n % 5).toNat = k at h
  match k, h with
  | 0, _ => exact ⟨.even, rfl⟩
  | 1, _ => exact ⟨.away, rfl⟩
  | 2, _ => exact ⟨.nought, rfl⟩
  | 3, _ => exact ⟨.up, rfl⟩
  | 4, _ => exact ⟨.down, rfl⟩
/-! comparing, comprehensions -/
mutual
theorem eqd_refl : ∀ (n : Nat) (d : D), plain n d = true → eqd d d = true
  | _, .non, _ => rfl
  | _, .bl b, _ => by simp [eqd]
  | _, .int i, _ => by simp [eqd]
  | _, .str x, _ => by simp [eqd]
  | n, .lst xs, h => by
    cases n with
    | zero => cases h
    | succ n => exact eqds_refl n xs h
  | n, .tup xs, h => by
    cases n with
    | zero => cases h
    | succ n => exact eqds_refl n xs h
  | n, .fn _, h => by cases n <;> cases h
  | n, .ty _, h => by cases n <;> cases h
  | n, .dK _, h => by cases n <;> cases h
  | n, .dT _, h => by cases n <;> cases h
  | n, .arr _, h => by cases n <;> cases h
  | n, .pro _, h => by cases n <;> cases h
theorem eqds_refl : ∀ (n : Nat) (ds : List D), plains n ds = true → eqds ds ds = true
  | _, [], _ => rfl
  | n, d :: ds, h => by
    have h : (plain n d && plains n ds) = true := h
    rw [Bool.and_eq_true] at h
    show (eqd d d && eqds ds ds) = true
    rw [eqd_refl n d h.1, eqds_refl n ds h.2]
    rfl
end
theorem ne_same {d : D} (h : plain 64 d = true) : neD d d = some (.bl false) := by
  unfold neD eqOk
  rw [h, Bool.and_self, Bool.and_self, Bool.or_true, if_pos rfl, eqd_refl 64 d h]
  rfl
theorem comp_f {g : Tg} {t : Rho → Res Bool} {e : Rho → Res D} {ρ ρ1 : Rho} {d : D} {ds : List D} (h : g ρ d = some ρ1) (h2 : t ρ1 = .ok false) : compD g t e ρ (d :: ds) = compD g t e ρ ds := by
  rw [compD, h]
  simp only
  rw [h2]
  rfl
theorem comp_t {g : Tg} {t : Rho → Res Bool} {e : Rho → Res D} {ρ ρ1 : Rho} {d y : D} {ds ys : List D} (h : g ρ d = some ρ1) (h2 : t ρ1 = .ok true) (h3 : e ρ1 = .ok y) (h4 : compD g t e ρ ds = .ok ys) : compD g t e ρ (d :: ds) = .ok (y :: ys) := by
  rw [compD, h]
  simp only
  rw [h2]
  simp only [if_true]
  rw [h3]
  simp only
  rw [h4]
  rfl
theorem lc_eq {f : Rho → Res (List D)} {i : Nat} {t : Rho → Res Bool} {e : Rho → Res D} {ρ : Rho} {ds ys : List D} (h : f ρ = .ok ds) (hl : ds.length ≤ 1000000) (h2 : compD (gn i) t e (ρ.set i .u) ds = .ok ys) : lcD f i t e ρ = .ok (.lst ys) := by
  unfold lcD
  rw [h]
  simp only [Res.bind]
  rw [if_pos (by rw [sizeLine_eq]; omega), h2]
/-! plus, minus, times, over, less, and the law's deed -/
def NumB (a b : Int) : Prop := a.natAbs < 10 ^ 8 ∧ -48 ≤ b ∧ b ≤ 40
theorem num_b {a b : Int} (h : NumOk a b) : NumB a b := by
  rcases h with ⟨h1, h2⟩ | ⟨h0, _, h3, h4, h5⟩
  · subst h1; subst h2
    exact ⟨by decide, by decide, by decide⟩
  · have f1 := figs_pos a.natAbs
    have f2 := figs_le (by decide) h3
    exact ⟨h3, by omega, by omega⟩
/-- the lower power -/
def lowP (b1 b2 : Int) : Int := if b2 < b1 then b2 else b1
theorem low_f (b1 b2 : Int) : lowP b1 b2 ≤ b1 ∧ lowP b1 b2 ≤ b2 ∧ (lowP b1 b2 = b1 ∨ lowP b1 b2 = b2) := by unfold lowP; split <;> omega
theorem big_small {a : Int} {k : Nat} (h : a.natAbs < 10 ^ 8) (hk : k ≤ 92) : (a * 10 ^ k).natAbs < 10 ^ 100 := Nat.lt_of_lt_of_le (natAbs_mul_pow h) (pow10_le (by omega))
theorem mul_a {a : Int} {k : Nat} (h : a.natAbs < 10 ^ 8) (hk : k ≤ 92) : mulD (.int a) (.int (10 ^ k)) = some (.int (a * 10 ^ k)) := mul_t (Nat.lt_of_lt_of_le h (pow10_le (by decide))) (by omega)
theorem x_level {a1 b1 a2 b2 : Int} (n1 : NumB a1 b1) (n2 : NumB a2 b2) : d_level [.tup [.int a1, .int b1], .tup [.int a2, .int b2]] = .ok (.tup [.int (a1 * 10 ^ (b1 - lowP b1 b2).toNat), .int (a2 * 10 ^ (b2 - lowP b1 b2).toNat), .int (lowP b1 b2)]) := by
  obtain ⟨h1, h2, h3⟩ := n1
  obtain ⟨g1, g2, g3⟩ := n2
  obtain ⟨l1, l2, l3⟩ := low_f b1 b2
  have e : (if b2 < b1 then b2 else b1) = lowP b1 b2 := rfl
  have t1 := x_ten (k := b1 - lowP b1 b2) (by omega) (by omega)
  have t2 := x_ten (k := b2 - lowP b1 b2) (by omega) (by omega)
  have m1 := mul_a (k := (b1 - lowP b1 b2).toNat) h1 (by omega)
  have m2 := mul_a (k := (b2 - lowP b1 b2).toNat) g1 (by omega)
  simp?! [v_level, g_level, t1_level, e, t1, t2, m1, m2]
theorem x_ofpower (m : Mn) {w p : Int} (hw : w.natAbs < 10 ^ 101) (h1 : -98 ≤ p) (h2 : p ≤ 98) : d_of_power [.int w, .int p, .str m.s] = optR (exZ m (w * 10 ^ p.toNat) (10 ^ (-p).toNat)) := by
  have t1 := x_tenN (n := p.toNat) (by omega)
  have t2 := x_tenN (n := (-p).toNat) (by omega)
  have m1 := mul_t (u := w) (n := p.toNat) (Nat.lt_of_lt_of_le hw (pow10_le (by decide))) (by omega)
  have hp := pow_ge1 (-p).toNat
  have ex := x_exact m (u := w * 10 ^ p.toNat) (l := 10 ^ (-p).toNat) (by omega) (Nat.lt_of_lt_of_le (natAbs_mul_pow hw) (pow10_le (by omega))) (by rw [pow_z]; exact Nat.pow_lt_pow_right (by decide) (by omega))
  simp?! [v_of_power, g_of_power, maxz, t1, t2, m1, ex, finR_ret]
def plU (a1 b1 a2 b2 : Int) : Int := (a1 * 10 ^ (b1 - lowP b1 b2).toNat + a2 * 10 ^ (b2 - lowP b1 b2).toNat) * 10 ^ (lowP b1 b2).toNat
def plL (b1 b2 : Int) : Int := 10 ^ (-(lowP b1 b2)).toNat
theorem x_plus (m : Mn) {a1 b1 a2 b2 : Int} (n1 : NumB a1 b1) (n2 : NumB a2 b2) : d_plus [.tup [.int a1, .int b1], .tup [.int a2, .int b2], .str m.s] = optR (exZ m (plU a1 b1 a2 b2) (plL b1 b2)) := by
  have e := x_level n1 n2
  obtain ⟨h1, h2, h3⟩ := n1
  obtain ⟨g1, g2, g3⟩ := n2
  obtain ⟨l1, l2, l3⟩ := low_f b1 b2
  have s1 := big_small (k := (b1 - lowP b1 b2).toNat) h1 (by omega)
  have s2 := big_small (k := (b2 - lowP b1 b2).toNat) g1 (by omega)
  have p1 : (10 : Nat) ^ 101 = 10 ^ 100 * 10 := Nat.pow_succ _ _
  have o := x_ofpower m (w := a1 * 10 ^ (b1 - lowP b1 b2).toNat + a2 * 10 ^ (b2 - lowP b1 b2).toNat) (p := lowP b1 b2) (by omega) (by omega) (by omega)
  simp?! [v_plus, g_plus, t1_plus, e, o, finR_ret]
  rfl
theorem x_turned {a b : Int} : d_turned [.tup [.int a, .int b]] = .ok (.tup [.int (-a), .int b]) := by
  simp?! [v_turned, g_turned]
theorem x_minus (m : Mn) {a1 b1 a2 b2 : Int} (n1 : NumB a1 b1) (n2 : NumB a2 b2) : d_minus [.tup [.int a1, .int b1], .tup [.int a2, .int b2], .str m.s] = optR (exZ m (plU a1 b1 (-a2) b2) (plL b1 b2)) := by
  have p := x_plus m n1 (show NumB (-a2) b2 from ⟨by rw [Int.natAbs_neg]; exact n2.1, n2.2⟩)
  simp?! [v_minus, g_minus, x_turned, p, finR_ret]
theorem x_times (m : Mn) {a1 b1 a2 b2 : Int} (n1 : NumB a1 b1) (n2 : NumB a2 b2) : d_times [.tup [.int a1, .int b1], .tup [.int a2, .int b2], .str m.s] = optR (exZ m (a1 * a2 * 10 ^ (b1 + b2).toNat) (10 ^ (-(b1 + b2)).toNat)) := by
  obtain ⟨h1, h2, h3⟩ := n1
  obtain ⟨g1, g2, g3⟩ := n2
  have s1 : (a1 * a2).natAbs < 10 ^ 101 := by
    rw [Int.natAbs_mul]
    have q1 : a1.natAbs * a2.natAbs ≤ 10 ^ 8 * 10 ^ 8 := Nat.mul_le_mul (Nat.le_of_lt h1) (Nat.le_of_lt g1)
    have q2 : (10 : Nat) ^ 17 ≤ 10 ^ 101 := pow10_le (by decide)
    omega
  have o := x_ofpower m (w := a1 * a2) (p := b1 + b2) s1 (by omega) (by omega)
  simp?! [v_times, g_times, o, finR_ret]
theorem x_over (m : Mn) {a1 b1 a2 b2 : Int} (n1 : NumB a1 b1) (n2 : NumB a2 b2) : d_over [.tup [.int a1, .int b1], .tup [.int a2, .int b2], .str m.s] = if a2 = 0 then .ex "NoDeed" else optR (exZ m (a1 * 10 ^ (b1 - b2).toNat) (a2 * 10 ^ (-(b1 - b2)).toNat)) := by
  obtain ⟨h1, h2, h3⟩ := n1
  obtain ⟨g1, g2, g3⟩ := n2
  by_cases h0 : a2 = 0
  · subst h0
    rw [if_pos rfl]
    simp?! [v_over, g_over, beq_self_eq_true]
  · rw [if_neg h0]
    have e0 : (a2 == 0) = false := by simpa using h0
    have t1 := x_tenN (n := (b1 - b2).toNat) (by omega)
    have t2 := x_tenN (n := (-(b1 - b2)).toNat) (by omega)
    have m1 := mul_a (k := (b1 - b2).toNat) h1 (by omega)
    have m2 := mul_a (k := (-(b1 - b2)).toNat) g1 (by omega)
    have hp := pow_ge1 (-(b1 - b2)).toNat
    have ex := x_exact m (u := a1 * 10 ^ (b1 - b2).toNat) (l := a2 * 10 ^ (-(b1 - b2)).toNat) (Int.mul_ne_zero h0 (by omega)) (Nat.lt_of_lt_of_le (big_small h1 (by omega)) (pow10_le (by decide))) (Nat.lt_of_lt_of_le (big_small g1 (by omega)) (pow10_le (by decide)))
    simp?! [v_over, g_over, t1_over, t2_over, e0, maxz, t1, t2, m1, m2, ex, finR_ret]
theorem x_less {a1 b1 a2 b2 : Int} (n1 : NumB a1 b1) (n2 : NumB a2 b2) : d_less [.tup [.int a1, .int b1], .tup [.int a2, .int b2]] = .ok (.bl (decide (a1 * 10 ^ (b1 - lowP b1 b2).toNat < a2 * 10 ^ (b2 - lowP b1 b2).toNat))) := by
  simp?! [v_less, g_less, t1_less, x_level n1 n2]
/-! the law's -/
theorem pl_same {a1 b1 a2 b2 : Int} {lo : Int} (hlo : lo = if 0 < lowP b1 b2 then 0 else lowP b1 b2) : a1 * 10 ^ (b1 - lo).toNat + a2 * 10 ^ (b2 - lo).toNat = plU a1 b1 a2 b2 ∧ (10 : Int) ^ (-lo).toNat = plL b1 b2 := by
  obtain ⟨l1, l2, l3⟩ := low_f b1 b2
  unfold plU plL
  by_cases h : 0 < lowP b1 b2
  · rw [if_pos h] at hlo
    subst hlo
    have e1 : (b1 - 0).toNat = (b1 - lowP b1 b2).toNat + (lowP b1 b2).toNat := by omega
    have e2 : (b2 - 0).toNat = (b2 - lowP b1 b2).toNat + (lowP b1 b2).toNat := by omega
    have e3 : (-(lowP b1 b2)).toNat = 0 := by omega
    rw [e1, e2, e3, Int.pow_add, Int.pow_add, Int.add_mul, Int.mul_assoc, Int.mul_assoc]
    exact ⟨rfl, rfl⟩
  · rw [if_neg h] at hlo
    subst hlo
    have e : (lowP b1 b2).toNat = 0 := by omega
    rw [e, Int.pow_zero, Int.mul_one]
    exact ⟨rfl, rfl⟩
theorem pl_bound {a1 b1 a2 b2 : Int} (n1 : NumB a1 b1) (n2 : NumB a2 b2) : FracOk (plU a1 b1 a2 b2) (plL b1 b2) := by
  obtain ⟨h1, h2, h3⟩ := n1
  obtain ⟨g1, g2, g3⟩ := n2
  obtain ⟨l1, l2, l3⟩ := low_f b1 b2
  have s1 := big_small (k := (b1 - lowP b1 b2).toNat) h1 (by omega)
  have s2 := big_small (k := (b2 - lowP b1 b2).toNat) g1 (by omega)
  have p1 : (10 : Nat) ^ 101 = 10 ^ 100 * 10 := Nat.pow_succ _ _
  have hp := pow_ge1 (-(lowP b1 b2)).toNat
  unfold plU plL
  refine ⟨by omega, Nat.lt_of_lt_of_le (natAbs_mul_pow (k := 101) (by omega)) (pow10_le (by omega)), by rw [pow_z]; exact Nat.pow_lt_pow_right (by decide) (by omega)⟩
theorem ld_pm (m : Mn) {a1 b1 a2 b2 : Int} {wd : Str} {s : Int} (n1 : NumB a1 b1) (n2 : NumB a2 b2) (w1 : (wd == Str.ofString "times") = false) (w2 : (wd == Str.ofString "over") = false) (ws : 1 - 2 * (if (wd == Str.ofString "minus") = true then (1 : Int) else 0) = s) (hs : s = 1 ∨ s = -1) :
    d__law_deed [.str wd, .tup [.int a1, .int b1], .tup [.int a2, .int b2], .str m.s] = .ok (optL (exZ m (plU a1 b1 (s * a2) b2) (plL b1 b2))) := by
  have n3 : NumB (s * a2) b2 := ⟨by rcases hs with e | e <;> rw [e] <;> simp <;> exact n2.1, n2.2⟩
  obtain ⟨f1, f2, f3⟩ := pl_bound n1 n3
  have ex := x_lexact m f1 f2 f3
  obtain ⟨h1, h2, h3⟩ := n1
  obtain ⟨g1, g2, g3⟩ := n3
  obtain ⟨l1, l2, l3⟩ := low_f b1 b2
  have e : (if b2 < b1 then b2 else b1) = lowP b1 b2 := rfl
  generalize hlo : (if 0 < lowP b1 b2 then (0 : Int) else lowP b1 b2) = lo
  have lb : lo ≤ b1 ∧ lo ≤ b2 ∧ lo ≤ 0 ∧ -48 ≤ lo := by
    rw [← hlo]
    split <;> omega
  obtain ⟨q1, q2⟩ := pl_same (a1 := a1) (a2 := s * a2) hlo.symm
  have t1 := x_ltenZ (k := b1 - lo) (by omega) (by omega)
  have t2 := x_ltenZ (k := b2 - lo) (by omega) (by omega)
  have t3 := x_ltenZ (k := -lo) (by omega) (by omega)
  have m1 := mul_a (k := (b1 - lo).toNat) h1 (by omega)
  have m2 := mul_a (k := (b2 - lo).toNat) g1 (by omega)
  have m3 : mulD (.int s) (.int a2) = some (.int (s * a2)) := mul_l (by rcases hs with e | e <;> rw [e] <;> decide)
  rw [← q1, ← q2] at ex
  rw [← q1, ← q2]
  simp?! [v__law_deed, g__law_deed, t1__law_deed, t2__law_deed, t3__law_deed, t4__law_deed, t5__law_deed, t6__law_deed, w1, w2, min_iii, e, ws, hlo, t1, t2, t3, m1, m2, m3, ex]
theorem ld_plus (m : Mn) {a1 b1 a2 b2 : Int} (n1 : NumB a1 b1) (n2 : NumB a2 b2) : d__law_deed [.str "plus", .tup [.int a1, .int b1], .tup [.int a2, .int b2], .str m.s] = .ok (optL (exZ m (plU a1 b1 a2 b2) (plL b1 b2))) := by
  have := ld_pm m (wd := "plus") (s := 1) n1 n2 (by decide +kernel) (by decide +kernel) (by decide +kernel) (.inl rfl)
  rw [Int.one_mul] at this
  exact this
theorem ld_minus (m : Mn) {a1 b1 a2 b2 : Int} (n1 : NumB a1 b1) (n2 : NumB a2 b2) : d__law_deed [.str "minus", .tup [.int a1, .int b1], .tup [.int a2, .int b2], .str m.s] = .ok (optL (exZ m (plU a1 b1 (-a2) b2) (plL b1 b2))) := by
  have := ld_pm m (wd := "minus") (s := -1) n1 n2 (by decide +kernel) (by decide +kernel) (by decide +kernel) (.inr rfl)
  rw [Int.neg_one_mul] at this
  exact this
theorem ld_times (m : Mn) {a1 b1 a2 b2 : Int} (n1 : NumB a1 b1) (n2 : NumB a2 b2) : d__law_deed [.str "times", .tup [.int a1, .int b1], .tup [.int a2, .int b2], .str m.s] = .ok (optL (exZ m (a1 * a2 * 10 ^ (b1 + b2).toNat) (10 ^ (-(b1 + b2)).toNat))) := by
  obtain ⟨h1, h2, h3⟩ := n1
  obtain ⟨g1, g2, g3⟩ := n2
  have s1 : (a1 * a2).natAbs < 10 ^ 17 := by
    rw [Int.natAbs_mul]
    have q1 : a1.natAbs * a2.natAbs ≤ 10 ^ 8 * 10 ^ 8 := Nat.mul_le_mul (Nat.le_of_lt h1) (Nat.le_of_lt g1)
    omega
  have hp := pow_ge1 (-(b1 + b2)).toNat
  have t1 := x_lten (n := (b1 + b2).toNat) (by omega)
  have t2 := x_lten (n := (-(b1 + b2)).toNat) (by omega)
  have m0 : mulD (.int a1) (.int a2) = some (.int (a1 * a2)) := mul_l (by omega)
  have m1 := mul_t (u := a1 * a2) (n := (b1 + b2).toNat) (Nat.lt_of_lt_of_le s1 (pow10_le (by decide))) (by omega)
  have ex := x_lexact m (u := a1 * a2 * 10 ^ (b1 + b2).toNat) (l := 10 ^ (-(b1 + b2)).toNat) (by omega) (Nat.lt_of_lt_of_le (natAbs_mul_pow s1) (pow10_le (by omega))) (by rw [pow_z]; exact Nat.pow_lt_pow_right (by decide) (by omega))
  simp?! [v__law_deed, g__law_deed, beq_self_eq_true, maxz, t1, t2, m0, m1, ex]
theorem ld_over (m : Mn) {a1 b1 a2 b2 : Int} (n1 : NumB a1 b1) (n2 : NumB a2 b2) (h0 : a2 ≠ 0) : d__law_deed [.str "over", .tup [.int a1, .int b1], .tup [.int a2, .int b2], .str m.s] = .ok (optL (exZ m (a1 * 10 ^ (b1 - b2).toNat) (a2 * 10 ^ (-(b1 - b2)).toNat))) := by
  obtain ⟨h1, h2, h3⟩ := n1
  obtain ⟨g1, g2, g3⟩ := n2
  have w1 : (Str.ofString "over" == Str.ofString "times") = false := by decide +kernel
  have t1 := x_lten (n := (b1 - b2).toNat) (by omega)
  have t2 := x_lten (n := (-(b1 - b2)).toNat) (by omega)
  have m1 := mul_a (k := (b1 - b2).toNat) h1 (by omega)
  have m2 := mul_a (k := (-(b1 - b2)).toNat) g1 (by omega)
  have hp := pow_ge1 (-(b1 - b2)).toNat
  have ex := x_lexact m (u := a1 * 10 ^ (b1 - b2).toNat) (l := a2 * 10 ^ (-(b1 - b2)).toNat) (Int.mul_ne_zero h0 (by omega)) (Nat.lt_of_lt_of_le (big_small h1 (by omega)) (pow10_le (by decide))) (Nat.lt_of_lt_of_le (big_small g1 (by omega)) (pow10_le (by decide)))
  simp?! [v__law_deed, g__law_deed, t1__law_deed, w1, beq_self_eq_true, maxz, t1, t2, m1, m2, ex]
/-! the deeds by value -/
theorem pl_val (a1 b1 a2 b2 : Int) : (plU a1 b1 a2 b2 : Rat) / (plL b1 b2 : Rat) = vl (a1, b1) + vl (a2, b2) := by
  obtain ⟨l1, l2, _⟩ := low_f b1 b2
  unfold plU plL
  rw [frac_val, Rat.intCast_add, Rat.add_mul, vl_at l1, vl_at l2]
theorem pl_ne (b1 b2 : Int) : plL b1 b2 ≠ 0 := by
  have := pow_ge1 (-(lowP b1 b2)).toNat
  unfold plL
  omega
theorem ti_val (a1 b1 a2 b2 : Int) : ((a1 * a2 * 10 ^ (b1 + b2).toNat : Int) : Rat) / ((10 ^ (-(b1 + b2)).toNat : Int) : Rat) = vl (a1, b1) * vl (a2, b2) := by
  rw [frac_val, Rat.intCast_mul, T_add]
  show _ = (a1 : Rat) * T b1 * ((a2 : Rat) * T b2)
  grind
theorem ov_val (a1 b1 : Int) {a2 : Int} (b2 : Int) (h : a2 ≠ 0) : ((a1 * 10 ^ (b1 - b2).toNat : Int) : Rat) / ((a2 * 10 ^ (-(b1 - b2)).toNat : Int) : Rat) = vl (a1, b1) / vl (a2, b2) := by
  have h1 := frac_val a1 (b1 - b2)
  have e : T (b1 - b2) * T b2 = T b1 := by rw [← T_add]; congr 1; omega
  have p2 := T_pos b2
  have h2 : (a2 : Rat) ≠ 0 := fun z => h (Rat.intCast_eq_zero_iff.mp z)
  rw [Rat.intCast_mul a2]
  show _ = (a1 : Rat) * T b1 / ((a2 : Rat) * T b2)
  generalize ((a1 * 10 ^ (b1 - b2).toNat : Int) : Rat) = x at *
  have n3 : ((10 ^ (-(b1 - b2)).toNat : Int) : Rat) ≠ 0 := fun z => by
    have := pow_ge1 (-(b1 - b2)).toNat
    have := Rat.intCast_eq_zero_iff.mp z
    omega
  generalize ((10 ^ (-(b1 - b2)).toNat : Int) : Rat) = y at *
  generalize T (b1 - b2) = t at *
  generalize T b1 = t1 at *
  generalize T b2 = t2 at *
  have n2 : t2 ≠ 0 := by grind
  have hx : x = (a1 : Rat) * t * y := by grind
  rw [hx, ← e]
  grind
theorem le_val (a1 b1 a2 b2 : Int) : a1 * 10 ^ (b1 - lowP b1 b2).toNat < a2 * 10 ^ (b2 - lowP b1 b2).toNat ↔ vl (a1, b1) < vl (a2, b2) := by
  obtain ⟨l1, l2, _⟩ := low_f b1 b2
  rw [vl_at l1, vl_at l2, Rat.mul_lt_mul_right (T_pos _), Rat.intCast_lt_intCast]
theorem pow_ne (n : Nat) : (10 : Int) ^ n ≠ 0 := by have := pow_ge1 n; omega
theorem y_plus (m : Mn) {a1 b1 a2 b2 : Int} (n1 : NumB a1 b1) (n2 : NumB a2 b2) : d_plus [.tup [.int a1, .int b1], .tup [.int a2, .int b2], .str m.s] = optR (exV m (vl (a1, b1) + vl (a2, b2))) := by
  rw [x_plus m n1 n2, ex_V m (pl_ne _ _), pl_val]
theorem y_minus (m : Mn) {a1 b1 a2 b2 : Int} (n1 : NumB a1 b1) (n2 : NumB a2 b2) : d_minus [.tup [.int a1, .int b1], .tup [.int a2, .int b2], .str m.s] = optR (exV m (vl (a1, b1) - vl (a2, b2))) := by
  have e : vl (-a2, b2) = -vl (a2, b2) := vl_neg (a2, b2)
  rw [x_minus m n1 n2, ex_V m (pl_ne _ _), pl_val, e, ← Rat.sub_eq_add_neg]
theorem y_times (m : Mn) {a1 b1 a2 b2 : Int} (n1 : NumB a1 b1) (n2 : NumB a2 b2) : d_times [.tup [.int a1, .int b1], .tup [.int a2, .int b2], .str m.s] = optR (exV m (vl (a1, b1) * vl (a2, b2))) := by
  rw [x_times m n1 n2, ex_V m (pow_ne _), ti_val]
theorem y_over (m : Mn) {a1 b1 a2 b2 : Int} (n1 : NumB a1 b1) (n2 : NumB a2 b2) : d_over [.tup [.int a1, .int b1], .tup [.int a2, .int b2], .str m.s] = if a2 = 0 then .ex "NoDeed" else optR (exV m (vl (a1, b1) / vl (a2, b2))) := by
  rw [x_over m n1 n2]
  by_cases h : a2 = 0
  · rw [if_pos h, if_pos h]
  · rw [if_neg h, if_neg h, ex_V m (Int.mul_ne_zero h (pow_ne _)), ov_val a1 b1 b2 h]
theorem y_less {a1 b1 a2 b2 : Int} (n1 : NumB a1 b1) (n2 : NumB a2 b2) : d_less [.tup [.int a1, .int b1], .tup [.int a2, .int b2]] = .ok (.bl (decide (vl (a1, b1) < vl (a2, b2)))) := by
  rw [x_less n1 n2]
  congr 2
  exact decide_eq_decide.mpr (le_val a1 b1 a2 b2)
theorem NumB.neg {a b : Int} (h : NumB a b) : NumB (-a) b := ⟨by rw [Int.natAbs_neg]; exact h.1, h.2⟩
/-! ranges -/
abbrev numD (s : Int × Int) : D := .tup [.int s.1, .int s.2]
/-! drawn ranges -/
/-! intervals -/
/-! entries -/
def tidyZ (a b : Int) : Int × Int := if a = 0 then (0, 0) else strip 5000 a b
theorem tidy_vl (a b : Int) : vl (tidyZ a b) = vl (a, b) := by
  unfold tidyZ
  split
  · rename_i h; subst h; rw [vl_zero, vl_zero]
  · exact vl_strip 5000 a b
theorem tidy_ok {a b : Int} (ha : a.natAbs < 10 ^ 8) (h1 : -30 ≤ b) (h2 : b ≤ 30) : NumOk (tidyZ a b).1 (tidyZ a b).2 := by
  have core : ∀ a : Int, 0 < a → a.natAbs < 10 ^ 8 → NumOk (strip 5000 a b).1 (strip 5000 a b).2 := by
    intro a h0 ha
    obtain ⟨t1, t2⟩ := hg_T (b := b) h0
    have f1 := figs_pos a.natAbs
    have f2 := figs_le (k := 8) (by decide) ha
    have hh : hgZ (a, b) = b + (figs a.natAbs : Int) - 1 := rfl
    refine strip_ok h0 (by omega) ?_ ?_
    · have := T_mono (show hgZ (a, b) + 1 ≤ 41 by omega)
      grind
    · have := T_mono (show (-40 : Int) ≤ hgZ (a, b) by omega)
      grind
  unfold tidyZ
  split
  · exact zero_ok
  · rename_i h
    by_cases h0 : 0 < a
    · exact core a h0 ha
    · have e : a = -(-a) := by omega
      rw [e, strip_neg]
      exact (core (-a) (by omega) (by rw [Int.natAbs_neg]; exact ha)).neg
theorem tidy_neg (a b : Int) : tidyZ (-a) b = (-(tidyZ a b).1, (tidyZ a b).2) := by
  unfold tidyZ
  by_cases h : a = 0
  · rw [if_pos h, if_pos (by omega)]; rfl
  · rw [if_neg h, if_neg (by omega), strip_neg]
structure Ent where
  neg : Bool
  ah : List Nat
  pt : Bool
  be : List Nat
structure EntOk (e : Ent) : Prop where
  a : AllDigits e.ah
  b : AllDigits e.be
  ne : e.ah ≠ []
  np : e.pt = false → e.be = []
  len : e.ah.length + e.be.length ≤ 8
def Ent.L (e : Ent) : List Nat := (if e.neg = true then [45] else []) ++ e.ah ++ (if e.pt = true then 46 :: e.be else [])
def Ent.val (e : Ent) : Int := if e.neg = true then -((digitsVal (e.ah ++ e.be) : Nat) : Int) else ((digitsVal (e.ah ++ e.be) : Nat) : Int)
def Ent.num (e : Ent) : Int × Int := tidyZ e.val (-(e.be.length : Int))
theorem dv_foldl : ∀ (l : List Nat) (a : Nat), AllDigits l → l.foldl (fun acc c => acc * 10 + (c - 48)) a < (a + 1) * 10 ^ l.length
  | [], a, _ => by simp
  | c :: l, a, h => by
    have hc := h c List.mem_cons_self
    have ih := dv_foldl l (a * 10 + (c - 48)) fun d hd => h d (List.mem_cons_of_mem _ hd)
    rw [List.foldl_cons, List.length_cons]
    refine Nat.lt_of_lt_of_le ih ?_
    rw [Nat.pow_succ, Nat.mul_comm (10 ^ l.length) 10, ← Nat.mul_assoc]
    exact Nat.mul_le_mul_right _ (by omega)
theorem dv_lt {l : List Nat} (h : AllDigits l) : digitsVal l < 10 ^ l.length := by
  have := dv_foldl l 0 h
  simpa [digitsVal] using this
theorem AllDigits.app {a b : List Nat} (ha : AllDigits a) (hb : AllDigits b) : AllDigits (a ++ b) := fun c hc => by
  rcases List.mem_append.mp hc with h | h
  · exact ha c h
  · exact hb c h
theorem dig_no {c : Nat} {l : List Nat} (h : AllDigits l) (hc : c < 48 ∨ 57 < c) : c ∉ l := fun z => by
  have := h c z
  omega
theorem met_ok {G : D → List D → Option D} {x : Str} {ds : List D} {f : Rho → Res D} {g : Rho → Res (List D)} {ρ : Rho} (h1 : f ρ = .ok (.str x)) (h2 : g ρ = .ok ds) : met G f g ρ = ofO (G (.str x) ds) := by
  unfold met
  rw [h1]
  show (g ρ).bind _ = _
  rw [h2]
  rfl
theorem part_S {l : List Nat} {c : Nat} (h : l.length ≤ 1000) : partD (.str (S l)) [.str (S [c])] = some (.tup [.str (Txt.partition (S l) (S [c])).1, .str (Txt.partition (S l) (S [c])).2.1, .str (Txt.partition (S l) (S [c])).2.2]) := by
  show (if ((S [c]).length == 0) = false ∧ (S l).length ≤ sizeLine then some (D.tup [.str (Txt.partition (S l) (S [c])).1, .str (Txt.partition (S l) (S [c])).2.1, .str (Txt.partition (S l) (S [c])).2.2]) else none) = _
  rw [if_pos ⟨rfl, by rw [S_len, sizeLine_eq]; omega⟩]
theorem ent_len {e : Ent} (h : EntOk e) : e.L.length ≤ 10 := by
  unfold Ent.L
  have := h.len
  rw [List.length_append, List.length_append]
  split <;> split <;> simp <;> omega
theorem int_neg {l : List Nat} (h : AllDigits l) (h1 : l ≠ []) (h2 : l.length ≤ 600) : intD [.str (S (45 :: l))] = some (.int (-((digitsVal l : Nat) : Int))) := by
  show (if (S (45 :: l)).length ≤ 640 then (PySem.intText? (S (45 :: l))).map D.int else none) = _
  rw [if_pos (by rw [S_len, List.length_cons]; omega), PySem.intText_neg (cs := l) (by rw [S_tl]) h h1 (by rw [S_len, List.length_cons]; omega)]
  rfl
theorem int_dig {l : List Nat} (h : AllDigits l) (h1 : l ≠ []) (h2 : l.length ≤ 600) : intD [.str (S l)] = some (.int ((digitsVal l : Nat) : Int)) :=
  int_digits (by rw [S_tl]; exact h) (by rw [S_tl]; exact h1) (by rw [S_tl]; omega) (by rw [S_tl])
theorem ent_int {e : Ent} (h : EntOk e) : intD [.str (S ((if e.neg = true then [45] else []) ++ e.ah ++ e.be))] = some (.int e.val) := by
  have hd := AllDigits.app h.a h.b
  have hn : e.ah ++ e.be ≠ [] := by
    intro z
    exact h.ne (List.append_eq_nil_iff.mp z).1
  have hl : (e.ah ++ e.be).length ≤ 600 := by rw [List.length_append]; have := h.len; omega
  unfold Ent.val
  cases e.neg with
  | false =>
    show intD [.str (S ([] ++ e.ah ++ e.be))] = _
    rw [List.nil_append]
    exact int_dig hd hn hl
  | true =>
    show intD [.str (S (45 :: (e.ah ++ e.be)))] = _
    exact int_neg hd hn hl
theorem val_lt {e : Ent} (h : EntOk e) : e.val.natAbs < 10 ^ 8 := by
  have d := dv_lt (AllDigits.app h.a h.b)
  have p := pow10_le (show (e.ah ++ e.be).length ≤ 8 by rw [List.length_append]; exact h.len)
  unfold Ent.val
  split <;> omega
theorem ent_ok {e : Ent} (h : EntOk e) : NumOk e.num.1 e.num.2 := tidy_ok (val_lt h) (by have := h.len; omega) (by omega)
theorem ent_vl (e : Ent) : vl e.num = vl (e.val, -(e.be.length : Int)) := tidy_vl _ _
theorem ent_exact {e : Ent} (h : EntOk e) : d_exact [.int e.val, .int (10 ^ e.be.length), .str "even"] = .ok (numD e.num) := by
  have hl := h.len
  have x := x_exact .even (u := e.val) (l := 10 ^ e.be.length) (pow_ne _) (Nat.lt_of_lt_of_le (val_lt h) (pow10_le (by decide))) (by rw [pow_z]; exact Nat.pow_lt_pow_right (by decide) (by omega))
  have f := frac_val e.val (-(e.be.length : Int))
  rw [show (-(e.be.length : Int)).toNat = 0 by omega, Int.pow_zero, Int.mul_one, show (-(-(e.be.length : Int))).toNat = e.be.length by omega] at f
  rw [ex_fix .even (a := e.num.1) (b := e.num.2) (pow_ne _) (ent_ok h) (f.trans (ent_vl e).symm)] at x
  exact x
theorem x_toldby {e : Ent} (h : EntOk e) : d_told_by [.str (S e.L)] = .ok (numD e.num) := by
  have el := ent_len h
  have hl := h.len
  have sg : (46 : Nat) ∉ (if e.neg = true then [45] else []) ++ e.ah := by
    intro z
    rcases List.mem_append.mp z with q | q
    · split at q <;> simp at q
    · exact dig_no h.a (.inl (by decide)) q
  have hp : Txt.partition (S e.L) (S [46]) = (S ((if e.neg = true then [45] else []) ++ e.ah), (if e.pt = true then S [46] else S []), S e.be) := by
    unfold Ent.L
    cases hpt : e.pt with
    | false =>
      have be0 := h.np hpt
      rw [be0]
      simp only [Bool.false_eq_true, if_false, List.append_nil]
      exact part_none sg
    | true =>
      simp only [if_true]
      exact part_some sg
  have e1 := part_S (l := e.L) (c := 46) (by omega)
  rw [hp] at e1
  have mt : met partD (var 0) (acons (con (.str ".")) anil) [.z (.str (S e.L)), .u, .u, .u] = .ok (.tup [.str (S ((if e.neg = true then [45] else []) ++ e.ah)), .str (if e.pt = true then S [46] else S []), .str (S e.be)]) := by
    rw [met_ok (x := S e.L) (ds := [.str (S [46])]) rfl rfl, e1]
    rfl
  have ln : ((if e.neg = true then [45] else []) ++ e.ah).length ≤ 10 := by
    have : ((if e.neg = true then [45] else []) ++ e.ah).length ≤ e.L.length := by unfold Ent.L; rw [List.length_append (as := _ ++ _)]; omega
    omega
  have a1 := add_S (a := (if e.neg = true then [45] else []) ++ e.ah) (b := e.be) (by omega)
  have a2 := ent_int h
  have a3 := len_S (a := e.be) (by omega)
  have a4 := x_tenN (n := e.be.length) (by omega)
  have a5 := ent_exact h
  simp?! [v_told_by, g_told_by, t1_told_by, mt, a1, a2, a3, a4, a5]
/-! keys and states -/
theorem finR_sr {r : Res D} {ρ : Rho} {t : Rho → SR} : finR (seqR (retR r ρ) t) = r := by cases r <;> rfl
inductive Dd where | plus | minus | times | over
  deriving DecidableEq
inductive Ky where | fig (i : Fin 10) | dot | sign | enter | dd (w : Dd) | root | swap | roll | last | clear | put (i : Fin 10) | get (i : Fin 10)
  deriving DecidableEq
def Dd.s : Dd → Str
  | .plus => "plus" | .minus => "minus" | .times => "times" | .over => "over"
def Ky.s : Ky → Str
  | .fig i => S [48 + i.val] | .dot => "." | .sign => "sign" | .enter => "enter" | .dd w => w.s | .root => "root" | .swap => "swap" | .roll => "roll" | .last => "last" | .clear => "clear" | .put i => S [112, 117, 116, 48 + i.val] | .get i => S [103, 101, 116, 48 + i.val]
theorem fin10 (i : Fin 10) : i = 0 ∨ i = 1 ∨ i = 2 ∨ i = 3 ∨ i = 4 ∨ i = 5 ∨ i = 6 ∨ i = 7 ∨ i = 8 ∨ i = 9 := by revert i; decide
structure Sta where
  m : Mn
  x : Int × Int
  y : Int × Int
  z : Int × Int
  t : Int × Int
  l : Int × Int
  bx : List (Int × Int)
  en : Option Ent
  lf : Bool
  od : Option Bool
def enD : Option Ent → D
  | none => .non
  | some e => .str (S e.L)
def odD : Option Bool → D
  | none => .non
  | some false => .str "deed"
  | some true => .str "great"
def Sta.D (s : Sta) : D := .tup [.str s.m.s, .tup [numD s.x, numD s.y, numD s.z, numD s.t], numD s.l, .tup (s.bx.map numD), enD s.en, .bl s.lf, odD s.od]
abbrev NO (s : Int × Int) : Prop := NumOk s.1 s.2
structure Sta.Ok (s : Sta) : Prop where
  x : NO s.x
  y : NO s.y
  z : NO s.z
  t : NO s.t
  l : NO s.l
  bl : s.bx.length = 10
  b : ∀ n ∈ s.bx, NO n
  e : ∀ e, s.en = some e → EntOk e
def rootZ (m : Mn) (s : Int × Int) : Int × Int := match d_root [numD s, .str m.s] with
  | .ok (.tup [.int a, .int b]) => (a, b)
  | _ => (0, 0)
def ddV : Dd → Rat → Rat → Rat
  | .plus, y, x => y + x | .minus, y, x => y - x | .times, y, x => y * x | .over, y, x => y / x
def entK : Option Ent → Ky → Ent
  | none, .dot => ⟨false, [48], true, []⟩
  | none, .fig i => ⟨false, [48 + i.val], false, []⟩
  | some e, .dot => { e with pt := true }
  | some e, .fig i => if e.ah.length + e.be.length < 8 then (if e.pt = true then { e with be := e.be ++ [48 + i.val] } else { e with ah := e.ah ++ [48 + i.val] }) else e
  | some e, _ => e
  | none, _ => ⟨false, [48], false, []⟩
def typeZ (s : Sta) (k : Ky) : Sta :=
  let s := if s.en.isNone && s.lf then { s with y := s.x, z := s.y, t := s.z } else s
  { s with x := (entK s.en k).num, en := some (entK s.en k) }
def deedZ (s : Sta) (w : Dd) : Sta :=
  if w = .over ∧ s.x.1 = 0 then { s with en := none, od := some false } else match exV s.m (ddV w (vl s.y) (vl s.x)) with
    | none => { s with en := none, od := some true }
    | some r => { s with x := r, y := s.z, z := s.t, l := s.x, en := none, lf := true }
def signZ (s : Sta) : Sta := match s.en with
  | none => { s with x := neg1 s.x, lf := true }
  | some e => { s with x := ({ e with neg := !e.neg } : Ent).num, en := some { e with neg := !e.neg } }
def pushZ (s : Sta) (n : Int × Int) : Sta := if s.lf = true then { s with x := n, y := s.x, z := s.y, t := s.z, en := none, lf := true } else { s with x := n, en := none, lf := true }
def pressZ (s : Sta) (k : Ky) : Sta := match s.od with
  | some _ => if k = .clear then { s with en := none, lf := false, od := none } else s
  | none => match k with
    | .fig i => typeZ s (.fig i)
    | .dot => typeZ s .dot
    | .sign => signZ s
    | .enter => { s with y := s.x, z := s.y, t := s.z, en := none, lf := false }
    | .dd w => deedZ s w
    | .root => if s.x.1 < 0 then { s with en := none, od := some false } else { s with x := rootZ s.m s.x, l := s.x, en := none, lf := true }
    | .swap => { s with x := s.y, y := s.x, en := none, lf := true }
    | .roll => { s with x := s.y, y := s.z, z := s.t, t := s.x, en := none, lf := true }
    | .last => pushZ s s.l
    | .clear => { s with x := (0, 0), en := none, lf := false }
    | .put i => { s with bx := s.bx.set i.val s.x, en := none, lf := true }
    | .get i => pushZ s (s.bx.getD i.val (0, 0))
/-! the keys that look at no text and no value -/
section
variable {m l B en x y z t b0 b1 b2 b3 b4 b5 b6 b7 b8 b9 P lf : D}
theorem kp_swap {f : Bool} : d_pressed [.tup [m, .tup [x, y, z, t], l, B, en, .bl f, .non], .str "swap"] = .ok (.tup [m, .tup [y, x, z, t], l, B, .non, .bl true, .non]) := by kernel_rfl
theorem kp_roll {f : Bool} : d_pressed [.tup [m, .tup [x, y, z, t], l, B, en, .bl f, .non], .str "roll"] = .ok (.tup [m, .tup [y, z, t, x], l, B, .non, .bl true, .non]) := by kernel_rfl
theorem kp_enter {f : Bool} : d_pressed [.tup [m, .tup [x, y, z, t], l, B, en, .bl f, .non], .str "enter"] = .ok (.tup [m, .tup [x, x, y, z], l, B, .non, .bl false, .non]) := by kernel_rfl
theorem kp_clear {f : Bool} : d_pressed [.tup [m, .tup [x, y, z, t], l, B, en, .bl f, .non], .str "clear"] = .ok (.tup [m, .tup [.tup [.int 0, .int 0], y, z, t], l, B, .non, .bl false, .non]) := by kernel_rfl
theorem kp_last1 : d_pressed [.tup [m, .tup [x, y, z, t], l, B, en, .bl true, .non], .str "last"] = .ok (.tup [m, .tup [l, x, y, z], l, B, .non, .bl true, .non]) := by kernel_rfl
theorem kp_last0 : d_pressed [.tup [m, .tup [x, y, z, t], l, B, en, .bl false, .non], .str "last"] = .ok (.tup [m, .tup [l, y, z, t], l, B, .non, .bl true, .non]) := by kernel_rfl
theorem kp_put {f : Bool} (i : Fin 10) : d_pressed [.tup [m, .tup [x, y, z, t], l, .tup [b0, b1, b2, b3, b4, b5, b6, b7, b8, b9], en, .bl f, .non], .str (Ky.put i).s] = .ok (.tup [m, .tup [x, y, z, t], l, .tup ([b0, b1, b2, b3, b4, b5, b6, b7, b8, b9].set i.val x), .non, .bl true, .non]) := by
  rcases fin10 i with e | e | e | e | e | e | e | e | e | e <;> subst e <;> kernel_rfl
theorem kp_get1 (i : Fin 10) : d_pressed [.tup [m, .tup [x, y, z, t], l, .tup [b0, b1, b2, b3, b4, b5, b6, b7, b8, b9], en, .bl true, .non], .str (Ky.get i).s] = .ok (.tup [m, .tup [[b0, b1, b2, b3, b4, b5, b6, b7, b8, b9].getD i.val .non, x, y, z], l, .tup [b0, b1, b2, b3, b4, b5, b6, b7, b8, b9], .non, .bl true, .non]) := by
  rcases fin10 i with e | e | e | e | e | e | e | e | e | e <;> subst e <;> kernel_rfl
theorem kp_get0 (i : Fin 10) : d_pressed [.tup [m, .tup [x, y, z, t], l, .tup [b0, b1, b2, b3, b4, b5, b6, b7, b8, b9], en, .bl false, .non], .str (Ky.get i).s] = .ok (.tup [m, .tup [[b0, b1, b2, b3, b4, b5, b6, b7, b8, b9].getD i.val .non, y, z, t], l, .tup [b0, b1, b2, b3, b4, b5, b6, b7, b8, b9], .non, .bl true, .non]) := by
  rcases fin10 i with e | e | e | e | e | e | e | e | e | e <;> subst e <;> kernel_rfl
theorem kp_odd {o : Str} (k : Ky) (h : k ≠ .clear) : d_pressed [.tup [m, P, l, B, en, lf, .str o], .str k.s] = .ok (.tup [m, P, l, B, en, lf, .str o]) := by
  cases k with
  | fig i => rcases fin10 i with e | e | e | e | e | e | e | e | e | e <;> subst e <;> kernel_rfl
  | put i => rcases fin10 i with e | e | e | e | e | e | e | e | e | e <;> subst e <;> kernel_rfl
  | get i => rcases fin10 i with e | e | e | e | e | e | e | e | e | e <;> subst e <;> kernel_rfl
  | dd w => cases w <;> kernel_rfl
  | clear => exact absurd rfl h
  | _ => kernel_rfl
theorem kp_oddc {o : Str} : d_pressed [.tup [m, P, l, B, en, lf, .str o], .str "clear"] = .ok (.tup [m, P, l, B, .non, .bl false, .non]) := by kernel_rfl
theorem kp_sign0 {a b : Int} {f : Bool} : d_pressed [.tup [m, .tup [.tup [.int a, .int b], y, z, t], l, B, .non, .bl f, .non], .str "sign"] = .ok (.tup [m, .tup [.tup [.int (-a), .int b], y, z, t], l, B, .non, .bl true, .non]) := by kernel_rfl
/-- a sign with an entry -/
theorem kp_sign1 {e : Ent} (h : EntOk e) {f : D} : d_pressed [.tup [m, .tup [x, y, z, t], l, B, .str (S e.L), f, .non], .str "sign"] = .ok (.tup [m, .tup [numD ({ e with neg := !e.neg } : Ent).num, y, z, t], l, B, .str (S ({ e with neg := !e.neg } : Ent).L), f, .non]) := by
  have ok : d_is_key [.str "sign"] = .ok (.bl true) := by kernel_rfl
  have e1 : isNotN .non .non = some (.bl false) := rfl
  have e2 : (Str.ofString "sign" == Str.ofString ".") = false := by decide +kernel
  have e3 : inD (.str (Str.ofString "sign")) (.str "0123456789") = some (.bl false) := by kernel_rfl
  have key : d_pressed [.tup [m, .tup [x, y, z, t], l, B, .str (S e.L), f, .non], .str "sign"] = d_signed [.tup [m, .tup [x, y, z, t], l, B, .str (S e.L), f, .non]] := by
    simp?! [v_pressed, g_pressed, t1_pressed, t2_pressed, t3_pressed, ok, ix_t6, e1, e2, e3, beq_self_eq_true, finR_ret, finR_sr]
  rw [key]
  have h2 : EntOk ({ e with neg := !e.neg } : Ent) := ⟨h.a, h.b, h.ne, h.np, h.len⟩
  have tb := x_toldby h2
  have n1 : isN (.str (S e.L)) .non = some (.bl false) := rfl
  have a7 : asgR (.ok (.tup [m, .tup [x, y, z, t], l, B, .str (S e.L), f, .non])) [.z (.tup [m, .tup [x, y, z, t], l, B, .str (S e.L), f, .non]), .u, .u, .u, .u, .u, .u, .u] (gt 7 (gsc (gn 1) (gsc (gn 2) (gsc (gn 3) (gsc (gn 4) (gsc (gn 5) (gsc (gn 6) (gsc (gn 7) gsn)))))))) = .nx [.z (.tup [m, .tup [x, y, z, t], l, B, .str (S e.L), f, .non]), .z m, .z (.tup [x, y, z, t]), .z l, .z B, .z (.str (S e.L)), .z f, .z .non] := rfl
  have st : startsD (.str (S e.L)) [.str "-"] = some (.bl e.neg) := by
    show some (D.bl (Txt.startswith (S e.L) (S [45]))) = _
    have : Txt.startswith (S e.L) (S [45]) = e.neg := by
      unfold Txt.startswith
      have so := sub_one (l := e.L) (c := 45) (i := 0)
      have hg : (e.L[0]? = some 45) ↔ e.neg = true := by
        unfold Ent.L
        cases hn : e.neg with
        | true => simp
        | false =>
          obtain ⟨c, r, hc⟩ := List.exists_cons_of_ne_nil h.ne
          have := h.a c (by rw [hc]; exact List.mem_cons_self)
          simp [hc]
          omega
      rw [hg] at so
      cases hn : e.neg with
      | true =>
        have := so.mpr hn
        rw [decide_eq_true this.1, this.2]
        rfl
      | false =>
        rw [hn] at so
        by_cases q : 0 + (S [45]).length ≤ (S e.L).length
        · have : Builtin.Str.subAt (S e.L) (S [45]) 0 = false := by
            cases w : Builtin.Str.subAt (S e.L) (S [45]) 0 with
            | false => rfl
            | true => exact absurd (so.mp ⟨q, w⟩) (by decide)
          rw [this, Bool.and_false]
        · rw [decide_eq_false q, Bool.false_and]
    rw [this]
  have el := ent_len h
  have s1 : slD (.tup [x, y, z, t]) (some 1) none = some (.tup [y, z, t]) := by kernel_rfl
  have ad : ∀ n : D, addD (.tup [n]) (.tup [y, z, t]) = some (.tup [n, y, z, t]) := fun n => by kernel_rfl
  have fin : ∀ e' : Ent, EntOk e' → finR (t3_signed [.z (.tup [m, .tup [x, y, z, t], l, B, .str (S e.L), f, .non]), .z m, .z (.tup [x, y, z, t]), .z l, .z B, .z (.str (S e'.L)), .z f, .z .non]) = .ok (.tup [m, .tup [numD e'.num, y, z, t], l, B, .str (S e'.L), f, .non]) := fun e' h' => by
    simp?! [t3_signed, x_toldby h', s1, ad]
  cases hn : e.neg with
  | true =>
    rw [hn] at st
    have c1 := sl_lo1 (l := e.L) (by omega) (by unfold Ent.L; rw [hn]; simp)
    have c2 : e.L.drop 1 = ({ e with neg := false } : Ent).L := by unfold Ent.L; rw [hn]; simp
    rw [c2] at c1
    have ok2 : EntOk ({ e with neg := false } : Ent) := ⟨h.a, h.b, h.ne, h.np, h.len⟩
    have := fin _ ok2
    simp?! [v_signed, g_signed, t1_signed, t2_signed, a7, n1, met_def, metR_ok, st, c1, this, Bool.not_true]
  | false =>
    rw [hn] at st
    have c1 := add_S (a := [45]) (b := e.L) (by simp; omega)
    have c2 : [45] ++ e.L = ({ e with neg := true } : Ent).L := by unfold Ent.L; rw [hn]; simp
    rw [c2, ← minus_S] at c1
    have ok2 : EntOk ({ e with neg := true } : Ent) := ⟨h.a, h.b, h.ne, h.np, h.len⟩
    have := fin _ ok2
    simp?! [v_signed, g_signed, t1_signed, t2_signed, a7, n1, met_def, metR_ok, st, c1, this, Bool.not_false]
end
/-! figures and points -/
theorem kd_is (k : Ky) : d_is_key [.str k.s] = .ok (.bl true) := by
  cases k with
  | fig i => rcases fin10 i with e | e | e | e | e | e | e | e | e | e <;> subst e <;> kernel_rfl
  | put i => rcases fin10 i with e | e | e | e | e | e | e | e | e | e <;> subst e <;> kernel_rfl
  | get i => rcases fin10 i with e | e | e | e | e | e | e | e | e | e <;> subst e <;> kernel_rfl
  | dd w => cases w <;> kernel_rfl
  | _ => kernel_rfl
theorem fig_no (i : Fin 10) : (S [48 + i.val] == Str.ofString ".") = false := by revert i; decide +kernel
theorem fig_in (i : Fin 10) : inD (.str (S [48 + i.val])) (.str "0123456789") = some (.bl true) := by
  rcases fin10 i with e | e | e | e | e | e | e | e | e | e <;> subst e <;> kernel_rfl
section
variable {m l B x y z t f : D} {en : D}
theorem kp_fig {i : Fin 10} : d_pressed [.tup [m, .tup [x, y, z, t], l, B, en, f, .non], .str (Ky.fig i).s] = d_typed [.tup [m, .tup [x, y, z, t], l, B, en, f, .non], .str (Ky.fig i).s] := by
  have ok := kd_is (.fig i)
  have e1 : isNotN .non .non = some (.bl false) := rfl
  have e2 := fig_no i
  have e3 := fig_in i
  have es : (Ky.fig i).s = S [48 + i.val] := rfl
  rw [es] at ok ⊢
  simp?! [v_pressed, g_pressed, t1_pressed, t2_pressed, ok, ix_t6, e1, e2, e3, finR_ret, finR_sr]
theorem kp_dot : d_pressed [.tup [m, .tup [x, y, z, t], l, B, en, f, .non], .str "."] = d_typed [.tup [m, .tup [x, y, z, t], l, B, en, f, .non], .str "."] := by
  have ok : d_is_key [.str "."] = .ok (.bl true) := kd_is .dot
  have e1 : isNotN .non .non = some (.bl false) := rfl
  simp?! [v_pressed, g_pressed, t1_pressed, t2_pressed, ok, ix_t6, e1, beq_self_eq_true, finR_ret, finR_sr]
theorem due1 : d_if_due [.tup [x, y, z, t], .bl true] = .ok (.tup [x, x, y, z]) := by kernel_rfl
theorem due0 : d_if_due [.tup [x, y, z, t], .bl false] = .ok (.tup [x, y, z, t]) := by kernel_rfl
theorem ty_7 {k : D} : asgR (.ok (.tup [m, .tup [x, y, z, t], l, B, en, f, .non])) [.z (.tup [m, .tup [x, y, z, t], l, B, en, f, .non]), .z k, .u, .u, .u, .u, .u, .u, .u, .u] (gt 7 (gsc (gn 2) (gsc (gn 3) (gsc (gn 4) (gsc (gn 5) (gsc (gn 6) (gsc (gn 7) (gsc (gn 8) gsn)))))))) = .nx [.z (.tup [m, .tup [x, y, z, t], l, B, en, f, .non]), .z k, .z m, .z (.tup [x, y, z, t]), .z l, .z B, .z en, .z f, .z .non, .u] := rfl
/-- the end of typed -/
theorem ty_end {st k : D} {e : Ent} {w : En} (h : EntOk e) : finR (t2_typed [st', .z k, .z m, .z (.tup [x, y, z, t]), .z l, .z B, .z (.str (S e.L)), .z f, .z .non, w]) = .ok (.tup [m, .tup [numD e.num, y, z, t], l, B, .str (S e.L), f, .non]) := by
  have s1 : slD (.tup [x, y, z, t]) (some 1) none = some (.tup [y, z, t]) := by kernel_rfl
  have ad : ∀ n : D, addD (.tup [n]) (.tup [y, z, t]) = some (.tup [n, y, z, t]) := fun n => by kernel_rfl
  simp?! [t2_typed, x_toldby h, s1, ad]
theorem nn : isN .non .non = some (.bl true) := rfl
theorem ns {s : Str} : isN (.str s) .non = some (.bl false) := rfl
theorem dget_fig {i : Fin 10} {ρ : Rho} (h : var 1 ρ = .ok (.str (S [48 + i.val]))) : dgetD ["."] (acons (con (.str "0.")) anil) (var 1) (var 1) ρ = .ok (.str (S [48 + i.val])) := by
  unfold dgetD
  rw [h]
  rcases fin10 i with e | e | e | e | e | e | e | e | e | e <;> subst e <;> kernel_rfl
theorem dget_dot {ρ : Rho} (h : var 1 ρ = .ok (.str ".")) : dgetD ["."] (acons (con (.str "0.")) anil) (var 1) (var 1) ρ = .ok (.str (S [48, 46])) := by
  unfold dgetD
  rw [h]
  kernel_rfl
/-- typed, with no entry -/
theorem ty_none {k : Ky} {b : Bool} (hk : k = .dot ∨ ∃ i, k = .fig i) : d_typed [.tup [m, .tup [x, y, z, t], l, B, .non, .bl b, .non], .str k.s] = .ok (.tup [m, (if b = true then .tup [numD (entK none k).num, x, y, z] else .tup [numD (entK none k).num, y, z, t]), l, B, .str (S (entK none k).L), .bl b, .non]) := by
  have key : ∀ ρ : Rho, var 1 ρ = .ok (.str k.s) → dgetD ["."] (acons (con (.str "0.")) anil) (var 1) (var 1) ρ = .ok (.str (S (entK none k).L)) := by
    rcases hk with rfl | ⟨i, rfl⟩
    · exact fun ρ h => dget_dot h
    · exact fun ρ h => dget_fig h
  have ok : EntOk (entK none k) := by
    rcases hk with rfl | ⟨i, rfl⟩
    · exact ⟨fun c hc => by rcases List.mem_singleton.mp hc with rfl; omega, fun _ h => (by cases h), by decide, fun _ => rfl, by decide⟩
    · exact ⟨fun c hc => by rcases List.mem_singleton.mp hc with rfl; have := i.isLt; omega, fun _ h => (by cases h), by simp [entK], fun _ => rfl, by simp [entK]⟩
  generalize entK none k = e at *
  generalize k.s = ks at *
  cases b with
  | true =>
    have k1 := key [.z (.tup [m, .tup [x, y, z, t], l, B, .non, .bl true, .non]), .z (.str ks), .z m, .z (.tup [x, x, y, z]), .z l, .z B, .z .non, .z (.bl true), .z .non, .u] rfl
    have en := ty_end (m := m) (x := x) (y := x) (z := y) (t := z) (l := l) (B := B) (f := .bl true) (st' := .z (.tup [m, .tup [x, y, z, t], l, B, .non, .bl true, .non])) (k := .str ks) (w := .u) (st := .non) ok
    simp?! [v_typed, g_typed, t1_typed, ty_7, nn, due1, k1, en, if_true]
  | false =>
    have k1 := key [.z (.tup [m, .tup [x, y, z, t], l, B, .non, .bl false, .non]), .z (.str ks), .z m, .z (.tup [x, y, z, t]), .z l, .z B, .z .non, .z (.bl false), .z .non, .u] rfl
    have en := ty_end (m := m) (x := x) (y := y) (z := z) (t := t) (l := l) (B := B) (f := .bl false) (st' := .z (.tup [m, .tup [x, y, z, t], l, B, .non, .bl false, .non])) (k := .str ks) (w := .u) (st := .non) ok
    simp?! [v_typed, g_typed, t1_typed, ty_7, nn, due0, k1, en, if_false, Bool.false_eq_true]
/-- the figures of an entry are counted -/
theorem dig_in (c : Nat) : hasS (S [c]) (Str.ofString "0123456789") = decide (48 ≤ c ∧ c ≤ 57) := by
  have h0 : hasS (S [c]) (Str.ofString "0123456789") = decide (c ∈ [48, 49, 50, 51, 52, 53, 54, 55, 56, 57]) := by
    unfold hasS
    rw [if_pos (show (S [c]).cps.size = 1 from rfl)]
    rfl
  rw [h0]
  refine decide_eq_decide.mpr ?_
  simp
  omega
theorem cnt_comp {ρ : Rho} {w : En} (hw : ρ.length = 9) : ∀ (cs : List Nat), compD (gn 9) (tst (bop inD (var 9) (con (.str "0123456789")))) e1_typed (ρ ++ [w]) (cs.map fun c => D.str (S [c])) = .ok ((cs.filter fun c => decide (48 ≤ c ∧ c ≤ 57)).map fun c => D.str (S [c]))
  | [] => rfl
  | c :: cs => by
    have ih := cnt_comp (w := w) hw cs
    have hg : gn 9 (ρ ++ [w]) (.str (S [c])) = some (ρ ++ [.z (.str (S [c]))]) := by
      unfold gn
      simp only [List.set_append, hw]
      rw [if_neg (by decide)]
      rfl
    have hv : var 9 (ρ ++ [.z (.str (S [c]))]) = .ok (.str (S [c])) := by
      unfold var
      rw [List.getElem?_append_right (by omega), hw]
      rfl
    have ht : tst (bop inD (var 9) (con (.str "0123456789"))) (ρ ++ [.z (.str (S [c]))]) = .ok (decide (48 ≤ c ∧ c ≤ 57)) := by
      rw [tst_def, bin_def, hv, con_def, app2_ok]
      show tstR (ofO ((some (hasS (S [c]) (Str.ofString "0123456789"))).map D.bl)) = _
      rw [dig_in]
      rfl
    rw [List.map_cons]
    by_cases q : 48 ≤ c ∧ c ≤ 57
    · rw [decide_eq_true q] at ht
      rw [comp_t hg ht (show e1_typed _ = .ok (.str (S [c])) from hv) ih, List.filter_cons, if_pos (decide_eq_true q)]
      rfl
    · rw [decide_eq_false q] at ht
      rw [comp_f hg ht, ih, List.filter_cons, if_neg (by simpa using q)]
theorem its_S {f : Rho → Res D} {l : List Nat} {ρ : Rho} (h : f ρ = .ok (.str (S l))) : its f ρ = .ok (l.map fun c => D.str (S [c])) := by
  unfold its
  rw [h]
  show Res.ok (((S l).cps.toList.map fun c => D.str ⟨#[c]⟩)) = _
  rw [S_tl]
  rfl
theorem filt_dig : ∀ {l : List Nat}, AllDigits l → (l.filter fun c => decide (48 ≤ c ∧ c ≤ 57)) = l
  | [], _ => rfl
  | c :: l, h => by
    rw [List.filter_cons, if_pos (decide_eq_true (h c List.mem_cons_self)), filt_dig fun d hd => h d (List.mem_cons_of_mem _ hd)]
theorem ent_count {e : Ent} (h : EntOk e) : ((e.L.filter fun c => decide (48 ≤ c ∧ c ≤ 57))).length = e.ah.length + e.be.length := by
  unfold Ent.L
  rw [List.filter_append, List.filter_append, filt_dig h.a]
  have hb := filt_dig h.b
  cases hp : e.pt with
  | false =>
    have be0 := h.np hp
    cases hn : e.neg <;> simp [be0]
  | true => cases hn : e.neg <;> simp [List.filter_cons, hb] <;> exact h.b
theorem ent_dot {e : Ent} (h : EntOk e) : hasS (S [46]) (S e.L) = e.pt := by
  unfold hasS
  rw [if_pos (show (S [46]).cps.size = 1 from rfl), S_tl]
  have : (46 ∈ e.L) ↔ e.pt = true := by
    unfold Ent.L
    have h1 := dig_no h.a (c := 46) (.inl (by decide))
    cases hn : e.neg <;> cases hp : e.pt <;> simp [h1]
  cases hp : e.pt with
  | true => exact decide_eq_true (this.mpr hp)
  | false =>
    refine decide_eq_false fun z => ?_
    have z : 46 ∈ e.L := z
    rw [this, hp] at z
    cases z
theorem entK_ok {e : Ent} (h : EntOk e) (k : Ky) : EntOk (entK (some e) k) := by
  cases k with
  | dot => exact ⟨h.a, h.b, h.ne, fun z => (by cases z), h.len⟩
  | fig i =>
    unfold entK
    simp only
    have hi := i.isLt
    have hd : AllDigits [48 + i.val] := fun c hc => by rcases List.mem_singleton.mp hc with rfl; omega
    split
    · split
      · rename_i q hp
        exact ⟨h.a, AllDigits.app h.b hd, h.ne, fun z => (by rw [hp] at z; cases z), by simp; omega⟩
      · rename_i q hp
        exact ⟨AllDigits.app h.a hd, h.b, by simp, h.np, by simp; omega⟩
    · exact h
  | _ => exact h
/-- typed, with an entry -/
theorem ty_some {e : Ent} (h : EntOk e) {k : Ky} (hk : k = .dot ∨ ∃ i, k = .fig i) : d_typed [.tup [m, .tup [x, y, z, t], l, B, .str (S e.L), f, .non], .str k.s] = .ok (.tup [m, .tup [numD (entK (some e) k).num, y, z, t], l, B, .str (S (entK (some e) k).L), f, .non]) := by
  have el := ent_len h
  have h2 := entK_ok h k
  have en := fun (ks : Str) (e' : Ent) (h' : EntOk e') => ty_end (m := m) (x := x) (y := y) (z := z) (t := t) (l := l) (B := B) (f := f) (st' := .z (.tup [m, .tup [x, y, z, t], l, B, .str (S e.L), f, .non])) (k := .str ks) (w := .u) (st := .non) h'
  rcases hk with rfl | ⟨i, rfl⟩
  · have n1 : niD (.str ".") (.str (S e.L)) = some (.bl (!e.pt)) := by
      show (some (hasS (S [46]) (S e.L))).map _ = _
      rw [ent_dot h]; rfl
    have ks : Ky.dot.s = Str.ofString "." := rfl
    have ed : entK (some e) .dot = { e with pt := true } := rfl
    rw [ed] at h2
    rw [ks, ed]
    cases hp : e.pt with
    | true =>
      have ee : ({ e with pt := true } : Ent) = e := by
        cases e
        simp only at hp
        rw [hp]
      rw [ee]
      rw [hp] at n1
      simp?! [v_typed, g_typed, t1_typed, ty_7, ns, beq_self_eq_true, n1, en _ e h]
    | false =>
      rw [hp] at n1
      have be0 := h.np hp
      have c1 := add_S (a := e.L) (b := [46]) (by simp; omega)
      have c2 : e.L ++ [46] = ({ e with pt := true } : Ent).L := by unfold Ent.L; rw [hp, be0]; simp
      rw [c2, ← dot_S] at c1
      simp?! [v_typed, g_typed, t1_typed, ty_7, ns, beq_self_eq_true, n1, c1, en _ _ h2]
  · have e2 := fig_no i
    have ks : (Ky.fig i).s = S [48 + i.val] := rfl
    rw [ks]
    have lc : lcD (its (var 6)) 9 (tst (bop inD (var 9) (con (.str "0123456789")))) e1_typed [.z (.tup [m, .tup [x, y, z, t], l, B, .str (S e.L), f, .non]), .z (.str (S [48 + i.val])), .z m, .z (.tup [x, y, z, t]), .z l, .z B, .z (.str (S e.L)), .z f, .z .non, .u] = .ok (.lst ((e.L.filter fun c => decide (48 ≤ c ∧ c ≤ 57)).map fun c => D.str (S [c]))) := by
      refine lc_eq (its_S rfl) (by rw [List.length_map]; omega) ?_
      exact cnt_comp (ρ := [.z (.tup [m, .tup [x, y, z, t], l, B, .str (S e.L), f, .non]), .z (.str (S [48 + i.val])), .z m, .z (.tup [x, y, z, t]), .z l, .z B, .z (.str (S e.L)), .z f, .z .non]) (w := .u) rfl e.L
    have ln : lenD [.lst ((e.L.filter fun c => decide (48 ≤ c ∧ c ≤ 57)).map fun c => D.str (S [c]))] = some (.int ((e.ah.length + e.be.length : Nat) : Int)) := by
      rw [len_l, List.length_map, ent_count h]
    by_cases q : e.ah.length + e.be.length < 8
    · have d1 : decide (((e.ah.length + e.be.length : Nat) : Int) < 8) = true := decide_eq_true (by omega)
      have c1 := add_S (a := e.L) (b := [48 + i.val]) (by simp; omega)
      have c2 : e.L ++ [48 + i.val] = (entK (some e) (.fig i)).L := by
        show _ = (if e.ah.length + e.be.length < 8 then (if e.pt = true then ({ e with be := e.be ++ [48 + i.val] } : Ent) else { e with ah := e.ah ++ [48 + i.val] }) else e).L
        rw [if_pos q]
        cases hp : e.pt with
        | true => unfold Ent.L; simp [hp]
        | false => have be0 := h.np hp; unfold Ent.L; simp [hp, be0]
      rw [c2] at c1
      simp?! [v_typed, g_typed, t1_typed, ty_7, ns, e2, lc, ln, d1, c1, en _ _ h2]
    · have d1 : decide (((e.ah.length + e.be.length : Nat) : Int) < 8) = false := decide_eq_false (by omega)
      have ee : entK (some e) (.fig i) = e := if_neg q
      rw [ee]
      simp?! [v_typed, g_typed, t1_typed, ty_7, ns, e2, lc, ln, d1, en _ e h]
end
/-! root -/
theorem wr_loop {w : Int} : ∀ (n : Nat) (lo hi : Int) (x : En), 0 ≤ lo → lo < hi → hi ≤ 1000000000000 → lo * lo ≤ w → w < hi * hi → hi - lo ≤ 2 ^ n → ∀ m, n < m →
    ∃ r x', 0 ≤ r ∧ r * r ≤ w ∧ w < (r + 1) * (r + 1) ∧ whileD c1_whole_root b2_whole_root m [.z (.int w), .z (.int lo), .z (.int hi), x] = .nx [.z (.int w), .z (.int r), .z (.int (r + 1)), x']
  | n, lo, hi, x, h0, h1, h2, h3, h4, h5, m, hm => by
    obtain ⟨m, rfl⟩ : ∃ k, m = k + 1 := ⟨m - 1, by omega⟩
    by_cases h : 1 < hi - lo
    · match n, h5, hm with
      | 0, h5, _ => 
        have : (2 : Int) ^ 0 = 1 := rfl
        omega
      | n + 1, h5, hm =>
        have e2 : (2 : Int) ^ (n + 1) = 2 ^ n * 2 := Int.pow_succ _ _
        have hc : c1_whole_root [.z (.int w), .z (.int lo), .z (.int hi), x] = .ok true := by simp?! [c1_whole_root, h]
        generalize hM : (lo + hi) / 2 = M
        have mm : mulD (.int M) (.int M) = some (.int (M * M)) := mul_l (by omega)
        by_cases hle : M * M ≤ w
        · have hb : b2_whole_root [.z (.int w), .z (.int lo), .z (.int hi), x] = .nx [.z (.int w), .z (.int M), .z (.int hi), .z (.int M)] := by simp?! [b2_whole_root, hM, mm, hle]
          obtain ⟨r, x', r1, r2, r3, r4⟩ := wr_loop n M hi (.z (.int M)) (by omega) (by omega) h2 hle h4 (by omega) m (by omega)
          exact ⟨r, x', r1, r2, r3, by rw [while_t hc hb, r4]⟩
        · have hd : decide (M * M ≤ w) = false := decide_eq_false hle
          have hb : b2_whole_root [.z (.int w), .z (.int lo), .z (.int hi), x] = .nx [.z (.int w), .z (.int lo), .z (.int M), .z (.int M)] := by simp?! [b2_whole_root, hM, mm, hd]
          obtain ⟨r, x', r1, r2, r3, r4⟩ := wr_loop n lo M (.z (.int M)) h0 (by omega) (by omega) h3 (by omega) (by omega) m (by omega)
          exact ⟨r, x', r1, r2, r3, by rw [while_t hc hb, r4]⟩
    · have hd : decide (1 < hi - lo) = false := decide_eq_false h
      have hc : c1_whole_root [.z (.int w), .z (.int lo), .z (.int hi), x] = .ok false := by simp?! [c1_whole_root, hd]
      have e : hi = lo + 1 := by omega
      subst e
      exact ⟨lo, x, h0, h3, h4, while_f hc⟩
theorem x_wroot {w : Int} (h0 : 0 < w) (h1 : w.natAbs < 10 ^ 17) : ∃ r, 0 ≤ r ∧ r * r ≤ w ∧ w < (r + 1) * (r + 1) ∧ d_whole_root [.int w] = .ok (.int r) := by
  have f0 := figs_pos w.natAbs
  have f1 := figs_le (by decide) h1
  have f2 := figs_lt w.natAbs
  have fg := x_figures (a := w) (Nat.lt_of_lt_of_le h1 (pow10_le (by decide)))
  generalize hk : ((figs w.natAbs : Int) + 1) / 2 + 1 = k at *
  have t1 := x_ten (k := k) (by omega) (by omega)
  have hb : (10 : Int) ^ k.toNat ≤ 1000000000000 := by
    have q : (10 : Nat) ^ k.toNat ≤ 10 ^ 12 := pow10_le (by omega)
    have c := cast10 k.toNat
    omega
  have hw : w < 10 ^ k.toNat * 10 ^ k.toNat := by
    have q : (10 : Nat) ^ figs w.natAbs ≤ 10 ^ (k.toNat + k.toNat) := pow10_le (by omega)
    have c := cast10 (k.toNat + k.toNat)
    rw [Int.pow_add] at c
    omega
  have hp := pow_ge1 k.toNat
  obtain ⟨r, x', r1, r2, r3, r4⟩ := wr_loop (w := w) 60 0 (10 ^ k.toNat) .u (by omega) (by omega) hb (by omega) hw (by
    have : (2 : Int) ^ 60 = 1152921504606846976 := by decide
    omega) 100000 (by decide)
  exact ⟨r, r1, r2, r3, by simp?! [v_whole_root, g_whole_root, t1_whole_root, t2_whole_root, t3_whole_root, fg, hk, t1, r4]⟩
theorem root_loop {o mm x y : En} : ∀ (n : Nat) (d p : Int), 0 < d → d < 10000000000000000 → 100000000000000 ≤ d * 100 ^ n → ∀ m, n < m →
    ∃ (k : Nat) (d' : Int), d' = d * 100 ^ k ∧ 100000000000000 ≤ d' ∧ d' < 10000000000000000 ∧ k ≤ n ∧ whileD c1_root b2_root m [o, mm, .z (.int d), .z (.int p), x, y] = .nx [o, mm, .z (.int d'), .z (.int (p - k)), x, y]
  | n, d, p, h0, h1, h2, m, hm => by
    obtain ⟨m, rfl⟩ : ∃ k, m = k + 1 := ⟨m - 1, by omega⟩
    have t14 : d_ten [.int (2 * 8 - 2)] = .ok (.int 100000000000000) := x_ten (k := 14) (by decide) (by decide)
    by_cases h : d < 100000000000000
    · match n, h2, hm with
      | 0, h2, _ =>
        have : (100 : Int) ^ 0 = 1 := rfl
        omega
      | n + 1, h2, hm =>
        have e2 : (100 : Int) ^ (n + 1) = 100 ^ n * 100 := Int.pow_succ _ _
        have e3 : d * 100 ^ (n + 1) = d * 100 * 100 ^ n := by rw [e2, Int.mul_comm (100 ^ n) 100, Int.mul_assoc]
        have hc : c1_root [o, mm, .z (.int d), .z (.int p), x, y] = .ok true := by simp?! [c1_root, t14, h]
        have hb : b2_root [o, mm, .z (.int d), .z (.int p), x, y] = .nx [o, mm, .z (.int (d * 100)), .z (.int (p - 1)), x, y] := by simp?! [b2_root]
        obtain ⟨k, d', k1, k2, k3, k4, k5⟩ := root_loop (o := o) (mm := mm) (x := x) (y := y) n (d * 100) (p - 1) (by omega) (by omega) (by omega) m (by omega)
        refine ⟨k + 1, d', ?_, k2, k3, by omega, ?_⟩
        · rw [k1, Int.pow_succ, Int.mul_comm (100 ^ k) 100, Int.mul_assoc]
        · rw [while_t hc hb, k5]
          have : p - 1 - (k : Int) = p - ((k + 1 : Nat) : Int) := by omega
          rw [this]
    · have hd : decide (d < 100000000000000) = false := decide_eq_false h
      have hc : c1_root [o, mm, .z (.int d), .z (.int p), x, y] = .ok false := by simp?! [c1_root, t14, hd]
      refine ⟨0, d, by simp, by omega, h1, by omega, ?_⟩
      rw [while_f hc]
      simp
/-- the root's figures -/
def rootW (h : Hw) (r d : Int) : Int := match h with
  | .more => if r * r < d then r + 1 else r
  | .nought => r
  | _ => if (2 * r + 1) * (2 * r + 1) < 4 * d then r + 1 else r
theorem in_h (h : Hw) : inD (.str h.s) (.tup [.str "even", .str "away"]) = some (.bl (decide (h = .even) || decide (h = .away))) := by cases h <;> rfl
theorem root_end (h : Hw) {o mm : En} {d r p : Int} (hr0 : 0 ≤ r) (hr : r < 1000000000) (hd : d < 10000000000000000) (hrd : 0 < r) : finR (t8_root [o, mm, .z (.int d), .z (.int p), .z (.int r), .z (.str h.s)]) = optR (fitZ h (rootW h r d) p false) := by
  have i1 := in_h h
  have e1 : (h.s == Str.ofString "more") = decide (h = .more) := by cases h <;> decide +kernel
  have m1 : mulD (.int r) (.int r) = some (.int (r * r)) := mul_l (by omega)
  have m2 : mulD (.int (2 * r + 1)) (.int (2 * r + 1)) = some (.int ((2 * r + 1) * (2 * r + 1))) := mul_l (by omega)
  have p2 : (10 : Nat) ^ 10 ≤ 10 ^ 450 := pow10_le (by decide)
  have f0 := x_fitted h (w := r) (p := p) (b := false) hrd (by omega)
  have f1 := x_fitted h (w := r + 1) (p := p) (b := false) (by omega) (by omega)
  cases h with
  | nought =>
    simp only [reduceCtorEq, decide_false, Bool.or_false] at i1 e1
    simp?! [t8_root, t9_root, t10_root, e1, i1, f0, finR_ret, rootW]
  | more =>
    simp only [reduceCtorEq, decide_false, decide_true, Bool.or_false] at i1 e1
    unfold rootW
    by_cases c : r * r < d
    · simp only [if_pos c]
      simp?! [t8_root, t9_root, t10_root, e1, i1, m1, c, f1, finR_ret]
    · have c' : decide (r * r < d) = false := decide_eq_false c
      simp only [if_neg c]
      simp?! [t8_root, t9_root, t10_root, e1, i1, m1, c', f0, finR_ret]
  | even =>
    simp only [reduceCtorEq, decide_false, decide_true, Bool.or_false] at i1 e1
    unfold rootW
    by_cases c : (2 * r + 1) * (2 * r + 1) < 4 * d
    · simp only [if_pos c]
      simp?! [t8_root, t9_root, t10_root, e1, i1, m2, c, f1, finR_ret]
    · have c' : decide ((2 * r + 1) * (2 * r + 1) < 4 * d) = false := decide_eq_false c
      simp only [if_neg c]
      simp?! [t8_root, t9_root, t10_root, e1, i1, m2, c', f0, finR_ret]
  | away =>
    simp only [reduceCtorEq, decide_false, decide_true, Bool.false_or] at i1 e1
    unfold rootW
    by_cases c : (2 * r + 1) * (2 * r + 1) < 4 * d
    · simp only [if_pos c]
      simp?! [t8_root, t9_root, t10_root, e1, i1, m2, c, f1, finR_ret]
    · have c' : decide ((2 * r + 1) * (2 * r + 1) < 4 * d) = false := decide_eq_false c
      simp only [if_neg c]
      simp?! [t8_root, t9_root, t10_root, e1, i1, m2, c', f0, finR_ret]
theorem sq_lt {a b : Int} (ha : 0 ≤ a) (hb : 0 ≤ b) (h : a * a < b * b) : a < b := by
  by_cases c : a < b
  · exact c
  · exfalso
    have : b * b ≤ a * a := Int.mul_le_mul (by omega) (by omega) hb ha
    omega
theorem root_tail (m : Mn) {o : En} {d0 p0 : Int} (h0 : 0 < d0) (h1 : d0 < 1000000000) : ∃ (d r : Int) (k : Nat), 100000000000000 ≤ d ∧ d < 10000000000000000 ∧ 0 ≤ r ∧ r * r ≤ d ∧ d < (r + 1) * (r + 1) ∧ d = d0 * 100 ^ k ∧ k ≤ 8 ∧
    finR (t4_root [o, .z (.str m.s), .z (.int d0), .z (.int p0), .u, .u]) = optR (fitZ (m.by false) (rootW (m.by false) r d) (p0 / 2 - k) false) := by
  have h7 : (100 : Int) ^ 7 = 100000000000000 := by decide
  obtain ⟨k, d, k1, k2, k3, k4, k5⟩ := root_loop (o := o) (mm := .z (.str m.s)) (x := .u) (y := .u) 7 d0 (p0 / 2) h0 (by omega) (by rw [h7]; omega) 100000 (by decide)
  obtain ⟨r, r1, r2, r3, r4⟩ := x_wroot (w := d) (by omega) (by omega)
  have rl : r < 1000000000 := sq_lt r1 (by decide) (by omega)
  have rg : 0 < r := by
    have := sq_lt (a := 1) (b := r + 1) (by decide) (by omega) (by omega)
    omega
  have bs := x_bysize m false
  refine ⟨d, r, k, k2, k3, r1, r2, r3, k1, by omega, ?_⟩
  rw [← root_end (m.by false) (o := o) (mm := .z (.str m.s)) r1 rl k3 rg]
  simp?! [t4_root, t5_root, t6_root, t7_root, k5, r4, bs]
theorem x_root (m : Mn) {a b : Int} (ha : 0 < a) (ha8 : a < 100000000) : ∃ (d r p : Int) (j : Nat), 100000000000000 ≤ d ∧ d < 10000000000000000 ∧ 0 ≤ r ∧ r * r ≤ d ∧ d < (r + 1) * (r + 1) ∧ d = a * 10 ^ j ∧ b - j = 2 * p ∧ j ≤ 17 ∧
    d_root [.tup [.int a, .int b], .str m.s] = optR (fitZ (m.by false) (rootW (m.by false) r d) p false) := by
  have d1 : decide (a < 0) = false := decide_eq_false (by omega)
  have e1 : (a == 0) = false := by simpa using (show a ≠ 0 by omega)
  have h100 : ∀ k : Nat, (100 : Int) ^ k = 10 ^ (2 * k) := fun k => by rw [Int.pow_mul]; rfl
  by_cases hb : b % 2 = 1
  · obtain ⟨d, r, k, q1, q2, q3, q4, q5, q6, q7, q8⟩ := root_tail m (o := .z (.tup [.int a, .int b])) (d0 := a * 10) (p0 := b - 1) (by omega) (by omega)
    refine ⟨d, r, (b - 1) / 2 - k, 2 * k + 1, q1, q2, q3, q4, q5, ?_, by omega, by omega, ?_⟩
    · rw [q6, h100, Int.pow_succ, Int.mul_comm (10 ^ (2 * k)) 10, Int.mul_assoc]
    · rw [← q8]
      simp?! [v_root, g_root, t1_root, t2_root, t3_root, d1, e1, hb, beq_self_eq_true]
  · have e2 : (b % 2 == 1) = false := by simpa using hb
    obtain ⟨d, r, k, q1, q2, q3, q4, q5, q6, q7, q8⟩ := root_tail m (o := .z (.tup [.int a, .int b])) (d0 := a) (p0 := b) (by omega) (by omega)
    refine ⟨d, r, b / 2 - k, 2 * k, q1, q2, q3, q4, q5, ?_, by omega, by omega, ?_⟩
    · rw [q6, h100]
    · rw [← q8]
      simp?! [v_root, g_root, t1_root, t2_root, t3_root, d1, e1, e2]
/-! deeds by key -/
def ddD : Dd → List D → Res D
  | .plus => d_plus | .minus => d_minus | .times => d_times | .over => d_over
theorem callF_def {i : Nat} {disp : Str → Option (List D → Res D)} {f : Rho → Res (List D)} {ρ : Rho} {n : Str} {g : List D → Res D} {ds : List D} (h : ρ[i]? = some (.z (.fn n))) (hd : disp n = some g) (hf : f ρ = .ok ds) : callF i disp f ρ = g ds := by
  unfold callF
  rw [h]
  simp only [hd, hf]
  rfl
section
variable {m l B x y z t f : D} {en : D}
theorem to_dd (w : Dd) : d_told_of [.str w.s, m, .tup [x, y, z, t]] = (ddD w [y, x, m]).bind fun r => .ok (.tup [r, z, t, t]) := by
  have er : (w.s == Str.ofString "root") = false := by cases w <;> decide +kernel
  have et : tabF [("plus", "plus"), ("minus", "minus"), ("times", "times"), ("over", "over")] (var 0) [.z (.str w.s), .z m, .z (.tup [x, y, z, t]), .u] = .ok (.fn w.s) := by cases w <;> kernel_rfl
  have ar : acons (bop ixD (var 2) (con (.int 1))) (acons (bop ixD (var 2) (con (.int 0))) (acons (var 1) anil)) [.z (.str w.s), .z m, .z (.tup [x, y, z, t]), .z (.fn w.s)] = .ok [y, x, m] := by kernel_rfl
  have key : d_told_of [.str w.s, m, .tup [x, y, z, t]] = finR (t2_told_of [.z (.str w.s), .z m, .z (.tup [x, y, z, t]), .z (.fn w.s)]) := by
    simp?! [v_told_of, g_told_of, t1_told_of, er, et]
  rw [key]
  have cf : callF 3 (fun n => (if n = "plus" then some (fun ds => if ds.length = 3 then d_plus ds else .bad) else (if n = "minus" then some (fun ds => if ds.length = 3 then d_minus ds else .bad) else (if n = "times" then some (fun ds => if ds.length = 3 then d_times ds else .bad) else (if n = "over" then some (fun ds => if ds.length = 3 then d_over ds else .bad) else none))))) (acons (bop ixD (var 2) (con (.int 1))) (acons (bop ixD (var 2) (con (.int 0))) (acons (var 1) anil))) [.z (.str w.s), .z m, .z (.tup [x, y, z, t]), .z (.fn w.s)] = ddD w [y, x, m] := by
    have hd : ∃ g : List D → Res D, (if w.s = "plus" then some (fun ds : List D => if ds.length = 3 then d_plus ds else .bad) else (if w.s = "minus" then some (fun ds => if ds.length = 3 then d_minus ds else .bad) else (if w.s = "times" then some (fun ds => if ds.length = 3 then d_times ds else .bad) else (if w.s = "over" then some (fun ds => if ds.length = 3 then d_over ds else .bad) else none)))) = some g ∧ ∀ ds, g ds = if ds.length = 3 then ddD w ds else .bad := by
      cases w with
      | plus => exact ⟨_, if_pos rfl, fun _ => rfl⟩
      | minus => exact ⟨_, by rw [if_neg (by decide +kernel)]; exact if_pos rfl, fun _ => rfl⟩
      | times => exact ⟨_, by rw [if_neg (by decide +kernel), if_neg (by decide +kernel)]; exact if_pos rfl, fun _ => rfl⟩
      | over => exact ⟨_, by rw [if_neg (by decide +kernel), if_neg (by decide +kernel), if_neg (by decide +kernel)]; exact if_pos rfl, fun _ => rfl⟩
    obtain ⟨g, hg, hgd⟩ := hd
    rw [callF_def (n := w.s) (g := g) (ds := [y, x, m]) rfl hg ar, hgd]
    rfl
  unfold t2_told_of
  rw [sret_def, mkT_def, acons_def, cf]
  cases ddD w [y, x, m] with
  | ok r => kernel_rfl
  | ex n => rfl
  | bad => rfl
theorem to_root : d_told_of [.str "root", m, .tup [x, y, z, t]] = (d_root [x, m]).bind fun r => .ok (.tup [r, y, z, t]) := by
  have s1 : slD (.tup [x, y, z, t]) (some 1) none = some (.tup [y, z, t]) := by kernel_rfl
  have ad : ∀ n : D, addD (.tup [n]) (.tup [y, z, t]) = some (.tup [n, y, z, t]) := fun n => by kernel_rfl
  cases h : d_root [x, m] with
  | ok r => simp?! [v_told_of, g_told_of, beq_self_eq_true, h, s1, ad]; rfl
  | ex n =>
    have e1 : ∀ r : Res (List D), consR (.ex n) r = .ex n := fun _ => rfl
    have e2 : mkTR (.ex n) = .ex n := rfl
    have e3 : ∀ G r, app2 G (.ex n) r = .ex n := fun _ _ => rfl
    simp?! [v_told_of, g_told_of, beq_self_eq_true, h, e1, e2, e3, retR_ex, seqR_ex, finR_ex]; rfl
  | bad =>
    have e1 : ∀ r : Res (List D), consR .bad r = .bad := fun _ => rfl
    have e2 : mkTR .bad = .bad := rfl
    have e3 : ∀ G r, app2 G .bad r = .bad := fun _ _ => rfl
    simp?! [v_told_of, g_told_of, beq_self_eq_true, h, e1, e2, e3]; rfl
/-- what with_deed makes of it -/
def wdR (m P x l B f od : D) : Res D → Res D
  | .ok p => .ok (.tup [m, p, x, B, .non, .bl true, od])
  | .ex n => if n = "NoDeed" then .ok (.tup [m, P, l, B, .non, f, .str "deed"]) else if n = "TooGreat" then .ok (.tup [m, P, l, B, .non, f, .str "great"]) else .bad
  | .bad => .bad
theorem wd_eq {k : Str} {n : Str} : d_with_deed [.tup [m, .tup [x, y, z, t], l, B, en, f, .non], .str k] = wdR m (.tup [x, y, z, t]) x l B f .non (d_told_of [.str k, m, .tup [x, y, z, t]]) := by
  rw [v_with_deed]
  unfold g_with_deed
  have a7 : sasg (var 0) (gt 7 (gsc (gn 2) (gsc (gn 3) (gsc (gn 4) (gsc (gn 5) (gsc (gn 6) (gsc (gn 7) (gsc (gn 8) gsn)))))))) [.z (.tup [m, .tup [x, y, z, t], l, B, en, f, .non]), .z (.str k), .u, .u, .u, .u, .u, .u, .u, .u] = .nx [.z (.tup [m, .tup [x, y, z, t], l, B, en, f, .non]), .z (.str k), .z m, .z (.tup [x, y, z, t]), .z l, .z B, .z en, .z f, .z .non, .u] := rfl
  rw [sseq_def, a7, seqR_nx]
  unfold t1_with_deed
  rw [sseq_def]
  have c : sasg (callD 3 d_told_of (acons (var 1) (acons (var 2) (acons (var 3) anil)))) (gn 9) [.z (.tup [m, .tup [x, y, z, t], l, B, en, f, .non]), .z (.str k), .z m, .z (.tup [x, y, z, t]), .z l, .z B, .z en, .z f, .z .non, .u] = asgR (d_told_of [.str k, m, .tup [x, y, z, t]]) [.z (.tup [m, .tup [x, y, z, t], l, B, en, f, .non]), .z (.str k), .z m, .z (.tup [x, y, z, t]), .z l, .z B, .z en, .z f, .z .non, .u] (gn 9) := by
    simp?! []
  unfold stry2
  rw [c]
  cases d_told_of [.str k, m, .tup [x, y, z, t]] with
  | ok p => kernel_rfl
  | bad => rfl
  | ex n =>
    simp only [asgR_ex, wdR]
    by_cases h1 : n = "NoDeed"
    · rw [if_pos h1, if_pos h1]; kernel_rfl
    · rw [if_neg h1, if_neg h1]
      by_cases h2 : n = "TooGreat"
      · rw [if_pos h2, if_pos h2]; kernel_rfl
      · rw [if_neg h2, if_neg h2]; rfl
theorem kp_deed {k : Str} {st : D} (h0 : d_is_key [.str k] = .ok (.bl true)) (h1 : (k == Str.ofString ".") = false) (h2 : inD (.str k) (.str "0123456789") = some (.bl false)) (h3 : (k == Str.ofString "sign") = false) (h4 : (["plus", "minus", "times", "over"] : List Str).contains k = true ∨ (k == Str.ofString "root") = true) :
    d_pressed [.tup [m, .tup [x, y, z, t], l, B, en, f, .non], .str k] = d_with_deed [.tup [m, .tup [x, y, z, t], l, B, en, f, .non], .str k] := by
  have e1 : isNotN .non .non = some (.bl false) := rfl
  have it : inT ["plus", "minus", "times", "over"] (var 1) [.z (.tup [m, .tup [x, y, z, t], l, B, en, f, .non]), .z (.str k)] = .ok (.bl ((["plus", "minus", "times", "over"] : List Str).contains k)) := rfl
  rcases h4 with h4 | h4
  · rw [h4] at it
    simp?! [v_pressed, g_pressed, t1_pressed, t2_pressed, t3_pressed, t4_pressed, h0, ix_t6, e1, h1, h2, h3, it, finR_ret, finR_sr]
  · by_cases h5 : (["plus", "minus", "times", "over"] : List Str).contains k = true
    · rw [h5] at it
      simp?! [v_pressed, g_pressed, t1_pressed, t2_pressed, t3_pressed, t4_pressed, h0, ix_t6, e1, h1, h2, h3, it, finR_ret, finR_sr]
    · rw [Bool.not_eq_true] at h5
      rw [h5] at it
      simp?! [v_pressed, g_pressed, t1_pressed, t2_pressed, t3_pressed, t4_pressed, h0, ix_t6, e1, h1, h2, h3, h4, it, finR_ret, finR_sr]
end
theorem kp_dd {m l B x y z t f en : D} (w : Dd) : d_pressed [.tup [m, .tup [x, y, z, t], l, B, en, f, .non], .str w.s] = wdR m (.tup [x, y, z, t]) x l B f .non ((ddD w [y, x, m]).bind fun r => .ok (.tup [r, z, t, t])) := by
  rw [kp_deed (k := w.s) (kd_is (.dd w)) (by cases w <;> decide +kernel) (by cases w <;> kernel_rfl) (by cases w <;> decide +kernel) (.inl (by cases w <;> decide +kernel)) (st := .non), wd_eq (n := w.s), to_dd]
theorem kp_root {m l B x y z t f en : D} : d_pressed [.tup [m, .tup [x, y, z, t], l, B, en, f, .non], .str "root"] = wdR m (.tup [x, y, z, t]) x l B f .non ((d_root [x, m]).bind fun r => .ok (.tup [r, y, z, t])) := by
  rw [kp_deed (k := "root") (kd_is .root) (by decide +kernel) (by kernel_rfl) (by decide +kernel) (.inr (by decide +kernel)) (st := .non), wd_eq (n := "root"), to_root]
theorem y_dd (m : Mn) (w : Dd) {s n : Int × Int} (h1 : NO s) (h2 : NO n) : ddD w [numD s, numD n, .str m.s] = if w = .over ∧ n.1 = 0 then .ex "NoDeed" else optR (exV m (ddV w (vl s) (vl n))) := by
  obtain ⟨a1, b1⟩ := s
  obtain ⟨a2, b2⟩ := n
  have n1 := num_b h1
  have n2 := num_b h2
  cases w with
  | plus => rw [if_neg (by simp)]; exact y_plus m n1 n2
  | minus => rw [if_neg (by simp)]; exact y_minus m n1 n2
  | times => rw [if_neg (by simp)]; exact y_times m n1 n2
  | over =>
    have := y_over m n1 n2
    simp only at this
    by_cases h : a2 = 0
    · rw [if_pos h] at this
      rw [if_pos ⟨rfl, h⟩]
      exact this
    · rw [if_neg h] at this
      rw [if_neg (fun z => h z.2)]
      exact this
/-! roots -/
theorem rootW_range {h : Hw} {r d : Int} (h1 : 100000000000000 ≤ d) (h2 : d < 10000000000000000) (h3 : 0 ≤ r) (h4 : r * r ≤ d) (h5 : d < (r + 1) * (r + 1)) : 10000000 ≤ rootW h r d ∧ rootW h r d ≤ 100000000 := by
  have lo : 10000000 ≤ r := by
    by_cases q : 10000000 ≤ r
    · exact q
    · exfalso
      have := Int.mul_le_mul (show r + 1 ≤ 10000000 by omega) (show r + 1 ≤ 10000000 by omega) (by omega) (by omega)
      omega
  have hi : r < 100000000 := by
    by_cases q : r < 100000000
    · exact q
    · exfalso
      have := Int.mul_le_mul (show 100000000 ≤ r by omega) (show 100000000 ≤ r by omega) (by omega) (by omega)
      omega
  unfold rootW
  cases h <;> simp only <;> (try split) <;> omega
theorem y_root (m : Mn) {s : Int × Int} (h : NO s) : if s.1 < 0 then d_root [numD s, .str m.s] = .ex "NoDeed" else d_root [numD s, .str m.s] = .ok (numD (rootZ m s)) ∧ NO (rootZ m s) := by
  have fin : ∀ p : Int × Int, d_root [numD s, .str m.s] = .ok (numD p) → NO p → d_root [numD s, .str m.s] = .ok (numD (rootZ m s)) ∧ NO (rootZ m s) := by
    intro p e ok
    have : rootZ m s = p := by unfold rootZ; rw [e]
    rw [this]
    exact ⟨e, ok⟩
  obtain ⟨a, b⟩ := s
  by_cases h0 : a < 0
  · rw [if_pos h0]
    have d1 : decide (a < 0) = true := decide_eq_true h0
    show d_root [.tup [.int a, .int b], .str m.s] = _
    simp?! [v_root, g_root, t1_root, d1, finR_ex]
  · rw [if_neg h0]
    by_cases h1 : a = 0
    · refine fin (a, b) ?_ h
      subst h1
      show d_root [.tup [.int 0, .int b], .str m.s] = .ok (.tup [.int 0, .int b])
      have d1 : decide ((0 : Int) < 0) = false := rfl
      simp?! [v_root, g_root, t1_root, t2_root, d1, beq_self_eq_true]
    · have nb := num_b h
      obtain ⟨d, r, p, j, q1, q2, q3, q4, q5, q6, q7, q8, q9⟩ := x_root m (a := a) (b := b) (by omega) (by have := nb.1; simp only at this; omega)
      obtain ⟨w1, w2⟩ := rootW_range (h := m.by false) q1 q2 q3 q4 q5
      have bb := nb.2
      simp only at bb
      have hv : ¬ T 41 ≤ vl (rootW (m.by false) r d, p) := by
        have h1 : vl (rootW (m.by false) r d, p) ≤ T (8 + p) := by
          rw [T_add, T_8]
          exact Rat.mul_le_mul_of_nonneg_right (Rat.intCast_le_intCast.mpr w2) (Rat.le_of_lt (T_pos p))
        have h2 := T_lt (show 8 + p < 41 by omega)
        grind
      have hv2 : ¬ vl (rootW (m.by false) r d, p) < T (-40) := by
        have h1 : T (7 + p) ≤ vl (rootW (m.by false) r d, p) := by
          rw [T_add, T_7]
          exact Rat.mul_le_mul_of_nonneg_right (Rat.intCast_le_intCast.mpr w1) (Rat.le_of_lt (T_pos p))
        have h2 := T_mono (show (-40 : Int) ≤ 7 + p by omega)
        grind
      have fr := fit_R (m.by false) (p := p) false (show 0 < rootW (m.by false) r d by omega)
      rw [if_neg hv, if_neg hv2] at fr
      rw [fr] at q9
      have ok := strip_ok (p := p) (show 0 < rootW (m.by false) r d by omega) w2 hv hv2
      have s1 : sgZ false = 1 := rfl
      rw [s1, Int.one_mul] at q9
      exact fin (strip 5000 (rootW (m.by false) r d) p) q9 ok
/-! a key pressed -/
theorem set_map (l : List (Int × Int)) (i : Nat) (v : Int × Int) : (l.set i v).map numD = (l.map numD).set i (numD v) := by
  rw [List.map_set]
theorem getD_map (l : List (Int × Int)) {i : Nat} (h : i < l.length) : (l.map numD).getD i .non = numD (l.getD i (0, 0)) := by
  rw [List.getD_eq_getElem?_getD, List.getD_eq_getElem?_getD, List.getElem?_map, List.getElem?_eq_getElem h]
  rfl
theorem x_press {s : Sta} (ok : s.Ok) (k : Ky) : d_pressed [s.D, .str k.s] = .ok (pressZ s k).D ∧ (pressZ s k).Ok := by
  obtain ⟨m, x, y, z, t, l, bx, en, lf, od⟩ := s
  have ox := ok.x
  have oy := ok.y
  have oz := ok.z
  have ot := ok.t
  have ol := ok.l
  have obl := ok.bl
  have ob := ok.b
  have oe := ok.e
  simp only at ox oy oz ot ol obl ob oe
  cases od with
  | some o =>
    have eo : ∃ w : Str, odD (some o) = .str w := by cases o <;> exact ⟨_, rfl⟩
    obtain ⟨w, hw⟩ := eo
    by_cases hk : k = .clear
    · subst hk
      have e : pressZ ⟨m, x, y, z, t, l, bx, en, lf, some o⟩ .clear = ⟨m, x, y, z, t, l, bx, none, false, none⟩ := rfl
      rw [e]
      refine ⟨?_, ⟨ox, oy, oz, ot, ol, obl, ob, fun e h => by cases h⟩⟩
      show d_pressed [.tup [.str m.s, .tup [numD x, numD y, numD z, numD t], numD l, .tup (bx.map numD), enD en, .bl lf, odD (some o)], .str "clear"] = _
      rw [hw]
      exact kp_oddc
    · have e : pressZ ⟨m, x, y, z, t, l, bx, en, lf, some o⟩ k = ⟨m, x, y, z, t, l, bx, en, lf, some o⟩ := if_neg hk
      rw [e]
      refine ⟨?_, ok⟩
      show d_pressed [.tup [.str m.s, .tup [numD x, numD y, numD z, numD t], numD l, .tup (bx.map numD), enD en, .bl lf, odD (some o)], .str k.s] = .ok (.tup [.str m.s, .tup [numD x, numD y, numD z, numD t], numD l, .tup (bx.map numD), enD en, .bl lf, odD (some o)])
      rw [hw]
      exact kp_odd k hk
  | none =>
    have no : odD none = .non := rfl
    have mk : ∀ x y z t l : Int × Int, ∀ bx : List (Int × Int), NO x → NO y → NO z → NO t → NO l → bx.length = 10 → (∀ n ∈ bx, NO n) → ∀ lf od, (⟨m, x, y, z, t, l, bx, none, lf, od⟩ : Sta).Ok := fun x y z t l bx h1 h2 h3 h4 h5 h6 h7 lf od => ⟨h1, h2, h3, h4, h5, h6, h7, fun e h => by cases h⟩
    have typ : ∀ k : Ky, (k = .dot ∨ ∃ i, k = .fig i) → d_typed [.tup [.str m.s, .tup [numD x, numD y, numD z, numD t], numD l, .tup (bx.map numD), enD en, .bl lf, .non], .str k.s] = .ok (typeZ ⟨m, x, y, z, t, l, bx, en, lf, none⟩ k).D ∧ (typeZ ⟨m, x, y, z, t, l, bx, en, lf, none⟩ k).Ok := by
      intro k hk
      cases en with
      | none =>
        have ek : EntOk (entK none k) := by
          rcases hk with rfl | ⟨i, rfl⟩
          · exact ⟨fun c hc => by rcases List.mem_singleton.mp hc with rfl; omega, fun _ h => (by cases h), by decide, fun _ => rfl, by decide⟩
          · exact ⟨fun c hc => by rcases List.mem_singleton.mp hc with rfl; have := i.isLt; omega, fun _ h => (by cases h), by simp [entK], fun _ => rfl, by simp [entK]⟩
        have tn := ty_none (m := .str m.s) (l := numD l) (B := .tup (bx.map numD)) (x := numD x) (y := numD y) (z := numD z) (t := numD t) (b := lf) hk
        cases lf with
        | true => exact ⟨tn, ⟨ent_ok ek, ox, oy, oz, ol, obl, ob, fun e h => by cases h; exact ek⟩⟩
        | false => exact ⟨tn, ⟨ent_ok ek, oy, oz, ot, ol, obl, ob, fun e h => by cases h; exact ek⟩⟩
      | some e =>
        have he := oe e rfl
        have ek := entK_ok he k
        have ts := ty_some (m := .str m.s) (l := numD l) (B := .tup (bx.map numD)) (x := numD x) (y := numD y) (z := numD z) (t := numD t) (f := .bl lf) he hk
        exact ⟨ts, ⟨ent_ok ek, oy, oz, ot, ol, obl, ob, fun e h => by cases h; exact ek⟩⟩
    have push : ∀ n : Int × Int, NO n → (pushZ ⟨m, x, y, z, t, l, bx, en, lf, none⟩ n).Ok := by
      intro n hn
      unfold pushZ
      cases lf with
      | true => exact mk _ _ _ _ _ _ hn ox oy oz ol obl ob _ _
      | false => exact mk _ _ _ _ _ _ hn oy oz ot ol obl ob _ _
    cases k with
    | fig i =>
      obtain ⟨t1, t2⟩ := typ (.fig i) (.inr ⟨i, rfl⟩)
      exact ⟨kp_fig.trans t1, t2⟩
    | dot =>
      obtain ⟨t1, t2⟩ := typ .dot (.inl rfl)
      exact ⟨kp_dot.trans t1, t2⟩
    | sign =>
      cases en with
      | none =>
        obtain ⟨a, b⟩ := x
        exact ⟨kp_sign0, mk _ _ _ _ _ _ ox.neg oy oz ot ol obl ob _ _⟩
      | some e =>
        have he := oe e rfl
        have h2 : EntOk ({ e with neg := !e.neg } : Ent) := ⟨he.a, he.b, he.ne, he.np, he.len⟩
        exact ⟨kp_sign1 he, ⟨ent_ok h2, oy, oz, ot, ol, obl, ob, fun e h => by cases h; exact h2⟩⟩
    | enter => exact ⟨kp_enter, mk _ _ _ _ _ _ ox ox oy oz ol obl ob _ _⟩
    | swap => exact ⟨kp_swap, mk _ _ _ _ _ _ oy ox oz ot ol obl ob _ _⟩
    | roll => exact ⟨kp_roll, mk _ _ _ _ _ _ oy oz ot ox ol obl ob _ _⟩
    | clear => exact ⟨kp_clear, mk _ _ _ _ _ _ zero_ok oy oz ot ol obl ob _ _⟩
    | last =>
      refine ⟨?_, push l ol⟩
      cases lf with
      | true => exact kp_last1
      | false => exact kp_last0
    | put i =>
      refine ⟨?_, mk _ _ _ _ _ _ ox oy oz ot ol (by rw [List.length_set]; exact obl) (fun n hn => ?_) _ _⟩
      · have e : (pressZ ⟨m, x, y, z, t, l, bx, en, lf, none⟩ (.put i)).D = .tup [.str m.s, .tup [numD x, numD y, numD z, numD t], numD l, .tup ((bx.map numD).set i.val (numD x)), .non, .bl true, .non] := by
          rw [← set_map]; rfl
        rw [e]
        show d_pressed [.tup [.str m.s, .tup [numD x, numD y, numD z, numD t], numD l, .tup (bx.map numD), enD en, .bl lf, .non], .str (Ky.put i).s] = _
        match bx, obl with
        | [b0, b1, b2, b3, b4, b5, b6, b7, b8, b9], _ => exact kp_put i
      · rcases List.mem_or_eq_of_mem_set hn with h | h
        · exact ob n h
        · rw [h]; exact ox
    | get i =>
      have hi : i.val < bx.length := by rw [obl]; exact i.isLt
      have on : NO (bx.getD i.val (0, 0)) := by
        rw [List.getD_eq_getElem?_getD, List.getElem?_eq_getElem hi]
        exact ob _ (List.getElem_mem hi)
      refine ⟨?_, push _ on⟩
      have gm := getD_map bx hi
      cases lf with
      | true =>
        have e : (pressZ ⟨m, x, y, z, t, l, bx, en, true, none⟩ (.get i)).D = .tup [.str m.s, .tup [(bx.map numD).getD i.val .non, numD x, numD y, numD z], numD l, .tup (bx.map numD), .non, .bl true, .non] := by
          rw [gm]; rfl
        rw [e]
        show d_pressed [.tup [.str m.s, .tup [numD x, numD y, numD z, numD t], numD l, .tup (bx.map numD), enD en, .bl true, .non], .str (Ky.get i).s] = _
        match bx, obl with
        | [b0, b1, b2, b3, b4, b5, b6, b7, b8, b9], _ => exact kp_get1 i
      | false =>
        have e : (pressZ ⟨m, x, y, z, t, l, bx, en, false, none⟩ (.get i)).D = .tup [.str m.s, .tup [(bx.map numD).getD i.val .non, numD y, numD z, numD t], numD l, .tup (bx.map numD), .non, .bl true, .non] := by
          rw [gm]; rfl
        rw [e]
        show d_pressed [.tup [.str m.s, .tup [numD x, numD y, numD z, numD t], numD l, .tup (bx.map numD), enD en, .bl false, .non], .str (Ky.get i).s] = _
        match bx, obl with
        | [b0, b1, b2, b3, b4, b5, b6, b7, b8, b9], _ => exact kp_get0 i
    | root =>
      have yr := y_root m ox
      have kr := kp_root (m := .str m.s) (l := numD l) (B := .tup (bx.map numD)) (x := numD x) (y := numD y) (z := numD z) (t := numD t) (f := .bl lf) (en := enD en)
      by_cases h0 : x.1 < 0
      · rw [if_pos h0] at yr
        have e : pressZ ⟨m, x, y, z, t, l, bx, en, lf, none⟩ .root = ⟨m, x, y, z, t, l, bx, none, lf, some false⟩ := if_pos h0
        rw [e]
        rw [yr] at kr
        exact ⟨kr, mk _ _ _ _ _ _ ox oy oz ot ol obl ob _ _⟩
      · rw [if_neg h0] at yr
        have e : pressZ ⟨m, x, y, z, t, l, bx, en, lf, none⟩ .root = ⟨m, rootZ m x, y, z, t, x, bx, none, true, none⟩ := if_neg h0
        rw [e]
        rw [yr.1] at kr
        exact ⟨kr, mk _ _ _ _ _ _ yr.2 oy oz ot ox obl ob _ _⟩
    | dd w =>
      have yd := y_dd m w oy ox
      have kr := kp_dd (m := .str m.s) (l := numD l) (B := .tup (bx.map numD)) (x := numD x) (y := numD y) (z := numD z) (t := numD t) (f := .bl lf) (en := enD en) w
      show _ = Res.ok (deedZ ⟨m, x, y, z, t, l, bx, en, lf, none⟩ w).D ∧ (deedZ ⟨m, x, y, z, t, l, bx, en, lf, none⟩ w).Ok
      unfold deedZ
      by_cases h0 : w = .over ∧ x.1 = 0
      · rw [if_pos h0] at yd ⊢
        rw [yd] at kr
        exact ⟨kr, mk _ _ _ _ _ _ ox oy oz ot ol obl ob _ _⟩
      · rw [if_neg h0] at yd ⊢
        simp only
        cases hv : exV m (ddV w (vl y) (vl x)) with
        | none =>
          rw [hv] at yd
          rw [yd] at kr
          exact ⟨kr, mk _ _ _ _ _ _ ox oy oz ot ol obl ob _ _⟩
        | some r =>
          rw [hv] at yd
          rw [yd] at kr
          exact ⟨kr, mk _ _ _ _ _ _ (exV_some hv).1 oz ot ot ox obl ob _ _⟩
/-! rows -/
def runZ (s : Sta) : List Ky → Sta
  | [] => s
  | k :: ks => runZ (pressZ s k) ks
abbrev kyD (k : Ky) : D := .str k.s
theorem run_loop {row : D} : ∀ (ks : List Ky) (s : Sta) (e : En), s.Ok → ∃ e', loopD (gn 2) b1_run (ks.map kyD) [.z s.D, .z row, e] = .nx [.z (runZ s ks).D, .z row, e']
  | [], s, e, _ => ⟨e, loop_nil⟩
  | k :: ks, s, e, h => by
    obtain ⟨p1, p2⟩ := x_press h k
    obtain ⟨e', ih⟩ := run_loop (row := row) ks (pressZ s k) (.z (kyD k)) p2
    refine ⟨e', ?_⟩
    have hb : b1_run [.z s.D, .z row, .z (kyD k)] = .nx [.z (pressZ s k).D, .z row, .z (kyD k)] := by simp?! [b1_run, p1]
    rw [List.map_cons, loop_cons (ρ1 := [.z s.D, .z row, .z (kyD k)]) rfl hb, ih]
    rfl
theorem its_T {f : Rho → Res D} {ds : List D} {ρ : Rho} (h : f ρ = .ok (.tup ds)) : its f ρ = .ok ds := by
  unfold its
  rw [h]
  rfl
theorem x_run {s : Sta} (h : s.Ok) (ks : List Ky) : d_run [s.D, .tup (ks.map kyD)] = .ok (runZ s ks).D := by
  obtain ⟨e', lp⟩ := run_loop (row := .tup (ks.map kyD)) ks s .u h
  have it := its_T (f := var 1) (ds := ks.map kyD) (ρ := [.z s.D, .z (.tup (ks.map kyD)), .u]) rfl
  simp?! [v_run, g_run, t1_run, it, lp]
def beginZ (m : Mn) : Sta := ⟨m, (0, 0), (0, 0), (0, 0), (0, 0), (0, 0), List.replicate 10 (0, 0), none, false, none⟩
theorem begin_ok (m : Mn) : (beginZ m).Ok := ⟨zero_ok, zero_ok, zero_ok, zero_ok, zero_ok, rfl, fun n hn => by rw [List.eq_of_mem_replicate hn]; exact zero_ok, fun e h => by cases h⟩
theorem x_begin (m : Mn) : d_begin [.str m.s] = .ok (beginZ m).D := by kernel_rfl
/-! written -/
/-! lists -/
theorem comp_map {α : Type} {f : α → D} {i : Nat} {e : Rho → Res D} {ρ : Rho} : ∀ (ds : List D), (∀ d ∈ ds, ∃ a, e (ρ.set i (.z d)) = .ok (f a)) → ∃ as : List α, as.length = ds.length ∧ compD (gn i) yes e ρ ds = .ok (as.map f)
  | [], _ => ⟨[], rfl, rfl⟩
  | d :: ds, h => by
    obtain ⟨a, ha⟩ := h d List.mem_cons_self
    obtain ⟨as, h1, h2⟩ := comp_map (f := f) (i := i) (e := e) (ρ := ρ) ds fun x hx => h x (List.mem_cons_of_mem _ hx)
    exact ⟨a :: as, by simp [h1], comp_t (show gn i ρ d = some (ρ.set i (.z d)) from rfl) rfl ha h2⟩
theorem rngD_mem {n : Nat} {d : D} (h : d ∈ rngD 0 n) : ∃ j : Nat, j < n ∧ d = .int (j : Int) := by
  unfold rngD at h
  obtain ⟨j, hj, rfl⟩ := List.mem_map.mp h
  exact ⟨j, List.mem_range.mp hj, by simp⟩
theorem add_tt {a b : List D} (h : a.length + b.length ≤ 1000) : addD (.tup a) (.tup b) = some (.tup (a ++ b)) := by
  show (if a.length + b.length ≤ sizeLine then some (D.tup (a ++ b)) else none) = _
  rw [if_pos (by rw [sizeLine_eq]; omega)]
/-! drawn keys -/
def menu40 : List Ky := [.fig 0, .fig 1, .fig 2, .fig 3, .fig 4, .fig 5, .fig 6, .fig 7, .fig 8, .fig 9, .fig 1, .fig 5, .fig 9, .dot, .dot, .sign, .enter, .enter, .dd .plus,
  .dd .minus, .dd .times, .dd .over, .dd .plus, .dd .minus, .dd .times, .root, .swap, .roll, .last, .clear, .put 0, .put 9, .get 0, .get 9, .put 4, .get 4, .dd .times, .dd .over, .enter, .fig 0]
theorem key_list (n : Int) : g__law_key [.z (.int n), .u] = t2__law_key [.z (.int n), .z (.lst ((menu40.take 31).map kyD))] := by kernel_rfl
theorem key_last (n : Int) : bop addD (var 1) (mkL (acons (con (.str "put9")) (acons (con (.str "get0")) (acons (con (.str "get9")) (acons (con (.str "put4")) (acons (con (.str "get4")) (acons (con (.str "times")) (acons (con (.str "over")) (acons (con (.str "enter")) (acons (con (.str "0")) anil)))))))))) [.z (.int n), .z (.lst ((menu40.take 31).map kyD))] = .ok (.lst (menu40.map kyD)) := by kernel_rfl
theorem x_lkey {n : Int} : ∃ k : Ky, d__law_key [.int n] = .ok (kyD k) := by
  have md : bop modD (var 0) (con (.int 40)) [.z (.int n), .z (.lst ((menu40.take 31).map kyD))] = .ok (.int (n % 40)) := by simp?! []
  have hn : (n % 40).toNat < menu40.length := by have : menu40.length = 40 := rfl; omega
  refine ⟨menu40[(n % 40).toNat], ?_⟩
  rw [v__law_key, key_list]
  unfold t2__law_key
  rw [sret_def, bin_def, key_last, md, app2_ok, ix_lm (by rw [List.length_map]; decide), ofO_some, retR_ok, finR_rt]
  congr 1
  rw [List.getD_eq_getElem?_getD, List.getElem?_map, List.getElem?_eq_getElem hn]
  rfl
theorem x_lrow {n : Int} {k : Int} (h0 : 0 ≤ k) (h1 : k < 100) : ∃ ks : List Ky, ks.length = k.toNat ∧ d__law_row [.int n, .int k] = .ok (.tup (ks.map kyD)) := by
  have q : acons (var 1) anil [.z (.int n), .z (.int k), .u] = .ok [.int k] := by simp?! []
  have e := rng1_eq q h0 (by omega)
  obtain ⟨ks, l1, l2⟩ := comp_map (f := kyD) (i := 2) (e := e1__law_row) (ρ := [.z (.int n), .z (.int k), .u]) (rngD 0 k.toNat) (by
    intro d hd
    obtain ⟨j, hj, rfl⟩ := rngD_mem hd
    obtain ⟨dr, d1, d2, d3⟩ := x_drawn (n := n) (k := (j : Int)) (by omega) (by omega)
    obtain ⟨ky, hk⟩ := x_lkey (n := dr / 4)
    exact ⟨ky, by simp?! [e1__law_row, d1, hk]⟩)
  rw [rngD_len] at l1
  refine ⟨ks, l1, ?_⟩
  have lc := lc_eq (t := yes) (e := e1__law_row) (i := 2) e (by rw [rngD_len]; omega) l2
  have tp : tupD [.lst (ks.map kyD)] = some (.tup (ks.map kyD)) := rfl
  simp?! [v__law_row, g__law_row, lc, tp]
/-! states are plain -/
theorem so_S {l : List Nat} (h : ∀ c ∈ l, c < 128) : PyData.strOk (S l) = true := by
  unfold PyData.strOk S
  rw [List.all_toArray, List.all_eq_true]
  intro c hc
  have := h c hc
  exact decide_eq_true (by omega)
theorem ent_128 {e : Ent} (h : EntOk e) : ∀ c ∈ e.L, c < 128 := by
  intro c hc
  unfold Ent.L at hc
  rcases List.mem_append.mp hc with q | q
  · rcases List.mem_append.mp q with q | q
    · split at q
      · rcases List.mem_singleton.mp q with rfl; omega
      · cases q
    · have := h.a c q; omega
  · split at q
    · rcases List.mem_cons.mp q with rfl | q
      · omega
      · have := h.b c q; omega
    · cases q
theorem plains_num (n : Nat) : ∀ (l : List (Int × Int)), DN.plains (n + 1) (l.map numD) = true
  | [] => rfl
  | a :: l => by
    show (DN.plain (n + 1) (numD a) && DN.plains (n + 1) (l.map numD)) = true
    rw [plains_num n l]
    rfl
theorem mn_ok (m : Mn) : PyData.strOk m.s = true := by cases m <;> decide +kernel
theorem st_plain {s : Sta} (h : s.Ok) (n : Nat) : DN.plain (n + 3) s.D = true := by
  have e1 : DN.plain (n + 2) (.str s.m.s) = true := mn_ok s.m
  have e2 : DN.plain (n + 2) (.tup (s.bx.map numD)) = true := plains_num n s.bx
  have e3 : DN.plain (n + 2) (enD s.en) = true := by
    cases he : s.en with
    | none => rfl
    | some e => exact so_S (ent_128 (h.e e he))
  have e4 : DN.plain (n + 2) (odD s.od) = true := by
    cases ho : s.od with
    | none => rfl
    | some b =>
      cases b with
      | false => exact (by decide +kernel : PyData.strOk (Str.ofString "deed") = true)
      | true => exact (by decide +kernel : PyData.strOk (Str.ofString "great") = true)
  show (DN.plain (n + 2) (.str s.m.s) && (true && (true && (DN.plain (n + 2) (.tup (s.bx.map numD)) && (DN.plain (n + 2) (enD s.en) && (true && (DN.plain (n + 2) (odD s.od) && true))))))) = true
  rw [e1, e2, e3, e4]
  rfl
/-! what is shown -/
/-! programs run, line by line -/
inductive Ln where | key (k : Ky) | mark (n : Fin 3) | go (n : Fin 3) | call (n : Fin 3) | back | stop | less | same | nought
def Ln.s : Ln → Str
  | .key k => k.s | .mark n => S [109, 97, 114, 107, 49 + n.val] | .go n => S [103, 111, 49 + n.val] | .call n => S [99, 97, 108, 108, 49 + n.val]
  | .back => "back" | .stop => "stop" | .less => "less" | .same => "same" | .nought => "nought"
inductive How where | on | ended | odd | lost
  deriving DecidableEq
def How.s : How → Str
  | .on => "on" | .ended => "ended" | .odd => "odd" | .lost => "lost"
structure Pc where
  ln : Int
  cs : List Int
def Pc.D (p : Pc) : DN.D := .tup [.int p.ln, .tup (p.cs.map .int)]
def soZ (l : Ln) (x y : Int × Int) : Bool := match l with
  | .less => decide (vl x < vl y)
  | .same => decide (x = y)
  | _ => decide (x = (0, 0))
def goalZ (pr : List Ln) (n : Fin 3) : Option Int := (firstIx (Ln.mark n).s (pr.map Ln.s)).map fun j => (j : Int) + 1
def lnZ (pr : List Ln) (s : Sta) (p : Pc) : Ln → Sta × Pc × How
  | .stop => (s, p, .ended)
  | .key k => if (pressZ s k).od.isSome = true then (pressZ s k, p, .odd) else (pressZ s k, ⟨p.ln + 1, p.cs⟩, .on)
  | .mark _ => (s, ⟨p.ln + 1, p.cs⟩, .on)
  | .go n => match goalZ pr n with
    | none => (s, p, .lost)
    | some g => (s, ⟨g, p.cs⟩, .on)
  | .call n => match goalZ pr n with
    | none => (s, p, .lost)
    | some g => if p.cs.length = 4 then (s, p, .lost) else (s, ⟨g, p.cs ++ [p.ln + 1]⟩, .on)
  | .back => match p.cs.getLast? with
    | none => (s, p, .lost)
    | some g => (s, ⟨g, p.cs.dropLast⟩, .on)
  | l => ({ s with en := none, lf := true }, ⟨p.ln + 2 - (if soZ l s.x s.y = true then 1 else 0), p.cs⟩, .on)
def stepZ (pr : List Ln) (s : Sta) (p : Pc) : Sta × Pc × How :=
  if 0 ≤ p.ln ∧ p.ln < pr.length then lnZ pr s p (pr.getD p.ln.toNat .stop) else (s, p, .ended)
theorem fin3' (n : Fin 3) : n = 0 ∨ n = 1 ∨ n = 2 := by revert n; decide
theorem first_mem {z : Str} : ∀ {ys : List Str}, (firstIx z ys).isSome = decide (z ∈ ys)
  | [] => rfl
  | y :: r => by
    show (if y = z then some 0 else (firstIx z r).map (· + 1)).isSome = _
    by_cases q : y = z
    · rw [if_pos q]; subst q; simp
    · rw [if_neg q, Option.isSome_map, first_mem (ys := r)]
      have : z ≠ y := fun e => q e.symm
      simp [this]
def optD : Option Int → D
  | none => .non
  | some g => .int g
theorem x_behind (pr : List Ln) (n : Fin 3) : d_behind_mark [.pro (pr.map Ln.s), .str (S [49 + n.val])] = .ok (optD (goalZ pr n)) := by
  have ad : addD (.str "mark") (.str (S [49 + n.val])) = some (.str (Ln.mark n).s) := by rcases fin3' n with rfl | rfl | rfl <;> kernel_rfl
  have hm := first_mem (z := (Ln.mark n).s) (ys := pr.map Ln.s)
  have ni : niP (.str (Ln.mark n).s) (.pro (pr.map Ln.s)) = some (.bl (!decide ((Ln.mark n).s ∈ pr.map Ln.s))) := rfl
  unfold goalZ
  have mp : metP (var 0) (acons (bop addD (con (.str "mark")) (var 1)) anil) [.z (.pro (pr.map Ln.s)), .z (.str (S [49 + n.val]))] = ofO (indexP (.pro (pr.map Ln.s)) [.str (Ln.mark n).s]) := by
    have ar : acons (bop addD (con (.str "mark")) (var 1)) anil [.z (.pro (pr.map Ln.s)), .z (.str (S [49 + n.val]))] = .ok [.str (Ln.mark n).s] := by simp?! [ad]
    unfold metP
    rw [ar]
    rfl
  cases e : firstIx (Ln.mark n).s (pr.map Ln.s) with
  | none =>
    rw [e] at hm
    have hm : decide ((Ln.mark n).s ∈ pr.map Ln.s) = false := hm.symm
    rw [hm] at ni
    simp?! [v_behind_mark, g_behind_mark, ad, ni]
    rfl
  | some j =>
    rw [e] at hm
    have hm : decide ((Ln.mark n).s ∈ pr.map Ln.s) = true := hm.symm
    rw [hm] at ni
    have ix : indexP (.pro (pr.map Ln.s)) [.str (Ln.mark n).s] = some (.int (j : Nat)) := by
      show (firstIx (Ln.mark n).s (pr.map Ln.s)).map (fun j => D.int (j : Nat)) = _
      rw [e]; rfl
    rw [ix] at mp
    simp?! [v_behind_mark, g_behind_mark, t1_behind_mark, ad, ni, mp]
    rfl
theorem eq_num (x y : Int × Int) : eqD (numD x) (numD y) = some (.bl (decide (x = y))) := by
  obtain ⟨a, b⟩ := x
  obtain ⟨c, d⟩ := y
  have h : eqD (numD (a, b)) (numD (c, d)) = some (.bl ((a == c) && ((b == d) && true))) := rfl
  rw [h]
  congr 2
  rw [Bool.eq_iff_iff]
  simp
theorem x_so {x y z t : Int × Int} (hx : NO x) (hy : NO y) {l : Ln} (hl : l = .less ∨ l = .same ∨ l = .nought) : d_is_so [.str l.s, .tup [numD x, numD y, numD z, numD t]] = .ok (.bl (soZ l x y)) := by
  rcases hl with rfl | rfl | rfl
  · have h := y_less (num_b hx) (num_b hy)
    have h : d_less [numD x, numD y] = .ok (.bl (decide (vl x < vl y))) := h
    have e : (Ln.less.s == Str.ofString "less") = true := by decide +kernel
    simp?! [v_is_so, g_is_so, e, h]
    rfl
  · have h := eq_num x y
    have e1 : (Ln.same.s == Str.ofString "less") = false := by decide +kernel
    have e2 : (Ln.same.s == Str.ofString "same") = true := by decide +kernel
    simp?! [v_is_so, g_is_so, t1_is_so, e1, e2, h]
    rfl
  · have h := eq_num x (0, 0)
    have h : eqD (numD x) (.tup [.int 0, .int 0]) = some (.bl (decide (x = (0, 0)))) := h
    have e1 : (Ln.nought.s == Str.ofString "less") = false := by decide +kernel
    have e2 : (Ln.nought.s == Str.ofString "same") = false := by decide +kernel
    simp?! [v_is_so, g_is_so, t1_is_so, t2_is_so, e1, e2, h]
    rfl
def pcD : Option Pc → D
  | none => .non
  | some p => p.D
def ledZ (pr : List Ln) (p : Pc) : Ln → Option Pc
  | .go n => (goalZ pr n).map fun g => ⟨g, p.cs⟩
  | .call n => (goalZ pr n).bind fun g => if p.cs.length = 4 then none else some ⟨g, p.cs ++ [p.ln + 1]⟩
  | .back => p.cs.getLast?.map fun g => ⟨g, p.cs.dropLast⟩
  | _ => none
theorem sl_last {cs : List Int} {c : Int} (h : cs.length ≤ 1000) : slD (.tup ((cs ++ [c]).map D.int)) none (some (-1)) = some (.tup (cs.map D.int)) ∧ ixD (.tup ((cs ++ [c]).map D.int)) (.int (-1)) = some (.int c) := by
  have hl : ((cs ++ [c]).map D.int).length = cs.length + 1 := by rw [List.length_map, List.length_append]; rfl
  constructor
  · show some (D.tup (DN.cutD ((cs ++ [c]).map D.int) none (some (-1)))) = _
    unfold DN.cutD
    rw [HT.sIx_none, hl]
    have : HT.sIx (cs.length + 1) (cs.length + 1) (some (-1)) = cs.length := by
      unfold HT.sIx
      simp
      try omega
    rw [this, List.drop_zero, Nat.sub_zero, List.map_append, List.take_left' (by rw [List.length_map])]
  · show atI ((cs ++ [c]).map D.int) (-1) = _
    unfold atI ixN
    rw [if_neg (by decide), hl]
    rw [if_pos (by omega)]
    have h2 : ((((cs.length + 1 : Nat) : Int) + -1).toNat) = cs.length ∨ ((-1 + ((cs.length + 1 : Nat) : Int)).toNat) = cs.length := .inl (by omega)
    have h3 : (-1 + ((cs.length + 1 : Nat) : Int)).toNat = cs.length := by omega
    rw [h3]
    show ((cs ++ [c]).map D.int)[cs.length]? = _
    rw [List.map_append, List.getElem?_append_right (by rw [List.length_map]; exact Nat.le_refl _), List.length_map, Nat.sub_self]
    rfl
theorem x_led {pr : List Ln} {s : D} {p : Pc} {l : Ln} (hp : p.cs.length ≤ 4) (h1 : 0 ≤ p.ln ∧ p.ln < pr.length) (h2 : pr.getD p.ln.toNat .stop = l) (hl : l = .back ∨ (∃ n, l = .go n) ∨ ∃ n, l = .call n) : d_led [.pro (pr.map Ln.s), s, p.D] = .ok (pcD (ledZ pr p l)) := by
  obtain ⟨ln, cs⟩ := p
  have hp : cs.length ≤ 4 := hp
  have h1 : 0 ≤ ln ∧ ln < pr.length := h1
  have h2 : pr.getD ln.toNat .stop = l := h2
  have ix : ixP (.pro (pr.map Ln.s)) (.int ln) = some (.str l.s) := by
    show (atI (pr.map Ln.s) ln).map D.str = _
    unfold atI ixN
    rw [if_pos h1.1, if_pos (by rw [List.length_map]; exact h1.2)]
    simp only [Option.bind_some]
    rw [List.getElem?_map]
    rw [List.getD_eq_getElem?_getD] at h2
    rw [List.getElem?_eq_getElem (by omega)] at h2 ⊢
    rw [← h2]; rfl
  have ln4 : lenD [.tup (cs.map D.int)] = some (.int (cs.length : Int)) := by rw [len_t, List.length_map]
  have key : d_led [.pro (pr.map Ln.s), s, Pc.D ⟨ln, cs⟩] = finR (t2_led [.z (.pro (pr.map Ln.s)), .z s, .z (Pc.D ⟨ln, cs⟩), .z (.int ln), .z (.tup (cs.map D.int)), .z (.str l.s), .u]) := by
    have eD : Pc.D ⟨ln, cs⟩ = .tup [.int ln, .tup (cs.map D.int)] := rfl
    simp?! [v_led, g_led, t1_led, eD, ix]
  rw [key]
  rcases hl with rfl | ⟨n, rfl⟩ | ⟨n, rfl⟩
  · have e1 : (Ln.back.s == Str.ofString "back") = true := by decide +kernel
    rcases List.eq_nil_or_concat cs with rfl | ⟨r, c, rfl⟩
    · have e0 : ((([] : List Int).length : Int) == 0) = true := rfl
      simp?! [t2_led, e1, ln4, e0]
      rfl
    · have e0 : (((r.concat c).length : Int) == 0) = false := by
        rw [beq_eq_false_iff_ne]; simp; omega
      rw [List.concat_eq_append] at *
      obtain ⟨q1, q2⟩ := sl_last (cs := r) (c := c) (by simp at hp; omega)
      simp?! [t2_led, e1, ln4, e0, q1, q2]
      show _ = Res.ok (pcD ((r ++ [c]).getLast?.map _))
      simp [pcD, Pc.D]
  · have e1 : ((Ln.go n).s == Str.ofString "back") = false := by rcases fin3' n with rfl | rfl | rfl <;> decide +kernel
    have bm := x_behind pr n
    have i1 : ixD (.str (Ln.go n).s) (.int (-1)) = some (.str (S [49 + n.val])) := by rcases fin3' n with rfl | rfl | rfl <;> kernel_rfl
    have st : startsD (.str (Ln.go n).s) [.str "go"] = some (.bl true) := by rcases fin3' n with rfl | rfl | rfl <;> kernel_rfl
    show _ = Res.ok (pcD ((goalZ pr n).map _))
    cases e : goalZ pr n with
    | none =>
      rw [e] at bm
      have n1 : isN (optD none) .non = some (.bl true) := rfl
      simp?! [t2_led, t3_led, t4_led, e1, i1, bm, n1]
      rfl
    | some g =>
      rw [e] at bm
      have n1 : isN (optD (some g)) .non = some (.bl false) := rfl
      simp?! [t2_led, t3_led, t4_led, t5_led, e1, i1, bm, n1, met_def, metR_ok, st]
      rfl
  · have e1 : ((Ln.call n).s == Str.ofString "back") = false := by rcases fin3' n with rfl | rfl | rfl <;> decide +kernel
    have bm := x_behind pr n
    have i1 : ixD (.str (Ln.call n).s) (.int (-1)) = some (.str (S [49 + n.val])) := by rcases fin3' n with rfl | rfl | rfl <;> kernel_rfl
    have st : startsD (.str (Ln.call n).s) [.str "go"] = some (.bl false) := by rcases fin3' n with rfl | rfl | rfl <;> kernel_rfl
    show _ = Res.ok (pcD ((goalZ pr n).bind _))
    cases e : goalZ pr n with
    | none =>
      rw [e] at bm
      have n1 : isN (optD none) .non = some (.bl true) := rfl
      simp?! [t2_led, t3_led, t4_led, e1, i1, bm, n1]
      rfl
    | some g =>
      rw [e] at bm
      have n1 : isN (optD (some g)) .non = some (.bl false) := rfl
      show _ = Res.ok (pcD (if cs.length = 4 then none else some ⟨g, cs ++ [ln + 1]⟩))
      by_cases c4 : cs.length = 4
      · have e4 : ((cs.length : Int) == 4) = true := by rw [c4]; rfl
        rw [if_pos c4]
        simp?! [t2_led, t3_led, t4_led, t5_led, t6_led, e1, i1, bm, n1, met_def, metR_ok, st, ln4, e4]
        rfl
      · have e4 : ((cs.length : Int) == 4) = false := by rw [beq_eq_false_iff_ne]; omega
        have ad : addD (.tup (cs.map D.int)) (.tup [.int (ln + 1)]) = some (.tup (cs.map D.int ++ [.int (ln + 1)])) := add_tt (by rw [List.length_map]; simp; omega)
        rw [if_neg c4]
        simp?! [t2_led, t3_led, t4_led, t5_led, t6_led, t7_led, e1, i1, bm, n1, met_def, metR_ok, st, ln4, e4, ad]
        simp [pcD, Pc.D, optD]
structure Pc.Ok (p : Pc) : Prop where
  l : p.cs.length ≤ 4
theorem lnZ_ok {pr : List Ln} {s : Sta} {p : Pc} (hs : s.Ok) (hp : p.Ok) (l : Ln) : (lnZ pr s p l).1.Ok ∧ (lnZ pr s p l).2.1.Ok := by
  have o2 : Sta.Ok { s with en := none, lf := true } := ⟨hs.x, hs.y, hs.z, hs.t, hs.l, hs.bl, hs.b, fun e h => by cases h⟩
  have hl := hp.l
  cases l with
  | stop => exact ⟨hs, hp⟩
  | key k =>
    have := x_press hs k
    show (if _ then _ else _ : Sta × Pc × How).1.Ok ∧ (if _ then _ else _ : Sta × Pc × How).2.1.Ok
    split
    · exact ⟨this.2, hp⟩
    · exact ⟨this.2, ⟨hl⟩⟩
  | mark n => exact ⟨hs, ⟨hl⟩⟩
  | go n =>
    show (match goalZ pr n with | none => _ | some g => _ : Sta × Pc × How).1.Ok ∧ (match goalZ pr n with | none => _ | some g => _ : Sta × Pc × How).2.1.Ok
    split
    · exact ⟨hs, hp⟩
    · exact ⟨hs, ⟨hl⟩⟩
  | call n =>
    show (match goalZ pr n with | none => _ | some g => _ : Sta × Pc × How).1.Ok ∧ (match goalZ pr n with | none => _ | some g => _ : Sta × Pc × How).2.1.Ok
    split
    · exact ⟨hs, hp⟩
    · split
      · exact ⟨hs, hp⟩
      · exact ⟨hs, ⟨by simp; omega⟩⟩
  | back =>
    show (match p.cs.getLast? with | none => _ | some g => _ : Sta × Pc × How).1.Ok ∧ (match p.cs.getLast? with | none => _ | some g => _ : Sta × Pc × How).2.1.Ok
    split
    · exact ⟨hs, hp⟩
    · exact ⟨hs, ⟨by simp; omega⟩⟩
  | less => exact ⟨o2, ⟨hl⟩⟩
  | same => exact ⟨o2, ⟨hl⟩⟩
  | nought => exact ⟨o2, ⟨hl⟩⟩
def spD (r : Sta × Pc × How) : D := .tup [r.1.D, r.2.1.D, .str r.2.2.s]
theorem x_ln {pr : List Ln} {s : Sta} {p : Pc} (hs : s.Ok) (hp : p.Ok) (h1 : 0 ≤ p.ln ∧ p.ln < pr.length) {l : Ln} (h2 : pr.getD p.ln.toNat .stop = l) (hl : l ≠ .stop) : finR (t3_step [.z (.pro (pr.map Ln.s)), .z s.D, .z p.D, .z (.int p.ln), .z (.tup (p.cs.map D.int)), .z (.str l.s), .u, .u]) = .ok (spD (lnZ pr s p l)) := by
  have hk : ∀ {l : Ln}, d_is_key [.str l.s] = .ok (.bl false) → finR (t3_step [.z (.pro (pr.map Ln.s)), .z s.D, .z p.D, .z (.int p.ln), .z (.tup (p.cs.map D.int)), .z (.str l.s), .u, .u]) = finR (t4_step [.z (.pro (pr.map Ln.s)), .z s.D, .z p.D, .z (.int p.ln), .z (.tup (p.cs.map D.int)), .z (.str l.s), .u, .u]) := by
    intro l h
    simp?! [t3_step, h]
  have ht : ∀ {l : Ln}, inD (.str l.s) (.tup [.str "less", .str "same", .str "nought"]) = some (.bl false) → finR (t4_step [.z (.pro (pr.map Ln.s)), .z s.D, .z p.D, .z (.int p.ln), .z (.tup (p.cs.map D.int)), .z (.str l.s), .u, .u]) = finR (t5_step [.z (.pro (pr.map Ln.s)), .z s.D, .z p.D, .z (.int p.ln), .z (.tup (p.cs.map D.int)), .z (.str l.s), .u, .u]) := by
    intro l h
    simp?! [t4_step, h]
  have htest : ∀ {l : Ln}, l = .less ∨ l = .same ∨ l = .nought → finR (t4_step [.z (.pro (pr.map Ln.s)), .z s.D, .z p.D, .z (.int p.ln), .z (.tup (p.cs.map D.int)), .z (.str l.s), .u, .u]) = .ok (spD ({ s with en := none, lf := true }, ⟨p.ln + 2 - (if soZ l s.x s.y = true then 1 else 0), p.cs⟩, .on)) := by
    intro l h
    have i1 : inD (.str l.s) (.tup [.str "less", .str "same", .str "nought"]) = some (.bl true) := by rcases h with rfl | rfl | rfl <;> kernel_rfl
    have so := x_so (z := s.z) (t := s.t) hs.x hs.y h
    obtain ⟨m, x, y, z, t, lt, bx, en, lf, od⟩ := s
    have eD : ∀ en lf, Sta.D ⟨m, x, y, z, t, lt, bx, en, lf, od⟩ = .tup [.str m.s, .tup [numD x, numD y, numD z, numD t], numD lt, .tup (bx.map numD), enD en, .bl lf, odD od] := fun _ _ => rfl
    have s1 : slD (Sta.D ⟨m, x, y, z, t, lt, bx, en, lf, od⟩) none (some 4) = some (.tup [.str m.s, .tup [numD x, numD y, numD z, numD t], numD lt, .tup (bx.map numD)]) := by kernel_rfl
    have s2 : slD (Sta.D ⟨m, x, y, z, t, lt, bx, en, lf, od⟩) (some 6) none = some (.tup [odD od]) := by kernel_rfl
    have a1 : addD (.tup [.str m.s, .tup [numD x, numD y, numD z, numD t], numD lt, .tup (bx.map numD)]) (.tup [.non, .bl true]) = some (.tup [.str m.s, .tup [numD x, numD y, numD z, numD t], numD lt, .tup (bx.map numD), .non, .bl true]) := by kernel_rfl
    have a2 : addD (.tup [.str m.s, .tup [numD x, numD y, numD z, numD t], numD lt, .tup (bx.map numD), .non, .bl true]) (.tup [odD od]) = some (Sta.D ⟨m, x, y, z, t, lt, bx, none, true, od⟩) := by kernel_rfl
    have x1 : ixD (Sta.D ⟨m, x, y, z, t, lt, bx, en, lf, od⟩) (.int 1) = some (.tup [numD x, numD y, numD z, numD t]) := by kernel_rfl
    simp only at so
    simp?! [t4_step, i1, s1, s2, a1, a2, x1, so]
    rfl
  cases l with
  | stop => exact absurd rfl hl
  | key k =>
    obtain ⟨p1, p2⟩ := x_press hs k
    have ik : d_is_key [.str (Ln.key k).s] = .ok (.bl true) := kd_is k
    have p1 : d_pressed [s.D, .str (Ln.key k).s] = .ok (pressZ s k).D := p1
    show _ = Res.ok (spD (if (pressZ s k).od.isSome = true then _ else _))
    generalize pressZ s k = s' at *
    obtain ⟨m, x, y, z, t, lt, bx, en, lf, od⟩ := s'
    have x6 : ixD (Sta.D ⟨m, x, y, z, t, lt, bx, en, lf, od⟩) (.int 6) = some (odD od) := by kernel_rfl
    cases od with
    | none =>
      have n1 : isNotN (odD none) .non = some (.bl false) := rfl
      show _ = Res.ok (spD (_, _, _))
      simp?! [t3_step, ik, p1, x6, n1]
      rfl
    | some b =>
      have n1 : isNotN (odD (some b)) .non = some (.bl true) := by cases b <;> rfl
      show _ = Res.ok (spD (_, _, _))
      simp?! [t3_step, ik, p1, x6, n1]
      rfl
  | mark n =>
    have k1 : d_is_key [.str (Ln.mark n).s] = .ok (.bl false) := by rcases fin3' n with rfl | rfl | rfl <;> kernel_rfl
    have k2 : inD (.str (Ln.mark n).s) (.tup [.str "less", .str "same", .str "nought"]) = some (.bl false) := by rcases fin3' n with rfl | rfl | rfl <;> kernel_rfl
    have k3 : startsD (.str (Ln.mark n).s) [.str "mark"] = some (.bl true) := by rcases fin3' n with rfl | rfl | rfl <;> kernel_rfl
    rw [hk k1, ht k2]
    simp?! [t5_step, met_def, metR_ok, k3]
    rfl
  | less =>
    have k1 : d_is_key [.str Ln.less.s] = .ok (.bl false) := by kernel_rfl
    rw [hk k1]
    exact htest (.inl rfl)
  | same =>
    have k1 : d_is_key [.str Ln.same.s] = .ok (.bl false) := by kernel_rfl
    rw [hk k1]
    exact htest (.inr (.inl rfl))
  | nought =>
    have k1 : d_is_key [.str Ln.nought.s] = .ok (.bl false) := by kernel_rfl
    rw [hk k1]
    exact htest (.inr (.inr rfl))
  | go n =>
    have k1 : d_is_key [.str (Ln.go n).s] = .ok (.bl false) := by rcases fin3' n with rfl | rfl | rfl <;> kernel_rfl
    have k2 : inD (.str (Ln.go n).s) (.tup [.str "less", .str "same", .str "nought"]) = some (.bl false) := by rcases fin3' n with rfl | rfl | rfl <;> kernel_rfl
    have k3 : startsD (.str (Ln.go n).s) [.str "mark"] = some (.bl false) := by rcases fin3' n with rfl | rfl | rfl <;> kernel_rfl
    have ld := x_led (s := s.D) hp.l h1 h2 (.inr (.inl ⟨n, rfl⟩))
    rw [hk k1, ht k2]
    have e1 : ledZ pr p (.go n) = (goalZ pr n).map fun g => ⟨g, p.cs⟩ := rfl
    have e2 : lnZ pr s p (.go n) = match goalZ pr n with | none => (s, p, .lost) | some g => (s, ⟨g, p.cs⟩, .on) := rfl
    rw [e1] at ld
    rw [e2]
    cases e : goalZ pr n with
    | none =>
      rw [e] at ld
      have n1 : isN (pcD ((none : Option Int).map fun g => ⟨g, p.cs⟩)) .non = some (.bl true) := rfl
      simp?! [t5_step, t6_step, t7_step, met_def, metR_ok, k3, ld, n1]
      rfl
    | some g =>
      rw [e] at ld
      have n1 : isN (pcD ((some g).map fun g => ⟨g, p.cs⟩)) .non = some (.bl false) := rfl
      simp?! [t5_step, t6_step, t7_step, t8_step, met_def, metR_ok, k3, ld, n1]
      rfl
  | call n =>
    have k1 : d_is_key [.str (Ln.call n).s] = .ok (.bl false) := by rcases fin3' n with rfl | rfl | rfl <;> kernel_rfl
    have k2 : inD (.str (Ln.call n).s) (.tup [.str "less", .str "same", .str "nought"]) = some (.bl false) := by rcases fin3' n with rfl | rfl | rfl <;> kernel_rfl
    have k3 : startsD (.str (Ln.call n).s) [.str "mark"] = some (.bl false) := by rcases fin3' n with rfl | rfl | rfl <;> kernel_rfl
    have ld := x_led (s := s.D) hp.l h1 h2 (.inr (.inr ⟨n, rfl⟩))
    rw [hk k1, ht k2]
    have e1 : ledZ pr p (.call n) = (goalZ pr n).bind fun g => if p.cs.length = 4 then none else some ⟨g, p.cs ++ [p.ln + 1]⟩ := rfl
    have e2 : lnZ pr s p (.call n) = match goalZ pr n with | none => (s, p, .lost) | some g => if p.cs.length = 4 then (s, p, .lost) else (s, ⟨g, p.cs ++ [p.ln + 1]⟩, .on) := rfl
    rw [e1] at ld
    rw [e2]
    have n1 : isN (pcD none) .non = some (.bl true) := rfl
    have n2 : ∀ q : Pc, isN (pcD (some q)) .non = some (.bl false) := fun _ => rfl
    cases e : goalZ pr n with
    | none =>
      rw [e] at ld
      have ld : d_led [.pro (pr.map Ln.s), s.D, p.D] = .ok (pcD none) := ld
      simp?! [t5_step, t6_step, t7_step, met_def, metR_ok, k3, ld, n1]
      rfl
    | some g =>
      rw [e] at ld
      have ld : d_led [.pro (pr.map Ln.s), s.D, p.D] = .ok (pcD (if p.cs.length = 4 then none else some ⟨g, p.cs ++ [p.ln + 1]⟩)) := ld
      by_cases c4 : p.cs.length = 4
      · rw [if_pos c4] at ld
        simp only [if_pos c4]
        simp?! [t5_step, t6_step, t7_step, met_def, metR_ok, k3, ld, n1]
        rfl
      · rw [if_neg c4] at ld
        simp only [if_neg c4]
        simp?! [t5_step, t6_step, t7_step, t8_step, met_def, metR_ok, k3, ld, n2]
        rfl
  | back =>
    have k1 : d_is_key [.str Ln.back.s] = .ok (.bl false) := by kernel_rfl
    have k2 : inD (.str Ln.back.s) (.tup [.str "less", .str "same", .str "nought"]) = some (.bl false) := by kernel_rfl
    have k3 : startsD (.str Ln.back.s) [.str "mark"] = some (.bl false) := by kernel_rfl
    have ld := x_led (s := s.D) hp.l h1 h2 (.inl rfl)
    rw [hk k1, ht k2]
    have e1 : ledZ pr p .back = p.cs.getLast?.map fun g => ⟨g, p.cs.dropLast⟩ := rfl
    have e2 : lnZ pr s p .back = match p.cs.getLast? with | none => (s, p, .lost) | some g => (s, ⟨g, p.cs.dropLast⟩, .on) := rfl
    rw [e1] at ld
    rw [e2]
    have n1 : isN (pcD none) .non = some (.bl true) := rfl
    have n2 : ∀ q : Pc, isN (pcD (some q)) .non = some (.bl false) := fun _ => rfl
    cases e : p.cs.getLast? with
    | none =>
      rw [e] at ld
      have ld : d_led [.pro (pr.map Ln.s), s.D, p.D] = .ok (pcD none) := ld
      simp?! [t5_step, t6_step, t7_step, met_def, metR_ok, k3, ld, n1]
      rfl
    | some g =>
      rw [e] at ld
      have ld : d_led [.pro (pr.map Ln.s), s.D, p.D] = .ok (pcD (some ⟨g, p.cs.dropLast⟩)) := ld
      simp?! [t5_step, t6_step, t7_step, t8_step, met_def, metR_ok, k3, ld, n2]
      rfl
theorem x_step {pr : List Ln} {s : Sta} {p : Pc} (hs : s.Ok) (hp : p.Ok) : d_step [.pro (pr.map Ln.s), s.D, p.D] = .ok (spD (stepZ pr s p)) := by
  have ll : lenP [.pro (pr.map Ln.s)] = some (.int (pr.length : Int)) := by
    show some (D.int ((pr.map Ln.s).length : Int)) = _
    rw [List.length_map]
  have eD : p.D = .tup [.int p.ln, .tup (p.cs.map D.int)] := rfl
  have key : d_step [.pro (pr.map Ln.s), s.D, p.D] = finR (t1_step [.z (.pro (pr.map Ln.s)), .z s.D, .z p.D, .z (.int p.ln), .z (.tup (p.cs.map D.int)), .u, .u, .u]) := by
    simp?! [v_step, g_step, eD]
  rw [key]
  unfold stepZ
  by_cases c : 0 ≤ p.ln ∧ p.ln < pr.length
  · rw [if_pos c]
    have ec : (decide (0 ≤ p.ln) && decide (p.ln < (pr.length : Int))) = true := by simp [c.1, c.2]
    obtain ⟨l, hl⟩ : ∃ l, pr.getD p.ln.toNat .stop = l := ⟨_, rfl⟩
    have ix : ixP (.pro (pr.map Ln.s)) (.int p.ln) = some (.str l.s) := by
      show (atI (pr.map Ln.s) p.ln).map D.str = _
      unfold atI ixN
      rw [if_pos c.1, if_pos (by rw [List.length_map]; exact c.2)]
      simp only [Option.bind_some]
      rw [List.getElem?_map]
      have hl := hl
      rw [List.getD_eq_getElem?_getD] at hl
      rw [List.getElem?_eq_getElem (by omega)] at hl ⊢
      rw [← hl]; rfl
    rw [hl]
    by_cases cs : l = .stop
    · subst cs
      have e1 : (Ln.stop.s == Str.ofString "stop") = true := by decide +kernel
      simp?! [t1_step, chn_def, ll, ec, ix, e1]
      rfl
    · have e1 : (l.s == Str.ofString "stop") = false := by
        cases l with
        | stop => exact absurd rfl cs
        | key k =>
          cases k with
          | fig i => rcases fin10 i with e | e | e | e | e | e | e | e | e | e <;> subst e <;> decide +kernel
          | put i => rcases fin10 i with e | e | e | e | e | e | e | e | e | e <;> subst e <;> decide +kernel
          | get i => rcases fin10 i with e | e | e | e | e | e | e | e | e | e <;> subst e <;> decide +kernel
          | dd w => cases w <;> decide +kernel
          | _ => decide +kernel
        | mark n => rcases fin3' n with rfl | rfl | rfl <;> decide +kernel
        | go n => rcases fin3' n with rfl | rfl | rfl <;> decide +kernel
        | call n => rcases fin3' n with rfl | rfl | rfl <;> decide +kernel
        | _ => decide +kernel
      have fin := x_ln hs hp c hl cs
      have key2 : finR (t1_step [.z (.pro (pr.map Ln.s)), .z s.D, .z p.D, .z (.int p.ln), .z (.tup (p.cs.map D.int)), .u, .u, .u]) = finR (t3_step [.z (.pro (pr.map Ln.s)), .z s.D, .z p.D, .z (.int p.ln), .z (.tup (p.cs.map D.int)), .z (.str l.s), .u, .u]) := by
        simp?! [t1_step, t2_step, chn_def, ll, ec, ix, e1]
      rw [key2, fin]
  · rw [if_neg c]
    have ec : (decide (0 ≤ p.ln) && decide (p.ln < (pr.length : Int))) = false := by
      cases h : (decide (0 ≤ p.ln) && decide (p.ln < (pr.length : Int))) with
      | false => rfl
      | true =>
        rw [Bool.and_eq_true, decide_eq_true_eq, decide_eq_true_eq] at h
        exact absurd h c
    simp?! [t1_step, chn_def, ll, ec]
    rfl
theorem step_ok {pr : List Ln} {s : Sta} {p : Pc} (hs : s.Ok) (hp : p.Ok) : (stepZ pr s p).1.Ok ∧ (stepZ pr s p).2.1.Ok := by
  unfold stepZ
  split
  · exact lnZ_ok hs hp _
  · exact ⟨hs, hp⟩
/-! go -/
/-! drawn programs -/
def menuL : List Ln := [.mark 0, .mark 1, .mark 2, .go 0, .go 1, .go 2, .call 0, .call 1, .call 2, .back, .stop, .less, .same, .nought, .nought, .less, .key (.fig 1), .key (.fig 2), .key .enter, .key (.dd .plus), .key (.dd .minus), .key (.dd .times), .key .swap, .key .roll, .key (.put 0),
  .key (.get 0), .key .sign, .key (.dd .minus), .key (.dd .over), .key (.put 1), .key (.get 1), .key .clear]
theorem lline_list (n : Int) : g__law_line [.z (.int n), .u] = t2__law_line [.z (.int n), .z (.lst ((menuL.take 25).map fun l => D.str l.s))] := by kernel_rfl
theorem lline_last (n : Int) : bop addD (var 1) (mkL (acons (con (.str "get0")) (acons (con (.str "sign")) (acons (con (.str "minus")) (acons (con (.str "over")) (acons (con (.str "put1")) (acons (con (.str "get1")) (acons (con (.str "clear")) anil)))))))) [.z (.int n), .z (.lst ((menuL.take 25).map fun l => D.str l.s))] = .ok (.lst (menuL.map fun l => D.str l.s)) := by kernel_rfl
theorem x_lln {n : Int} : ∃ l : Ln, d__law_line [.int n] = .ok (.str l.s) := by
  have md : bop modD (var 0) (con (.int 32)) [.z (.int n), .z (.lst ((menuL.take 25).map fun l => D.str l.s))] = .ok (.int (n % 32)) := by simp?! []
  have hn : (n % 32).toNat < menuL.length := by have : menuL.length = 32 := rfl; omega
  refine ⟨menuL[(n % 32).toNat], ?_⟩
  rw [v__law_line, lline_list]
  unfold t2__law_line
  rw [sret_def, bin_def, lline_last, md, app2_ok, ix_lm (by rw [List.length_map]; decide), ofO_some, retR_ok, finR_rt]
  congr 1
  rw [List.getD_eq_getElem?_getD, List.getElem?_map, List.getElem?_eq_getElem hn]
  rfl
theorem x_lpro {n m : Int} (h0 : 0 ≤ m) (h1 : m < 100) : ∃ pr : List Ln, (pr.length : Int) ≤ m ∧ d__law_program_v2 [.int n, .int m] = .ok (.pro (pr.map Ln.s)) := by
  have md : modD (.int n) (.int (m + 1)) = some (.int (n % (m + 1))) := mod_p (by omega)
  have q0 : 0 ≤ n % (m + 1) := Int.emod_nonneg _ (by omega)
  have q1 : n % (m + 1) < m + 1 := Int.emod_lt_of_pos _ (by omega)
  generalize n % (m + 1) = k at *
  have q : acons (bop modD (var 0) (bop addD (var 1) (con (.int 1)))) anil [.z (.int n), .z (.int m), .u] = .ok [.int k] := by simp?! [md]
  have e := rng1_eq q q0 (by omega)
  obtain ⟨pr, l1, l2⟩ := comp_map (f := fun l : Ln => D.str l.s) (i := 2) (e := e1__law_program_v2) (ρ := [.z (.int n), .z (.int m), .u]) (rngD 0 k.toNat) (by
    intro d hd
    obtain ⟨j, hj, rfl⟩ := rngD_mem hd
    obtain ⟨dr, d1, d2, d3⟩ := x_drawn (n := n) (k := (j : Int)) (by omega) (by omega)
    obtain ⟨l, hl⟩ := x_lln (n := dr / 4)
    exact ⟨l, by simp?! [e1__law_program_v2, d1, hl]⟩)
  rw [rngD_len] at l1
  refine ⟨pr, by omega, ?_⟩
  have lc := lc_eq (t := yes) (e := e1__law_program_v2) (i := 2) e (by rw [rngD_len]; omega) l2
  have tp : tupP [.lst (pr.map fun l => D.str l.s)] = some (.pro (pr.map Ln.s)) := by
    show (strsOf (pr.map fun l => D.str l.s)).map D.pro = _
    have : (pr.map fun l => D.str l.s) = (pr.map Ln.s).map D.str := by rw [List.map_map]; rfl
    rw [this, strsOf_map]
    rfl
  simp?! [v__law_program_v2, g__law_program_v2, lc, tp]
/-! entries, as the laws look at them -/
theorem ix_S0 {c : Nat} {r : List Nat} (h : r.length ≤ 1000) : ixD (.str (S (c :: r))) (.int 0) = some (.str (S [c])) := by
  show (if (S (c :: r)).length ≤ sizeLine then (atI (S (c :: r)).cps.toList 0).map fun c => D.str ⟨#[c]⟩ else none) = _
  rw [if_pos (by rw [S_len, sizeLine_eq]; simp; omega), S_tl]
  unfold atI ixN
  rw [if_pos (by decide), if_pos (by simp)]
  rfl
theorem sl_S1 {l : List Nat} (h : l.length ≤ 1000) : slD (.str (S l)) (some 1) none = some (.str (S (l.drop 1))) := by
  rw [sl_S (by omega), HT.sIx_none]
  congr 3
  have : HT.sIx l.length 0 (some (1 : Int)) = min 1 l.length := HT.sIx_nat _ _ 1
  rw [this]
  cases l with
  | nil => rfl
  | cons a l =>
    rw [show min 1 (a :: l).length = 1 by simp]
    exact List.take_of_length_le (by simp)
theorem replL_one (c : Nat) : ∀ l : List Nat, PySem.StrLaws.replL [c] [] l = l.filter fun d => decide (d ≠ c)
  | [] => PySem.StrLaws.replL_nil
  | d :: r => by
    by_cases q : d = c
    · subst q
      rw [PySem.StrLaws.replL_hit (by simp) (by simp), List.filter_cons_of_neg (by simp)]
      show [] ++ PySem.StrLaws.replL [d] [] r = _
      rw [List.nil_append, replL_one d r]
    · rw [PySem.StrLaws.replL_miss (by simpa using q), List.filter_cons_of_pos (by simpa using q), replL_one c r]
theorem rep_S {l : List Nat} (h : l.length ≤ 1000) : replD "." "" (.str (S l)) = some (.str (S (l.filter fun d => decide (d ≠ 46)))) := by
  have e1 : (Str.ofString ".") = S [46] := by decide +kernel
  have e2 : (Str.ofString "") = S [] := by decide +kernel
  have e3 : Txt.replace (S l) (S [46]) (S []) = S (l.filter fun d => decide (d ≠ 46)) := S_of (by
    rw [PySem.StrLaws.replace_list (by rw [S_len]; decide), S_tl, S_tl, S_tl, replL_one])
  show (if (S l).length + ((S l).length + 1) * (Str.ofString "").length ≤ 16777216 then some (D.str (Txt.replace (S l) (Str.ofString ".") (Str.ofString ""))) else none) = _
  rw [e1, e2, e3, if_pos (by rw [S_len, S_len]; simp; omega)]
theorem filt_46 {l : List Nat} (h : AllDigits l) : (l.filter fun d => decide (d ≠ 46)) = l := by
  rw [List.filter_eq_self]
  intro c hc
  have := h c hc
  exact decide_eq_true (by omega)
theorem ent_nodot {e : Ent} (h : EntOk e) : (e.L.filter fun d => decide (d ≠ 46)) = (if e.neg = true then [45] else []) ++ e.ah ++ e.be := by
  unfold Ent.L
  rw [List.filter_append, List.filter_append, filt_46 h.a]
  have hb := filt_46 h.b
  cases hp : e.pt with
  | false =>
    rw [h.np hp]
    cases hn : e.neg <;> simp
  | true =>
    cases hn : e.neg
    · simp only [Bool.false_eq_true, if_false, if_true, List.filter_nil, List.filter_cons]
      rw [hb]
      simp
    · simp only [if_true, List.filter_cons, List.filter_nil]
      rw [hb]
      simp
theorem ent_cut {e : Ent} (h : EntOk e) : ∃ a r, cutL 46 (e.L ++ [46]) = a :: e.be :: r := by
  have na : (46 : Nat) ∉ (if e.neg = true then [45] else []) ++ e.ah := by
    intro z
    rcases List.mem_append.mp z with z | z
    · split at z
      · rcases List.mem_singleton.mp z with z; omega
      · cases z
    · exact dig_no h.a (by omega) z
  have nb := dig_no (c := 46) h.b (by omega)
  unfold Ent.L
  cases hp : e.pt with
  | false =>
    rw [h.np hp]
    simp only [Bool.false_eq_true, if_false, List.append_nil]
    rw [cutL_app _ na]
    exact ⟨_, [], rfl⟩
  | true =>
    simp only [if_true]
    rw [List.append_assoc, List.cons_append, cutL_app _ na, cutL_app _ nb]
    exact ⟨_, _, rfl⟩
theorem tidy_ent {e : Ent} (h : EntOk e) : d__law_tidy [.int e.val, .int (-(e.be.length : Int))] = .ok (numD e.num) := by
  have v := val_lt h
  by_cases q : e.val = 0
  · have en : e.num = (0, 0) := by unfold Ent.num tidyZ; rw [if_pos q]
    rw [q, x_tidy0, en]
  · have en : e.num = strip 5000 e.val (-(e.be.length : Int)) := by unfold Ent.num tidyZ; rw [if_neg q]
    rw [x_tidyS q (Nat.lt_of_lt_of_le v (pow10_le (by decide))), en]
def isTy : Ky → Bool
  | .fig _ => true | .dot => true | _ => false
theorem entN_ok {K : Ky} (hK : isTy K = true) : EntOk (entK none K) := by
  cases K with
  | dot => exact ⟨fun c hc => by rcases List.mem_singleton.mp hc with rfl; omega, fun _ h => (by cases h), by decide, fun _ => rfl, by decide⟩
  | fig i => exact ⟨fun c hc => by rcases List.mem_singleton.mp hc with rfl; have := i.isLt; omega, fun _ h => (by cases h), by simp [entK], fun _ => rfl, by simp [entK]⟩
  | _ => cases hK
theorem ent_neg {e : Ent} (h : EntOk e) : ({ e with neg := !e.neg } : Ent).num = neg1 e.num := by
  have hv : ({ e with neg := !e.neg } : Ent).val = -e.val := by
    unfold Ent.val
    cases e.neg <;> simp
  show tidyZ ({ e with neg := !e.neg } : Ent).val _ = _
  rw [hv, tidy_neg]
  rfl
/-! a key pressed, by the law -/
abbrev kz : List Str := ["manner", "pile", "last", "boxes", "entry", "lift", "odd"]
def stD (s : Sta) : MSt := (kz, [.str s.m.s, .lst [numD s.x, numD s.y, numD s.z, numD s.t], numD s.l, .lst (s.bx.map numD), enD s.en, .bl s.lf, odD s.od])
theorem l_state {o : Option Addr} {m l en lf od : D} {P B : List D} : d__law_state [.tab o kz [m, .lst P, l, .lst B, en, lf, od]] = .ok (.tup [m, .tup P, l, .tup B, en, lf, od]) := by kernel_rfl
section
variable {a b c d e f g v : D}
end
def stN (o q : Option Addr) (i : Nat) (ρ' : Rho) (m : MSt) : SM := match o with
  | some p => if q = some p then .nx (cleanR i p ρ') m else .bad
  | none => .bad
theorem stM_n {i : Nat} {ρ' ρ : Rho} {m : MSt} : stM i (.nx ρ') ρ m = stN (tabOf i ρ') (adrOf i ρ) i ρ' m := rfl
theorem stN_ok {p : Addr} {i : Nat} {ρ' : Rho} {m : MSt} : stN (some p) (some p) i ρ' m = .nx (cleanR i p ρ') m := if_pos rfl
def putN2 (o : Option D) (d : D) (j : Int) (k : Str) (ρ : Rho) (m : MSt) : SM := match o with
  | some (.lst ds) => (match ixN ds.length j with
    | some n => .nx ρ (m.1, fset m.1 m.2 k (.lst (ds.set n d)))
    | none => .bad)
  | _ => .bad
theorem putN_d {k : Str} {d : D} {j : Int} {ρ : Rho} {m : MSt} (h : d.imm = true) : putNM k (.ok d) (.ok (.int j)) ρ m = putN2 (fget m.1 m.2 k) d j k ρ m := by
  unfold putNM
  dsimp only
  rw [if_pos h]
  rfl
theorem l_end {a b c d e f g : D} {p : Addr} : d__law_end p (kz, [a, b, c, d, e, f, g]) [] = .ok (kz, [a, b, c, d, .non, .bl true, g]) := by kernel_rfl
theorem c_end {a b c d e f g : D} {p : Addr} {ρ : Rho} : callM 1 d__law_end (.ok []) (some p) ρ (kz, [a, b, c, d, e, f, g]) = .nx ρ (kz, [a, b, c, d, .non, .bl true, g]) := callM_ok rfl rfl l_end
theorem l_push1 {m l B e o : D} {x y z t n : Int × Int} {p : Addr} : d__law_push p (kz, [m, .lst [numD x, numD y, numD z, numD t], l, B, e, .bl true, o]) [numD n] = .ok (kz, [m, .lst [numD n, numD x, numD y, numD z], l, B, e, .bl true, o]) := by kernel_rfl
theorem l_push0 {m l B e o : D} {x y z t n : Int × Int} {p : Addr} : d__law_push p (kz, [m, .lst [numD x, numD y, numD z, numD t], l, B, e, .bl false, o]) [numD n] = .ok (kz, [m, .lst [numD n, numD y, numD z, numD t], l, B, e, .bl false, o]) := by kernel_rfl
section
variable {m l en : D} {x y z t : Int × Int} {B : List D} {p : Addr} {f : Bool}
/-- where nothing is odd, the pile is opened -/
theorem lp_go {k : Str} : d__law_press p (kz, [m, .lst [numD x, numD y, numD z, numD t], l, .lst B, en, .bl f, .non]) [.str k] = finM (mif 0 (tst (bop inD (var 1) (con (.str "0123456789.")))) (mcall 0 2 d__law_typed (acons (var 1) anil)) w12__law_press
    [.z (.adr p), .z (.str k), .z (numD x), .z (numD y), .z (numD z), .z (numD t), .u, .u] (kz, [m, .lst [numD x, numD y, numD z, numD t], l, .lst B, en, .bl f, .non])) := by
  rw [v__law_press]
  unfold g__law_press
  rw [mseq_def, mif_def]
  rw [show tst (bop isNotN (tabix (var 0) (con (.str "odd"))) (con .non)) (lent 0 [.z (.adr p), .z (.str k), .u, .u, .u, .u, .u, .u] (kz, [m, .lst [numD x, numD y, numD z, numD t], l, .lst B, en, .bl f, .non])) = .ok false by kernel_rfl]
  rw [ifM_f, seqM_nx, mseq_def, mst_def]
  rw [show sasg (tabix (var 0) (con (.str "pile"))) (gt 4 (gsc (gn 2) (gsc (gn 3) (gsc (gn 4) (gsc (gn 5) gsn))))) (lent 0 [.z (.adr p), .z (.str k), .u, .u, .u, .u, .u, .u] (kz, [m, .lst [numD x, numD y, numD z, numD t], l, .lst B, en, .bl f, .non])) = .nx [.z (.tab (some p) kz [m, .lst [numD x, numD y, numD z, numD t], l, .lst B, en, .bl f, .non]), .z (.str k), .z (numD x), .z (numD y), .z (numD z), .z (numD t), .u, .u] by kernel_rfl]
  rw [stM_n, tabO_zero, adr_zero, stN_ok, seqM_nx]
  rfl
theorem lp_swap : d__law_press p (kz, [m, .lst [numD x, numD y, numD z, numD t], l, .lst B, en, .bl f, .non]) [.str "swap"] = .ok (kz, [m, .lst [numD y, numD x, numD z, numD t], l, .lst B, .non, .bl true, .non]) := by
  rw [lp_go]
  kernel_rfl
theorem lp_roll : d__law_press p (kz, [m, .lst [numD x, numD y, numD z, numD t], l, .lst B, en, .bl f, .non]) [.str "roll"] = .ok (kz, [m, .lst [numD y, numD z, numD t, numD x], l, .lst B, .non, .bl true, .non]) := by
  rw [lp_go]
  kernel_rfl
theorem lp_enter : d__law_press p (kz, [m, .lst [numD x, numD y, numD z, numD t], l, .lst B, en, .bl f, .non]) [.str "enter"] = .ok (kz, [m, .lst [numD x, numD x, numD y, numD z], l, .lst B, .non, .bl false, .non]) := by
  rw [lp_go]
  kernel_rfl
theorem lp_clear : d__law_press p (kz, [m, .lst [numD x, numD y, numD z, numD t], l, .lst B, en, .bl f, .non]) [.str "clear"] = .ok (kz, [m, .lst [.tup [.int 0, .int 0], numD y, numD z, numD t], l, .lst B, .non, .bl false, .non]) := by
  rw [lp_go]
  kernel_rfl
theorem lp_sign0 {a b : Int} : d__law_press p (kz, [m, .lst [numD (a, b), numD y, numD z, numD t], l, .lst B, .non, .bl f, .non]) [.str "sign"] = .ok (kz, [m, .lst [numD (-a, b), numD y, numD z, numD t], l, .lst B, .non, .bl true, .non]) := by
  rw [lp_go]
  kernel_rfl
theorem lp_odd {P bx e lf : D} {o : Str} (k : Ky) (h : k ≠ .clear) : d__law_press p (kz, [m, P, l, bx, e, lf, .str o]) [.str k.s] = .ok (kz, [m, P, l, bx, e, lf, .str o]) := by
  cases k with
  | fig i => rcases fin10 i with e | e | e | e | e | e | e | e | e | e <;> subst e <;> kernel_rfl
  | put i => rcases fin10 i with e | e | e | e | e | e | e | e | e | e <;> subst e <;> kernel_rfl
  | get i => rcases fin10 i with e | e | e | e | e | e | e | e | e | e <;> subst e <;> kernel_rfl
  | dd w => cases w <;> kernel_rfl
  | clear => exact absurd rfl h
  | _ => kernel_rfl
theorem lp_oddc {P bx e lf : D} {o : Str} : d__law_press p (kz, [m, P, l, bx, e, lf, .str o]) [.str "clear"] = .ok (kz, [m, P, l, bx, .non, .bl false, .non]) := by kernel_rfl
end
section
variable {m en : D} {l x y z t b0 b1 b2 b3 b4 b5 b6 b7 b8 b9 : Int × Int} {p : Addr} {f : Bool}
theorem lp_put (i : Fin 10) : d__law_press p (kz, [m, .lst [numD x, numD y, numD z, numD t], numD l, .lst [numD b0, numD b1, numD b2, numD b3, numD b4, numD b5, numD b6, numD b7, numD b8, numD b9], en, .bl f, .non]) [.str (Ky.put i).s] = .ok (kz, [m, .lst [numD x, numD y, numD z, numD t], numD l, .lst ([numD b0, numD b1, numD b2, numD b3, numD b4, numD b5, numD b6, numD b7, numD b8, numD b9].set i.val (numD x)), .non, .bl true, .non]) := by
  rw [lp_go]
  rcases fin10 i with e | e | e | e | e | e | e | e | e | e <;> subst e <;> kernel_rfl
theorem mlet_ok {i n : Nat} {s : Rho → SR} {den : Addr → MSt → List D → Res MSt} {g : Rho → Res (List D)} {ρ ρ' : Rho} {m m' : MSt} {ds : List D} (h1 : s (lent i ρ m) = .nx ρ') (h2 : tabOf i ρ' = some p) (h3 : adrOf i ρ = some p) (h4 : g ρ' = .ok ds) (h5 : ds.length + 1 = n) (h6 : D.imms ds = true) (h7 : den p m ds = .ok m') : mlet i n s den g ρ m = .nx (cleanR i p ρ') m' := by
  unfold mlet
  rw [h1]
  dsimp only
  rw [h2]
  dsimp only
  rw [if_pos h3, h4]
  dsimp only
  rw [if_pos ⟨h5, h6⟩, h7]
abbrev R8 (p : Addr) (k : Str) (x y z t : Int × Int) : Rho := [.z (.adr p), .z (.str k), .z (numD x), .z (numD y), .z (numD z), .z (numD t), .u, .u]
abbrev M7 (m : D) (x y z t : Int × Int) (l B en : D) (f : Bool) : MSt := (kz, [m, .lst [numD x, numD y, numD z, numD t], l, B, en, .bl f, .non])
/-- a box or the last one is fetched -/
theorem lp_fetch {k : Str} {n : Int × Int} {lz B : D} {ρ' : Rho} (h1 : tst (bop inD (var 1) (con (.str "0123456789."))) (lent 0 (R8 p k x y z t) (M7 m x y z t lz B en f)) = .ok false) (h2 : andQ (tst (bop eqD (var 1) (con (.str "sign")))) (tst (bop isNotN (tabix (var 0) (con (.str "entry"))) (con .non))) (lent 0 (R8 p k x y z t) (M7 m x y z t lz B en f)) = .ok false)
    (h3 : tst (bop eqD (var 1) (con (.str "sign"))) (lent 0 (R8 p k x y z t) (M7 m x y z t lz B en f)) = .ok false) (h4 : orQ (tst (bop eqD (var 1) (con (.str "enter")))) (tst (bop eqD (var 1) (con (.str "clear")))) (lent 0 (R8 p k x y z t) (M7 m x y z t lz B en f)) = .ok false)
    (h5 : tst (bop inD (var 1) (mkT (acons (con (.str "plus")) (acons (con (.str "minus")) (acons (con (.str "times")) (acons (con (.str "over")) (acons (con (.str "root")) anil))))))) (lent 0 (R8 p k x y z t) (M7 m x y z t lz B en f)) = .ok false)
    (h6 : orQ (tst (bop eqD (slc (var 1) pno (psm (con (.int 3)))) (con (.str "get")))) (tst (bop eqD (var 1) (con (.str "last")))) (lent 0 (R8 p k x y z t) (M7 m x y z t lz B en f)) = .ok true)
    (h7 : sasg (cal dictD (acons (bop addD (cal lzipD (acons (con (.str "0123456789")) (acons (tabix (var 0) (con (.str "boxes"))) anil))) (mkL (acons (mkT (acons (con (.str "t")) (acons (tabix (var 0) (con (.str "last"))) anil))) anil))) anil)) (gn 7) (lent 0 (R8 p k x y z t) (M7 m x y z t lz B en f)) = .nx ρ') (h8 : tabOf 0 ρ' = some p)
    (h9 : acons (tabix (var 7) (bop ixD (var 1) (con (.int 3)))) anil ρ' = .ok [numD n]) :
    finM (mif 0 (tst (bop inD (var 1) (con (.str "0123456789.")))) (mcall 0 2 d__law_typed (acons (var 1) anil)) w12__law_press (R8 p k x y z t) (M7 m x y z t lz B en f)) = .ok (kz, [m, (if f = true then .lst [numD n, numD x, numD y, numD z] else .lst [numD n, numD y, numD z, numD t]), lz, B, .non, .bl true, .non]) := by
  rw [mif_def, h1, ifM_f]
  unfold w12__law_press
  rw [mif_def, h2, ifM_f]
  unfold w11__law_press
  rw [mif_def, h3, ifM_f]
  unfold w9__law_press
  rw [mif_def, h4, ifM_f]
  unfold w7__law_press
  rw [mif_def, h5, ifM_f]
  unfold w5__law_press
  rw [mseq_def, mif_def, h6, ifM_t]
  unfold w3__law_press
  rw [mseq_def]
  cases f with
  | true =>
    rw [mlet_ok (n := 2) h7 h8 rfl h9 rfl rfl l_push1, seqM_nx, seqM_nx, mcall_def]
    have e : adrOf 0 (cleanR 0 p ρ') = some p := by
      cases ρ' with
      | nil => cases h8
      | cons a r => rfl
    rw [e]
    show finM (callM 1 d__law_end (.ok []) (some p) _ _) = _
    rw [c_end]
    rfl
  | false =>
    rw [mlet_ok (n := 2) h7 h8 rfl h9 rfl rfl l_push0, seqM_nx, seqM_nx, mcall_def]
    have e : adrOf 0 (cleanR 0 p ρ') = some p := by
      cases ρ' with
      | nil => cases h8
      | cons a r => rfl
    rw [e]
    show finM (callM 1 d__law_end (.ok []) (some p) _ _) = _
    rw [c_end]
    rfl
abbrev someD (b0 b1 b2 b3 b4 b5 b6 b7 b8 b9 l : Int × Int) : D := .tab none ["0", "1", "2", "3", "4", "5", "6", "7", "8", "9", "t"] [numD b0, numD b1, numD b2, numD b3, numD b4, numD b5, numD b6, numD b7, numD b8, numD b9, numD l]
theorem lp_last : d__law_press p (kz, [m, .lst [numD x, numD y, numD z, numD t], numD l, .lst [numD b0, numD b1, numD b2, numD b3, numD b4, numD b5, numD b6, numD b7, numD b8, numD b9], en, .bl f, .non]) [.str "last"] = .ok (kz, [m, (if f = true then .lst [numD l, numD x, numD y, numD z] else .lst [numD l, numD y, numD z, numD t]), numD l, .lst [numD b0, numD b1, numD b2, numD b3, numD b4, numD b5, numD b6, numD b7, numD b8, numD b9], .non, .bl true, .non]) := by
  rw [lp_go]
  exact lp_fetch (ρ' := [.z (.tab (some p) kz [m, .lst [numD x, numD y, numD z, numD t], numD l, .lst [numD b0, numD b1, numD b2, numD b3, numD b4, numD b5, numD b6, numD b7, numD b8, numD b9], en, .bl f, .non]), .z (.str "last"), .z (numD x), .z (numD y), .z (numD z), .z (numD t), .u, .z (someD b0 b1 b2 b3 b4 b5 b6 b7 b8 b9 l)]) (by kernel_rfl) (by kernel_rfl) (by kernel_rfl) (by kernel_rfl) (by kernel_rfl) (by kernel_rfl) (by kernel_rfl) rfl (by kernel_rfl)
theorem lp_get (i : Fin 10) : d__law_press p (kz, [m, .lst [numD x, numD y, numD z, numD t], numD l, .lst [numD b0, numD b1, numD b2, numD b3, numD b4, numD b5, numD b6, numD b7, numD b8, numD b9], en, .bl f, .non]) [.str (Ky.get i).s] = .ok (kz, [m, (if f = true then .lst [numD ([b0, b1, b2, b3, b4, b5, b6, b7, b8, b9].getD i.val (0, 0)), numD x, numD y, numD z] else .lst [numD ([b0, b1, b2, b3, b4, b5, b6, b7, b8, b9].getD i.val (0, 0)), numD y, numD z, numD t]), numD l, .lst [numD b0, numD b1, numD b2, numD b3, numD b4, numD b5, numD b6, numD b7, numD b8, numD b9], .non, .bl true, .non]) := by
  rw [lp_go]
  refine lp_fetch (ρ' := [.z (.tab (some p) kz [m, .lst [numD x, numD y, numD z, numD t], numD l, .lst [numD b0, numD b1, numD b2, numD b3, numD b4, numD b5, numD b6, numD b7, numD b8, numD b9], en, .bl f, .non]), .z (.str (Ky.get i).s), .z (numD x), .z (numD y), .z (numD z), .z (numD t), .u, .z (someD b0 b1 b2 b3 b4 b5 b6 b7 b8 b9 l)]) ?_ ?_ ?_ ?_ ?_ ?_ ?_ rfl ?_ <;> (rcases fin10 i with e | e | e | e | e | e | e | e | e | e <;> subst e <;> kernel_rfl)
end
/-! deeds, by the law -/
theorem ld_V (m : Mn) (w : Dd) {s n : Int × Int} (h1 : NO s) (h2 : NO n) (h : ¬ (w = .over ∧ n.1 = 0)) : d__law_deed [.str w.s, numD s, numD n, .str m.s] = .ok (optL (exV m (ddV w (vl s) (vl n)))) := by
  obtain ⟨a1, b1⟩ := s
  obtain ⟨a2, b2⟩ := n
  have n1 := num_b h1
  have n2 := num_b h2
  cases w with
  | plus =>
    have := ld_plus m n1 n2
    rw [ex_V m (pl_ne _ _), pl_val] at this
    exact this
  | minus =>
    have e : vl (-a2, b2) = -vl (a2, b2) := vl_neg (a2, b2)
    have := ld_minus m n1 n2
    rw [ex_V m (pl_ne _ _), pl_val, e, ← Rat.sub_eq_add_neg] at this
    exact this
  | times =>
    have := ld_times m n1 n2
    rw [ex_V m (pow_ne _), ti_val] at this
    exact this
  | over =>
    have h0 : a2 ≠ 0 := fun z => h ⟨rfl, z⟩
    have := ld_over m n1 n2 h0
    rw [ex_V m (Int.mul_ne_zero h0 (pow_ne _)), ov_val a1 b1 b2 h0] at this
    exact this
section
variable {l en : D} {x y z t : Int × Int} {B : List D} {p : Addr} {f : Bool} {m : Mn}
abbrev R7 (p : Addr) (k : Str) (x y z t : Int × Int) (w : En) : Rho := [.z (.adr p), .z (.str k), .z (numD x), .z (numD y), .z (numD z), .z (numD t), w]
abbrev Mm (m : D) (x y z t : Int × Int) (l : D) (B : List D) (en : D) (f : Bool) : MSt := (kz, [m, .lst [numD x, numD y, numD z, numD t], l, .lst B, en, .bl f, .non])
abbrev rk_odd : Rho → Res Bool := orQ (andQ (tst (bop eqD (var 1) (con (.str "over")))) (tst (bop eqD (bop ixD (var 2) (con (.int 0))) (con (.int 0))))) (andQ (tst (bop eqD (var 1) (con (.str "root")))) (tst (bop ltD (bop ixD (var 2) (con (.int 0))) (con (.int 0)))))
abbrev rk_rest : Rho → MSt → SM := mseq (mif 0 (tst (bop eqD (var 1) (con (.str "root")))) (mputL 0 "pile" (mkL (acons (callD 2 d_root (acons (var 2) (acons (tabix (var 0) (con (.str "manner"))) anil))) (acons (var 3) (acons (var 4) (acons (var 5) anil)))))) w3__law_reckoned)
    (mseq (mput 0 "last" (var 2))
    (mcall 0 1 d__law_end anil))
theorem rk_go {k : Str} {mn : D} {b : Bool} (h : rk_odd (lent 0 (R7 p k x y z t .u) (Mm mn x y z t l B en f)) = .ok b) : d__law_reckoned p (Mm mn x y z t l B en f) [.str k] = if b = true then .ok (kz, [mn, .lst [numD x, numD y, numD z, numD t], l, .lst B, .non, .bl f, .str "deed"]) else finM (rk_rest (R7 p k x y z t .u) (Mm mn x y z t l B en f)) := by
  rw [v__law_reckoned]
  unfold g__law_reckoned
  unfold rk_odd at h
  rw [mseq_def, mst_def]
  rw [show sasg (tabix (var 0) (con (.str "pile"))) (gt 4 (gsc (gn 2) (gsc (gn 3) (gsc (gn 4) (gsc (gn 5) gsn))))) (lent 0 [.z (.adr p), .z (.str k), .u, .u, .u, .u, .u] (Mm mn x y z t l B en f)) = .nx [.z (.tab (some p) kz [mn, .lst [numD x, numD y, numD z, numD t], l, .lst B, en, .bl f, .non]), .z (.str k), .z (numD x), .z (numD y), .z (numD z), .z (numD t), .u] by kernel_rfl]
  rw [stM_n, tabO_zero, adr_zero, stN_ok, seqM_nx]
  rw [show cleanR 0 p [.z (.tab (some p) kz [mn, .lst [numD x, numD y, numD z, numD t], l, .lst B, en, .bl f, .non]), .z (.str k), .z (numD x), .z (numD y), .z (numD z), .z (numD t), .u] = R7 p k x y z t .u from rfl]
  rw [mseq_def, mif_def, h]
  cases b with
  | true =>
    rw [ifM_t]
    kernel_rfl
  | false => rw [ifM_f, seqM_nx, if_neg (by decide)]
theorem x_ldeed (w : Dd) (hx : NO x) (hy : NO y) : d__law_reckoned p (Mm (.str m.s) x y z t l B en f) [.str w.s] = if w = .over ∧ x.1 = 0 then .ok (kz, [.str m.s, .lst [numD x, numD y, numD z, numD t], l, .lst B, .non, .bl f, .str "deed"]) else match exV m (ddV w (vl y) (vl x)) with
    | none => .ok (kz, [.str m.s, .lst [numD x, numD y, numD z, numD t], l, .lst B, .non, .bl f, .str "great"])
    | some r => .ok (kz, [.str m.s, .lst [numD r, numD z, numD t, numD t], numD x, .lst B, .non, .bl true, .non]) := by
  have hb : rk_odd (lent 0 (R7 p w.s x y z t .u) (Mm (.str m.s) x y z t l B en f)) = .ok (decide (w = .over ∧ x.1 = 0)) := by
    obtain ⟨a, b⟩ := x
    cases w with
    | over =>
      have e0 : rk_odd (lent 0 (R7 p Dd.over.s (a, b) y z t .u) (Mm (.str m.s) (a, b) y z t l B en f)) = orR (tstR (ofO (eqD (.int a) (.int 0)))) (andQ (tst (bop eqD (var 1) (con (.str "root")))) (tst (bop ltD (bop ixD (var 2) (con (.int 0))) (con (.int 0))))) (lent 0 (R7 p Dd.over.s (a, b) y z t .u) (Mm (.str m.s) (a, b) y z t l B en f)) := by kernel_rfl
      rw [e0, eq_ii, ofO_some, tstR_ok]
      by_cases h : a = 0
      · subst h; rfl
      · have : (a == 0) = false := by simpa using h
        rw [this]
        have d1 : decide (Dd.over = .over ∧ a = 0) = false := decide_eq_false fun z => h z.2
        show orR (.ok false) _ _ = .ok (decide (Dd.over = .over ∧ a = 0))
        rw [d1]
        kernel_rfl
    | _ => kernel_rfl
  rw [rk_go hb]
  by_cases h : w = .over ∧ x.1 = 0
  · rw [if_pos h, if_pos (decide_eq_true h)]
  · rw [if_neg h, if_neg (by rw [decide_eq_false h]; decide)]
    have hr : tst (bop eqD (var 1) (con (.str "root"))) (lent 0 (R7 p w.s x y z t .u) (Mm (.str m.s) x y z t l B en f)) = .ok false := by cases w <;> kernel_rfl
    have dd := ld_V m w hy hx h
    have sa : sasg (callD 4 d__law_deed (acons (var 1) (acons (var 3) (acons (var 2) (acons (tabix (var 0) (con (.str "manner"))) anil))))) (gn 6) (lent 0 (R7 p w.s x y z t .u) (Mm (.str m.s) x y z t l B en f)) = asgR (d__law_deed [.str w.s, numD y, numD x, .str m.s]) (lent 0 (R7 p w.s x y z t .u) (Mm (.str m.s) x y z t l B en f)) (gn 6) := rfl
    unfold rk_rest
    rw [mseq_def, mif_def, hr, ifM_f]
    unfold w3__law_reckoned
    rw [mseq_def, mst_def, sa, dd, asgR_n]
    cases exV m (ddV w (vl y) (vl x)) with
    | none =>
      rw [show ((lent 0 (R7 p w.s x y z t .u) (Mm (.str m.s) x y z t l B en f)).set 6 (.z (optL none))) = [.z (.tab (some p) kz [.str m.s, .lst [numD x, numD y, numD z, numD t], l, .lst B, en, .bl f, .non]), .z (.str w.s), .z (numD x), .z (numD y), .z (numD z), .z (numD t), .z .non] from rfl]
      rw [stM_n, tabO_zero, adr_zero, stN_ok, seqM_nx]
      kernel_rfl
    | some r =>
      rw [show ((lent 0 (R7 p w.s x y z t .u) (Mm (.str m.s) x y z t l B en f)).set 6 (.z (optL (some r)))) = [.z (.tab (some p) kz [.str m.s, .lst [numD x, numD y, numD z, numD t], l, .lst B, en, .bl f, .non]), .z (.str w.s), .z (numD x), .z (numD y), .z (numD z), .z (numD t), .z (numD r)] from rfl]
      rw [stM_n, tabO_zero, adr_zero, stN_ok, seqM_nx]
      kernel_rfl
theorem x_lroot (hx : NO x) : d__law_reckoned p (Mm (.str m.s) x y z t l B en f) [.str "root"] = if x.1 < 0 then .ok (kz, [.str m.s, .lst [numD x, numD y, numD z, numD t], l, .lst B, .non, .bl f, .str "deed"]) else .ok (kz, [.str m.s, .lst [numD (rootZ m x), numD y, numD z, numD t], numD x, .lst B, .non, .bl true, .non]) := by
  have hb : rk_odd (lent 0 (R7 p "root" x y z t .u) (Mm (.str m.s) x y z t l B en f)) = .ok (decide (x.1 < 0)) := by
    obtain ⟨a, b⟩ := x
    have e0 : rk_odd (lent 0 (R7 p "root" (a, b) y z t .u) (Mm (.str m.s) (a, b) y z t l B en f)) = tstR (ofO (ltD (.int a) (.int 0))) := by kernel_rfl
    rw [e0, lt_ii, ofO_some, tstR_ok]
  rw [rk_go hb]
  have yr := y_root m hx
  by_cases h : x.1 < 0
  · rw [if_pos h, if_pos (decide_eq_true h)]
  · rw [if_neg h] at yr
    rw [if_neg h, if_neg (by rw [decide_eq_false h]; decide)]
    have hr : tst (bop eqD (var 1) (con (.str "root"))) (lent 0 (R7 p "root" x y z t .u) (Mm (.str m.s) x y z t l B en f)) = .ok true := by kernel_rfl
    have sa : mkL (acons (callD 2 d_root (acons (var 2) (acons (tabix (var 0) (con (.str "manner"))) anil))) (acons (var 3) (acons (var 4) (acons (var 5) anil)))) (lent 0 (R7 p "root" x y z t .u) (Mm (.str m.s) x y z t l B en f)) = mkLR (consR (d_root [numD x, .str m.s]) (.ok [numD y, numD z, numD t])) := by
      rw [mkL_def, acons_def]
      rfl
    unfold rk_rest
    rw [mseq_def, mif_def, hr, ifM_t, mputL_def, sa, yr.1]
    kernel_rfl
theorem lp_dd (w : Dd) (hx : NO x) (hy : NO y) : d__law_press p (Mm (.str m.s) x y z t l B en f) [.str w.s] = if w = .over ∧ x.1 = 0 then .ok (kz, [.str m.s, .lst [numD x, numD y, numD z, numD t], l, .lst B, .non, .bl f, .str "deed"]) else match exV m (ddV w (vl y) (vl x)) with
    | none => .ok (kz, [.str m.s, .lst [numD x, numD y, numD z, numD t], l, .lst B, .non, .bl f, .str "great"])
    | some r => .ok (kz, [.str m.s, .lst [numD r, numD z, numD t, numD t], numD x, .lst B, .non, .bl true, .non]) := by
  rw [← x_ldeed (p := p) w hx hy, lp_go]
  have t1 : tst (bop inD (var 1) (con (.str "0123456789."))) (lent 0 (R8 p w.s x y z t) (Mm (.str m.s) x y z t l B en f)) = .ok false := by cases w <;> kernel_rfl
  have t2 : andQ (tst (bop eqD (var 1) (con (.str "sign")))) (tst (bop isNotN (tabix (var 0) (con (.str "entry"))) (con .non))) (lent 0 (R8 p w.s x y z t) (Mm (.str m.s) x y z t l B en f)) = .ok false := by cases w <;> kernel_rfl
  have t3 : tst (bop eqD (var 1) (con (.str "sign"))) (lent 0 (R8 p w.s x y z t) (Mm (.str m.s) x y z t l B en f)) = .ok false := by cases w <;> kernel_rfl
  have t4 : orQ (tst (bop eqD (var 1) (con (.str "enter")))) (tst (bop eqD (var 1) (con (.str "clear")))) (lent 0 (R8 p w.s x y z t) (Mm (.str m.s) x y z t l B en f)) = .ok false := by cases w <;> kernel_rfl
  have t5 : tst (bop inD (var 1) (mkT (acons (con (.str "plus")) (acons (con (.str "minus")) (acons (con (.str "times")) (acons (con (.str "over")) (acons (con (.str "root")) anil))))))) (lent 0 (R8 p w.s x y z t) (Mm (.str m.s) x y z t l B en f)) = .ok true := by cases w <;> kernel_rfl
  rw [mif_def, t1, ifM_f]
  unfold w12__law_press
  rw [mif_def, t2, ifM_f]
  unfold w11__law_press
  rw [mif_def, t3, ifM_f]
  unfold w9__law_press
  rw [mif_def, t4, ifM_f]
  unfold w7__law_press
  rw [mif_def, t5, ifM_t, mcall_def]
  show finM (callM 2 d__law_reckoned (.ok [.str w.s]) (some p) _ _) = _
  unfold callM
  dsimp only
  rw [if_pos ⟨rfl, rfl⟩]
  cases d__law_reckoned p (Mm (.str m.s) x y z t l B en f) [.str w.s] <;> rfl
theorem lp_root (hx : NO x) : d__law_press p (Mm (.str m.s) x y z t l B en f) [.str "root"] = if x.1 < 0 then .ok (kz, [.str m.s, .lst [numD x, numD y, numD z, numD t], l, .lst B, .non, .bl f, .str "deed"]) else .ok (kz, [.str m.s, .lst [numD (rootZ m x), numD y, numD z, numD t], numD x, .lst B, .non, .bl true, .non]) := by
  rw [← x_lroot (p := p) hx, lp_go]
  have t1 : tst (bop inD (var 1) (con (.str "0123456789."))) (lent 0 (R8 p "root" x y z t) (Mm (.str m.s) x y z t l B en f)) = .ok false := by kernel_rfl
  have t2 : andQ (tst (bop eqD (var 1) (con (.str "sign")))) (tst (bop isNotN (tabix (var 0) (con (.str "entry"))) (con .non))) (lent 0 (R8 p "root" x y z t) (Mm (.str m.s) x y z t l B en f)) = .ok false := by kernel_rfl
  have t3 : tst (bop eqD (var 1) (con (.str "sign"))) (lent 0 (R8 p "root" x y z t) (Mm (.str m.s) x y z t l B en f)) = .ok false := by kernel_rfl
  have t4 : orQ (tst (bop eqD (var 1) (con (.str "enter")))) (tst (bop eqD (var 1) (con (.str "clear")))) (lent 0 (R8 p "root" x y z t) (Mm (.str m.s) x y z t l B en f)) = .ok false := by kernel_rfl
  have t5 : tst (bop inD (var 1) (mkT (acons (con (.str "plus")) (acons (con (.str "minus")) (acons (con (.str "times")) (acons (con (.str "over")) (acons (con (.str "root")) anil))))))) (lent 0 (R8 p "root" x y z t) (Mm (.str m.s) x y z t l B en f)) = .ok true := by kernel_rfl
  rw [mif_def, t1, ifM_f]
  unfold w12__law_press
  rw [mif_def, t2, ifM_f]
  unfold w11__law_press
  rw [mif_def, t3, ifM_f]
  unfold w9__law_press
  rw [mif_def, t4, ifM_f]
  unfold w7__law_press
  rw [mif_def, t5, ifM_t, mcall_def]
  show finM (callM 2 d__law_reckoned (.ok [.str "root"]) (some p) _ _) = _
  unfold callM
  dsimp only
  rw [if_pos ⟨rfl, rfl⟩]
  cases d__law_reckoned p (Mm (.str m.s) x y z t l B en f) [.str "root"] <;> rfl
end
/-! figures, points and signs, by the law -/
theorem rep_S45 {l : List Nat} (h : l.length ≤ 1000) : replD "-" "" (.str (S l)) = some (.str (S (l.filter fun d => decide (d ≠ 45)))) := by
  have e1 : (Str.ofString "-") = S [45] := by decide +kernel
  have e2 : (Str.ofString "") = S [] := by decide +kernel
  have e3 : Txt.replace (S l) (S [45]) (S []) = S (l.filter fun d => decide (d ≠ 45)) := S_of (by
    rw [PySem.StrLaws.replace_list (by rw [S_len]; decide), S_tl, S_tl, S_tl, replL_one])
  show (if (S l).length + ((S l).length + 1) * (Str.ofString "").length ≤ 16777216 then some (D.str (Txt.replace (S l) (Str.ofString "-") (Str.ofString ""))) else none) = _
  rw [e1, e2, e3, if_pos (by rw [S_len, S_len]; simp; omega)]
theorem filt_45 {l : List Nat} (h : AllDigits l) : (l.filter fun d => decide (d ≠ 45)) = l := by
  rw [List.filter_eq_self]
  intro c hc
  have := h c hc
  exact decide_eq_true (by omega)
theorem ent_figs {e : Ent} (h : EntOk e) : ((e.L.filter fun d => decide (d ≠ 45)).filter fun d => decide (d ≠ 46)) = e.ah ++ e.be := by
  have a1 := filt_45 h.a
  have b1 := filt_45 h.b
  have a2 := filt_46 h.a
  have b2 := filt_46 h.b
  unfold Ent.L
  simp only [List.filter_append, a1]
  cases hp : e.pt with
  | false =>
    rw [h.np hp]
    cases hn : e.neg
    · simp only [Bool.false_eq_true, if_false, List.filter_nil, List.nil_append, List.append_nil, a2]
    · simp only [Bool.false_eq_true, if_false, if_true, List.filter_nil, List.append_nil, a2]
      rfl
  | true =>
    simp only [if_true]
    rw [List.filter_cons_of_pos (by decide), b1, List.filter_cons_of_neg (by decide), a2, b2]
    cases hn : e.neg
    · simp only [Bool.false_eq_true, if_false, List.filter_nil, List.nil_append]
    · simp only [if_true]
      rfl
theorem x_part2 {e : Ent} (h : EntOk e) {ρ : Rho} (h2 : var 2 ρ = .ok (.str (S e.L))) : callD 2 d__law_tidy (acons (cal intD (acons (una (replD "." "") (var 2)) anil)) (acons (una negD (cal lenD (acons (bop ixD (met splitD (bop addD (var 2) (con (.str "."))) (acons (con (.str ".")) anil)) (con (.int 1))) anil))) anil)) ρ = .ok (numD e.num) := by
  have el := ent_len h
  have r1 := rep_S (l := e.L) (by omega)
  rw [ent_nodot h] at r1
  have i1 := ent_int h
  have a1 : addD (.str (S e.L)) (.str ".") = some (.str (S (e.L ++ [46]))) := add_S (a := e.L) (b := [46]) (by simp; omega)
  obtain ⟨a, r, hc⟩ := ent_cut h
  have sp : splitD (.str (S (e.L ++ [46]))) [.str "."] = some (.lst (.str (S a) :: .str (S e.be) :: r.map fun l => D.str (S l))) := by
    show (if ((S [46]).length == 0) = false ∧ (S (e.L ++ [46])).length + 2 ≤ sizeLine then some (D.lst ((Txt.split (S (e.L ++ [46])) (S [46])).map .str)) else none) = _
    rw [if_pos ⟨rfl, by rw [S_len, sizeLine_eq]; simp; omega⟩, split_S (by decide), hc]
    simp
  have ix : ixD (.lst (.str (S a) :: .str (S e.be) :: r.map fun l => D.str (S l))) (.int 1) = some (.str (S e.be)) := ix_l1
  have hl := h.len
  have ln : lenD [.str (S e.be)] = some (.int (e.be.length : Int)) := len_S (by omega)
  have td := tidy_ent h
  simp?! [h2, r1, i1, a1, met_def, metR_ok, sp, ix, ln, td]
theorem put_en {a b c d e f g : D} {s : Str} {ρ : Rho} : putM "entry" (.ok (.str s)) ρ (kz, [a, b, c, d, e, f, g]) = .nx ρ (kz, [a, b, c, d, .str s, f, g]) := by kernel_rfl
theorem stU_3 {p : Addr} {a b : D} {c d : En} {m : MSt} : stU 0 (.nx [.z (.adr p), .z a, .z b]) [.z (.adr p), c, d] m = .nx [.z (.adr p), .z a, .z b] m := stU_nx rfl rfl
section
variable {m l en o : D} {x y z t : Int × Int} {B : D} {p : Addr} {f : D}
abbrev ty_rest : Rho → MSt → SM := mseq (mput 0 "entry" (var 2))
    (mputN 0 "pile" (con (.int 0)) (callD 2 d__law_tidy (acons (cal intD (acons (una (replD "." "") (var 2)) anil)) (acons (una negD (cal lenD (acons (bop ixD (met splitD (bop addD (var 2) (con (.str "."))) (acons (con (.str ".")) anil)) (con (.int 1))) anil))) anil))))
theorem lt_end {k : D} {e : Ent} (h : EntOk e) : finM (ty_rest [.z (.adr p), .z k, .z (.str (S e.L))] (kz, [m, .lst [numD x, numD y, numD z, numD t], l, B, en, f, o])) = .ok (kz, [m, .lst [numD e.num, numD y, numD z, numD t], l, B, .str (S e.L), f, o]) := by
  unfold ty_rest
  rw [mseq_def, mput_def]
  rw [show var 2 (lent 0 [.z (.adr p), .z k, .z (.str (S e.L))] (kz, [m, .lst [numD x, numD y, numD z, numD t], l, B, en, f, o])) = .ok (.str (S e.L)) from rfl]
  rw [put_en, seqM_nx, mputN_def]
  rw [x_part2 h (ρ := lent 0 [.z (.adr p), .z k, .z (.str (S e.L))] _) rfl, con_def, putN_d rfl]
  rfl
/-- with no entry -/
theorem lt_none {k : Ky} {lf : Bool} (hk : isTy k = true) : d__law_typed p (kz, [m, .lst [numD x, numD y, numD z, numD t], l, B, .non, .bl lf, o]) [.str k.s] = .ok (kz, [m, (if lf = true then .lst [numD (entK none k).num, numD x, numD y, numD z] else .lst [numD (entK none k).num, numD y, numD z, numD t]), l, B, .str (S (entK none k).L), .bl lf, o]) := by
  rw [v__law_typed]
  unfold g__law_typed
  rw [mseq_def, mst_def]
  rw [show sasg (tabix (var 0) (con (.str "entry"))) (gn 2) (lent 0 [.z (.adr p), .z (.str k.s), .u] (kz, [m, .lst [numD x, numD y, numD z, numD t], l, B, .non, .bl lf, o])) = .nx [.z (.tab (some p) kz [m, .lst [numD x, numD y, numD z, numD t], l, B, .non, .bl lf, o]), .z (.str k.s), .z .non] by kernel_rfl]
  rw [stM_n, tabO_zero, adr_zero, stN_ok, seqM_nx]
  rw [show cleanR 0 p [.z (.tab (some p) kz [m, .lst [numD x, numD y, numD z, numD t], l, B, .non, .bl lf, o]), .z (.str k.s), .z .non] = [.z (.adr p), .z (.str k.s), .z .non] from rfl]
  rw [mseq_def, mif_def]
  rw [show tst (bop isN (var 2) (con .non)) (lent 0 [.z (.adr p), .z (.str k.s), .z .non] (kz, [m, .lst [numD x, numD y, numD z, numD t], l, B, .non, .bl lf, o])) = .ok true from rfl, ifM_t]
  have en := entN_ok hk
  have st : ∀ e0 : En, sasg (bop addD (bop mulD (con (.str "0")) (cal intD (acons (bop eqD (var 1) (con (.str "."))) anil))) (var 1)) (gn 2) [.z (.adr p), .z (.str k.s), e0] = .nx [.z (.adr p), .z (.str k.s), .z (.str (S (entK none k).L))] := fun e0 => by
    cases k with
    | fig i => rcases fin10 i with rfl | rfl | rfl | rfl | rfl | rfl | rfl | rfl | rfl | rfl <;> kernel_rfl
    | dot => kernel_rfl
    | _ => cases hk
  unfold w2__law_typed
  rw [mseq_def, mcall_def]
  rw [show acons (mkT (acons (con (.int 0)) (acons (con (.int 0)) anil))) anil (lent 0 [.z (.adr p), .z (.str k.s), .z .non] (kz, [m, .lst [numD x, numD y, numD z, numD t], l, B, .non, .bl lf, o])) = .ok [numD (0, 0)] by kernel_rfl, adr_zero]
  cases lf with
  | true =>
    rw [callM_ok (n := 2) rfl rfl l_push1, seqM_nx, mstU_def, st, stU_3, seqM_nx]
    exact lt_end en
  | false =>
    rw [callM_ok (n := 2) rfl rfl l_push0, seqM_nx, mstU_def, st, stU_3, seqM_nx]
    exact lt_end en
/-- with an entry -/
theorem lt_some {k : Ky} {e : Ent} (h : EntOk e) (hk : isTy k = true) : d__law_typed p (kz, [m, .lst [numD x, numD y, numD z, numD t], l, B, .str (S e.L), f, o]) [.str k.s] = .ok (kz, [m, .lst [numD (entK (some e) k).num, numD y, numD z, numD t], l, B, .str (S (entK (some e) k).L), f, o]) := by
  have el := ent_len h
  have h2 := entK_ok h k
  rw [v__law_typed]
  unfold g__law_typed
  rw [mseq_def, mst_def]
  rw [show sasg (tabix (var 0) (con (.str "entry"))) (gn 2) (lent 0 [.z (.adr p), .z (.str k.s), .u] (kz, [m, .lst [numD x, numD y, numD z, numD t], l, B, .str (S e.L), f, o])) = .nx [.z (.tab (some p) kz [m, .lst [numD x, numD y, numD z, numD t], l, B, .str (S e.L), f, o]), .z (.str k.s), .z (.str (S e.L))] by kernel_rfl]
  rw [stM_n, tabO_zero, adr_zero, stN_ok, seqM_nx]
  rw [show cleanR 0 p [.z (.tab (some p) kz [m, .lst [numD x, numD y, numD z, numD t], l, B, .str (S e.L), f, o]), .z (.str k.s), .z (.str (S e.L))] = [.z (.adr p), .z (.str k.s), .z (.str (S e.L))] from rfl]
  rw [mseq_def, mif_def]
  rw [show tst (bop isN (var 2) (con .non)) (lent 0 [.z (.adr p), .z (.str k.s), .z (.str (S e.L))] (kz, [m, .lst [numD x, numD y, numD z, numD t], l, B, .str (S e.L), f, o])) = .ok false from rfl, ifM_f]
  unfold w3__law_typed
  rw [mif_def]
  cases k with
  | dot =>
    rw [show tst (bop eqD (var 1) (con (.str "."))) (lent 0 [.z (.adr p), .z (.str Ky.dot.s), .z (.str (S e.L))] (kz, [m, .lst [numD x, numD y, numD z, numD t], l, B, .str (S e.L), f, o])) = .ok true by kernel_rfl, ifM_t, mstU_def]
    have n1 : niD (.str ".") (.str (S e.L)) = some (.bl (!e.pt)) := by
      show (some (hasS (S [46]) (S e.L))).map _ = _
      rw [ent_dot h]; rfl
    have st : sasg (bop addD (var 2) (bop mulD (var 1) (cal intD (acons (bop niD (con (.str ".")) (var 2)) anil)))) (gn 2) [.z (.adr p), .z (.str Ky.dot.s), .z (.str (S e.L))] = .nx [.z (.adr p), .z (.str Ky.dot.s), .z (.str (S (entK (some e) .dot).L))] := by
      have ks : Ky.dot.s = Str.ofString "." := rfl
      rw [ks]
      cases hp : e.pt with
      | true =>
        have ee : entK (some e) .dot = e := by
          show ({ e with pt := true } : Ent) = e
          cases e
          simp only at hp
          rw [hp]
        have m0 : mulD (.str ".") (.int 0) = some (.str (S [])) := by kernel_rfl
        have ad : addD (.str (S e.L)) (.str (S [])) = some (.str (S e.L)) := by rw [add_S (by simp; omega), List.append_nil]
        rw [hp] at n1
        rw [ee]
        simp?! [n1, m0, ad, if_true, if_false, Bool.false_eq_true]
      | false =>
        have ee : (entK (some e) .dot).L = e.L ++ [46] := by
          show (({ e with pt := true } : Ent)).L = _
          unfold Ent.L
          rw [hp, h.np hp]
          simp
        have m1 : mulD (.str ".") (.int 1) = some (.str (S [46])) := by kernel_rfl
        have ad : addD (.str (S e.L)) (.str (S [46])) = some (.str (S (e.L ++ [46]))) := add_S (by simp; omega)
        rw [hp] at n1
        rw [ee]
        simp?! [n1, m1, ad, if_true, if_false, Bool.false_eq_true]
    rw [st, stU_3, seqM_nx]
    exact lt_end h2
  | fig i =>
    have kd : ((Ky.fig i).s == Str.ofString ".") = false := fig_no i
    rw [show tst (bop eqD (var 1) (con (.str "."))) (lent 0 [.z (.adr p), .z (.str (Ky.fig i).s), .z (.str (S e.L))] (kz, [m, .lst [numD x, numD y, numD z, numD t], l, B, .str (S e.L), f, o])) = .ok false by
      rw [tst_def, bin_def]
      show tstR (ofO (eqD (.str (Ky.fig i).s) (.str "."))) = _
      rw [eq_ss, kd]; rfl, ifM_f]
    unfold w1__law_typed
    rw [mif_def]
    have fl : (e.L.filter fun d => decide (d ≠ 45)).length ≤ e.L.length := List.length_filter_le _ _
    have r1 := rep_S45 (l := e.L) (by omega)
    have r2 := rep_S (l := e.L.filter fun d => decide (d ≠ 45)) (by omega)
    rw [ent_figs h] at r2
    have hl := h.len
    have ln : lenD [.str (S (e.ah ++ e.be))] = some (.int ((e.ah.length + e.be.length : Nat) : Int)) := by
      rw [len_S (by rw [List.length_append]; omega), List.length_append]
    have ad : addD (.str (S e.L)) (.str (Ky.fig i).s) = some (.str (S (e.L ++ [48 + i.val]))) := add_S (a := e.L) (b := [48 + i.val]) (by simp; omega)
    have tt : tst (bop ltD (cal lenD (acons (una (replD "." "") (una (replD "-" "") (var 2))) anil)) (con (.int 8))) (lent 0 [.z (.adr p), .z (.str (Ky.fig i).s), .z (.str (S e.L))] (kz, [m, .lst [numD x, numD y, numD z, numD t], l, B, .str (S e.L), f, o])) = .ok (decide (((e.ah.length + e.be.length : Nat) : Int) < 8)) := by
      simp?! [lent_zero, r1, r2, ln]
    rw [tt]
    by_cases q : e.ah.length + e.be.length < 8
    · have ee : (entK (some e) (.fig i)).L = e.L ++ [48 + i.val] := by
        show (if e.ah.length + e.be.length < 8 then (if e.pt = true then ({ e with be := e.be ++ [48 + i.val] } : Ent) else { e with ah := e.ah ++ [48 + i.val] }) else e).L = _
        rw [if_pos q]
        cases hp : e.pt with
        | true => rw [if_pos rfl]; unfold Ent.L; simp [hp]
        | false =>
          rw [if_neg (by decide)]
          unfold Ent.L
          simp [hp]
      rw [decide_eq_true (show ((e.ah.length + e.be.length : Nat) : Int) < 8 by omega), ifM_t, mstU_def]
      have st : sasg (bop addD (var 2) (var 1)) (gn 2) [.z (.adr p), .z (.str (Ky.fig i).s), .z (.str (S e.L))] = .nx [.z (.adr p), .z (.str (Ky.fig i).s), .z (.str (S (entK (some e) (.fig i)).L))] := by
        rw [ee]
        simp?! [ad]
      rw [st, stU_3, seqM_nx]
      exact lt_end h2
    · have ee : entK (some e) (.fig i) = e := by
        show (if e.ah.length + e.be.length < 8 then (if e.pt = true then ({ e with be := e.be ++ [48 + i.val] } : Ent) else { e with ah := e.ah ++ [48 + i.val] }) else e) = _
        rw [if_neg q]
      rw [decide_eq_false (show ¬ ((e.ah.length + e.be.length : Nat) : Int) < 8 by omega), ifM_f, seqM_nx, ee]
      exact lt_end h
  | _ => cases hk
end
/-! a sign with an entry -/
theorem sg_text {e : Ent} (oe : EntOk e) {ρ : Rho} (h6 : var 6 ρ = .ok (.str (S e.L))) : bop ixD (mkL (acons (bop addD (con (.str "-")) (var 6)) (acons (slc (var 6) (psm (con (.int 1))) pno) anil))) (cal intD (acons (bop eqD (bop ixD (var 6) (con (.int 0))) (con (.str "-"))) anil)) ρ = .ok (.str (S ({ e with neg := !e.neg } : Ent).L)) := by
  have el := ent_len oe
  obtain ⟨c0, r, hc⟩ := List.exists_cons_of_ne_nil oe.ne
  have hc0 := oe.a c0 (by rw [hc]; exact List.mem_cons_self)
  have ad : addD (.str "-") (.str (S e.L)) = some (.str (S (45 :: e.L))) := add_S (a := [45]) (b := e.L) (by simp; omega)
  have sl : slD (.str (S e.L)) (some 1) none = some (.str (S (e.L.drop 1))) := sl_S1 (by omega)
  cases hg : e.neg with
  | false =>
    have hL : e.L = c0 :: (r ++ (if e.pt = true then 46 :: e.be else [])) := by unfold Ent.L; rw [hg, hc]; rfl
    have i0 : ixD (.str (S e.L)) (.int 0) = some (.str (S [c0])) := by rw [hL]; exact ix_S0 (by rw [hL] at el; simp at el ⊢; omega)
    have q0 : (S [c0] == Str.ofString "-") = false := by
      have e1 : (Str.ofString "-") = S [45] := by decide +kernel
      rw [e1, beq_eq_false_iff_ne]
      intro z
      have := congrArg (fun x : Str => x.cps.toList) z
      simp [S] at this
      omega
    have eL : ({ e with neg := !false } : Ent).L = 45 :: e.L := by unfold Ent.L; rw [hg]; rfl
    rw [eL]
    simp?! [h6, ad, i0, q0, sl]
    rfl
  | true =>
    have hL : e.L = 45 :: (e.ah ++ (if e.pt = true then 46 :: e.be else [])) := by unfold Ent.L; rw [hg]; rfl
    have i0 : ixD (.str (S e.L)) (.int 0) = some (.str (S [45])) := by rw [hL]; exact ix_S0 (by rw [hL] at el; simp at el ⊢; omega)
    have q0 : (S [45] == Str.ofString "-") = true := by decide +kernel
    have eL : ({ e with neg := !true } : Ent).L = e.L.drop 1 := by rw [hL]; unfold Ent.L; simp
    rw [eL]
    simp?! [h6, ad, i0, q0, sl, if_true]
theorem lp_sign1 {m l : D} {B : List D} {y z t : Int × Int} {a b : Int} {p : Addr} {f : Bool} {e : Ent} (oe : EntOk e) : d__law_press p (kz, [m, .lst [numD (a, b), numD y, numD z, numD t], l, .lst B, .str (S e.L), .bl f, .non]) [.str "sign"] = .ok (kz, [m, .lst [numD (-a, b), numD y, numD z, numD t], l, .lst B, .str (S ({ e with neg := !e.neg } : Ent).L), .bl f, .non]) := by
  rw [lp_go, mif_def]
  rw [show tst (bop inD (var 1) (con (.str "0123456789."))) (lent 0 (R8 p "sign" (a, b) y z t) (Mm m (a, b) y z t l B (.str (S e.L)) f)) = .ok false by kernel_rfl, ifM_f]
  unfold w12__law_press
  rw [mif_def]
  rw [show andQ (tst (bop eqD (var 1) (con (.str "sign")))) (tst (bop isNotN (tabix (var 0) (con (.str "entry"))) (con .non))) (lent 0 (R8 p "sign" (a, b) y z t) (Mm m (a, b) y z t l B (.str (S e.L)) f)) = .ok true by kernel_rfl, ifM_t]
  unfold w10__law_press
  rw [mseq_def, mst_def]
  rw [show sasg (tabix (var 0) (con (.str "entry"))) (gn 6) (lent 0 (R8 p "sign" (a, b) y z t) (Mm m (a, b) y z t l B (.str (S e.L)) f)) = .nx [.z (.tab (some p) kz [m, .lst [numD (a, b), numD y, numD z, numD t], l, .lst B, .str (S e.L), .bl f, .non]), .z (.str "sign"), .z (numD (a, b)), .z (numD y), .z (numD z), .z (numD t), .z (.str (S e.L)), .u] by kernel_rfl]
  rw [stM_n, tabO_zero, adr_zero, stN_ok, seqM_nx, mseq_def, mput_def]
  rw [sg_text oe (ρ := lent 0 (cleanR 0 p [.z (.tab (some p) kz [m, .lst [numD (a, b), numD y, numD z, numD t], l, .lst B, .str (S e.L), .bl f, .non]), .z (.str "sign"), .z (numD (a, b)), .z (numD y), .z (numD z), .z (numD t), .z (.str (S e.L)), .u]) _) rfl, put_en, seqM_nx]
  kernel_rfl
/-! a key pressed, by the law -/
structure Sta.Ok2 (s : Sta) : Prop where
  ok : s.Ok
  ex : ∀ e, s.en = some e → s.x = e.num
theorem ten_of {bx : List (Int × Int)} (h : bx.length = 10) : ∃ b0 b1 b2 b3 b4 b5 b6 b7 b8 b9, bx = [b0, b1, b2, b3, b4, b5, b6, b7, b8, b9] := by
  match bx, h with
  | [b0, b1, b2, b3, b4, b5, b6, b7, b8, b9], _ => exact ⟨b0, b1, b2, b3, b4, b5, b6, b7, b8, b9, rfl⟩
theorem lp_typ {m l en : D} {x y z t : Int × Int} {B : List D} {p : Addr} {f : Bool} {k : Ky} (hk : isTy k = true) : d__law_press p (Mm m x y z t l B en f) [.str k.s] = d__law_typed p (Mm m x y z t l B en f) [.str k.s] := by
  rw [lp_go, mif_def]
  have t1 : tst (bop inD (var 1) (con (.str "0123456789."))) (lent 0 (R8 p k.s x y z t) (Mm m x y z t l B en f)) = .ok true := by
    cases k with
    | fig i => rcases fin10 i with rfl | rfl | rfl | rfl | rfl | rfl | rfl | rfl | rfl | rfl <;> kernel_rfl
    | dot => kernel_rfl
    | _ => cases hk
  rw [t1, ifM_t, mcall_def]
  show finM (callM 2 d__law_typed (.ok [.str k.s]) (some p) _ _) = _
  unfold callM
  dsimp only
  rw [if_pos ⟨rfl, rfl⟩]
  cases d__law_typed p (Mm m x y z t l B en f) [.str k.s] <;> rfl
theorem x_lpress {s : Sta} (ok : s.Ok2) (k : Ky) {p : Addr} : d__law_press p (stD s) [.str k.s] = .ok (stD (pressZ s k)) ∧ (pressZ s k).Ok2 := by
  have okp := (x_press ok.ok k).2
  obtain ⟨m, x, y, z, t, l, bx, en, lf, od⟩ := s
  have ox := ok.ok.x
  have oy := ok.ok.y
  have oe := ok.ok.e
  have hex := ok.ex
  simp only at ox oy oe hex
  obtain ⟨b0, b1, b2, b3, b4, b5, b6, b7, b8, b9, hb⟩ := ten_of ok.ok.bl
  have hb : bx = [b0, b1, b2, b3, b4, b5, b6, b7, b8, b9] := hb
  cases od with
  | some o =>
    have eo : ∃ w : Str, odD (some o) = .str w := by cases o <;> exact ⟨_, rfl⟩
    obtain ⟨w, hw⟩ := eo
    by_cases hk : k = .clear
    · subst hk
      refine ⟨?_, okp, fun e h => by cases h⟩
      show d__law_press p (kz, [.str m.s, .lst [numD x, numD y, numD z, numD t], numD l, .lst (bx.map numD), enD en, .bl lf, odD (some o)]) [.str "clear"] = _
      rw [hw]
      exact lp_oddc
    · have e : pressZ ⟨m, x, y, z, t, l, bx, en, lf, some o⟩ k = ⟨m, x, y, z, t, l, bx, en, lf, some o⟩ := if_neg hk
      rw [e]
      refine ⟨?_, ok⟩
      show d__law_press p (kz, [.str m.s, .lst [numD x, numD y, numD z, numD t], numD l, .lst (bx.map numD), enD en, .bl lf, odD (some o)]) [.str k.s] = .ok (kz, [.str m.s, .lst [numD x, numD y, numD z, numD t], numD l, .lst (bx.map numD), enD en, .bl lf, odD (some o)])
      rw [hw]
      exact lp_odd k hk
  | none =>
    have typ : ∀ k : Ky, isTy k = true → pressZ ⟨m, x, y, z, t, l, bx, en, lf, none⟩ k = typeZ ⟨m, x, y, z, t, l, bx, en, lf, none⟩ k → d__law_press p (stD ⟨m, x, y, z, t, l, bx, en, lf, none⟩) [.str k.s] = .ok (stD (pressZ ⟨m, x, y, z, t, l, bx, en, lf, none⟩ k)) ∧ ∀ e, (pressZ ⟨m, x, y, z, t, l, bx, en, lf, none⟩ k).en = some e → (pressZ ⟨m, x, y, z, t, l, bx, en, lf, none⟩ k).x = e.num := fun k hk pz => by
      rw [pz]
      constructor
      · show d__law_press p (Mm (.str m.s) x y z t (numD l) (bx.map numD) (enD en) lf) [.str k.s] = _
        rw [lp_typ hk]
        cases en with
        | none =>
          rw [show enD none = .non from rfl, lt_none hk]
          cases lf <;> rfl
        | some e =>
          rw [show enD (some e) = .str (S e.L) from rfl, lt_some (oe e rfl) hk]
          cases lf <;> rfl
      · intro e he
        unfold typeZ at he ⊢
        simp only [Option.some.injEq] at he
        rw [← he]
    cases k with
    | fig i => exact ⟨(typ (.fig i) rfl rfl).1, okp, (typ (.fig i) rfl rfl).2⟩
    | dot => exact ⟨(typ .dot rfl rfl).1, okp, (typ .dot rfl rfl).2⟩
    | sign =>
      obtain ⟨a, b⟩ := x
      cases en with
      | none => exact ⟨lp_sign0, okp, fun e h => by cases h⟩
      | some e =>
        have hx : (a, b) = e.num := hex e rfl
        have hn := ent_neg (oe e rfl)
        rw [← hx] at hn
        have hn : ({ e with neg := !e.neg } : Ent).num = (-a, b) := hn
        have pz : pressZ ⟨m, (a, b), y, z, t, l, bx, some e, lf, none⟩ .sign = ⟨m, (-a, b), y, z, t, l, bx, some { e with neg := !e.neg }, lf, none⟩ := by
          show signZ ⟨m, (a, b), y, z, t, l, bx, some e, lf, none⟩ = _
          unfold signZ
          simp only [hn]
        rw [pz] at okp ⊢
        exact ⟨lp_sign1 (oe e rfl), okp, fun e' h => by cases h; exact hn.symm⟩
    | enter => exact ⟨lp_enter, okp, fun e h => by cases h⟩
    | clear => exact ⟨lp_clear, okp, fun e h => by cases h⟩
    | swap => exact ⟨lp_swap, okp, fun e h => by cases h⟩
    | roll => exact ⟨lp_roll, okp, fun e h => by cases h⟩
    | dd w =>
      have pz : pressZ ⟨m, x, y, z, t, l, bx, en, lf, none⟩ (.dd w) = deedZ ⟨m, x, y, z, t, l, bx, en, lf, none⟩ w := rfl
      have key : d__law_press p (stD ⟨m, x, y, z, t, l, bx, en, lf, none⟩) [.str w.s] = .ok (stD (deedZ ⟨m, x, y, z, t, l, bx, en, lf, none⟩ w)) ∧ (deedZ ⟨m, x, y, z, t, l, bx, en, lf, none⟩ w).en = none := by
        show d__law_press p (Mm (.str m.s) x y z t (numD l) (bx.map numD) (enD en) lf) [.str w.s] = _ ∧ _
        rw [lp_dd w ox oy]
        unfold deedZ
        by_cases h : w = .over ∧ x.1 = 0
        · rw [if_pos h, if_pos h]
          exact ⟨rfl, rfl⟩
        · rw [if_neg h, if_neg h]
          simp only
          cases exV m (ddV w (vl y) (vl x)) <;> exact ⟨rfl, rfl⟩
      rw [pz] at okp ⊢
      exact ⟨key.1, okp, fun e h => by rw [key.2] at h; cases h⟩
    | root =>
      have key : d__law_press p (stD ⟨m, x, y, z, t, l, bx, en, lf, none⟩) [.str "root"] = .ok (stD (pressZ ⟨m, x, y, z, t, l, bx, en, lf, none⟩ .root)) ∧ (pressZ ⟨m, x, y, z, t, l, bx, en, lf, none⟩ .root).en = none := by
        show d__law_press p (Mm (.str m.s) x y z t (numD l) (bx.map numD) (enD en) lf) [.str "root"] = .ok (stD (if x.1 < 0 then _ else _)) ∧ (if x.1 < 0 then _ else _ : Sta).en = none
        rw [lp_root ox]
        by_cases h : x.1 < 0
        · rw [if_pos h, if_pos h]
          exact ⟨rfl, rfl⟩
        · rw [if_neg h, if_neg h]
          exact ⟨rfl, rfl⟩
      exact ⟨key.1, okp, fun e h => by rw [key.2] at h; cases h⟩
    | last =>
      subst hb
      refine ⟨?_, okp, fun e h => ?_⟩
      · show d__law_press p _ [.str "last"] = _
        have := lp_last (p := p) (m := .str m.s) (en := enD en) (l := l) (x := x) (y := y) (z := z) (t := t) (b0 := b0) (b1 := b1) (b2 := b2) (b3 := b3) (b4 := b4) (b5 := b5) (b6 := b6) (b7 := b7) (b8 := b8) (b9 := b9) (f := lf)
        cases lf <;> exact this
      · cases lf <;> cases h
    | put i =>
      subst hb
      refine ⟨?_, okp, fun e h => by cases h⟩
      have := lp_put (p := p) (m := .str m.s) (en := enD en) (l := l) (x := x) (y := y) (z := z) (t := t) (b0 := b0) (b1 := b1) (b2 := b2) (b3 := b3) (b4 := b4) (b5 := b5) (b6 := b6) (b7 := b7) (b8 := b8) (b9 := b9) (f := lf) i
      show d__law_press p _ [.str (Ky.put i).s] = .ok (kz, [_, _, _, .lst ((List.set _ i.val x).map numD), _, _, _])
      rw [set_map]
      exact this
    | get i =>
      subst hb
      refine ⟨?_, okp, fun e h => ?_⟩
      · have := lp_get (p := p) (m := .str m.s) (en := enD en) (l := l) (x := x) (y := y) (z := z) (t := t) (b0 := b0) (b1 := b1) (b2 := b2) (b3 := b3) (b4 := b4) (b5 := b5) (b6 := b6) (b7 := b7) (b8 := b8) (b9 := b9) (f := lf) i
        cases lf <;> exact this
      · cases lf <;> cases h
/-! a line done, by the law -/
theorem l_open {m x y z t l b0 b1 b2 b3 b4 b5 b6 b7 b8 b9 : Int × Int} {w : Str} {en : Option Ent} {lf : Bool} {od : Option Bool} {p : Addr} :
    d__law_open p [.tup [.str w, .tup [numD x, numD y, numD z, numD t], numD l, .tup [numD b0, numD b1, numD b2, numD b3, numD b4, numD b5, numD b6, numD b7, numD b8, numD b9], enD en, .bl lf, odD od]] = .ok (kz, [.str w, .lst [numD x, numD y, numD z, numD t], numD l, .lst [numD b0, numD b1, numD b2, numD b3, numD b4, numD b5, numD b6, numD b7, numD b8, numD b9], enD en, .bl lf, odD od]) := by
  cases en with
  | none =>
    cases od with
    | none => kernel_rfl
    | some o => cases o <;> kernel_rfl
  | some e =>
    cases od with
    | none => kernel_rfl
    | some o => cases o <;> kernel_rfl
theorem x_lopen {s : Sta} (ok : s.Ok) {p : Addr} : d__law_open p [s.D] = .ok (stD s) := by
  obtain ⟨m, x, y, z, t, l, bx, en, lf, od⟩ := s
  obtain ⟨b0, b1, b2, b3, b4, b5, b6, b7, b8, b9, hb⟩ := ten_of ok.bl
  have hb : bx = [b0, b1, b2, b3, b4, b5, b6, b7, b8, b9] := hb
  subst hb
  exact l_open (m := (0, 0))
theorem lh_val {a1 b1 a2 b2 : Int} (n1 : NumB a1 b1) (n2 : NumB a2 b2) {Z T' : D} {k : Str} (hk : (k == Str.ofString "nought") = false) :
    d__law_holds [.str k, .tup [numD (a1, b1), numD (a2, b2), Z, T']] = .ok (.bl (if (k == Str.ofString "less") = true then decide (vl (a1, b1) < vl (a2, b2)) else decide (vl (a1, b1) = vl (a2, b2)))) := by
  have q1 := n1.1
  have q2 := n1.2
  have q3 := n2.1
  have q4 := n2.2
  obtain ⟨lo, hlo⟩ : ∃ lo, lo = if b2 < b1 then b2 else b1 := ⟨_, rfl⟩
  have l1 : lo ≤ b1 := by rw [hlo]; split <;> omega
  have l2 : lo ≤ b2 := by rw [hlo]; split <;> omega
  have t1 := x_ltenZ (k := b1 - lo) (by omega) (by rw [hlo]; split <;> omega)
  have t2 := x_ltenZ (k := b2 - lo) (by omega) (by rw [hlo]; split <;> omega)
  have m1 : mulD (.int a1) (.int (10 ^ (b1 - lo).toNat)) = some (.int (a1 * 10 ^ (b1 - lo).toNat)) := mul_l (by omega)
  have m2 : mulD (.int a2) (.int (10 ^ (b2 - lo).toNat)) = some (.int (a2 * 10 ^ (b2 - lo).toNat)) := mul_l (by omega)
  have mn : minD [.int b1, .int b2] = some (.int lo) := by rw [min_ii, hlo]
  have e1 : ((a1 * 10 ^ (b1 - lo).toNat) == (a2 * 10 ^ (b2 - lo).toNat)) = decide (vl (a1, b1) = vl (a2, b2)) := by
    rw [Bool.eq_iff_iff, beq_iff_eq, decide_eq_true_eq, vl_at l1, vl_at l2]
    constructor
    · intro h; rw [h]
    · intro h
      have tp := T_pos lo
      have : ((a1 * 10 ^ (b1 - lo).toNat : Int) : Rat) = ((a2 * 10 ^ (b2 - lo).toNat : Int) : Rat) := by
        have h0 : T lo ≠ 0 := by grind
        generalize T lo = u at *
        generalize ((a1 * 10 ^ (b1 - lo).toNat : Int) : Rat) = v at *
        generalize ((a2 * 10 ^ (b2 - lo).toNat : Int) : Rat) = w at *
        grind
      exact Rat.intCast_inj.mp this
  have e2 : decide (a1 * 10 ^ (b1 - lo).toNat < a2 * 10 ^ (b2 - lo).toNat) = decide (vl (a1, b1) < vl (a2, b2)) := by
    refine decide_eq_decide.mpr ?_
    rw [vl_at l1, vl_at l2, Rat.mul_lt_mul_right (T_pos _), Rat.intCast_lt_intCast]
  show d__law_holds [.str k, .tup [.tup [.int a1, .int b1], .tup [.int a2, .int b2], Z, T']] = _
  cases hl : (k == Str.ofString "less") with
  | true => simp?! [v__law_holds, g__law_holds, t1__law_holds, t2__law_holds, t3__law_holds, t4__law_holds, hk, hl, mn, t1, t2, m1, m2, e1, e2, if_true]
  | false => simp?! [v__law_holds, g__law_holds, t1__law_holds, t2__law_holds, t3__law_holds, t4__law_holds, hk, hl, mn, t1, t2, m1, m2, e1, e2, if_false, Bool.false_eq_true]
theorem x_lholds {x y z t : Int × Int} (hx : NO x) (hy : NO y) {l : Ln} (hl : l = .less ∨ l = .same ∨ l = .nought) : d__law_holds [.str l.s, .tup [numD x, numD y, numD z, numD t]] = .ok (.bl (soZ l x y)) := by
  obtain ⟨a1, b1⟩ := x
  obtain ⟨a2, b2⟩ := y
  rcases hl with rfl | rfl | rfl
  · rw [lh_val (num_b hx) (num_b hy) (by decide +kernel), if_pos (by decide +kernel)]
    rfl
  · rw [lh_val (num_b hx) (num_b hy) (by decide +kernel), if_neg (by decide +kernel)]
    show Res.ok (D.bl _) = .ok (.bl (decide ((a1, b1) = (a2, b2))))
    congr 2
    exact decide_eq_decide.mpr ⟨fun h => num_inj hx hy h, fun h => by rw [h]⟩
  · have e : (Ln.nought.s == Str.ofString "nought") = true := by decide +kernel
    have h : d__law_holds [.str Ln.nought.s, .tup [numD (a1, b1), numD (a2, b2), numD z, numD t]] = .ok (.bl (a1 == 0)) := by
      show d__law_holds [.str Ln.nought.s, .tup [.tup [.int a1, .int b1], .tup [.int a2, .int b2], numD z, numD t]] = _
      simp?! [v__law_holds, g__law_holds, e]
    rw [h]
    show Res.ok (D.bl _) = .ok (.bl (decide ((a1, b1) = (0, 0))))
    congr 2
    rw [Bool.eq_iff_iff, beq_iff_eq, decide_eq_true_eq]
    constructor
    · intro q
      rcases hx with ⟨_, q2⟩ | ⟨q2, _⟩
      · simp only at q2; rw [q, q2]
      · exact absurd q q2
    · intro q; exact congrArg Prod.fst q
/-! what leads somewhere, by the law -/
theorem ad_S4 (n : Fin 3) : addD (.str "mark") (.str (S [49 + n.val])) = some (.str (Ln.mark n).s) := by rcases fin3' n with rfl | rfl | rfl <;> kernel_rfl
def lgZ (pr : List Ln) (cs : List Int) : Ln → Option Int
  | .go n => goalZ pr n
  | .call n => if 3 < cs.length then none else goalZ pr n
  | .back => cs.getLast?
  | _ => none
theorem x_lled {pr : List Ln} {ln : Int} {cs : List Int} {l : Ln} (hp : cs.length ≤ 4) (h1 : 0 ≤ ln ∧ ln < pr.length) (h2 : pr.getD ln.toNat .stop = l) (hl : l = .back ∨ (∃ n, l = .go n) ∨ ∃ n, l = .call n) : d__law_led [.pro (pr.map Ln.s), .int ln, .tup (cs.map D.int)] = .ok (optD (lgZ pr cs l)) := by
  have ix : ixP (.pro (pr.map Ln.s)) (.int ln) = some (.str l.s) := by
    show (atI (pr.map Ln.s) ln).map D.str = _
    unfold atI ixN
    rw [if_pos h1.1, if_pos (by rw [List.length_map]; exact h1.2)]
    simp only [Option.bind_some]
    rw [List.getElem?_map]
    rw [List.getD_eq_getElem?_getD] at h2
    rw [List.getElem?_eq_getElem (by omega)] at h2 ⊢
    rw [← h2]; rfl
  have ln4 : lenD [.tup (cs.map D.int)] = some (.int (cs.length : Int)) := by rw [len_t, List.length_map]
  have key : d__law_led [.pro (pr.map Ln.s), .int ln, .tup (cs.map D.int)] = finR (t1__law_led [.z (.pro (pr.map Ln.s)), .z (.int ln), .z (.tup (cs.map D.int)), .z (.str l.s), .u]) := by
    simp?! [v__law_led, g__law_led, ix]
  rw [key]
  have other : ∀ n : Fin 3, (l.s == Str.ofString "back") = false → ixD (.str l.s) (.int (-1)) = some (.str (S [49 + n.val])) → ∀ w : Str, slD (.str l.s) none (some 4) = some (.str w) → ∀ b : Bool, (w == Str.ofString "call") = b →
      finR (t1__law_led [.z (.pro (pr.map Ln.s)), .z (.int ln), .z (.tup (cs.map D.int)), .z (.str l.s), .u]) = .ok (optD (if b = true ∧ 3 < cs.length then none else goalZ pr n)) := fun n e1 i1 w s1 b hb => by
    have ad := ad_S4 n
    have hm := first_mem (z := (Ln.mark n).s) (ys := pr.map Ln.s)
    have np : niP (.str (Ln.mark n).s) (.pro (pr.map Ln.s)) = some (.bl (!decide ((Ln.mark n).s ∈ pr.map Ln.s))) := rfl
    have ng : negD (.int 1) = some (.int (-1)) := rfl
    have mp : metP (var 0) (acons (var 4) anil) [.z (.pro (pr.map Ln.s)), .z (.int ln), .z (.tup (cs.map D.int)), .z (.str l.s), .z (.str (Ln.mark n).s)] = ofO (indexP (.pro (pr.map Ln.s)) [.str (Ln.mark n).s]) := rfl
    have k1 : finR (t1__law_led [.z (.pro (pr.map Ln.s)), .z (.int ln), .z (.tup (cs.map D.int)), .z (.str l.s), .u]) = finR (t3__law_led [.z (.pro (pr.map Ln.s)), .z (.int ln), .z (.tup (cs.map D.int)), .z (.str l.s), .z (.str (Ln.mark n).s)]) := by
      simp?! [t1__law_led, t2__law_led, e1, ng, i1, ad]
    rw [k1]
    have gt : gtD (.int (cs.length : Int)) (.int 3) = some (.bl (decide (3 < cs.length))) := by
      rw [gt_ii]
      congr 2
      exact decide_eq_decide.mpr (by omega)
    unfold goalZ
    cases e : firstIx (Ln.mark n).s (pr.map Ln.s) with
    | none =>
      rw [e] at hm
      have hm : decide ((Ln.mark n).s ∈ pr.map Ln.s) = false := hm.symm
      rw [hm] at np
      have z : (if b = true ∧ 3 < cs.length then none else (none : Option Nat).map fun j => (j : Int) + 1) = none := by split <;> rfl
      rw [z]
      simp?! [t3__law_led, np]
      rfl
    | some j =>
      rw [e] at hm
      have hm : decide ((Ln.mark n).s ∈ pr.map Ln.s) = true := hm.symm
      rw [hm] at np
      have ixx : indexP (.pro (pr.map Ln.s)) [.str (Ln.mark n).s] = some (.int (j : Nat)) := by
        show (firstIx (Ln.mark n).s (pr.map Ln.s)).map (fun j => D.int (j : Nat)) = _
        rw [e]; rfl
      rw [ixx] at mp
      cases b with
      | false =>
        rw [if_neg (by simp)]
        simp?! [t3__law_led, t4__law_led, np, s1, hb, mp]
        rfl
      | true =>
        by_cases c : 3 < cs.length
        · rw [if_pos ⟨rfl, c⟩]
          rw [decide_eq_true c] at gt
          simp?! [t3__law_led, np, s1, hb, ln4, gt]
          rfl
        · rw [if_neg (fun z => c z.2)]
          rw [decide_eq_false c] at gt
          simp?! [t3__law_led, t4__law_led, np, s1, hb, ln4, gt, mp]
          rfl
  rcases hl with rfl | ⟨n, rfl⟩ | ⟨n, rfl⟩
  · have e1 : (Ln.back.s == Str.ofString "back") = true := by decide +kernel
    have a0 : addD (.tup (cs.map D.int)) (.tup [.int 0]) = some (.tup (cs.map D.int ++ [.int 0])) := add_tt (by rw [List.length_map]; simp; omega)
    show _ = Res.ok (optD cs.getLast?)
    rcases List.eq_nil_or_concat cs with rfl | ⟨r, c, rfl⟩
    · kernel_rfl
    · rw [List.concat_eq_append] at *
      have hr : r.length ≤ 3 := by simp at hp; omega
      match r, hr with
      | [], _ => kernel_rfl
      | [r0], _ => kernel_rfl
      | [r0, r1], _ => kernel_rfl
      | [r0, r1, r2], _ => kernel_rfl
  · have := other n (by rcases fin3' n with rfl | rfl | rfl <;> decide +kernel) (by rcases fin3' n with rfl | rfl | rfl <;> kernel_rfl) (Ln.go n).s (by rcases fin3' n with rfl | rfl | rfl <;> kernel_rfl) false (by rcases fin3' n with rfl | rfl | rfl <;> decide +kernel)
    rw [this, if_neg (by simp)]
    rfl
  · have := other n (by rcases fin3' n with rfl | rfl | rfl <;> decide +kernel) (by rcases fin3' n with rfl | rfl | rfl <;> kernel_rfl) "call" (by rcases fin3' n with rfl | rfl | rfl <;> kernel_rfl) true (by decide +kernel)
    rw [this]
    show Res.ok (optD _) = .ok (optD (if 3 < cs.length then none else goalZ pr n))
    by_cases c : 3 < cs.length
    · rw [if_pos ⟨rfl, c⟩, if_pos c]
    · rw [if_neg (fun z => c z.2), if_neg c]
/-! the whole line -/
def seqK (r : SR) (t : Rho → Addr → SM) (p : Addr) : SM := match r with
  | .nx ρ' => t ρ' p
  | .rt d => .rt d
  | .ex n _ => .ex n
  | _ => .bad
theorem kseq_def {s : Rho → SR} {t : Rho → Addr → SM} {ρ : Rho} {p : Addr} : kseq s t ρ p = seqK (s ρ) t p := rfl
theorem seqK_nx {ρ : Rho} {t : Rho → Addr → SM} {p : Addr} : seqK (.nx ρ) t p = t ρ p := rfl
theorem seqK_rt {d : D} {t : Rho → Addr → SM} {p : Addr} : seqK (.rt d) t p = .rt d := rfl
theorem resM_rt {d : D} : resM (.rt d) = .ok d := rfl
theorem kmk_e {i n : Nat} {den : Addr → List D → Res MSt} {f : Rho → Res (List D)} {k : Rho → MSt → SM} {ρ : Rho} {p : Addr} {ds : List D} {m : MSt} (hf : f ρ = .ok ds) (h : ds.length = n ∧ noOwn ρ = true ∧ i < ρ.length) (hd : den p ds = .ok m) : kmk i n den f k ρ p = k (ρ.set i (.z (.adr p))) m := by
  unfold kmk
  rw [hf]
  dsimp only
  rw [if_pos h, hd]
theorem imms_num : ∀ l : List (Int × Int), D.imms (l.map numD) = true
  | [] => rfl
  | a :: l => by
    show (D.imm (numD a) && D.imms (l.map numD)) = true
    rw [imms_num l]
    rfl
theorem imms_int : ∀ l : List Int, D.imms (l.map D.int) = true
  | [] => rfl
  | a :: l => by
    show (D.imm (.int a) && D.imms (l.map D.int)) = true
    rw [imms_int l]
    rfl
theorem imm_st (s : Sta) : s.D.imm = true := by
  obtain ⟨m, x, y, z, t, l, bx, en, lf, od⟩ := s
  have h : (D.tup (bx.map numD)).imm = true := by rw [imm_tup]; exact imms_num bx
  have e1 : (enD en).imm = true := by cases en <;> rfl
  have e2 : (odD od).imm = true := by cases od with | none => rfl | some b => cases b <;> rfl
  show D.imm (.tup [.str m.s, .tup [numD x, numD y, numD z, numD t], numD l, .tup (bx.map numD), enD en, .bl lf, odD od]) = true
  rw [imm_tup, imms_cons, imms_cons, imms_cons, imms_cons, imms_cons, imms_cons, imms_cons, e1, e2, h]
  rfl
theorem imm_pc (p : Pc) : p.D.imm = true := by
  have h := imms_int p.cs
  show D.imm (.tup [.int p.ln, .tup (p.cs.map .int)]) = true
  rw [imm_tup, imms_cons, imms_cons, imm_tup, h]
  rfl
theorem imm_sp (r : Sta × Pc × How) : (spD r).imm = true := by
  show D.imm (.tup [r.1.D, r.2.1.D, .str r.2.2.s]) = true
  rw [imm_tup, imms_cons, imms_cons, imms_cons, imm_st, imm_pc]
  rfl
theorem ky_facts (k : Ky) : ∃ w v : Str, slD (.str k.s) none (some 4) = some (.str w) ∧ slD (.str k.s) none (some 2) = some (.str v) ∧ (w == Str.ofString "mark") = false ∧ (w == Str.ofString "call") = false ∧ (v == Str.ofString "go") = false ∧ (k.s == Str.ofString "back") = false ∧ (k.s == Str.ofString "stop") = false ∧ inD (.str k.s) (.tup [.str "less", .str "same", .str "nought"]) = some (.bl false) := by
  cases k with
  | fig i => rcases fin10 i with e | e | e | e | e | e | e | e | e | e <;> subst e <;> exact ⟨_, _, rfl, rfl, by decide +kernel, by decide +kernel, by decide +kernel, by decide +kernel, by decide +kernel, by kernel_rfl⟩
  | put i => rcases fin10 i with e | e | e | e | e | e | e | e | e | e <;> subst e <;> exact ⟨_, _, rfl, rfl, by decide +kernel, by decide +kernel, by decide +kernel, by decide +kernel, by decide +kernel, by kernel_rfl⟩
  | get i => rcases fin10 i with e | e | e | e | e | e | e | e | e | e <;> subst e <;> exact ⟨_, _, rfl, rfl, by decide +kernel, by decide +kernel, by decide +kernel, by decide +kernel, by decide +kernel, by kernel_rfl⟩
  | dd w => cases w <;> exact ⟨_, _, rfl, rfl, by decide +kernel, by decide +kernel, by decide +kernel, by decide +kernel, by decide +kernel, by kernel_rfl⟩
  | _ => exact ⟨_, _, rfl, rfl, by decide +kernel, by decide +kernel, by decide +kernel, by decide +kernel, by decide +kernel, by kernel_rfl⟩
theorem x_ldue {pr : List Ln} {s : Sta} {p : Pc} (hs : s.Ok2) (hp : p.Ok) : d__law_due_v2 [.pro (pr.map Ln.s), s.D, p.D] = .ok (spD (stepZ pr s p)) := by
  have ll : lenP [.pro (pr.map Ln.s)] = some (.int (pr.length : Int)) := by
    show some (D.int ((pr.map Ln.s).length : Int)) = _
    rw [List.length_map]
  have eD : p.D = .tup [.int p.ln, .tup (p.cs.map D.int)] := rfl
  refine runK_eq (ρ := [.z (.pro (pr.map Ln.s)), .z s.D, .z p.D, .u, .u, .u, .u, .u]) rfl fun a => ?_
  have hcs := hp.l
  obtain ⟨ln, cs⟩ := p
  have hcs : cs.length ≤ 4 := hcs
  have eD : Pc.D ⟨ln, cs⟩ = .tup [.int ln, .tup (cs.map D.int)] := rfl
  unfold stepZ
  simp only
  by_cases c : 0 ≤ ln ∧ ln < pr.length
  case neg =>
    rw [if_neg c]
    have ec : (decide (0 ≤ ln) && decide (ln < (pr.length : Int))) = false := by
      cases h : (decide (0 ≤ ln) && decide (ln < (pr.length : Int))) with
      | false => rfl
      | true =>
        rw [Bool.and_eq_true, decide_eq_true_eq, decide_eq_true_eq] at h
        exact absurd h c
    simp?! [g__law_due_v2, kseq_def, seqK_nx, seqK_rt, resM_rt, eD, chn_def, ll, ec]
    rfl
  rw [if_pos c]
  have ec : (decide (0 ≤ ln) && decide (ln < (pr.length : Int))) = true := by simp [c.1, c.2]
  obtain ⟨l, hl⟩ : ∃ l, pr.getD ln.toNat .stop = l := ⟨_, rfl⟩
  have ix : ixP (.pro (pr.map Ln.s)) (.int ln) = some (.str l.s) := by
    show (atI (pr.map Ln.s) ln).map D.str = _
    unfold atI ixN
    rw [if_pos c.1, if_pos (by rw [List.length_map]; exact c.2)]
    simp only [Option.bind_some]
    rw [List.getElem?_map]
    have hl := hl
    rw [List.getD_eq_getElem?_getD] at hl
    rw [List.getElem?_eq_getElem (by omega)] at hl ⊢
    rw [← hl]; rfl
  rw [hl]
  have htest : ∀ {l : Ln}, ixP (.pro (pr.map Ln.s)) (.int ln) = some (.str l.s) → l = .less ∨ l = .same ∨ l = .nought → resM (g__law_due_v2 [.z (.pro (pr.map Ln.s)), .z s.D, .z (Pc.D ⟨ln, cs⟩), .u, .u, .u, .u, .u] a) = .ok (spD ({ s with en := none, lf := true }, ⟨ln + 2 - (if soZ l s.x s.y = true then 1 else 0), cs⟩, .on)) := by
    intro l ix h
    have e1 : (l.s == Str.ofString "stop") = false := by rcases h with rfl | rfl | rfl <;> decide +kernel
    have i1 : inD (.str l.s) (.tup [.str "less", .str "same", .str "nought"]) = some (.bl true) := by rcases h with rfl | rfl | rfl <;> kernel_rfl
    have so := x_lholds (z := s.z) (t := s.t) hs.ok.x hs.ok.y h
    obtain ⟨m, x, y, z, t, lt, bx, en, lf, od⟩ := s
    have s1 : slD (Sta.D ⟨m, x, y, z, t, lt, bx, en, lf, od⟩) none (some 4) = some (.tup [.str m.s, .tup [numD x, numD y, numD z, numD t], numD lt, .tup (bx.map numD)]) := by kernel_rfl
    have x6 : ixD (Sta.D ⟨m, x, y, z, t, lt, bx, en, lf, od⟩) (.int 6) = some (odD od) := by kernel_rfl
    have a1 : addD (.tup [.str m.s, .tup [numD x, numD y, numD z, numD t], numD lt, .tup (bx.map numD)]) (.tup [.non, .bl true, odD od]) = some (Sta.D ⟨m, x, y, z, t, lt, bx, none, true, od⟩) := by kernel_rfl
    have x1 : ixD (Sta.D ⟨m, x, y, z, t, lt, bx, en, lf, od⟩) (.int 1) = some (.tup [numD x, numD y, numD z, numD t]) := by kernel_rfl
    simp only at so
    simp?! [g__law_due_v2, kseq_def, seqK_nx, seqK_rt, resM_rt, eD, chn_def, ll, ec, ix, e1, i1, s1, x6, a1, x1, so]
    rfl
  have hlead : ∀ {l : Ln} (w v : Str), pr.getD ln.toNat .stop = l → ixP (.pro (pr.map Ln.s)) (.int ln) = some (.str l.s) → (l = .back ∨ (∃ n, l = .go n) ∨ ∃ n, l = .call n) → (l.s == Str.ofString "stop") = false → inD (.str l.s) (.tup [.str "less", .str "same", .str "nought"]) = some (.bl false) →
      slD (.str l.s) none (some 4) = some (.str w) → slD (.str l.s) none (some 2) = some (.str v) → (w == Str.ofString "mark") = false → ((l.s == Str.ofString "back") || ((v == Str.ofString "go") || (w == Str.ofString "call"))) = true →
      resM (g__law_due_v2 [.z (.pro (pr.map Ln.s)), .z s.D, .z (Pc.D ⟨ln, cs⟩), .u, .u, .u, .u, .u] a) = (match lgZ pr cs l with
        | none => .ok (spD (s, ⟨ln, cs⟩, .lost))
        | some g => .ok (spD (s, ⟨g, (if (l.s == Str.ofString "back") = true then cs.dropLast else cs) ++ (if (w == Str.ofString "call") = true then [ln + 1] else [])⟩, .on))) := by
    intro l w v hl ix h e1 i1 s4 s2 wm hor
    have ld := x_lled hcs c hl h
    have n1 : isN (optD none) .non = some (.bl true) := rfl
    have n2 : ∀ g : Int, isN (optD (some g)) .non = some (.bl false) := fun _ => rfl
    have ng : negD (.int 1) = some (.int (-1)) := rfl
    have m1 : mul01D (.tup [.int (ln + 1)]) (.int 1) = some (.tup [.int (ln + 1)]) := rfl
    have m0 : mul01D (.tup [.int (ln + 1)]) (.int 0) = some (.tup []) := rfl
    cases hg : lgZ pr cs l with
    | none =>
      rw [hg] at ld
      cases h1 : (l.s == Str.ofString "back") <;> cases h2 : (v == Str.ofString "go") <;> cases h3 : (w == Str.ofString "call") <;> first
        | (rw [h1, h2, h3] at hor; exact absurd hor (by decide))
        | (simp?! [g__law_due_v2, kseq_def, seqK_nx, seqK_rt, resM_rt, eD, chn_def, ll, ec, ix, e1, i1, s4, s2, wm, h1, h2, h3, ld, n1]; rfl)
    | some g =>
      rw [hg] at ld
      have n2 := n2 g
      have ad : ∀ (a b : List Int), a.length ≤ 4 → b.length ≤ 1 → addD (.tup (a.map D.int)) (.tup (b.map D.int)) = some (.tup ((a ++ b).map D.int)) := fun a b ha hb => by
        rw [add_tt (by rw [List.length_map, List.length_map]; omega), List.map_append]
      have dl : cs.dropLast.length ≤ 4 := by rw [List.length_dropLast]; omega
      have ad1 := ad cs [ln + 1] hcs (Nat.le_refl 1)
      have ad0 := ad cs [] hcs (by decide)
      have ad2 := ad cs.dropLast [ln + 1] dl (Nat.le_refl 1)
      have ad3 := ad cs.dropLast [] dl (by decide)
      have sd : (l.s == Str.ofString "back") = true → slD (.tup (cs.map D.int)) none (some (-1)) = some (.tup (cs.dropLast.map D.int)) := fun hb => by
        rcases h with rfl | ⟨n, rfl⟩ | ⟨n, rfl⟩
        · have hg : cs.getLast? = some g := hg
          have hne : cs ≠ [] := fun z => by rw [z] at hg; cases hg
          have e := List.dropLast_concat_getLast hne
          have := (sl_last (cs := cs.dropLast) (c := cs.getLast hne) (by omega)).1
          rw [e] at this
          exact this
        · have : ((Ln.go n).s == Str.ofString "back") = false := by rcases fin3' n with rfl | rfl | rfl <;> decide +kernel
          rw [this] at hb; cases hb
        · have : ((Ln.call n).s == Str.ofString "back") = false := by rcases fin3' n with rfl | rfl | rfl <;> decide +kernel
          rw [this] at hb; cases hb
      simp only [List.map_cons, List.map_nil] at ad1 ad0 ad2 ad3
      cases h1 : (l.s == Str.ofString "back") with
      | false =>
        cases h2 : (v == Str.ofString "go") <;> cases h3 : (w == Str.ofString "call") <;> first
          | (rw [h1, h2, h3] at hor; exact absurd hor (by decide))
          | (simp?! [g__law_due_v2, kseq_def, seqK_nx, seqK_rt, resM_rt, eD, chn_def, ll, ec, ix, e1, i1, s4, s2, wm, h1, h2, h3, ld, n2, m1, m0, ad1, ad0, if_true, if_false, Bool.false_eq_true]; rfl)
      | true =>
        have sd := sd h1
        cases h2 : (v == Str.ofString "go") <;> cases h3 : (w == Str.ofString "call") <;>
          (simp?! [g__law_due_v2, kseq_def, seqK_nx, seqK_rt, resM_rt, eD, chn_def, ll, ec, ix, e1, i1, s4, s2, wm, h1, h2, h3, ld, n2, ng, sd, m1, m0, ad2, ad3, if_true, if_false, Bool.false_eq_true]; rfl)
  cases l with
  | stop =>
    have e1 : (Ln.stop.s == Str.ofString "stop") = true := by decide +kernel
    simp?! [g__law_due_v2, kseq_def, seqK_nx, seqK_rt, resM_rt, eD, chn_def, ll, ec, ix, e1]
    rfl
  | less => exact htest ix (.inl rfl)
  | same => exact htest ix (.inr (.inl rfl))
  | nought => exact htest ix (.inr (.inr rfl))
  | mark n =>
    have e1 : ((Ln.mark n).s == Str.ofString "stop") = false := by rcases fin3' n with rfl | rfl | rfl <;> decide +kernel
    have i1 : inD (.str (Ln.mark n).s) (.tup [.str "less", .str "same", .str "nought"]) = some (.bl false) := by rcases fin3' n with rfl | rfl | rfl <;> kernel_rfl
    have s4 : slD (.str (Ln.mark n).s) none (some 4) = some (.str "mark") := by rcases fin3' n with rfl | rfl | rfl <;> kernel_rfl
    simp?! [g__law_due_v2, kseq_def, seqK_nx, seqK_rt, resM_rt, eD, chn_def, ll, ec, ix, e1, i1, s4, beq_self_eq_true]
    rfl
  | back =>
    have := hlead "back" "ba" hl ix (.inl rfl) (by decide +kernel) (by kernel_rfl) (by kernel_rfl) (by kernel_rfl) (by decide +kernel) (by decide +kernel)
    rw [this]
    show (match cs.getLast? with | none => _ | some g => _ : Res D) = .ok (spD (match cs.getLast? with | none => (s, ⟨ln, cs⟩, .lost) | some g => (s, ⟨g, cs.dropLast⟩, .on)))
    cases cs.getLast? with
    | none => rfl
    | some g =>
      simp only
      rw [if_pos (by decide +kernel), if_neg (by decide +kernel), List.append_nil]
  | go n =>
    have := hlead (Ln.go n).s "go" hl ix (.inr (.inl ⟨n, rfl⟩)) (by rcases fin3' n with rfl | rfl | rfl <;> decide +kernel) (by rcases fin3' n with rfl | rfl | rfl <;> kernel_rfl) (by rcases fin3' n with rfl | rfl | rfl <;> kernel_rfl) (by rcases fin3' n with rfl | rfl | rfl <;> kernel_rfl) (by rcases fin3' n with rfl | rfl | rfl <;> decide +kernel) (by rcases fin3' n with rfl | rfl | rfl <;> decide +kernel)
    rw [this]
    show (match goalZ pr n with | none => _ | some g => _ : Res D) = .ok (spD (match goalZ pr n with | none => (s, ⟨ln, cs⟩, .lost) | some g => (s, ⟨g, cs⟩, .on)))
    cases goalZ pr n with
    | none => rfl
    | some g =>
      simp only
      rw [if_neg (by rcases fin3' n with rfl | rfl | rfl <;> decide +kernel), if_neg (by rcases fin3' n with rfl | rfl | rfl <;> decide +kernel), List.append_nil]
  | call n =>
    have := hlead "call" "ca" hl ix (.inr (.inr ⟨n, rfl⟩)) (by rcases fin3' n with rfl | rfl | rfl <;> decide +kernel) (by rcases fin3' n with rfl | rfl | rfl <;> kernel_rfl) (by rcases fin3' n with rfl | rfl | rfl <;> kernel_rfl) (by rcases fin3' n with rfl | rfl | rfl <;> kernel_rfl) (by decide +kernel) (by rcases fin3' n with rfl | rfl | rfl <;> decide +kernel)
    rw [this]
    show (match (if 3 < cs.length then none else goalZ pr n) with | none => _ | some g => _ : Res D) = .ok (spD (match goalZ pr n with | none => (s, ⟨ln, cs⟩, .lost) | some g => if cs.length = 4 then (s, ⟨ln, cs⟩, .lost) else (s, ⟨g, cs ++ [ln + 1]⟩, .on)))
    by_cases c4 : 3 < cs.length
    · rw [if_pos c4]
      cases goalZ pr n with
      | none => rfl
      | some g =>
        simp only
        rw [if_pos (show cs.length = 4 by omega)]
    · rw [if_neg c4]
      cases goalZ pr n with
      | none => rfl
      | some g =>
        simp only
        rw [if_neg (show ¬ cs.length = 4 by omega), if_neg (by rcases fin3' n with rfl | rfl | rfl <;> decide +kernel), if_pos (by decide +kernel)]
  | key k =>
    obtain ⟨w, v, s4, s2, wm, wc, vg, kb, ks, i1⟩ := ky_facts k
    have ix : ixP (.pro (pr.map Ln.s)) (.int ln) = some (.str k.s) := ix
    obtain ⟨q1, q2⟩ := x_lpress hs k (p := a)
    have op := x_lopen hs.ok (p := a)
    have key : g__law_due_v2 [.z (.pro (pr.map Ln.s)), .z s.D, .z (Pc.D ⟨ln, cs⟩), .u, .u, .u, .u, .u] a = kmk 6 1 d__law_open (acons (var 1) anil)
      (mseq (mcall 6 2 d__law_press (acons (var 5) anil))
      (mseq (mif 6 (tst (bop isNotN (tabix (var 6) (con (.str "odd"))) (con .non))) (mst 6 (sret (mkT (acons (callD 1 d__law_state (acons (var 6) anil)) (acons (var 2) (acons (con (.str "odd")) anil)))))) .nx)
      (mst 6 (sret (mkT (acons (callD 1 d__law_state (acons (var 6) anil)) (acons (mkT (acons (bop addD (var 3) (con (.int 1))) (acons (var 4) anil))) (acons (con (.str "on")) anil))))))))
      [.z (.pro (pr.map Ln.s)), .z s.D, .z (Pc.D ⟨ln, cs⟩), .z (.int ln), .z (.tup (cs.map D.int)), .z (.str k.s), .u, .u] a := by
      simp?! [g__law_due_v2, kseq_def, seqK_nx, seqK_rt, eD, chn_def, ll, ec, ix, ks, i1, s4, s2, wm, wc, vg, kb]
    rw [key, kmk_e (n := 1) (ds := [s.D]) rfl ⟨rfl, rfl, show 6 < 8 by decide⟩ op]
    rw [show ([.z (.pro (pr.map Ln.s)), .z s.D, .z (Pc.D ⟨ln, cs⟩), .z (.int ln), .z (.tup (cs.map D.int)), .z (.str k.s), .u, .u] : Rho).set 6 (.z (.adr a)) = [.z (.pro (pr.map Ln.s)), .z s.D, .z (Pc.D ⟨ln, cs⟩), .z (.int ln), .z (.tup (cs.map D.int)), .z (.str k.s), .z (.adr a), .u] from rfl]
    rw [mseq_def, mcall_def]
    rw [show acons (var 5) anil (lent 6 [.z (.pro (pr.map Ln.s)), .z s.D, .z (Pc.D ⟨ln, cs⟩), .z (.int ln), .z (.tup (cs.map D.int)), .z (.str k.s), .z (.adr a), .u] (stD s)) = .ok [.str k.s] from rfl]
    rw [show adrOf 6 [.z (.pro (pr.map Ln.s)), .z s.D, .z (Pc.D ⟨ln, cs⟩), .z (.int ln), .z (.tup (cs.map D.int)), .z (.str k.s), .z (.adr a), .u] = some a from rfl]
    rw [callM_ok (n := 2) rfl rfl q1, seqM_nx]
    show _ = Res.ok (spD (if (pressZ s k).od.isSome = true then (pressZ s k, ⟨ln, cs⟩, .odd) else (pressZ s k, ⟨ln + 1, cs⟩, .on)))
    generalize pressZ s k = s' at *
    have cs' : callD 1 d__law_state (acons (var 6) anil) (lent 6 [.z (.pro (pr.map Ln.s)), .z s.D, .z (Pc.D ⟨ln, cs⟩), .z (.int ln), .z (.tup (cs.map D.int)), .z (.str k.s), .z (.adr a), .u] (stD s')) = .ok s'.D := l_state (o := some a)
    have od : tst (bop isNotN (tabix (var 6) (con (.str "odd"))) (con .non)) (lent 6 [.z (.pro (pr.map Ln.s)), .z s.D, .z (Pc.D ⟨ln, cs⟩), .z (.int ln), .z (.tup (cs.map D.int)), .z (.str k.s), .z (.adr a), .u] (stD s')) = .ok s'.od.isSome := by
      obtain ⟨m, x, y, z, t, l, bx, en, lf, od⟩ := s'
      cases od with
      | none => rfl
      | some b => cases b <;> rfl
    rw [mseq_def, mif_def, od]
    cases ho : s'.od.isSome with
    | true =>
      rw [ifM_t, mst_def, sret_def, mkT_def, acons_def, cs', if_pos rfl]
      show resM (seqM (stM 6 (.rt (spD (s', ⟨ln, cs⟩, .odd))) _ _) _) = _
      rw [stM_rt (imm_sp _)]
      rfl
    | false =>
      rw [ifM_f, seqM_nx, mst_def, sret_def, mkT_def, acons_def, cs', if_neg (by decide)]
      show resM (stM 6 (.rt (spD (s', ⟨ln + 1, cs⟩, .on))) _ _) = _
      rw [stM_rt (imm_sp _)]
      rfl
/-! ### k32 -/
theorem ln_ok2 {pr : List Ln} {s : Sta} {p : Pc} (hs : s.Ok2) (l : Ln) : (lnZ pr s p l).1.Ok2 := by
  have o2 : Sta.Ok2 { s with en := none, lf := true } := ⟨⟨hs.ok.x, hs.ok.y, hs.ok.z, hs.ok.t, hs.ok.l, hs.ok.bl, hs.ok.b, fun e h => by cases h⟩, fun e h => by cases h⟩
  cases l with
  | stop => exact hs
  | key k =>
    have := (x_lpress hs k (p := 0)).2
    show (if _ then _ else _ : Sta × Pc × How).1.Ok2
    split
    · exact this
    · exact this
  | mark n => exact hs
  | go n =>
    show (match goalZ pr n with | none => _ | some g => _ : Sta × Pc × How).1.Ok2
    split <;> exact hs
  | call n =>
    show (match goalZ pr n with | none => _ | some g => _ : Sta × Pc × How).1.Ok2
    split
    · exact hs
    · split <;> exact hs
  | back =>
    show (match p.cs.getLast? with | none => _ | some g => _ : Sta × Pc × How).1.Ok2
    split <;> exact hs
  | less => exact o2
  | same => exact o2
  | nought => exact o2
theorem step_ok2 {pr : List Ln} {s : Sta} {p : Pc} (hs : s.Ok2) : (stepZ pr s p).1.Ok2 := by
  unfold stepZ
  split
  · exact ln_ok2 hs _
  · exact hs
theorem run_ok2 : ∀ (ks : List Ky) {s : Sta}, s.Ok2 → (runZ s ks).Ok2
  | [], _, h => h
  | k :: ks, _, h => run_ok2 ks (x_lpress h k (p := 0)).2
theorem plains_int (n : Nat) : ∀ (l : List Int), DN.plains (n + 1) (l.map D.int) = true
  | [] => rfl
  | a :: l => by
    show (DN.plain (n + 1) (.int a) && DN.plains (n + 1) (l.map D.int)) = true
    rw [plains_int n l]
    rfl
theorem sp_pl {r : Sta × Pc × How} (h : r.1.Ok) : DN.plain 64 (spD r) = true := by
  obtain ⟨s, ⟨ln, cs⟩, w⟩ := r
  have e1 := st_plain h 60
  have e2 : DN.plain 62 (.tup (cs.map D.int)) = true := plains_int 60 cs
  have e3 : DN.plain 63 (.str w.s) = true := by cases w <;> decide +kernel
  show (DN.plain 63 s.D && ((true && (DN.plain 62 (.tup (cs.map D.int)) && true)) && (DN.plain 63 (.str w.s) && true))) = true
  rw [e1, e2, e3]
  rfl
theorem b_32 {pr : List Ln} {s : Sta} {p : Pc} (hs : s.Ok2) (hp : p.Ok) {a b k t du : En} : ∃ du', b2_law [a, b, .z s.D, .z (.pro (pr.map Ln.s)), .z (.int p.ln), .z (.tup (p.cs.map D.int)), k, t, du] = .nx [a, b, .z (stepZ pr s p).1.D, .z (.pro (pr.map Ln.s)), .z (.int (stepZ pr s p).2.1.ln), .z (.tup ((stepZ pr s p).2.1.cs.map D.int)), k, t, du'] := by
  have d1 := x_ldue (pr := pr) hs hp
  have d2 := x_step (pr := pr) hs.ok hp
  have eD : p.D = .tup [.int p.ln, .tup (p.cs.map D.int)] := rfl
  rw [eD] at d1 d2
  have ne := ne_same (sp_pl (step_ok2 (pr := pr) (p := p) hs).ok)
  generalize stepZ pr s p = r at *
  obtain ⟨s', ⟨l', c'⟩, w⟩ := r
  have eS : spD (s', ⟨l', c'⟩, w) = .tup [s'.D, .tup [.int l', .tup (c'.map D.int)], .str w.s] := rfl
  rw [eS] at d1 d2 ne
  refine ⟨.z (.tup [s'.D, .tup [.int l', .tup (c'.map D.int)], .str w.s]), ?_⟩
  simp?! [b2_law, d1, d2, ne]
theorem law_true (ns : List Int) (h : ns.length ≤ 63) (hz : ∀ z ∈ ns, Builtin.Int.intBits z ≤ 1048576) : d_law [.arr ns] = .ok (.bl true) := by
  obtain ⟨m0, e0, g0, g1⟩ := x_mixed (ns := ns) (k := 0) (by omega) (by omega)
  obtain ⟨m1, e1, _, _⟩ := x_mixed (ns := ns) (k := 1) (by omega) (by omega)
  obtain ⟨m2, e2, _, _⟩ := x_mixed (ns := ns) (k := 2) (by omega) (by omega)
  obtain ⟨m3, e3, _, _⟩ := x_mixed (ns := ns) (k := 3) (by omega) (by omega)
  obtain ⟨m, em⟩ := x_manner (n := m0)
  obtain ⟨k1, a1, a2⟩ := x_lrow (n := m1) (k := m0 / 5 % 21) (by omega) (by omega)
  obtain ⟨pr, p1, p2⟩ := x_lpro (n := m2) (m := 30) (by decide) (by decide)
  have ob : (beginZ m).Ok2 := ⟨begin_ok m, fun e he => by cases he⟩
  have o0 := run_ok2 k1 ob
  have r0 := x_run (begin_ok m) k1
  generalize runZ (beginZ m) k1 = s0 at *
  have ll : lenP [.pro (pr.map Ln.s)] = some (.int (pr.length : Int)) := by
    show some (D.int ((pr.map Ln.s).length : Int)) = _
    rw [List.length_map]
  have md := mod_p (i := m3) (show (0 : Int) < (pr.length : Int) + 2 by omega)
  generalize m3 % ((pr.length : Int) + 2) = line at *
  have key : d_law [.arr ns] = finR (t4_law [.z (.arr ns), .z (.int m0), .z s0.D, .z (.pro (pr.map Ln.s)), .z (.int line), .u, .u, .u, .u]) := by
    simp?! [v_law, g_law, t1_law, t2_law, t3_law, e0, e1, e2, e3, em, x_begin, a2, r0, p2, ll, md]
  rw [key]
  obtain ⟨n5, hn5⟩ : ∃ n5, n5 = m0 / 128 % 5 := ⟨_, rfl⟩
  have q : acons (bop modD (bop divD (var 1) (con (.int 128))) (con (.int 5))) anil [.z (.arr ns), .z (.int m0), .z s0.D, .z (.pro (pr.map Ln.s)), .z (.int line), .u, .u, .u, .u] = .ok [.int n5] := by simp?! [← hn5]
  have e := rng1_eq q (by omega) (by omega)
  obtain ⟨cs, l1, l2⟩ := comp_map (f := D.int) (i := 6) (e := e1_law) (ρ := [.z (.arr ns), .z (.int m0), .z s0.D, .z (.pro (pr.map Ln.s)), .z (.int line), .u, .u, .u, .u]) (rngD 0 n5.toNat) (by
    intro d hd
    obtain ⟨j, hj, rfl⟩ := rngD_mem hd
    obtain ⟨dr, d1, d2, d3⟩ := x_drawn (n := m0) (k := (j : Int)) (by omega) (by omega)
    exact ⟨dr / 4 % 31, by simp?! [e1_law, d1]⟩)
  rw [rngD_len] at l1
  have lc := lc_eq (t := yes) (e := e1_law) (i := 6) e (by rw [rngD_len]; omega) l2
  have tp : tupD [.lst (cs.map D.int)] = some (.tup (cs.map D.int)) := rfl
  have key2 : finR (t4_law [.z (.arr ns), .z (.int m0), .z s0.D, .z (.pro (pr.map Ln.s)), .z (.int line), .u, .u, .u, .u]) = finR (t5_law [.z (.arr ns), .z (.int m0), .z s0.D, .z (.pro (pr.map Ln.s)), .z (.int line), .z (.tup (cs.map D.int)), .u, .u, .u]) := by
    simp?! [t4_law, lc, tp]
  rw [key2]
  have op : Pc.Ok ⟨line, cs⟩ := ⟨by show cs.length ≤ 4; omega⟩
  have q3 : acons (con (.int 3)) anil [.z (.arr ns), .z (.int m0), .z s0.D, .z (.pro (pr.map Ln.s)), .z (.int line), .z (.tup (cs.map D.int)), .u, .u, .u] = .ok [.int 3] := rfl
  have e3' := rng1_eq q3 (by decide) (by decide)
  have rg : rngD 0 (3 : Int).toNat = [.int 0, .int 1, .int 2] := rfl
  rw [rg] at e3'
  have o1 := step_ok2 (pr := pr) (p := ⟨line, cs⟩) o0
  have p1' := (step_ok (pr := pr) o0.ok op).2
  obtain ⟨u1, b1⟩ := b_32 (pr := pr) o0 op (a := .z (.arr ns)) (b := .z (.int m0)) (k := .u) (t := .z (.int 0)) (du := .u)
  generalize stepZ pr s0 ⟨line, cs⟩ = r1 at *
  have o2 := step_ok2 (pr := pr) (p := r1.2.1) o1
  have p2' := (step_ok (pr := pr) o1.ok p1').2
  obtain ⟨u2, b2⟩ := b_32 (pr := pr) o1 p1' (a := .z (.arr ns)) (b := .z (.int m0)) (k := .u) (t := .z (.int 1)) (du := u1)
  generalize stepZ pr r1.1 r1.2.1 = r2 at *
  obtain ⟨u3, b3⟩ := b_32 (pr := pr) o2 p2' (a := .z (.arr ns)) (b := .z (.int m0)) (k := .u) (t := .z (.int 2)) (du := u2)
  generalize stepZ pr r2.1 r2.2.1 = r3 at *
  have lp : loopD (gn 7) b2_law [.int 0, .int 1, .int 2] [.z (.arr ns), .z (.int m0), .z s0.D, .z (.pro (pr.map Ln.s)), .z (.int line), .z (.tup (cs.map D.int)), .u, .u, .u] = .nx [.z (.arr ns), .z (.int m0), .z r3.1.D, .z (.pro (pr.map Ln.s)), .z (.int r3.2.1.ln), .z (.tup (r3.2.1.cs.map D.int)), .u, .z (.int 2), u3] := by
    rw [loop_cons (ρ1 := [.z (.arr ns), .z (.int m0), .z s0.D, .z (.pro (pr.map Ln.s)), .z (.int line), .z (.tup (cs.map D.int)), .u, .z (.int 0), .u]) rfl b1]
    rw [loop_cons (ρ1 := [.z (.arr ns), .z (.int m0), .z r1.1.D, .z (.pro (pr.map Ln.s)), .z (.int r1.2.1.ln), .z (.tup (r1.2.1.cs.map D.int)), .u, .z (.int 1), u1]) rfl b2]
    rw [loop_cons (ρ1 := [.z (.arr ns), .z (.int m0), .z r2.1.D, .z (.pro (pr.map Ln.s)), .z (.int r2.2.1.ln), .z (.tup (r2.2.1.cs.map D.int)), .u, .z (.int 2), u2]) rfl b3]
    exact loop_nil
  simp?! [t5_law, t6_law, e3', lp]
theorem run (w : World) : HandSHeadRun.RunEq R (PySem.W.view R.prog [78]) hk ob 5000 names w := PySem.W.byRow2 "special-get-raises" (P := fun w => HandSHeadRun.RunEq R (PySem.W.view R.prog [78]) hk ob 5000 names w) run_f run_t w
theorem top_of {w : World} {K : PySem.W.Frag} {h : Heap} {mg : Str → Option Value} (X : K.In h) (G : h.Ns mainGlobals mg) (c : He.SaysX fa fn ts tf ex w h K) : Top w K mg :=
  ⟨(c.t.d.def_ 0 (d := dd_ten) rfl),
   (He.glo_ok X G (c.t.d.fact 0 (f := .glo "ten") rfl)),
   (c.t.d.def_ 1 (d := dd_figures_of) rfl),
   (He.glo_ok X G (c.t.d.fact 1 (f := .glo "figures_of") rfl)),
   (c.t.d.def_ 2 (d := dd_height) rfl),
   (He.glo_ok X G (c.t.d.fact 2 (f := .glo "height") rfl)),
   (c.t.d.def_ 3 (d := dd_taken) rfl),
   (He.glo_ok X G (c.t.d.fact 3 (f := .glo "taken") rfl)),
   (c.t.d.def_ 4 (d := dd_by_size) rfl),
   (He.glo_ok X G (c.t.d.fact 4 (f := .glo "by_size") rfl)),
   (c.t.d.def_ 5 (d := dd_fitted) rfl),
   (He.glo_ok X G (c.t.d.fact 5 (f := .glo "fitted") rfl)),
   (c.t.d.def_ 6 (d := dd_power_for) rfl),
   (He.glo_ok X G (c.t.d.fact 6 (f := .glo "power_for") rfl)),
   (c.t.d.def_ 7 (d := dd_exact) rfl),
   (He.glo_ok X G (c.t.d.fact 7 (f := .glo "exact") rfl)),
   (c.t.d.def_ 8 (d := dd_level) rfl),
   (He.glo_ok X G (c.t.d.fact 8 (f := .glo "level") rfl)),
   (c.t.d.def_ 9 (d := dd_of_power) rfl),
   (He.glo_ok X G (c.t.d.fact 9 (f := .glo "of_power") rfl)),
   (c.t.d.def_ 10 (d := dd_plus) rfl),
   (He.glo_ok X G (c.t.d.fact 10 (f := .glo "plus") rfl)),
   (c.t.d.def_ 11 (d := dd_turned) rfl),
   (He.glo_ok X G (c.t.d.fact 11 (f := .glo "turned") rfl)),
   (c.t.d.def_ 12 (d := dd_minus) rfl),
   (He.glo_ok X G (c.t.d.fact 12 (f := .glo "minus") rfl)),
   (c.t.d.def_ 13 (d := dd_times) rfl),
   (He.glo_ok X G (c.t.d.fact 13 (f := .glo "times") rfl)),
   (c.t.d.def_ 14 (d := dd_over) rfl),
   (He.glo_ok X G (c.t.d.fact 14 (f := .glo "over") rfl)),
   (c.t.d.def_ 15 (d := dd_less) rfl),
   (He.glo_ok X G (c.t.d.fact 15 (f := .glo "less") rfl)),
   (c.t.d.def_ 16 (d := dd_whole_root) rfl),
   (He.glo_ok X G (c.t.d.fact 16 (f := .glo "whole_root") rfl)),
   (c.t.d.def_ 17 (d := dd_root) rfl),
   (He.glo_ok X G (c.t.d.fact 17 (f := .glo "root") rfl)),
   (c.t.d.def_ 18 (d := dd_is_key) rfl),
   (He.glo_ok X G (c.t.d.fact 18 (f := .glo "is_key") rfl)),
   (c.t.d.def_ 19 (d := dd_begin) rfl),
   (He.glo_ok X G (c.t.d.fact 19 (f := .glo "begin") rfl)),
   (c.t.d.def_ 20 (d := dd_told_by) rfl),
   (He.glo_ok X G (c.t.d.fact 20 (f := .glo "told_by") rfl)),
   (c.t.d.def_ 21 (d := dd_lifted) rfl),
   (He.glo_ok X G (c.t.d.fact 21 (f := .glo "lifted") rfl)),
   (c.t.d.def_ 22 (d := dd_if_due) rfl),
   (He.glo_ok X G (c.t.d.fact 22 (f := .glo "if_due") rfl)),
   (c.t.d.def_ 23 (d := dd_typed) rfl),
   (He.glo_ok X G (c.t.d.fact 23 (f := .glo "typed") rfl)),
   (c.t.d.def_ 24 (d := dd_signed) rfl),
   (He.glo_ok X G (c.t.d.fact 24 (f := .glo "signed") rfl)),
   (c.t.d.def_ 25 (d := dd_told_of) rfl),
   (He.glo_ok X G (c.t.d.fact 25 (f := .glo "told_of") rfl)),
   (c.t.d.def_ 26 (d := dd_with_deed) rfl),
   (He.glo_ok X G (c.t.d.fact 26 (f := .glo "with_deed") rfl)),
   (c.t.d.def_ 27 (d := dd_with_box) rfl),
   (He.glo_ok X G (c.t.d.fact 27 (f := .glo "with_box") rfl)),
   (c.t.d.def_ 28 (d := dd_moved) rfl),
   (He.glo_ok X G (c.t.d.fact 28 (f := .glo "moved") rfl)),
   (c.t.d.def_ 29 (d := dd_pressed) rfl),
   (He.glo_ok X G (c.t.d.fact 29 (f := .glo "pressed") rfl)),
   (c.t.d.def_ 30 (d := dd_run) rfl),
   (He.glo_ok X G (c.t.d.fact 30 (f := .glo "run") rfl)),
   (c.t.d.def_ 31 (d := dd_behind_mark) rfl),
   (He.glo_ok X G (c.t.d.fact 31 (f := .glo "behind_mark") rfl)),
   (c.t.d.def_ 32 (d := dd_is_so) rfl),
   (He.glo_ok X G (c.t.d.fact 32 (f := .glo "is_so") rfl)),
   (c.t.d.def_ 33 (d := dd_led) rfl),
   (He.glo_ok X G (c.t.d.fact 33 (f := .glo "led") rfl)),
   (c.t.d.def_ 34 (d := dd_step) rfl),
   (He.glo_ok X G (c.t.d.fact 34 (f := .glo "step") rfl)),
   (c.t.d.def_ 35 (d := dd__law_cell_at) rfl),
   (He.glo_ok X G (c.t.d.fact 35 (f := .glo "_law_cell_at") rfl)),
   (c.t.d.def_ 36 (d := dd__law_mixed) rfl),
   (He.glo_ok X G (c.t.d.fact 36 (f := .glo "_law_mixed") rfl)),
   (c.t.d.def_ 37 (d := dd__law_drawn) rfl),
   (He.glo_ok X G (c.t.d.fact 37 (f := .glo "_law_drawn") rfl)),
   (c.t.d.def_ 38 (d := dd__law_ten) rfl),
   (He.glo_ok X G (c.t.d.fact 38 (f := .glo "_law_ten") rfl)),
   (c.t.d.def_ 39 (d := dd__law_height) rfl),
   (He.glo_ok X G (c.t.d.fact 39 (f := .glo "_law_height") rfl)),
   (c.t.d.def_ 40 (d := dd__law_tidy) rfl),
   (He.glo_ok X G (c.t.d.fact 40 (f := .glo "_law_tidy") rfl)),
   (c.t.d.def_ 41 (d := dd__law_exact) rfl),
   (He.glo_ok X G (c.t.d.fact 41 (f := .glo "_law_exact") rfl)),
   (c.t.d.def_ 42 (d := dd__law_manner) rfl),
   (He.glo_ok X G (c.t.d.fact 42 (f := .glo "_law_manner") rfl)),
   (c.t.d.def_ 43 (d := dd__law_deed) rfl),
   (He.glo_ok X G (c.t.d.fact 43 (f := .glo "_law_deed") rfl)),
   (c.t.d.def_ 44 (d := dd__law_state) rfl),
   (He.glo_ok X G (c.t.d.fact 44 (f := .glo "_law_state") rfl)),
   (c.t.d.def_ 45 (d := dd__law_push) rfl),
   (He.glo_ok X G (c.t.d.fact 45 (f := .glo "_law_push") rfl)),
   (c.t.d.def_ 46 (d := dd__law_end) rfl),
   (He.glo_ok X G (c.t.d.fact 46 (f := .glo "_law_end") rfl)),
   (c.t.d.def_ 47 (d := dd__law_typed) rfl),
   (He.glo_ok X G (c.t.d.fact 47 (f := .glo "_law_typed") rfl)),
   (c.t.d.def_ 48 (d := dd__law_reckoned) rfl),
   (He.glo_ok X G (c.t.d.fact 48 (f := .glo "_law_reckoned") rfl)),
   (c.t.d.def_ 49 (d := dd__law_press) rfl),
   (He.glo_ok X G (c.t.d.fact 49 (f := .glo "_law_press") rfl)),
   (c.t.d.def_ 50 (d := dd__law_key) rfl),
   (He.glo_ok X G (c.t.d.fact 50 (f := .glo "_law_key") rfl)),
   (c.t.d.def_ 51 (d := dd__law_row) rfl),
   (He.glo_ok X G (c.t.d.fact 51 (f := .glo "_law_row") rfl)),
   (c.t.d.def_ 52 (d := dd__law_line) rfl),
   (He.glo_ok X G (c.t.d.fact 52 (f := .glo "_law_line") rfl)),
   (c.t.d.def_ 53 (d := dd__law_program) rfl),
   (He.glo_ok X G (c.t.d.fact 53 (f := .glo "_law_program") rfl)),
   (c.t.d.def_ 54 (d := dd__law_open) rfl),
   (He.glo_ok X G (c.t.d.fact 54 (f := .glo "_law_open") rfl)),
   (c.t.d.def_ 55 (d := dd__law_led) rfl),
   (He.glo_ok X G (c.t.d.fact 55 (f := .glo "_law_led") rfl)),
   (c.t.d.def_ 56 (d := dd__law_holds) rfl),
   (He.glo_ok X G (c.t.d.fact 56 (f := .glo "_law_holds") rfl)),
   (c.t.d.def_ 57 (d := dd__law_due) rfl),
   (He.glo_ok X G (c.t.d.fact 57 (f := .glo "_law_due") rfl)),
   (c.t.d.def_ 58 (d := dd_law) rfl),
   (He.glo_ok X G (c.t.d.fact 58 (f := .glo "law") rfl)),
   (He.free_ok X G (c.t.d.fact 59 (f := .free "int") rfl)),
   (He.free_ok X G (c.t.d.fact 60 (f := .free "abs") rfl)),
   (He.free_ok X G (c.t.d.fact 61 (f := .free "str") rfl)),
   (He.free_ok X G (c.t.d.fact 62 (f := .free "len") rfl)),
   (He.free_ok X G (c.t.d.fact 63 (f := .free "max") rfl)),
   (He.free_ok X G (c.t.d.fact 64 (f := .free "min") rfl)),
   (He.free_ok X G (c.t.d.fact 65 (f := .free "isinstance") rfl)),
   (He.free_ok X G (c.t.d.fact 66 (f := .free "range") rfl)),
   (He.free_ok X G (c.t.d.fact 67 (f := .free "tuple") rfl)),
   (He.free_ok X G (c.t.d.fact 68 (f := .free "dict") rfl)),
   (He.free_ok X G (c.t.d.fact 69 (f := .free "list") rfl)),
   (He.free_ok X G (c.t.d.fact 70 (f := .free "zip") rfl)),
   (He.int_ok X G (c.t.d.fact 71 (f := .int "HIGHEST" (40)) rfl)),
   (He.int_ok X G (c.t.d.fact 72 (f := .int "MOST" (8)) rfl)),
   (He.int_ok X G (c.t.d.fact 73 (f := .int "BOXES" (10)) rfl)),
   (He.int_ok X G (c.t.d.fact 74 (f := .int "MOST_CALLS" (4)) rfl)),
   (He.str_ok X G (c.t.d.fact 75 (f := .str "FIGURES" "0123456789") rfl)),
   (He.glo_ok X G (c.t.d.fact 76 (f := .glo "PLAIN_KEYS") rfl)),
   (fun H => tup_strs (He.tupB_ok (He.ba c.more).1 H)),
   (He.glo_ok X G (c.t.d.fact 77 (f := .glo "ZERO") rfl)),
   (fun H => tup_ints (He.tupB_ok (He.ba (He.ba c.more).2).1 H)),
   (dic_f X G (tab_eq c.t 0 (t := ((fun K => He.ga K "DEEDS"), ["plus", "minus", "times", "over"])) rfl) (He.ba (He.ba (He.ba c.more).2).2).1 (c.t.d.fact 78 (f := .glo "DEEDS") rfl)),
   (⟨He.glo_ok X G (c.t.d.fact 79 (f := .glo "NoDeed") rfl), He.glo_ok X G (c.t.d.fact 80 (f := .glo "TooGreat") rfl), He.exm_ok (c.t.d.fact 81 (f := .exm "NoDeed" "NoDeed" true) rfl), by rw [He.exm_ok (c.t.d.fact 82 (f := .exm "TooGreat" "NoDeed" false) rfl)]; decide +kernel, He.exm_ok (c.t.d.fact 83 (f := .exm "TooGreat" "TooGreat" true) rfl)⟩),
   (exc_n X G (c.t.d.fact 80 (f := .glo "TooGreat") rfl) (c.t.d.fact 84 (f := .exc "TooGreat") rfl)),
   (exc_n X G (c.t.d.fact 79 (f := .glo "NoDeed") rfl) (c.t.d.fact 85 (f := .exc "NoDeed") rfl)),
   (exc_n X G (c.t.d.fact 86 (f := .glo "NoKey") rfl) (c.t.d.fact 87 (f := .exc "NoKey") rfl))⟩
theorem law_end {l : PySem.W.OpenLaw} {w : World} {K : PySem.W.Frag} {h : Heap} {mg : Str → Option Value} {f : Addr} (X : K.In h) (G : h.Ns mainGlobals mg) (hfa : mg ("law" : Str) = some (.ref f)) (c : He.SaysX fa fn ts tf ex w h K) : LamX.LawAtS l w K (L2.CX l.prog w) 12 63 "script" mg f h := by
  have Z := top_of X G c
  have e := hfa.symm.trans Z.m_law
  cases e
  obtain ⟨fd, Fd⟩ := Z.f_law
  have b := FunD.bindsA (ps := ["script"]) Fd fun _ _ _ _ _ _ us hl => match us, hl with | [_], _ => rfl
  refine lawAt0 (fd := fd) (den := d_law) (fun s v => b s [v] rfl) law_true fun base h1 h2 => ?_
  exact law_fn Z Fd
end LW
open PySem PySem.W PySem.Calls PyProof.Rows
set_option maxRecDepth 100000 in
set_option maxHeartbeats 0 in
theorem PySem.Challenge.cw_pocketpile_k32_whole_steps_holds : PySem.Challenge.rw_pocketpile_k32_whole_steps.Holds := by
  w_on; o_law
  refine HandSHeadRun.head_any (r := OpenLaw.row PySem.Challenge.rw_pocketpile_k32_whole_steps) (q := view (OpenLaw.row PySem.Challenge.rw_pocketpile_k32_whole_steps).prog [78]) (H := LW.hk) (ob := LW.ob) (M := 5000) (loose := LW.names) (d := HandSHeadRun.topDef (OpenLaw.row PySem.Challenge.rw_pocketpile_k32_whole_steps).prog 78) (kwd := []) LW.ob_eq
    (by kernel_rfl) (fun s => by kernel_rfl) LW.run (by kernel_rfl) (by kernel_rfl) (by kernel_rfl) (by rfl) (by first | assumption | decide +kernel) (by decide +kernel) ⟨rfl, rfl, rfl, rfl, rfl, by decide +kernel⟩ ?hw ?hc
  case hw => w_witness2
  case hc =>
    refine LamX.walk_ofTsE (l := PySem.Challenge.rw_pocketpile_k32_whole_steps) (n := 63) (k := 12) (x := "script") (CX := fun w => L2.CX (PySem.Challenge.rw_pocketpile_k32_whole_steps).prog w) rfl (by decide) (by kernel_rfl) ⟨rfl, by decide, by decide⟩ ?F (fun _ _ _ _ _ z => DN.cx_false z)
    intro w mg fa h Y G hmg0
    obtain ⟨K, KX, c⟩ := Y
    have hmg : mg ("law" : PySem.Str) = some (.ref fa) := by
      have e : (HandSHeadRun.topDef (OpenLaw.row PySem.Challenge.rw_pocketpile_k32_whole_steps).prog 78).name = ("law" : PySem.Str) := by kernel_rfl
      rw [← e]
      exact hmg0
    exact ⟨K, KX, LW.law_end (l := PySem.Challenge.rw_pocketpile_k32_whole_steps) KX G hmg c⟩
