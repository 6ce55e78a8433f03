import PyProof.Rows.All
import Wide.All
import OpenK.AllK
import Wide.FinOn
import KE.KStateDown
import HandS.ForMost
import HandS.Exc
import HandS.ExcOwn
import HandS.ExcInit
import HandS.ExcField
import HandS.ExcIs
import HandS.ExcCtx
import HandS.Hot
import HandS.HotCalls
import HandS.TryMany
import HandS.TryOnly
import HandS.Wide
import HandS.IsInst
import HandS.Flow
import HandS.Conv
import HandS.Zip
import HandS.TupAny
import HandS.SetFor
import HandS.Defaults
import HandS.Evl
import HandS.ListItems
import HandS.Head0
import HandS.Head1
import HandS.Head2
import HandS.HeadEnd
import HandS.HeadHook1
import HandS.HeadHook2
import HandS.Walk
import KE.KExcIs
import PySem.Challenge.RW_rolldiscs_k51_whole_plain_sums
set_option Elab.async false
set_option linter.all false
set_option maxRecDepth 100000
set_option maxHeartbeats 4000000
namespace RD
open PySem PySem.Spec PyProof.Rows L2 L2H HotX
def top (i : Nat) : Stmt := PySem.Challenge.pw_rolldiscs_k51_whole_plain_sums.main.body.getD i (.Pass ⟨0, 0, 0, 0⟩)
abbrev s_Ring_init : Stmt := inClass (top 5) 0
abbrev s_Stopped_init : Stmt := inClass (top 10) 0
abbrev s_is_whole : Stmt := top 21
abbrev s_shared : Stmt := top 22
abbrev s_is_number : Stmt := top 23
abbrev s_fraction : Stmt := top 24
abbrev s_plus : Stmt := top 25
abbrev s_times : Stmt := top 26
abbrev s_is_above : Stmt := top 27
abbrev s_is_shaft : Stmt := top 30
abbrev s_is_row : Stmt := top 31
abbrev s_is_source : Stmt := top 32
abbrev s_are_rows : Stmt := top 33
abbrev s_drives_of : Stmt := top 34
abbrev s_may_stand : Stmt := top 35
abbrev s_order_of : Stmt := top 36
abbrev s_ring_of : Stmt := top 37
abbrev s_look_machine : Stmt := top 38
abbrev s_move_of : Stmt := top 40
abbrev s_is_beyond : Stmt := top 41
abbrev s_is_long : Stmt := top 42
abbrev s_Bench_init : Stmt := inClass (top 43) 0
abbrev s_Bench_stand : Stmt := inClass (top 43) 1
abbrev s_Bench_stands : Stmt := inClass (top 43) 2
abbrev s_Bench_machine : Stmt := inClass (top 43) 3
abbrev s_Bench_moved : Stmt := inClass (top 43) 4
abbrev s_Bench_keep : Stmt := inClass (top 43) 5
abbrev s_Bench_moves_by : Stmt := inClass (top 43) 6
abbrev s_Bench_click : Stmt := inClass (top 43) 7
abbrev s_Bench_want_out : Stmt := inClass (top 43) 8
abbrev s_Bench_out : Stmt := inClass (top 43) 9
abbrev s_Bench_into : Stmt := inClass (top 43) 10
abbrev s_Bench_put : Stmt := inClass (top 43) 11
abbrev s_Bench_wire : Stmt := inClass (top 43) 12
abbrev s_Bench_gear : Stmt := inClass (top 43) 13
abbrev s_Bench_ends : Stmt := inClass (top 43) 14
abbrev s_Bench_undo : Stmt := inClass (top 43) 15
abbrev s_Bench_deeds : Stmt := inClass (top 43) 16
abbrev s_L_bag : Stmt := top 45
abbrev s_L_take : Stmt := top 46
abbrev s_L_low : Stmt := top 47
abbrev s_L_add : Stmt := top 48
abbrev s_L_mul : Stmt := top 49
abbrev s_L_number : Stmt := top 50
abbrev s_L_turned : Stmt := top 51
abbrev s_L_machine : Stmt := top 52
abbrev s_L_whole : Stmt := top 53
abbrev s_L_is_number : Stmt := top 54
abbrev s_L_same : Stmt := top 55
abbrev s_L_alone : Stmt := top 56
abbrev s_L_refusal : Stmt := top 57
abbrev s_L_said : Stmt := top 58
abbrev s_L_got : Stmt := top 59
abbrev s_L_any_row : Stmt := top 60
abbrev s_L_any_deed : Stmt := top 61
abbrev s_L_all_told : Stmt := top 62
abbrev s_L_moved : Stmt := top 63
abbrev s_L_behind : Stmt := top 64
abbrev s_L_known : Stmt := top 65
abbrev s_L_done : Stmt := top 66
abbrev s_law : Stmt := top 67
def kinds : List Str := ["NoFraction", "NoSeries", "NoMachine", "Ring", "NoRoom", "NotEven", "NotLean", "Held", "Stopped", "TooFar", "NoGear", "NoDeed", "NoText", "NoSaying", "NoName", "NoBench", "TooMany"]
def raised : List Str := ["NoMachine", "Ring", "Held", "Stopped", "TooFar", "NoGear", "NoDeed"]
def oexB (K : PySem.W.Frag) (C : Addr) : Bool := (match K.lookup C with
  | some ⟨.type "type", _, .cls cd, sl⟩ => (match cd.mro, sl.toList with
    | .ref C' :: bm, [_, _, _, _, some (.builtin n), _] => C' == C && n == "ValueError.__new__" && cd.hasDict && !cd.hasDel && PySem.HandSPX.refsVE bm
    | _, _ => false)
  | _ => false) && (He.eqO (PySem.W.findIn K (.ref C) "__setattr__") (some (some (.builtin "object.__setattr__"))) && (decide (PySem.W.subIn K (.ref C) (.type "BaseException") = some true) && (decide (PySem.W.typeIn K (.ref C) = some (.type "type")) && PySem.W.keepIn K (.ref C))))
def excB (K : PySem.W.Frag) (D : Addr) : Bool := He.eqO (PySem.W.findIn K (.ref D) "__getattribute__") (some (some (.builtin "BaseException.__getattribute__"))) && (He.eqO (PySem.W.findIn K (.ref D) "__getattr__") (some none) && (decide (PySem.W.subIn K (.ref D) (.type "BaseException") = some true) && (PySem.W.hasDictIn K D &&
  (He.eqO (PySem.W.findIn K (.ref D) "__class__") (some (some (.builtin "object.__class__"))) && (He.eqO (PySem.W.specialIn K (.builtin "object.__class__") "__get__") (some (some (.builtin "getset_descriptor.__get__"))) && (decide (PySem.W.takesIn K (.builtin "object.__class__") = some true) && decide (PySem.W.mroIn K D (.type "object") = some true)))))))
def exmB (K : PySem.W.Frag) (x y : Str) (b : Bool) : Bool := (He.Fa.glo y).ok K && decide (PySem.W.exmOne K (.ref (He.ga K x)) (.ref (He.ga K y)) = some b)
def erB (K : PySem.W.Frag) (x : Str) : Bool := (He.Fa.glo x).ok K && (excB K (He.ga K x) && ((kinds.all fun y => (He.Fa.glo y).ok K && decide (PySem.W.kitOne K (.ref (He.ga K x)) (.ref (He.ga K y)) = some (decide (y = x)))) &&
  (decide (PySem.W.kitOne K (.ref (He.ga K x)) (.type "ValueError") = some true) && (exmB K x "Stopped" (decide (x = "Stopped")) && (exmB K x "Ring" (decide (x = "Ring")) && (exmB K x "RollError" true && (He.Fa.free "ValueError").ok K))))))
def iniB (K : PySem.W.Frag) (x f : Str) : Bool := oexB K (He.ga K x) && ((He.Fa.glo x).ok K && (He.eqO (PySem.W.findIn K (.ref (He.ga K x)) "__init__") (some (some (.ref (He.ma K (He.ga K x) "__init__")))) && (decide (PySem.W.typeIn K (.ref (He.ma K (He.ga K x) "__init__")) = some (.type "function")) && He.eqO (PySem.W.findIn K (.ref (He.ga K x)) f) (some none))))
/-- all of it -/
def chk (K : PySem.W.Frag) : Bool := (raised.all fun x => erB K x) && (iniB K "Stopped" "shaft" && (iniB K "Ring" "ring" && He.tupB K "NOUGHT" [.int 0, .int 1]))
def obsC (fa : List He.Fa) (fn : List He.DefD) (K : PySem.W.Frag) : He.AlD := ((He.obsD fa fn K).1 && chk K, (He.obsD fa fn K).2)
def hookC (n : Nat) (fa : List He.Fa) (fn : List He.DefD) : PySem.W.Hook where
  α := He.AlD
  obs := fun s => obsC fa fn (He.frG s.heap.get? (He.asD s.heap.get? n))
  val := fun _ => He.valD fn
  says := fun _ h => ∃ K : PySem.W.Frag, K.In h ∧ He.SaysD fa fn K ∧ chk K = true
  of := fun _ _ e => ⟨_, He.frG_in, by
    have e1 := congrArg (fun z : He.AlD => z.1) e
    have e2 := congrArg (fun z : He.AlD => z.2) e
    obtain ⟨a, b⟩ := He.ba e1
    exact ⟨Prod.ext a e2, b⟩⟩
  keeps := fun _ _ _ ⟨K, hK, c⟩ k => ⟨K, PySem.W.Frag.In.keeps hK k, c⟩
theorem obsC_eq {n : Nat} {fa : List He.Fa} {fn : List He.DefD} {g : Addr → Option Obj} {s : Shared} (h : ∀ a, g a = s.heap.get? a) : obsC fa fn (He.frG g (He.asD g n)) = (hookC n fa fn).obs s := by
  have e : g = s.heap.get? := funext h
  rw [e] <;> rfl
section
set_option maxHeartbeats 0
def d_Ring_init : He.DefD := ⟨("Ring", some "__init__"), "__init__", "Ring.__init__", defArgs s_Ring_init, defBody s_Ring_init, defScope s_Ring_init, [], []⟩
def d_Stopped_init : He.DefD := ⟨("Stopped", some "__init__"), "__init__", "Stopped.__init__", defArgs s_Stopped_init, defBody s_Stopped_init, defScope s_Stopped_init, [], []⟩
def d_is_whole : He.DefD := ⟨("is_whole", none), "is_whole", "is_whole", defArgs s_is_whole, defBody s_is_whole, defScope s_is_whole, [], []⟩
def d_shared : He.DefD := ⟨("shared", none), "shared", "shared", defArgs s_shared, defBody s_shared, defScope s_shared, [], []⟩
def d_is_number : He.DefD := ⟨("is_number", none), "is_number", "is_number", defArgs s_is_number, defBody s_is_number, defScope s_is_number, [], []⟩
def d_fraction : He.DefD := ⟨("fraction", none), "fraction", "fraction", defArgs s_fraction, defBody s_fraction, defScope s_fraction, [], []⟩
def d_plus : He.DefD := ⟨("plus", none), "plus", "plus", defArgs s_plus, defBody s_plus, defScope s_plus, [], []⟩
def d_times : He.DefD := ⟨("times", none), "times", "times", defArgs s_times, defBody s_times, defScope s_times, [], []⟩
def d_is_above : He.DefD := ⟨("is_above", none), "is_above", "is_above", defArgs s_is_above, defBody s_is_above, defScope s_is_above, [], []⟩
def d_is_shaft : He.DefD := ⟨("is_shaft", none), "is_shaft", "is_shaft", defArgs s_is_shaft, defBody s_is_shaft, defScope s_is_shaft, [], []⟩
def d_is_row : He.DefD := ⟨("is_row", none), "is_row", "is_row", defArgs s_is_row, defBody s_is_row, defScope s_is_row, [], []⟩
def d_is_source : He.DefD := ⟨("is_source", none), "is_source", "is_source", defArgs s_is_source, defBody s_is_source, defScope s_is_source, [], []⟩
def d_are_rows : He.DefD := ⟨("are_rows", none), "are_rows", "are_rows", defArgs s_are_rows, defBody s_are_rows, defScope s_are_rows, [], []⟩
def d_drives_of : He.DefD := ⟨("drives_of", none), "drives_of", "drives_of", defArgs s_drives_of, defBody s_drives_of, defScope s_drives_of, [], []⟩
def d_may_stand : He.DefD := ⟨("may_stand", none), "may_stand", "may_stand", defArgs s_may_stand, defBody s_may_stand, defScope s_may_stand, [], []⟩
def d_order_of : He.DefD := ⟨("order_of", none), "order_of", "order_of", defArgs s_order_of, defBody s_order_of, defScope s_order_of, [], []⟩
def d_ring_of : He.DefD := ⟨("ring_of", none), "ring_of", "ring_of", defArgs s_ring_of, defBody s_ring_of, defScope s_ring_of, [], []⟩
def d_look_machine : He.DefD := ⟨("look_machine", none), "look_machine", "look_machine", defArgs s_look_machine, defBody s_look_machine, defScope s_look_machine, [], []⟩
def d_move_of : He.DefD := ⟨("move_of", none), "move_of", "move_of", defArgs s_move_of, defBody s_move_of, defScope s_move_of, [], []⟩
def d_is_beyond : He.DefD := ⟨("is_beyond", none), "is_beyond", "is_beyond", defArgs s_is_beyond, defBody s_is_beyond, defScope s_is_beyond, [], []⟩
def d_is_long : He.DefD := ⟨("is_long", none), "is_long", "is_long", defArgs s_is_long, defBody s_is_long, defScope s_is_long, [], []⟩
def d_Bench_init : He.DefD := ⟨("Bench", some "__init__"), "__init__", "Bench.__init__", defArgs s_Bench_init, defBody s_Bench_init, defScope s_Bench_init, [], []⟩
def d_Bench_stands : He.DefD := ⟨("Bench", some "stands"), "stands", "Bench.stands", defArgs s_Bench_stands, defBody s_Bench_stands, defScope s_Bench_stands, [], []⟩
def d_Bench_machine : He.DefD := ⟨("Bench", some "machine"), "machine", "Bench.machine", defArgs s_Bench_machine, defBody s_Bench_machine, defScope s_Bench_machine, [], []⟩
def d_Bench_moved : He.DefD := ⟨("Bench", some "moved"), "moved", "Bench.moved", defArgs s_Bench_moved, defBody s_Bench_moved, defScope s_Bench_moved, [], []⟩
def d_Bench_keep : He.DefD := ⟨("Bench", some "keep"), "keep", "Bench.keep", defArgs s_Bench_keep, defBody s_Bench_keep, defScope s_Bench_keep, [], []⟩
def d_Bench_moves_by : He.DefD := ⟨("Bench", some "moves_by"), "moves_by", "Bench.moves_by", defArgs s_Bench_moves_by, defBody s_Bench_moves_by, defScope s_Bench_moves_by, [], []⟩
def d_Bench_click : He.DefD := ⟨("Bench", some "click"), "click", "Bench.click", defArgs s_Bench_click, defBody s_Bench_click, defScope s_Bench_click, [], []⟩
def d_Bench_want_out : He.DefD := ⟨("Bench", some "want_out"), "want_out", "Bench.want_out", defArgs s_Bench_want_out, defBody s_Bench_want_out, defScope s_Bench_want_out, [], []⟩
def d_Bench_out : He.DefD := ⟨("Bench", some "out"), "out", "Bench.out", defArgs s_Bench_out, defBody s_Bench_out, defScope s_Bench_out, [], []⟩
def d_Bench_into : He.DefD := ⟨("Bench", some "into"), "into", "Bench.into", defArgs s_Bench_into, defBody s_Bench_into, defScope s_Bench_into, [], []⟩
def d_Bench_put : He.DefD := ⟨("Bench", some "put"), "put", "Bench.put", defArgs s_Bench_put, defBody s_Bench_put, defScope s_Bench_put, [], []⟩
def d_Bench_wire : He.DefD := ⟨("Bench", some "wire"), "wire", "Bench.wire", defArgs s_Bench_wire, defBody s_Bench_wire, defScope s_Bench_wire, [], []⟩
def d_Bench_gear : He.DefD := ⟨("Bench", some "gear"), "gear", "Bench.gear", defArgs s_Bench_gear, defBody s_Bench_gear, defScope s_Bench_gear, [], []⟩
def d_Bench_ends : He.DefD := ⟨("Bench", some "ends"), "ends", "Bench.ends", defArgs s_Bench_ends, defBody s_Bench_ends, defScope s_Bench_ends, [], []⟩
def d_Bench_undo : He.DefD := ⟨("Bench", some "undo"), "undo", "Bench.undo", defArgs s_Bench_undo, defBody s_Bench_undo, defScope s_Bench_undo, [], []⟩
def d_Bench_deeds : He.DefD := ⟨("Bench", some "deeds"), "deeds", "Bench.deeds", defArgs s_Bench_deeds, defBody s_Bench_deeds, defScope s_Bench_deeds, [], []⟩
def d_L_bag : He.DefD := ⟨("_law_bag", none), "_law_bag", "_law_bag", defArgs s_L_bag, defBody s_L_bag, defScope s_L_bag, [], []⟩
def d_L_take : He.DefD := ⟨("_law_take", none), "_law_take", "_law_take", defArgs s_L_take, defBody s_L_take, defScope s_L_take, [], []⟩
def d_L_low : He.DefD := ⟨("_law_low", none), "_law_low", "_law_low", defArgs s_L_low, defBody s_L_low, defScope s_L_low, [], []⟩
def d_L_add : He.DefD := ⟨("_law_add", none), "_law_add", "_law_add", defArgs s_L_add, defBody s_L_add, defScope s_L_add, [], []⟩
def d_L_mul : He.DefD := ⟨("_law_mul", none), "_law_mul", "_law_mul", defArgs s_L_mul, defBody s_L_mul, defScope s_L_mul, [], []⟩
def d_L_number : He.DefD := ⟨("_law_number", none), "_law_number", "_law_number", defArgs s_L_number, defBody s_L_number, defScope s_L_number, [], []⟩
def d_L_turned : He.DefD := ⟨("_law_turned", none), "_law_turned", "_law_turned", defArgs s_L_turned, defBody s_L_turned, defScope s_L_turned, [], []⟩
def d_L_machine : He.DefD := ⟨("_law_machine", none), "_law_machine", "_law_machine", defArgs s_L_machine, defBody s_L_machine, defScope s_L_machine, [], []⟩
def d_L_whole : He.DefD := ⟨("_law_whole", none), "_law_whole", "_law_whole", defArgs s_L_whole, defBody s_L_whole, defScope s_L_whole, [], []⟩
def d_L_is_number : He.DefD := ⟨("_law_is_number", none), "_law_is_number", "_law_is_number", defArgs s_L_is_number, defBody s_L_is_number, defScope s_L_is_number, [], []⟩
def d_L_same : He.DefD := ⟨("_law_same", none), "_law_same", "_law_same", defArgs s_L_same, defBody s_L_same, defScope s_L_same, [], []⟩
def d_L_alone : He.DefD := ⟨("_law_alone", none), "_law_alone", "_law_alone", defArgs s_L_alone, defBody s_L_alone, defScope s_L_alone, [], []⟩
def d_L_refusal : He.DefD := ⟨("_law_refusal", none), "_law_refusal", "_law_refusal", defArgs s_L_refusal, defBody s_L_refusal, defScope s_L_refusal, [], []⟩
def d_L_said : He.DefD := ⟨("_law_said", none), "_law_said", "_law_said", defArgs s_L_said, defBody s_L_said, defScope s_L_said, [], []⟩
def d_L_got : He.DefD := ⟨("_law_got", none), "_law_got", "_law_got", defArgs s_L_got, defBody s_L_got, defScope s_L_got, [], []⟩
def d_L_any_row : He.DefD := ⟨("_law_any_row", none), "_law_any_row", "_law_any_row", defArgs s_L_any_row, defBody s_L_any_row, defScope s_L_any_row, [], []⟩
def d_L_any_deed : He.DefD := ⟨("_law_any_deed", none), "_law_any_deed", "_law_any_deed", defArgs s_L_any_deed, defBody s_L_any_deed, defScope s_L_any_deed, [], []⟩
def d_L_all_told : He.DefD := ⟨("_law_all_told", none), "_law_all_told", "_law_all_told", defArgs s_L_all_told, defBody s_L_all_told, defScope s_L_all_told, [], []⟩
def d_L_moved : He.DefD := ⟨("_law_moved", none), "_law_moved", "_law_moved", defArgs s_L_moved, defBody s_L_moved, defScope s_L_moved, [], []⟩
def d_L_behind : He.DefD := ⟨("_law_behind", none), "_law_behind", "_law_behind", defArgs s_L_behind, defBody s_L_behind, defScope s_L_behind, [], []⟩
def d_L_known : He.DefD := ⟨("_law_known", none), "_law_known", "_law_known", defArgs s_L_known, defBody s_L_known, defScope s_L_known, [], []⟩
def d_L_done : He.DefD := ⟨("_law_done", none), "_law_done", "_law_done", defArgs s_L_done, defBody s_L_done, defScope s_L_done, [], []⟩
def d_law : He.DefD := ⟨("law", none), "law", "law", defArgs s_law, defBody s_law, defScope s_law, [], []⟩
def fn : List He.DefD := [d_Ring_init, d_Stopped_init, d_is_whole, d_shared, d_is_number, d_fraction, d_plus, d_times, d_is_above, d_is_shaft, d_is_row, d_is_source, d_are_rows, d_drives_of, d_may_stand, d_order_of, d_ring_of, d_look_machine, d_move_of, d_is_beyond, d_is_long, d_Bench_init, d_Bench_stands, d_Bench_machine, d_Bench_moved, d_Bench_keep, d_Bench_moves_by, d_Bench_click, d_Bench_want_out, d_Bench_out, d_Bench_into, d_Bench_put, d_Bench_wire, d_Bench_gear, d_Bench_ends, d_Bench_undo, d_Bench_deeds, d_L_bag, d_L_take, d_L_low, d_L_add, d_L_mul, d_L_number, d_L_turned, d_L_machine, d_L_whole, d_L_is_number, d_L_same, d_L_alone, d_L_refusal, d_L_said, d_L_got, d_L_any_row, d_L_any_deed, d_L_all_told, d_L_moved, d_L_behind, d_L_known, d_L_done, d_law]
def fa : List He.Fa := [.free "len", .free "abs", .free "isinstance", .free "int", .free "bool", .free "str", .free "list", .free "tuple", .free "range", .free "zip", .free "enumerate", .free "all", .free "any", .free "max", .free "min", .int "MOST_SHAFTS" 120, .glo "NOUGHT", .glo "NoMachine", .exc "NoMachine", .glo "Held", .exc "Held", .glo "TooFar", .exc "TooFar", .glo "NoGear", .exc "NoGear", .glo "NoDeed", .exc "NoDeed", .glo "Bench", .cls "Bench", .mkr "Bench", .noat "Bench" "rows", .noat "Bench" "stood", .noat "Bench" "sums", .noat "Bench" "outs", .noat "Bench" "limits", .noat "Bench" "past", .glo "is_whole", .glo "shared", .glo "is_number", .glo "fraction", .glo "plus", .glo "times", .glo "is_above", .glo "is_shaft", .glo "is_row", .glo "is_source", .glo "are_rows", .glo "drives_of", .glo "may_stand", .glo "order_of", .glo "ring_of", .glo "look_machine", .glo "move_of", .glo "is_beyond", .glo "is_long", .meth "Bench" "stands", .meth "Bench" "machine", .meth "Bench" "moved", .meth "Bench" "keep", .meth "Bench" "moves_by", .meth "Bench" "click", .meth "Bench" "want_out", .meth "Bench" "out", .meth "Bench" "into", .meth "Bench" "put", .meth "Bench" "wire", .meth "Bench" "gear", .meth "Bench" "ends", .meth "Bench" "undo", .meth "Bench" "deeds", .glo "_law_bag", .glo "_law_take", .glo "_law_low", .glo "_law_add", .glo "_law_mul", .glo "_law_number", .glo "_law_turned", .glo "_law_machine", .glo "_law_whole", .glo "_law_is_number", .glo "_law_same", .glo "_law_alone", .glo "_law_refusal", .glo "_law_said", .glo "_law_got", .glo "_law_any_row", .glo "_law_any_deed", .glo "_law_all_told", .glo "_law_moved", .glo "_law_behind", .glo "_law_known", .glo "_law_done", .glo "law"]
abbrev R : PySem.W.OpenRow := PySem.W.OpenLaw.row PySem.Challenge.rw_rolldiscs_k51_whole_plain_sums
abbrev hk : PySem.W.Hook := hookC 4 fa fn
def ob (s : PySem.W.SharedT) : He.AlD := obsC fa fn (He.frG (HandSHeadRun.getT s) (He.asD (HandSHeadRun.getT s) 4))
theorem ob_eq (s : PySem.W.SharedT) : ob s = hk.obs s.abs := obsC_eq (HandSHeadRun.getT_eq s)
def loose0 : List Str := ["RollError", "NoFraction", "NoSeries", "NoMachine", "Ring", "NoRoom", "NotEven", "NotLean", "Held", "Stopped", "TooFar", "NoGear", "NoDeed", "NoText", "NoSaying", "NoName", "NoBench", "TooMany", "NOUGHT", "is_whole", "shared", "is_number", "fraction", "plus", "times", "is_above", "MOST_SHAFTS", "is_shaft", "is_row", "is_source"]
def loose1 : List Str := ["are_rows", "drives_of", "may_stand", "order_of", "ring_of", "look_machine", "move_of", "is_beyond", "is_long", "Bench", "_law_bag", "_law_take", "_law_low", "_law_add", "_law_mul", "_law_number", "_law_turned", "_law_machine", "_law_whole", "_law_is_number", "_law_same", "_law_alone", "_law_refusal", "_law_said", "_law_got", "_law_any_row", "_law_any_deed", "_law_all_told", "_law_moved", "_law_behind"]
def loose2 : List Str := ["_law_known", "_law_done"]
def loose : List Str := loose0 ++ loose1 ++ loose2
theorem run (w : World) : HandSHeadRun.RunEq R (PySem.W.view R.prog [67]) hk ob 20000 loose w := by
  intro os
  kernel_rfl
end
end RD
namespace RD
open PySem PySem.Spec PyProof.Rows L2
abbrev St := L2.St
/-! ### a wish ahead: e runs from the slots and the heap to Q -/
structure GE (X : Cx) (e : Expr) (σ : St) (H : Hp) (Q : VK) : Prop where
  run : ∀ pins s, Inv X pins σ H s → wpAny (model X.prog X.w) X.A (eval e X.env) (EP X pins σ Q) X.xe s
structure GT (X : Cx) (e : Expr) (σ : St) (H : Hp) (Q : Bool → Hp → Prop) : Prop where
  run : ∀ pins s, Inv X pins σ H s → wpAny (model X.prog X.w) X.A (isTrue e X.env (eval e X.env)) (TP X pins σ Q) X.xe s
structure GW (X : Cx) (e : Expr) (σ : St) (H : Hp) (Q : Bool → Hp → Prop) : Prop where
  run : ∀ whole pins s, Inv X pins σ H s → wpAny (model X.prog X.w) X.A (isTrue e X.env whole) (TP X pins σ Q) X.xe s
structure GA (X : Cx) (es : List Expr) (σ : St) (H : Hp) (Q : List V → Hp → Prop) : Prop where
  run : ∀ pos pins s, Inv X pins σ H s → wpAny (model X.prog X.w) X.A (spliced (backTo pos (starEach es X.env))) (AP X pins σ Q) X.xe s
structure GS (X : Cx) (st : Stmt) (D : Ends) (σ : St) (H : Hp) : Prop where
  run : ∀ pins s, Inv X pins σ H s → wpAny (model X.prog X.w) X.A (exec st X.env) (SP X pins D) X.xe s
structure GB (X : Cx) (st : List Stmt) (D : Ends) (σ : St) (H : Hp) : Prop where
  run : ∀ pins s, Inv X pins σ H s → wpAny (model X.prog X.w) X.A (execs st X.env) (SP X pins D) X.xe s
structure O2 (X : Cx) (f : Value → Value → Sem Value) (x y : V) (H : Hp) (Q : VK) : Prop where
  run : ∀ pins s σ v u, Inv X pins σ H s → RelV x v → RelV y u → wpAny (model X.prog X.w) X.A (f v u) (EP X pins σ Q) X.xe s
structure I2 (X : Cx) (x y : V) (H : Hp) (Q : VK) : Prop where
  run : ∀ (value slice : Expr) pins s σ v u, Inv X pins σ H s → RelV x v → RelV y u → subscripted slice false v u = operate [v, u] (getItem v u) → wpAny (model X.prog X.w) X.A (subscriptTail value slice v u) (EP X pins σ Q) X.xe s
structure C1 (X : Cx) (f : Value) (xs : List V) (H : Hp) (Q : VK) : Prop where
  run : ∀ pins s σ us, Inv X pins σ H s → Vals xs us → wpAny (model X.prog X.w) X.A (call f us) (EP X pins σ Q) X.xe s
section
variable {X : Cx} {e a b c : Expr} {es : List Expr} {st : Stmt} {sts : List Stmt} {σ : St} {H : Hp} {pos : Pos}
theorem GE.pe : PE X e (GE X e) := ⟨fun pins s σ H Q I h => h.run pins s I⟩
theorem GT.pt : PT X e (GT X e) := ⟨fun pins s σ H Q I h => h.run pins s I⟩
theorem GW.pw : PW X e (GW X e) := ⟨fun whole pins s σ H Q I h => h.run whole pins s I⟩
theorem GA.pa : PA X es (GA X es) := ⟨fun pos pins s σ H Q I h => h.run pos pins s I⟩
theorem GS.ps : PS X st (GS X st) := ⟨fun pins s σ H D I h => h.run pins s I⟩
theorem GB.pss : PSs X sts (GB X sts) := ⟨fun pins s σ H D I h => h.run pins s I⟩
theorem O2.op {f : Value → Value → Sem Value} : OpR X f (O2 X f) := fun pins s σ H x y v u Q I rx ry h => h.run pins s σ v u I rx ry
theorem I2.ix : IxR X (I2 X) := fun value slice pins s σ H x y v u Q I rx ry h hs => h.run value slice pins s σ v u I rx ry hs
theorem C1.cr {f : Value} : CallR X f (C1 X f) := fun pins s σ H xs us Q I r h => h.run pins s σ us I r
theorem ge {t : TE} {Q : VK} (h : PE X e t) (q : t σ H Q) : GE X e σ H Q := ⟨fun pins s I => h.run pins s σ H Q I q⟩
theorem gt {t : TT} {Q : Bool → Hp → Prop} (h : PT X e t) (q : t σ H Q) : GT X e σ H Q := ⟨fun pins s I => h.run pins s σ H Q I q⟩
theorem gw {t : TT} {Q : Bool → Hp → Prop} (h : PW X e t) (q : t σ H Q) : GW X e σ H Q := ⟨fun whole pins s I => h.run whole pins s σ H Q I q⟩
theorem ga {t : TA} {Q : List V → Hp → Prop} (h : PA X es t) (q : t σ H Q) : GA X es σ H Q := ⟨fun pos pins s I => h.run pos pins s σ H Q I q⟩
theorem gs {t : TS} {D : Ends} (h : PS X st t) (q : t D σ H) : GS X st D σ H := ⟨fun pins s I => h.run pins s σ H D I q⟩
theorem gb {t : TS} {D : Ends} (h : PSs X sts t) (q : t D σ H) : GB X sts D σ H := ⟨fun pins s I => h.run pins s σ H D I q⟩
theorem o2 {f : Value → Value → Sem Value} {r : R2} {x y : V} {Q : VK} (h : OpR X f r) (q : r x y H Q) : O2 X f x y H Q := ⟨fun pins s σ v u I rx ry => h pins s σ H x y v u Q I rx ry q⟩
theorem i2 {r : R2} {x y : V} {Q : VK} (h : IxR X r) (q : r x y H Q) : I2 X x y H Q := ⟨fun value slice pins s σ v u I rx ry hs => h value slice pins s σ H x y v u Q I rx ry q hs⟩
theorem c1 {f : Value} {r : List V → Hp → VK → Prop} {xs : List V} {Q : VK} (h : CallR X f r) (q : r xs H Q) : C1 X f xs H Q := ⟨fun pins s σ us I rx => h pins s σ H xs us Q I rx q⟩
/-! mono -/
theorem EP.mono {pins : List (Addr × Obj)} {Q Q' : VK} (h : ∀ v H', Q v H' → Q' v H') : ∀ u s', EP X pins σ Q u s' → EP X pins σ Q' u s' := fun u s' ⟨v, H', I, r, q⟩ => ⟨v, H', I, r, h _ _ q⟩
theorem GE.mono {Q Q' : VK} (g : GE X e σ H Q) (h : ∀ v H', Q v H' → Q' v H') : GE X e σ H Q' := ⟨fun pins s I => thn (g.run pins s I) (EP.mono h)⟩
theorem GA.mono {Q Q' : List V → Hp → Prop} (g : GA X es σ H Q) (h : ∀ v H', Q v H' → Q' v H') : GA X es σ H Q' := ⟨fun pos pins s I => thn (g.run pos pins s I) fun u s' ⟨v, H', I, r, q⟩ => ⟨v, H', I, r, h _ _ q⟩⟩
theorem GT.mono {Q Q' : Bool → Hp → Prop} (g : GT X e σ H Q) (h : ∀ v H', Q v H' → Q' v H') : GT X e σ H Q' := ⟨fun pins s I => thn (g.run pins s I) fun u s' ⟨H', I, q⟩ => ⟨H', I, h _ _ q⟩⟩
theorem SP.mono {pins : List (Addr × Obj)} {D D' : Ends} (h1 : ∀ σ H, D.nx σ H → D'.nx σ H) (h2 : ∀ v H, D.rt v H → D'.rt v H) (h3 : ∀ σ H, D.bk σ H → D'.bk σ H) (h4 : ∀ σ H, D.ct σ H → D'.ct σ H) : ∀ f s', SP X pins D f s' → SP X pins D' f s' := fun f s' h => by
  cases f with
  | next => obtain ⟨σ', H', I, q⟩ := h; exact ⟨σ', H', I, h1 _ _ q⟩
  | brk => obtain ⟨σ', H', I, q⟩ := h; exact ⟨σ', H', I, h3 _ _ q⟩
  | cont => obtain ⟨σ', H', I, q⟩ := h; exact ⟨σ', H', I, h4 _ _ q⟩
  | ret u => obtain ⟨v, σ', H', I, r, q⟩ := h; exact ⟨v, σ', H', I, r, h2 _ _ q⟩
theorem GB.mono {D D' : Ends} (g : GB X sts D σ H) (h1 : ∀ σ H, D.nx σ H → D'.nx σ H) (h2 : ∀ v H, D.rt v H → D'.rt v H) (h3 : ∀ σ H, D.bk σ H → D'.bk σ H) (h4 : ∀ σ H, D.ct σ H → D'.ct σ H) : GB X sts D' σ H := ⟨fun pins s I => thn (g.run pins s I) (SP.mono h1 h2 h3 h4)⟩
theorem GS.mono {D D' : Ends} (g : GS X st D σ H) (h1 : ∀ σ H, D.nx σ H → D'.nx σ H) (h2 : ∀ v H, D.rt v H → D'.rt v H) (h3 : ∀ σ H, D.bk σ H → D'.bk σ H) (h4 : ∀ σ H, D.ct σ H → D'.ct σ H) : GS X st D' σ H := ⟨fun pins s I => thn (g.run pins s I) (SP.mono h1 h2 h3 h4)⟩
/-! names, constants -/
theorem ge_var (i : Nat) {x : Str} {Q : VK} {v : V} (hN : X.N[i]? = some x) (h : σ[i]? = some (some v)) (q : Q v H)
    (hv : Vis X.env.scope x := by first | exact Or.inl rfl | exact Or.inr (Or.inl rfl) | exact Or.inr (Or.inr rfl)) (hd : (x == ("__debug__" : Str)) = false := by decide) (hcd : (x == ("__classdict__" : Str)) = false := by decide) : GE X (.Name x pos) σ H Q := ge (pe_var hN hv hd hcd) ⟨v, h, q⟩
theorem ge_int {i : Int} {j} {Q : VK} (q : Q (.int i) H) : GE X (.Constant (.int i) j pos) σ H Q := ge pe_int q
theorem ge_bl {i : Bool} {j} {Q : VK} (q : Q (.bl i) H) : GE X (.Constant (.bool i) j pos) σ H Q := ge pe_bl q
theorem ge_non {j} {Q : VK} (q : Q .non H) : GE X (.Constant .none j pos) σ H Q := ge pe_non q
theorem ge_str {i : Str} {j} {Q : VK} (q : Q (.str i) H) : GE X (.Constant (.str i) j pos) σ H Q := ge pe_str q
theorem ge_glob {x : Str} {v : V} {u : Value} {Q : VK} (hm : X.mg x = some u) (r : RelV v u) (q : Q v H) (hg : Gl X x := by rfl) (hd : (x == ("__debug__" : Str)) = false := by decide) : GE X (.Name x pos) σ H Q := ge (pe_glob hg hm r hd) q
/-! operators -/
theorem ge_bin {op : Operator} {Q : VK} (h : GE X a σ H fun x H1 => GE X b σ H1 fun y H2 => O2 X (binaryOp op) x y H2 Q) : GE X (.BinOp a op b pos) σ H Q := ge (pe_op O2.op GE.pe GE.pe) h
theorem ge_cmp {op : CmpOp} {Q : VK} (h : GE X a σ H fun x H1 => GE X b σ H1 fun y H2 => O2 X (compareOp op) x y H2 Q) (hm : behindInMarks op b = false := by first | rfl | with_unfolding_all rfl) : GE X (.Compare a [op] [b] pos) σ H Q := ge (pe_cmpR O2.op GE.pe GE.pe hm) h
theorem gt_cmp {op : CmpOp} {Q : Bool → Hp → Prop} (h : GE X a σ H fun x H1 => GE X b σ H1 fun y H2 => O2 X (compareOp op) x y H2 fun z H3 => ∃ k, z = .bl k ∧ Q k H3) (hm : behindInMarks op b = false := by first | rfl | with_unfolding_all rfl) : GT X (.Compare a [op] [b] pos) σ H Q := gt (pt_cmpR O2.op GE.pe GE.pe hm) h
theorem ge_chain {op op' : CmpOp} {Q : VK} (h : GE X a σ H fun x H1 => GE X b σ H1 fun y H2 => O2 X (compareOp op) x y H2 fun z H3 => ∃ k, z = .bl k ∧ (if k = true then GE X c σ H3 fun w' H4 => O2 X (compareOp op') y w' H4 Q else Q (.bl false) H3))
    (hm : lastMarks [op, op'] [b, c] = false := by with_unfolding_all rfl) : GE X (.Compare a [op, op'] [b, c] pos) σ H Q := ge (pe_chain O2.op O2.op GE.pe GE.pe GE.pe hm) h
theorem gt_chain {op op' : CmpOp} {Q : Bool → Hp → Prop} (h : GE X a σ H fun x H1 => GE X b σ H1 fun y H2 => O2 X (compareOp op) x y H2 fun z H3 => ∃ k, z = .bl k ∧ (if k = true then GE X c σ H3 fun w' H4 => O2 X (compareOp op') y w' H4 (fun z H5 => ∃ k, z = .bl k ∧ Q k H5) else ∃ k, V.bl false = .bl k ∧ Q k H3))
    (hm : lastMarks [op, op'] [b, c] = false := by with_unfolding_all rfl) : GT X (.Compare a [op, op'] [b, c] pos) σ H Q := gt (pt_chain O2.op O2.op GE.pe GE.pe GE.pe hm) h
/-- a value that is a bool, as a test -/
theorem gt_val {Q : Bool → Hp → Prop} (h : GE X e σ H fun x H1 => ∃ k, x = .bl k ∧ Q k H1) (he : ∀ whole, isTrue e X.env whole = (do let v ← whole; standAt e.pos; holding [v] (truthy v)) := by intro _; rfl) : GT X e σ H Q := gt (pt_val GE.pe he) h
theorem gt_not {Q : Bool → Hp → Prop} (h : GT X a σ H fun k H1 => Q (!k) H1) : GT X (.UnaryOp .Not a pos) σ H Q := gt (pt_not GT.pt) h
theorem gt_w {Q : Bool → Hp → Prop} (h : GW X e σ H Q) : GT X e σ H Q := ⟨fun pins s I => h.run _ pins s I⟩
theorem gw_and {rest : List Expr} {Q : Bool → Hp → Prop} (h : GT X a σ H fun k H1 => if k = true then GW X (.BoolOp .And (b :: rest) pos) σ H1 Q else Q false H1) : GW X (.BoolOp .And (a :: b :: rest) pos) σ H Q := gw (pw_and GT.pt GW.pw) h
theorem gw_or {rest : List Expr} {Q : Bool → Hp → Prop} (h : GT X a σ H fun k H1 => if k = true then Q true H1 else GW X (.BoolOp .Or (b :: rest) pos) σ H1 Q) : GW X (.BoolOp .Or (a :: b :: rest) pos) σ H Q := gw (pw_or GT.pt GW.pw) h
theorem gw_and1 {Q : Bool → Hp → Prop} (h : GT X a σ H Q) : GW X (.BoolOp .And [a] pos) σ H Q := gw (pw_and1 GT.pt) h
theorem gw_or1 {Q : Bool → Hp → Prop} (h : GT X a σ H Q) : GW X (.BoolOp .Or [a] pos) σ H Q := gw (pw_or1 GT.pt) h
theorem ge_and {rest : List Expr} {Q : VK} (h : GE X a σ H fun x H1 => ∃ k, x = .bl k ∧ if k = true then GE X (.BoolOp .And (b :: rest) pos) σ H1 Q else Q (.bl false) H1) : GE X (.BoolOp .And (a :: b :: rest) pos) σ H Q := ge (pe_and GE.pe GE.pe) h
theorem ge_or {rest : List Expr} {Q : VK} (h : GE X a σ H fun x H1 => ∃ k, x = .bl k ∧ if k = true then Q (.bl true) H1 else GE X (.BoolOp .Or (b :: rest) pos) σ H1 Q) : GE X (.BoolOp .Or (a :: b :: rest) pos) σ H Q := ge (pe_or GE.pe GE.pe) h
theorem ge_one {op} {Q : VK} (h : GE X a σ H Q) : GE X (.BoolOp op [a] pos) σ H Q := ge (pe_one GE.pe) h
theorem ge_not {Q : VK} (h : GE X a σ H fun x H1 => ∃ k, x = .bl k ∧ Q (.bl (!k)) H1) : GE X (.UnaryOp .Not a pos) σ H Q := ge (pe_not GE.pe) h
theorem ge_if {Q : VK} (h : GT X c σ H fun k H1 => if k = true then GE X a σ H1 Q else GE X b σ H1 Q) : GE X (.IfExp c a b pos) σ H Q := ge (pe_ifExp GT.pt GE.pe GE.pe) h
theorem ge_ix {Q : VK} (h : GE X a σ H fun x H1 => GE X b σ H1 fun y H2 => I2 X x y H2 Q) (hs : PlainIx b := by intro _ _; rfl) : GE X (.Subscript a b pos) σ H Q := ge (pe_ix I2.ix GE.pe GE.pe hs) h
theorem ge_tup {x1} {Q : VK} (h : GA X es σ H fun xs H1 => xs.length ≤ sizeLine ∧ ∀ p, H1 p = none → Q (.ref p) (upd H1 p (.tup xs))) : GE X (.Tuple es x1 pos) σ H Q := ge (pe_tup GA.pa) h
theorem ge_lst {Q : VK} (h : GA X es σ H fun xs H1 => xs.length ≤ sizeLine ∧ ∀ p, H1 p = none → Q (.ref p) (upd H1 p (.lst xs))) : GE X (.List es pos) σ H Q := ge (pe_lst GA.pa) h
theorem ga_nil {Q : List V → Hp → Prop} (q : Q [] H) : GA X [] σ H Q := ga pa_nil q
theorem ga_cons {Q : List V → Hp → Prop} (h : GE X e σ H fun x H1 => GA X es σ H1 fun xs H2 => Q (x :: xs) H2) (hs : starEach (e :: es) X.env = (false, eval e X.env) :: starEach es X.env := by rfl) : GA X (e :: es) σ H Q := ga (pa_cons GE.pe GA.pa hs) h
/-! statements -/
theorem gb_nil {D : Ends} (h : D.nx σ H) : GB X [] D σ H := gb pss_nil h
theorem gb_cons {D : Ends} (h : GS X st { D with nx := fun σ' H' => GB X sts D σ' H' } σ H) : GB X (st :: sts) D σ H := gb (pss_cons GS.ps GB.pss) h
theorem gb_one {D : Ends} (h : GS X st D σ H) : GB X [st] D σ H := gb (pss_one GS.ps) h
theorem gs_set (i : Nat) {x : Str} {pos' : Pos} {D : Ends} (hN : X.N.Nodup) (hi : X.N[i]? = some x) (h : GE X e σ H fun v H1 => D.nx (σ.set i (some v)) H1) (hx : Loc X.env.scope x := by first | exact .inl rfl | exact .inr rfl) (hs : swapsWithSole [.Name x pos'] e pos.line X.env = pure false := by rfl) (hw : swappedStores [.Name x pos'] e X.env = pure none := by rfl)
    (hf : X.fn x = true ∨ X.env.scope.names.lookup x = some .local := by first | exact .inl rfl | exact .inr rfl) : GS X (.Assign [.Name x pos'] e pos) D σ H := gs (ps_asg GE.pe (pg_name hN hi hx hf) hs hw) h
theorem gs_asg {tg : Expr} {g : TG} {D : Ends} (hg : PG X tg g) (h : GE X e σ H fun v H1 => g v σ H1 D.nx) (hs : swapsWithSole [tg] e pos.line X.env = pure false := by rfl) (hw : swappedStores [tg] e X.env = pure none := by rfl)
    (h1 : (assignEach [tg] X.env).map (·.2) = [assign tg X.env] := by rfl) : GS X (.Assign [tg] e pos) D σ H := gs (ps_asg GE.pe hg hs hw h1) h
theorem gs_ret {D : Ends} (h : GE X e σ H D.rt) : GS X (.Return (some e) pos) D σ H := gs (ps_ret GE.pe) h
theorem gs_expr {D : Ends} (h : GE X e σ H fun _ H1 => D.nx σ H1) (hs : swapsWith e none pos.line X.env = pure false := by rfl) : GS X (.Expr e pos) D σ H := gs (ps_expr GE.pe hs) h
theorem gs_if {A B : List Stmt} {D : Ends} (h : GT X c σ H fun k H1 => if k = true then GB X A D σ H1 else GB X B D σ H1) : GS X (.If c A B pos) D σ H := gs (ps_if GT.pt GB.pss GB.pss) h
end
end RD
namespace RD
open PySem PySem.Spec PyProof.Rows L2
/-! ### data of tuples alone -/
mutual
inductive TD (K : PySem.W.Frag) (H : Hp) : V → PyData → Prop
  | non : TD K H .non .none
  | bl (b : Bool) : TD K H (.bl b) (.bool b)
  | int (i : Int) : TD K H (.int i) (.int i)
  | str (x : Str) : TD K H (.str x) (.str x)
  | tup {a : Addr} {xs : List V} {ds : List PyData} : SqT K H a xs → TDs K H xs ds → TD K H (.ref a) (.tuple ds)
inductive TDs (K : PySem.W.Frag) (H : Hp) : List V → List PyData → Prop
  | nil : TDs K H [] []
  | cons {v : V} {vs : List V} {d : PyData} {ds : List PyData} : TD K H v d → TDs K H vs ds → TDs K H (v :: vs) (d :: ds)
end
abbrev Ex := Evl.Ex
/-- tuples stay -/
def Tk (K : PySem.W.Frag) (H H' : Hp) : Prop := ∀ a xs, SqT K H a xs → SqT K H' a xs
theorem Ex.tk {K : PySem.W.Frag} {H H' : Hp} (e : Ex H H') : Tk K H H' := fun a xs h => Evl.ex_t e h
theorem Tk.refl {K : PySem.W.Frag} {H : Hp} : Tk K H H := fun _ _ h => h
theorem Tk.trans {K : PySem.W.Frag} {H H1 H2 : Hp} (a : Tk K H H1) (b : Tk K H1 H2) : Tk K H H2 := fun x o h => b x o (a x o h)
mutual
theorem TD.tk {K : PySem.W.Frag} {H H' : Hp} (t : Tk K H H') : ∀ {v : V} {d : PyData}, TD K H v d → TD K H' v d
  | _, _, .non => .non
  | _, _, .bl b => .bl b
  | _, _, .int i => .int i
  | _, _, .str x => .str x
  | _, _, .tup h hs => .tup (t _ _ h) (TDs.tk t hs)
theorem TDs.tk {K : PySem.W.Frag} {H H' : Hp} (t : Tk K H H') : ∀ {v : List V} {d : List PyData}, TDs K H v d → TDs K H' v d
  | _, _, .nil => .nil
  | _, _, .cons h hs => .cons (TD.tk t h) (TDs.tk t hs)
end
mutual
theorem TD.dp {K : PySem.W.Frag} {H : Hp} : ∀ {v : V} {d : PyData}, TD K H v d → Dp K H v d
  | _, _, .non => .non
  | _, _, .bl b => .bl b
  | _, _, .int i => .int i
  | _, _, .str x => .str x
  | _, _, .tup h hs => .tup h (TDs.dp hs)
theorem TDs.dp {K : PySem.W.Frag} {H : Hp} : ∀ {v : List V} {d : List PyData}, TDs K H v d → DpAll K H v d
  | _, _, .nil => .nil
  | _, _, .cons h hs => .cons (TD.dp h) (TDs.dp hs)
end
section
variable {K : PySem.W.Frag} {H H' : Hp} {v : V} {vs ws : List V} {d : PyData} {ds es : List PyData}
theorem TD.ex (e : Ex H H') (h : TD K H v d) : TD K H' v d := h.tk (Ex.tk e)
theorem TDs.ex (e : Ex H H') (h : TDs K H vs ds) : TDs K H' vs ds := h.tk (Ex.tk e)
theorem TD.tupE (h : TD K H v (.tuple ds)) : ∃ a xs, v = .ref a ∧ SqT K H a xs ∧ TDs K H xs ds := by
  cases h with
  | tup h hs => exact ⟨_, _, rfl, h, hs⟩
theorem TD.intE {i : Int} (h : TD K H v (.int i)) : v = .int i := by cases h; rfl
theorem TD.strE {i : Str} (h : TD K H v (.str i)) : v = .str i := by cases h; rfl
theorem TD.blE {i : Bool} (h : TD K H v (.bool i)) : v = .bl i := by cases h; rfl
theorem TD.nonE (h : TD K H v .none) : v = .non := by cases h; rfl
theorem TDs.consE (h : TDs K H vs (d :: ds)) : ∃ v r, vs = v :: r ∧ TD K H v d ∧ TDs K H r ds := by
  cases h with
  | cons h hs => exact ⟨_, _, rfl, h, hs⟩
theorem TDs.nilE (h : TDs K H vs []) : vs = [] := by cases h; rfl
theorem TDs.length (h : TDs K H vs ds) : vs.length = ds.length := by
  induction vs generalizing ds with
  | nil => cases h; rfl
  | cons v r ih => cases h with | cons h hs => simp [ih hs]
theorem TDs.get {i : Nat} (h : TDs K H vs ds) (hd : ds[i]? = some d) : ∃ v, vs[i]? = some v ∧ TD K H v d := by
  induction vs generalizing ds i with
  | nil => cases h; simp at hd
  | cons v r ih =>
    cases h with
    | cons h hs =>
      cases i with
      | zero => simp at hd; subst hd; exact ⟨v, rfl, h⟩
      | succ i => simp at hd; obtain ⟨w, h1, h2⟩ := ih hs hd; exact ⟨w, by simpa using h1, h2⟩
theorem TDs.getV {i : Nat} (h : TDs K H vs ds) (hd : vs[i]? = some v) : ∃ d, ds[i]? = some d ∧ TD K H v d := by
  have hi : i < ds.length := by rw [← h.length]; exact (List.getElem?_eq_some_iff.mp hd).1
  obtain ⟨w, h1, h2⟩ := h.get (List.getElem?_eq_getElem hi)
  rw [hd] at h1
  cases h1
  exact ⟨_, List.getElem?_eq_getElem hi, h2⟩
theorem TDs.append (h : TDs K H vs ds) (h2 : TDs K H ws es) : TDs K H (vs ++ ws) (ds ++ es) := by
  induction vs generalizing ds with
  | nil => cases h; exact h2
  | cons v r ih => cases h with | cons h hs => exact .cons h (ih hs)
theorem TDs.set {i : Nat} (h : TDs K H vs ds) (hv : TD K H v d) : TDs K H (vs.set i v) (ds.set i d) := by
  induction vs generalizing ds i with
  | nil => cases h; exact .nil
  | cons w r ih =>
    cases h with
    | cons h hs =>
      cases i with
      | zero => exact .cons hv hs
      | succ i => exact .cons h (ih hs)
theorem TDs.take {i : Nat} (h : TDs K H vs ds) : TDs K H (vs.take i) (ds.take i) := by
  induction vs generalizing ds i with
  | nil => cases h; simp; exact .nil
  | cons w r ih =>
    cases h with
    | cons h hs =>
      cases i with
      | zero => exact .nil
      | succ i => exact .cons h (ih hs)
theorem TDs.drop {i : Nat} (h : TDs K H vs ds) : TDs K H (vs.drop i) (ds.drop i) := by
  induction vs generalizing ds i with
  | nil => cases h; simp; exact .nil
  | cons w r ih =>
    cases h with
    | cons h hs =>
      cases i with
      | zero => exact .cons h hs
      | succ i => exact ih hs
end
/-! ### a list that is read, of data -/
def LD (K : PySem.W.Frag) (H : Hp) (a : Addr) (ds : List PyData) : Prop := ∃ vs, SqL K H a vs ∧ TDs K H vs ds
theorem LD.ex {K : PySem.W.Frag} {H H' : Hp} {a : Addr} {ds : List PyData} (e : Ex H H') (h : LD K H a ds) : LD K H' a ds := let ⟨vs, h1, h2⟩ := h; ⟨vs, Evl.ex_l e h1, h2.ex e⟩
theorem ex_upd {H : Hp} {p : Addr} {o : HO} (h : H p = none) : Ex H (upd H p o) := Evl.Ex.new h
/-! ### subscripts of data -/
section
variable {X : Cx} {H : Hp} {a : Addr} {xs : List V} {Q : VK} {v : V} {i : Int} {e b : Expr} {σ : St} {pos : Pos}
theorem i2_tup (h : SqT X.K H a xs) (hi : atI xs i = some v) (q : Q v H) : I2 X (.ref a) (.int i) H Q := i2 ix_tup ⟨a, xs, i, v, rfl, rfl, h, hi, q⟩
theorem i2_lst (h : SqL X.K H a xs) (hi : atI xs i = some v) (q : Q v H) : I2 X (.ref a) (.int i) H Q := i2 ix_list ⟨a, xs, i, v, rfl, rfl, h, hi, q⟩
theorem atI_n {α : Type} {xs : List α} {n : Nat} {v : α} (h : xs[n]? = some v) : atI xs (n : Int) = some v := by
  have hl := (List.getElem?_eq_some_iff.mp h).1
  unfold atI ixN
  rw [if_pos (by omega), if_pos (by omega)]
  simpa using h
/-! ### operators on data -/
variable {x y : Int}
theorem o2_add (q : Q (.int (x + y)) H) : O2 X (binaryOp .Add) (.int x) (.int y) H Q := o2 op_add ⟨x, y, rfl, rfl, q⟩
theorem o2_sub (q : Q (.int (x - y)) H) : O2 X (binaryOp .Sub) (.int x) (.int y) H Q := o2 op_sub ⟨x, y, rfl, rfl, q⟩
theorem o2_mul (h : CMulW x y) (q : Q (.int (x * y)) H) : O2 X (binaryOp .Mult) (.int x) (.int y) H Q := o2 op_mulW ⟨x, y, rfl, rfl, h, q⟩
theorem o2_mulS (h : CMul x y) (q : Q (.int (x * y)) H) : O2 X (binaryOp .Mult) (.int x) (.int y) H Q := o2 op_mul ⟨x, y, rfl, rfl, h, q⟩
theorem o2_div (h : CDivW x y) (q : Q (.int (x / y)) H) : O2 X (binaryOp .FloorDiv) (.int x) (.int y) H Q := o2 op_fdivW ⟨x, y, rfl, rfl, h, q⟩
theorem o2_mod (h : 0 < y) (q : Q (.int (x % y)) H) : O2 X (binaryOp .Mod) (.int x) (.int y) H Q := o2 op_mod ⟨x, y, rfl, rfl, h, q⟩
theorem o2_pow (h : CPow x y) (q : Q (.int (x ^ y.toNat)) H) : O2 X (binaryOp .Pow) (.int x) (.int y) H Q := o2 op_pow ⟨x, y, rfl, rfl, h, q⟩
theorem o2_lt (q : Q (.bl (decide (x < y))) H) : O2 X (compareOp .Lt) (.int x) (.int y) H Q := o2 op_lt ⟨x, y, rfl, rfl, q⟩
theorem o2_le (q : Q (.bl (decide (x ≤ y))) H) : O2 X (compareOp .LtE) (.int x) (.int y) H Q := o2 op_le ⟨x, y, rfl, rfl, q⟩
theorem o2_gt (q : Q (.bl (decide (y < x))) H) : O2 X (compareOp .Gt) (.int x) (.int y) H Q := o2 op_gt ⟨x, y, rfl, rfl, q⟩
theorem o2_ge (q : Q (.bl (decide (y ≤ x))) H) : O2 X (compareOp .GtE) (.int x) (.int y) H Q := o2 op_ge ⟨x, y, rfl, rfl, q⟩
theorem o2_eq {v w : V} (h : scal v w = true) (q : Q (.bl (decide (v = w))) H) : O2 X (compareOp .Eq) v w H Q := o2 op_eq ⟨h, q⟩
theorem o2_ne {v w : V} (h : scal v w = true) (q : Q (.bl (!decide (v = w))) H) : O2 X (compareOp .NotEq) v w H Q := o2 op_ne ⟨h, q⟩
theorem o2_eqi (q : Q (.bl (decide (x = y))) H) : O2 X (compareOp .Eq) (.int x) (.int y) H Q := o2_eq rfl (by rw [show decide (V.int x = V.int y) = decide (x = y) by simp]; exact q)
theorem o2_nei (q : Q (.bl (!decide (x = y))) H) : O2 X (compareOp .NotEq) (.int x) (.int y) H Q := o2_ne rfl (by rw [show decide (V.int x = V.int y) = decide (x = y) by simp]; exact q)
theorem o2_eqs {s t : Str} (q : Q (.bl (decide (s = t))) H) : O2 X (compareOp .Eq) (.str s) (.str t) H Q := o2_eq rfl (by rw [show decide (V.str s = V.str t) = decide (s = t) by simp]; exact q)
theorem o2_nes {s t : Str} (q : Q (.bl (!decide (s = t))) H) : O2 X (compareOp .NotEq) (.str s) (.str t) H Q := o2_ne rfl (by rw [show decide (V.str s = V.str t) = decide (s = t) by simp]; exact q)
theorem o2_neb {s t : Bool} (q : Q (.bl (!decide (s = t))) H) : O2 X (compareOp .NotEq) (.bl s) (.bl t) H Q := o2_ne rfl (by rw [show decide (V.bl s = V.bl t) = decide (s = t) by simp]; exact q)
theorem o2_eqb {s t : Bool} (q : Q (.bl (decide (s = t))) H) : O2 X (compareOp .Eq) (.bl s) (.bl t) H Q := o2_eq rfl (by rw [show decide (V.bl s = V.bl t) = decide (s = t) by simp]; exact q)
theorem o2_isN {v : V} (q : Q (.bl (decide (v = .non))) H) : O2 X (compareOp .Is) v .non H Q := o2 op_isN ⟨rfl, q⟩
theorem o2_notN {v : V} (q : Q (.bl (!decide (v = .non))) H) : O2 X (compareOp .IsNot) v .non H Q := o2 op_notN ⟨rfl, q⟩
/-- == of two data -/
theorem o2_eqD {v w : V} {d d' : PyData} (hu : X.A.units + 64 < cLine) (h : Dp X.K H v d) (h' : Dp X.K H w d') (s1 : SeqAt.shaped d = true) (s2 : SeqAt.shaped d' = true) (q : Q (.bl (PyData.eqv d d')) H) : O2 X (compareOp .Eq) v w H Q := o2 (op_eqD hu) ⟨d, d', h, h', s1, s2, q⟩
theorem o2_neD {v w : V} {d d' : PyData} (hu : X.A.units + 64 < cLine) (h : Dp X.K H v d) (h' : Dp X.K H w d') (s1 : SeqAt.shaped d = true) (s2 : SeqAt.shaped d' = true) (q : Q (.bl (!PyData.eqv d d')) H) : O2 X (compareOp .NotEq) v w H Q := o2 (op_neD hu) ⟨d, d', h, h', s1, s2, q⟩
/-! displays, as heaps by name -/
theorem tup_k {es : List Expr} {x1} (h : GA X es σ H fun xs H1 => xs.length ≤ 100 ∧ ∀ p H2, H1 p = none → Ex H1 H2 → H2 p = some (.tup xs) → Q (.ref p) H2) : GE X (.Tuple es x1 pos) σ H Q :=
  ge_tup (h.mono fun xs H1 ⟨h1, h2⟩ => ⟨Nat.le_trans h1 (by decide), fun p hp => h2 p _ hp (ex_upd hp) upd_same⟩)
theorem lst_k {es : List Expr} (h : GA X es σ H fun xs H1 => xs.length ≤ 100 ∧ ∀ p H2, H1 p = none → Ex H1 H2 → H2 p = some (.lst xs) → Q (.ref p) H2) : GE X (.List es pos) σ H Q :=
  ge_lst (h.mono fun xs H1 ⟨h1, h2⟩ => ⟨Nat.le_trans h1 (by decide), fun p hp => h2 p _ hp (ex_upd hp) upd_same⟩)
end
/-! ### defs by name, methods -/
structure Df (P : Program) (w : World) (K : PySem.W.Frag) (mg : Str → Option Value) (base : Heap) (CX : CXT) (k : Nat) (x : Str) (ps : List Str) (sp : Sp) : Prop where
  ex : ∃ f fd, FnOk P w K mg base CX k f fd ps sp ∧ mg x = some (.ref f) ∧ PySem.W.keepIn K (.ref f) = true ∧ Binds K fd ps []
structure Mt (P : Program) (w : World) (K : PySem.W.Frag) (mg : Str → Option Value) (base : Heap) (CX : CXT) (k : Nat) (C : Addr) (m : Str) (ps : List Str) (sp : Sp) : Prop where
  ex : ∃ f fd, FnOk P w K mg base CX k f fd ps sp ∧ Meth K C m f ∧ Binds K fd ps []
section
variable {X : Cx} {CX : CXT} {k : Nat} {x m : Str} {ps : List Str} {sp : Sp} {E : XK} {e o : Expr} {es : List Expr} {p pos apos : Pos} {σ : St} {H : Hp} {Q : VK} {C : Addr}
theorem ge_call (D : Df X.prog X.w X.K X.mg X.base CX k x ps sp) (hr : Room k X.A) (hx : Passes CX X E) (h : GA X (e :: es) σ H fun vs H1 => sp vs H1 Q E) (hg : Gl X x := by rfl)
    (hdb : (x == ("__debug__" : Str)) = false := by decide) (he : starEach (e :: es) X.env = (false, eval e X.env) :: starEach es X.env := by rfl) (hpl : (backTo pos (starEach es X.env)).any (·.1) = false := by rfl) : GE X (.Call (.Name x p) (e :: es) [] pos) σ H Q := by
  obtain ⟨f, fd, F, hm, hk, hb⟩ := D.ex
  exact ge (pe_call F hr hg hm hk hb .nil hx GA.pa hdb he hpl) (h.mono fun vs H1 q => by rw [List.append_nil]; exact q)
theorem ge_meth {pl : Sem Bool} (c : Cls X.K C) (D : Mt X.prog X.w X.K X.mg X.base CX k C m ps sp) (hr : Room k X.A) (hx : Passes CX X E)
    (h : GE X o σ H fun x H1 => ∃ a dx fs, x = .ref a ∧ H1 a = some (.ins C dx fs) ∧ fs.lookup m = none ∧ GA X (e :: es) σ H1 fun vs H2 => sp (x :: vs) H2 Q E)
    (hst : starEach (e :: es) X.env = (false, eval e X.env) :: starEach es X.env := by rfl) (hpl : (backTo pos (starEach es X.env)).any (·.1) = false := by rfl)
    (ht : eval (.Call (.Attribute o m apos) (e :: es) [] pos) X.env = (do
      let ov ← eval o X.env
      standAt apos.atName
      let (f, first) ← holding [ov] (getMethod ov m pl)
      callWith pos f first (backTo pos (starEach (e :: es) X.env)) (backToKw pos (keywordEach [] X.env))) := by rfl) : GE X (.Call (.Attribute o m apos) (e :: es) [] pos) σ H Q := by
  obtain ⟨f, fd, F, hm, hb⟩ := D.ex
  exact ge (pe_meth GE.pe c hm F hr hb .nil hx GA.pa hst hpl ht) (h.mono fun v H1 ⟨a, dx, fs, e1, e2, e3, g⟩ => ⟨a, dx, fs, e1, e2, e3, g.mono fun vs H1 q => by rw [List.append_nil]; exact q⟩)
theorem ge_meth0 {pl : Sem Bool} (c : Cls X.K C) (D : Mt X.prog X.w X.K X.mg X.base CX k C m ps sp) (hr : Room k X.A) (hx : Passes CX X E)
    (h : GE X o σ H fun x H1 => ∃ a dx fs, x = .ref a ∧ H1 a = some (.ins C dx fs) ∧ fs.lookup m = none ∧ sp [x] H1 Q E)
    (ht : eval (.Call (.Attribute o m apos) [] [] pos) X.env = (do
      let ov ← eval o X.env
      standAt apos.atName
      let (f, first) ← holding [ov] (getMethod ov m pl)
      callWith pos f first (backTo pos (starEach [] X.env)) (backToKw pos (keywordEach [] X.env))) := by rfl) : GE X (.Call (.Attribute o m apos) [] [] pos) σ H Q := by
  obtain ⟨f, fd, F, hm, hb⟩ := D.ex
  exact ge (pe_meth0 GE.pe c hm F hr hb .nil hx ht) (h.mono fun v H1 ⟨a, dx, fs, e1, e2, e3, g⟩ => ⟨a, dx, fs, e1, e2, e3, g⟩)
/-- a built-in function -/
theorem ge_callB {id : String} (hm : X.mg x = none) (hv : bootBuiltins x = some (.builtin id)) (h : GA X (e :: es) σ H fun vs H1 => C1 X (.builtin id) vs H1 Q) (hg : Gl X x := by rfl) (hn : x ≠ "__name__" := by decide)
    (hdb : (x == ("__debug__" : Str)) = false := by decide) (he : starEach (e :: es) X.env = (false, eval e X.env) :: starEach es X.env := by rfl) (hpl : (backTo pos (starEach es X.env)).any (·.1) = false := by rfl) :
    GE X (.Call (.Name x p) (e :: es) [] pos) σ H Q := ge (pe_callB C1.cr hg hm hv GA.pa hn hdb he hpl) h
theorem ge_callT {id : String} (hm : X.mg x = none) (hv : bootBuiltins x = some (.type id)) (h : GA X (e :: es) σ H fun vs H1 => C1 X (.type id) vs H1 Q) (hg : Gl X x := by rfl) (hn : x ≠ "__name__" := by decide)
    (hdb : (x == ("__debug__" : Str)) = false := by decide) (he : starEach (e :: es) X.env = (false, eval e X.env) :: starEach es X.env := by rfl) (hpl : (backTo pos (starEach es X.env)).any (·.1) = false := by rfl) :
    GE X (.Call (.Name x p) (e :: es) [] pos) σ H Q := ge (pe_callTy C1.cr hg hm hv GA.pa hn hdb he hpl) h
/-- a built-in class's name as a value -/
theorem ge_bty {id : String} (hm : X.mg x = none) (hv : bootBuiltins x = some (.type id)) (q : Q (.ty id) H) (hg : Gl X x := by rfl) (hn : x ≠ "__name__" := by decide) (hdb : (x == ("__debug__" : Str)) = false := by decide) : GE X (.Name x pos) σ H Q :=
  ge (pe_bltn hg hm hv (v := .ty id) rfl hn hdb) q
theorem tyx_t {K : PySem.W.Frag} {a : Addr} {xs : List V} (h : SqT K H a xs) : TyX K H (.ref a) (.type "tuple") := by
  rcases h with (h | ⟨o, h⟩) | ⟨o, its, n, h1, h2, _⟩
  · exact .base (.tup h)
  · exact .fTuple h
  · exact .kTuple h1 h2
theorem tyx_l {K : PySem.W.Frag} {a : Addr} {xs : List V} (h : SqL K H a xs) : TyX K H (.ref a) (.type "list") := by
  rcases h with (h | ⟨o, h⟩) | ⟨o, its, n, h1, h2, _⟩
  · exact .base (.lst h)
  · exact .base (.frz h)
  · exact .kList h1 h2
theorem c1_isi {y : V} {t T : String} {b : Bool} (h : TyX X.K H y (.type t)) (hk : kitB t T = some b) (q : Q (.bl b) H) : C1 X (.builtin "isinstance") [y, .ty T] H Q := c1 call_isi ⟨y, .ty T, .type t, .type T, b, rfl, .ty T, h, kit_ty hk, q⟩
theorem c1_lenL {a : Addr} {xs : List V} (h : SqL X.K H a xs) (q : Q (.int xs.length) H) : C1 X (.builtin "len") [.ref a] H Q := c1 call_len_seq ⟨a, xs, rfl, .inl h, q⟩
theorem c1_lenT {a : Addr} {xs : List V} (h : SqT X.K H a xs) (q : Q (.int xs.length) H) : C1 X (.builtin "len") [.ref a] H Q := c1 call_len_seq ⟨a, xs, rfl, .inr h, q⟩
theorem c1_abs {i : Int} (q : Q (.int (i.natAbs : Int)) H) : C1 X (.builtin "abs") [.int i] H Q := c1 call_abs ⟨i, rfl, by rw [show (if i < 0 then -i else i) = (i.natAbs : Int) by split <;> omega]; exact q⟩
theorem c1_listL {a : Addr} {xs : List V} (h : SqL X.K H a xs) (q : ∀ p H2, H p = none → Ex H H2 → H2 p = some (.lst xs) → Q (.ref p) H2) : C1 X (.type "list") [.ref a] H Q := c1 call_list_of ⟨a, xs, rfl, .inl h, fun l hl => q l _ hl (ex_upd hl) upd_same⟩
end
/-! ### fields, dicts, slices, methods of built-in types -/
section
variable {X : Cx} {o e i value lo hi : Expr} {f : Str} {p pos pos' apos : Pos} {σ : St} {H : Hp} {Q : VK} {D : Ends} {es : List Expr}
theorem ge_fld (h : GE X o σ H fun x H1 => ∃ a C dx fs v, x = .ref a ∧ H1 a = some (.ins C dx fs) ∧ Cls X.K C ∧ NoAttr X.K C f ∧ fs.lookup f = some v ∧ Q v H1) (hb : attributeBase o f X.env (eval o X.env) = eval o X.env := by rfl) : GE X (.Attribute o f pos) σ H Q := ge (pe_fld GE.pe hb) h
theorem gs_fld (h : GE X value σ H fun y H1 => GE X o σ H1 fun x H2 => ∃ a C dx fs, x = .ref a ∧ H2 a = some (.ins C dx fs) ∧ Cls X.K C ∧ NoAttr X.K C f ∧ fs.length < 1000 ∧ D.nx σ (upd H2 a (.ins C dx (putF f y fs))))
    (hs : swapsWith value (some (.Attribute o f pos')) pos.line X.env = pure false := by rfl) : GS X (.Assign [.Attribute o f pos'] value pos) D σ H := gs (ps_fld GE.pe GE.pe hs) h
theorem ge_dget (hu : X.A.units + 1 < cLine) (h : GE X o σ H fun x H1 => GE X i σ H1 fun y H2 => ∃ a v, x = .ref a ∧ DGet H2 a y (some v) ∧ Q v H2) (hs : NoSl i := by intro _ _; rfl) : GE X (.Subscript o i pos) σ H Q := ge (pe_dget hu GE.pe GE.pe hs) h
theorem gs_dput (hu : X.A.units + 1 < cLine) (h : GE X value σ H fun v H1 => GE X o σ H1 fun x H2 => GE X i σ H2 fun y H3 => ∃ a H4, x = .ref a ∧ DPut H3 a y v H4 ∧ D.nx σ H4) (hs : swapsWith value (some (.Subscript o i pos')) pos.line X.env = pure false := by rfl) :
    GS X (.Assign [.Subscript o i pos'] value pos) D σ H := gs (ps_dput hu GE.pe GE.pe GE.pe hs) h
theorem ge_dnew (h : ∀ d, H d = none → Q (.ref d) (upd H d (.dK []))) : GE X (.Dict [] [] pos) σ H Q := ge pe_dnewK h
theorem o2_din {a : Addr} {y : V} {ov : Option V} (hu : X.A.units + 1 < cLine) (g : DGet H a y ov) (q : Q (.bl ov.isSome) H) : O2 X (compareOp .In) y (.ref a) H Q := ⟨fun pins s σ v u I rx ry => by
  obtain rfl : u = Value.ref a := ry
  exact d_in hu I g rx fun s3 I3 => ⟨.bl ov.isSome, H, I3, rfl, q⟩⟩
theorem o2_dnotin {a : Addr} {y : V} {ov : Option V} (hu : X.A.units + 1 < cLine) (g : DGet H a y ov) (q : Q (.bl (!ov.isSome)) H) : O2 X (compareOp .NotIn) y (.ref a) H Q := ⟨fun pins s σ v u I rx ry => by
  obtain rfl : u = Value.ref a := ry
  exact d_notIn hu I g rx fun s3 I3 => ⟨.bl (!ov.isSome), H, I3, rfl, q⟩⟩
/-- a list against an empty one -/
theorem o2_eqNil {a b : Addr} {xs : List V} (hu : X.A.units < cLine) (h1 : SqL X.K H a xs) (h2 : SqL X.K H b []) (q : Q (.bl xs.isEmpty) H) : O2 X (compareOp .Eq) (.ref a) (.ref b) H Q := ⟨fun pins s σ v u I rx ry => by
  obtain rfl : v = Value.ref a := rx
  obtain rfl : u = Value.ref b := ry
  obtain ⟨its, r1, p1, _⟩ := I.list h1
  obtain ⟨its2, r2, p2, _⟩ := I.list h2
  cases r2
  cases r1 with
  | nil => exact SeqAt.eq_listAt (e := fun _ => true) p1.isList p2.isList rfl hu (fun j h _ => absurd h (by simp)) ⟨.bl true, H, I, rfl, q⟩
  | cons _ _ => exact SeqAt.eq_list_lengthsAt p1.isList p2.isList (by simp) hu ⟨.bl false, H, I, rfl, q⟩⟩
theorem o2_neNil {a b : Addr} {xs : List V} (hu : X.A.units < cLine) (h1 : SqL X.K H a xs) (h2 : SqL X.K H b []) (q : Q (.bl (!xs.isEmpty)) H) : O2 X (compareOp .NotEq) (.ref a) (.ref b) H Q := ⟨fun pins s σ v u I rx ry => by
  obtain rfl : v = Value.ref a := rx
  obtain rfl : u = Value.ref b := ry
  obtain ⟨its, r1, p1, _⟩ := I.list h1
  obtain ⟨its2, r2, p2, _⟩ := I.list h2
  cases r2
  cases r1 with
  | nil => exact SeqAt.RcNeAt.lists (e := fun _ => true) p1.isList p2.isList rfl hu (fun j h _ => absurd h (by simp)) _ _ _ _ ⟨.bl false, H, I, rfl, q⟩
  | cons _ _ => exact SeqAt.RcNeAt.lists_lengths p1.isList p2.isList (by simp) hu _ _ _ _ ⟨.bl true, H, I, rfl, q⟩⟩
/-- x in xs, x not in xs, flat things -/
theorem o2_in {a : Addr} {y : V} {xs : List V} (h : SqL X.K H a xs ∨ SqT X.K H a xs) (fy : flatV y = true) (fx : xs.all flatV = true) (q : Q (.bl (inV y xs)) H) : O2 X (compareOp .In) y (.ref a) H Q := o2 op_in_seq ⟨a, xs, rfl, h, fy, fx, q⟩
theorem o2_nin {a : Addr} {y : V} {xs : List V} (h : SqL X.K H a xs ∨ SqT X.K H a xs) (fy : flatV y = true) (fx : xs.all flatV = true) (q : Q (.bl (!inV y xs)) H) : O2 X (compareOp .NotIn) y (.ref a) H Q := o2 op_notIn_seq ⟨a, xs, rfl, h, fy, fx, q⟩
/-- xs[lo:hi] -/
structure GO (X : Cx) (o : Option Expr) (σ : St) (H : Hp) (Q : Option Int → Hp → Prop) : Prop where
  run : ∀ pins s, Inv X pins σ H s → wpAny (model X.prog X.w) X.A (evalPart o X.env) (fun u s' => ∃ o H', Inv X pins σ H' s' ∧ IsPart u o ∧ Q o H') X.xe s
theorem GO.pe {o : Option Expr} : PO X o (GO X o) := ⟨fun pins s σ H Q I h => h.run pins s I⟩
theorem go {o : Option Expr} {t : TO} {Q : Option Int → Hp → Prop} (h : PO X o t) (q : t σ H Q) : GO X o σ H Q := ⟨fun pins s I => h.run pins s σ H Q I q⟩
theorem go_none {Q : Option Int → Hp → Prop} (q : Q none H) : GO X none σ H Q := go po_none q
theorem go_some {Q : Option Int → Hp → Prop} (h : GE X e σ H fun v H1 => ∃ n, v = .int n ∧ Q (some n) H1) : GO X (some e) σ H Q := go (po_some GE.pe) h
theorem GO.mono {o : Option Expr} {Q Q' : Option Int → Hp → Prop} (g : GO X o σ H Q) (h : ∀ v H', Q v H' → Q' v H') : GO X o σ H Q' := ⟨fun pins s I => thn (g.run pins s I) fun u s' ⟨o, H', I, r, q⟩ => ⟨o, H', I, r, h _ _ q⟩⟩
theorem ge_slL {lo hi : Option Expr} {p2 : Pos} (h : GE X e σ H fun x H1 => GO X lo σ H1 fun l H2 => GO X hi σ H2 fun u H3 => ∃ a xs, x = .ref a ∧ SqL X.K H3 a xs ∧ ∀ p H4, H3 p = none → Ex H3 H4 → H4 p = some (.lst (cutV xs l u)) → Q (.ref p) H4) :
    GE X (.Subscript e (.Slice lo hi none p2) pos) σ H Q := ge (pe_slice (lo := lo) (hi := hi) sl_list GE.pe GO.pe GO.pe) (h.mono fun x H1 h1 => h1.mono fun l H2 h2 => h2.mono fun u H3 ⟨a, xs, e, hx, q⟩ => ⟨a, xs, e, hx, fun p hp => q p _ hp (ex_upd hp) upd_same⟩)
/-- t[lo:hi] of a tuple -/
theorem ge_slT {lo hi : Option Expr} {p2 : Pos} (h : GE X e σ H fun x H1 => GO X lo σ H1 fun l H2 => GO X hi σ H2 fun u H3 => ∃ a xs, x = .ref a ∧ SqT X.K H3 a xs ∧ ¬ (HT.sIx xs.length 0 l = 0 ∧ HT.sIx xs.length xs.length u = xs.length) ∧ ∀ p H4, H3 p = none → Ex H3 H4 → H4 p = some (.tup (cutV xs l u)) → Q (.ref p) H4) :
    GE X (.Subscript e (.Slice lo hi none p2) pos) σ H Q := ge (pe_slice (lo := lo) (hi := hi) sl_tup GE.pe GO.pe GO.pe) (h.mono fun x H1 h1 => h1.mono fun l H2 h2 => h2.mono fun u H3 ⟨a, xs, e, hx, hw, q⟩ => ⟨a, xs, e, hx, hw, fun p hp => q p _ hp (ex_upd hp) upd_same⟩)
/-- t + u of tuples, the left one not empty -/
theorem o2_catT {a b : Addr} {xs ys : List V} (h1 : SqT X.K H a xs) (h2 : SqT X.K H b ys) (hx : xs ≠ []) (hz : xs.length + ys.length ≤ 100000) (q : ∀ t H4, Ex H H4 → SqT X.K H4 t (xs ++ ys) → Q (.ref t) H4) : O2 X (binaryOp .Add) (.ref a) (.ref b) H Q :=
  o2 op_catT ⟨a, b, xs, ys, rfl, rfl, h1, h2, hx, Evl.sz_of hz, fun e => q a H (Evl.Ex.refl _) (by rw [e, List.append_nil]; exact h1), fun _ p hp => q p _ (ex_upd hp) (Evl.st_of upd_same)⟩
/-- xs + ys of lists -/
theorem o2_cat {a b : Addr} {xs ys : List V} (h1 : H a = some (.lst xs)) (h2 : H b = some (.lst ys)) (hz : xs.length + ys.length ≤ 100000) (q : ∀ p H4, H p = none → Ex H H4 → H4 p = some (.lst (xs ++ ys)) → Q (.ref p) H4) : O2 X (binaryOp .Add) (.ref a) (.ref b) H Q :=
  o2 op_cat ⟨a, b, xs, ys, rfl, rfl, h1, h2, Evl.sz_of hz, fun p hp => q p _ hp (ex_upd hp) upd_same⟩
/-- xs.append(e), a statement -/
theorem ge_append (h : GE X o σ H fun x H1 => ∃ l ys, x = .ref l ∧ SqL X.K H1 l ys ∧ GE X e σ H1 fun y H2 => ∃ xs, H2 l = some (.lst xs) ∧ xs.length < 100000 ∧ Q .non (upd H2 l (.lst (xs ++ [y]))))
    (hbase : attributeBase o "append" X.env (eval o X.env) = eval o X.env := by rfl)
    (hfew : ((backTo pos (starEach [e] X.env)).all (fun x => !x.1) && (backToKw pos (keywordEach [] X.env)).all (fun x => x.1.isSome)
      && decide ([e].length + ([] : List Keyword).length + (if ([] : List Keyword).isEmpty then 0 else 1) < 30)) = true := by rfl)
    (hline : (apos.endLine == pos.line) = true := by rfl) (hs : starEach [e] X.env = (false, eval e X.env) :: starEach [] X.env := by rfl) (hplain : (backTo pos (starEach [] X.env)).any (·.1) = false := by rfl) :
    GE X (.Call (.Attribute o "append" apos) [e] [] pos) σ H Q :=
  ge (pe_bm PySem.F.plainAttrs_list PySem.F.slot_list_append PySem.F.type_list_append mt_append GE.pe (pa_cons GE.pe pa_nil hs) hbase hfew hline hs hplain) (h.mono fun x H1 ⟨l, ys, e1, hl, h2⟩ => by
    subst e1
    exact ⟨.inl ⟨rfl, ys, hl⟩, h2.mono fun y H2 ⟨xs, hx, hz, q⟩ => ⟨l, xs, y, rfl, rfl, hx, Evl.sz_lt hz, q⟩⟩)
/-- xs.pop() -/
theorem ge_pop (h : GE X o σ H fun x H1 => ∃ l xs y, x = .ref l ∧ H1 l = some (.lst xs) ∧ xs[xs.length - 1]? = some y ∧ Q y (upd H1 l (.lst xs.dropLast))) (hbase : attributeBase o "pop" X.env (eval o X.env) = eval o X.env := by rfl) (hline : (apos.endLine == pos.line) = true := by rfl) :
    GE X (.Call (.Attribute o "pop" apos) [] [] pos) σ H Q :=
  ge (pe_bm0 PySem.F.plainAttrs_list PySem.F.slot_list_pop PySem.F.type_list_pop mt_pop GE.pe hbase hline) (h.mono fun x H1 ⟨l, xs, y, e1, hl, hy, q⟩ => by
    subst e1
    exact ⟨.inl ⟨rfl, xs, SqL.of hl⟩, l, xs, y, rfl, rfl, hl, hy, q⟩)
/-- xs.clear() -/
theorem ge_clear (h : GE X o σ H fun x H1 => ∃ l xs, x = .ref l ∧ H1 l = some (.lst xs) ∧ Q .non (upd H1 l (.lst []))) (hbase : attributeBase o "clear" X.env (eval o X.env) = eval o X.env := by rfl) (hline : (apos.endLine == pos.line) = true := by rfl) :
    GE X (.Call (.Attribute o "clear" apos) [] [] pos) σ H Q :=
  ge (pe_bm0 PySem.F.plainAttrs_list PySem.F.slot_list_clear PySem.F.type_list_clear mt_clear GE.pe hbase hline) (h.mono fun x H1 ⟨l, xs, e1, hl, q⟩ => by
    subst e1
    exact ⟨.inl ⟨rfl, xs, SqL.of hl⟩, l, xs, rfl, rfl, hl, q⟩)
end
/-! ### tests -/
theorem ite_d {p A B : Prop} [Decidable p] (h1 : p → A) (h2 : ¬ p → B) : if decide p = true then A else B := by
  by_cases h : p
  · rw [decide_eq_true h]; exact h1 h
  · rw [decide_eq_false h]; exact h2 h
theorem ite_nd {p A B : Prop} [Decidable p] (h1 : ¬ p → A) (h2 : p → B) : if (!decide p) = true then A else B := by
  by_cases h : p
  · rw [decide_eq_true h]; exact h2 h
  · rw [decide_eq_false h]; exact h1 h
theorem ite_nb {b : Bool} {A B : Prop} (h1 : b = false → A) (h2 : b = true → B) : if (!b) = true then A else B := by
  cases b with
  | true => exact h2 rfl
  | false => exact h1 rfl
theorem ite_nt {A B : Prop} (h : B) : if (!true) = true then A else B := h
theorem ite_nf {A B : Prop} (h : A) : if (!false) = true then A else B := h
theorem ite_t {b : Bool} {A B : Prop} (h : b = true) (a : A) : if b = true then A else B := by rw [if_pos h]; exact a
theorem ite_f {b : Bool} {A B : Prop} (h : b = false) (a : B) : if b = true then A else B := by rw [h]; exact a
theorem ite_b {b : Bool} {A B : Prop} (h1 : b = true → A) (h2 : b = false → B) : if b = true then A else B := by
  cases b with
  | true => exact h1 rfl
  | false => exact h2 rfl
/-! ### a def's body -/
abbrev FnP (K : PySem.W.Frag) (x q : Str) (st : Stmt) (f : Addr) (fd : FuncData) : Prop := FunD K x q (defArgs st) (defBody st) (defScope st) [] [] f fd
section
variable {P : Program} {w : World} {K : PySem.W.Frag} {mg : Str → Option Value} {base : Heap}
/-- a def that lets nothing out -/
theorem fn0 {x q : Str} {st : Stmt} {f : Addr} {fd : FuncData} {N ps : List Str} {k : Nat} {sp : Sp} (F : FnP K x q st f fd) (S : FnScope N ps (defScope st)) (len : ∀ vs H Q E, sp vs H Q E → vs.length = ps.length)
    (hbody : ∀ (cdv : Value) (A : Around) (outer : List Env) (s : Shared) (H : Hp) (vs : List V) (Q : VK) (E : XK), Room k (A.deeper (envOfC q (defScope st) s.heap.objs.size f cdv)) → sp vs H Q E →
      GB (cxOf CX0 P w K mg base N q (defScope st) f cdv A outer s H E).nox (defBody st) { nx := fun _ H' => Q .non H', rt := Q } (start N vs) H) : FnOk P w K mg base CX0 (k + 1) f fd ps sp :=
  F.ok S len fun cdv A outer s H vs Q E hr h => ⟨_, GB.pss.nox, hbody cdv A outer s H vs Q E hr h⟩
/-- a def that may raise -/
theorem fnX {x q : Str} {st : Stmt} {f : Addr} {fd : FuncData} {N ps : List Str} {k : Nat} {sp : Sp} (F : FnP K x q st f fd) (S : FnScope N ps (defScope st)) (len : ∀ vs H Q E, sp vs H Q E → vs.length = ps.length)
    (hbody : ∀ (cdv : Value) (A : Around) (outer : List Env) (s : Shared) (H : Hp) (vs : List V) (Q : VK) (E : XK), Room k (A.deeper (envOfC q (defScope st) s.heap.objs.size f cdv)) → sp vs H Q E →
      GB (cxOf (L2N.CX P w) P w K mg base N q (defScope st) f cdv A outer s H E) (defBody st) { nx := fun _ H' => Q .non H', rt := Q } (start N vs) H) : FnOk P w K mg base (L2N.CX P w) (k + 1) f fd ps sp :=
  F.ok S len fun cdv A outer s H vs Q E hr h => ⟨_, GB.pss, hbody cdv A outer s H vs Q E hr h⟩
theorem Df.mk' {CX : CXT} {x : Str} {st : Stmt} {ps : List Str} {k : Nat} {sp : Sp} {f : Addr} {fd : FuncData} (F : FnP K x x st f fd) (hm : mg x = some (.ref f)) (G : FnOk P w K mg base CX k f fd ps sp)
    (h : ∀ (kV doc pm : Value) (an : Option Addr) (cdv ct : Value) (us : List Value), us.length = ps.length → bindArgs (PySem.W.fnOf x x (defArgs st) (defBody st) (defScope st) .none kV doc pm an cdv ct) ⟨us, []⟩ = pure (ps.zip us)) : Df P w K mg base CX k x ps sp :=
  ⟨f, fd, G, hm, F.kp, F.bindsN h⟩
theorem Mt.mk' {CX : CXT} {x q : Str} {st : Stmt} {ps : List Str} {k : Nat} {sp : Sp} {f C : Addr} {fd : FuncData} (F : FnP K x q st f fd) (hm : Meth K C x f) (G : FnOk P w K mg base CX k f fd ps sp)
    (h : ∀ (kV doc pm : Value) (an : Option Addr) (cdv ct : Value) (us : List Value), us.length = ps.length → bindArgs (PySem.W.fnOf x q (defArgs st) (defBody st) (defScope st) .none kV doc pm an cdv ct) ⟨us, []⟩ = pure (ps.zip us)) : Mt P w K mg base CX k C x ps sp :=
  ⟨f, fd, G, hm, F.bindsN h⟩
end
end RD
namespace RD
open PySem PySem.Spec PyProof.Rows L2
/-! ### targets -/
/-- a store of the value to a target -/
structure GG (X : Cx) (tg : Expr) (v : V) (σ : St) (H : Hp) (Q : St → Hp → Prop) : Prop where
  run : ∀ pins s u, Inv X pins σ H s → RelV v u → wpAny (model X.prog X.w) X.A (assign tg X.env u) (fun _ s' => ∃ σ' H', Inv X pins σ' H' s' ∧ Q σ' H') X.xe s
theorem GG.pg {X : Cx} {tg : Expr} : PG X tg (GG X tg) := ⟨fun pins s σ H v u Q I r h => h.run pins s u I r⟩
theorem gg {X : Cx} {tg : Expr} {t : TG} (h : PG X tg t) {v : V} {σ : St} {H : Hp} {Q : St → Hp → Prop} (q : t v σ H Q) : GG X tg v σ H Q := ⟨fun pins s u I r => h.run pins s σ H v u Q I r q⟩
theorem GG.mono {X : Cx} {tg : Expr} {v : V} {σ : St} {H : Hp} {Q Q' : St → Hp → Prop} (g : GG X tg v σ H Q) (h : ∀ σ H, Q σ H → Q' σ H) : GG X tg v σ H Q' := ⟨fun pins s u I r => thn (g.run pins s u I r) fun _ s' ⟨σ', H', I', q⟩ => ⟨σ', H', I', h _ _ q⟩⟩
/-! ### loops -/
section
variable {X : Cx} {tg iter c : Expr} {body : List Stmt} {wi : TI} {g : TG} {D : Ends} {σ : St} {H : Hp} {pos : Pos}
/-- for over a walk -/
theorem gs_for (hp : PassesOwn (model X.prog X.w) X.A X.env X.xe) (hc : X.calm = true) (hi : PI X tg iter wi) (hg : PG X tg g)
    (h : wi σ H fun J H1 => ∃ (n : Nat) (G : Hp → Prop) (Y : Nat → Hp → V → Hp → Prop) (Pv : Nat → St → Hp → Prop), Walk J n G Y ∧ Pv 0 σ H1 ∧ (∀ i σ H, i ≤ n → Pv i σ H → G H) ∧
      (∀ i x σ H H', i < n → Pv i σ H → Y i H x H' → g x σ H' fun σ2 H2 => GB X body { D with nx := Pv (i + 1), ct := Pv (i + 1), bk := D.nx } σ2 H2) ∧ ∀ σ H, Pv n σ H → D.nx σ H)
    (wm : ∀ R R' : It → Hp → Prop, (∀ J H, R J H → R' J H) → wi σ H R → wi σ H R')
    (hs : ∀ x, foldedSetIterable iter X.env x = pure x := by intro _; rfl) : GS X (.For tg iter body [] pos) D σ H :=
  gs (ps_for hp hc hi hg GB.pss hs) (wm _ _ (fun J H1 ⟨n, G, Y, Pv, w, h0, hG, ht, hd⟩ => for_it w Pv h0 hG ht hd) h)
/-- for x in a list -/
theorem gs_forL (hp : PassesOwn (model X.prog X.w) X.A X.env X.xe) (hc : X.calm = true) (hg : PG X tg g)
    (h : GE X iter σ H fun v H1 => ∃ (a : Addr) (xs : List V) (Pv : Nat → St → Hp → Prop), v = .ref a ∧ SqL X.K H1 a xs ∧ Pv 0 σ H1 ∧ (∀ i σ H, i ≤ xs.length → Pv i σ H → SqL X.K H a xs) ∧
      (∀ i x σ H, xs[i]? = some x → Pv i σ H → g x σ H fun σ2 H2 => GB X body { D with nx := Pv (i + 1), ct := Pv (i + 1), bk := D.nx } σ2 H2) ∧ ∀ σ H, Pv xs.length σ H → D.nx σ H)
    (hs : ∀ x, foldedSetIterable iter X.env x = pure x := by intro _; rfl) : GS X (.For tg iter body [] pos) D σ H := by
  refine gs_for hp hc (pi_list GE.pe) hg ?_ ?_ hs
  · refine GE.mono h fun v H1 ⟨a, xs, Pv, e, hx, h0, hl, ht, hd⟩ => ⟨a, e, ⟨xs, hx⟩, xs.length, _, _, Pv, walk_list, h0, hl, fun i x σ H H' hi p y => ?_, hd⟩
    obtain ⟨rfl, y⟩ := y
    exact ht i x σ H' y p
  · intro R R' hr h
    exact GE.mono h fun v H1 ⟨a, e, hx, r⟩ => ⟨a, e, hx, hr _ _ r⟩
/-- for i in range(n) -/
theorem gs_forR {ae : Expr} {p p' : Pos} (hp : PassesOwn (model X.prog X.w) X.A X.env X.xe) (hc : X.calm = true) (hm : X.mg "range" = none) (hg : PG X tg g)
    (h : GE X ae σ H fun v H1 => ∃ (n : Nat) (Pv : Nat → St → Hp → Prop), v = .int n ∧ n < 2 ^ 62 ∧ Pv 0 σ H1 ∧
      (∀ i σ H, i < n → Pv i σ H → g (.int i) σ H fun σ2 H2 => GB X body { D with nx := Pv (i + 1), ct := Pv (i + 1), bk := D.nx } σ2 H2) ∧ ∀ σ H, Pv n σ H → D.nx σ H)
    (hgl : Gl X "range" := by rfl) (hst : starEach [ae] X.env = [(false, eval ae X.env)] := by rfl) (hs : ∀ x, foldedSetIterable (.Call (.Name "range" p) [ae] [] p') X.env x = pure x := by intro _; rfl) : GS X (.For tg (.Call (.Name "range" p) [ae] [] p') body [] pos) D σ H := by
  refine gs_for hp hc (pi_range1 hgl hm (ta := tCons (GE X ae) tNil) (pa_cons GE.pe pa_nil hst) hst) hg ?_ ?_ hs
  · refine GE.mono h fun v H1 ⟨n, Pv, e, hn, h0, ht, hd⟩ => ⟨n, by rw [e], by omega, by omega, n, _, _, Pv, walk_range, h0, fun _ _ _ _ _ => trivial, fun i x σ H H' hi p y => ?_, hd⟩
    obtain ⟨rfl, rfl⟩ := y
    have e0 : (0 : Int) + (i : Int) = i := Int.zero_add _
    dsimp only
    rw [e0]
    exact ht i σ H' hi p
  · intro R R' hr h
    exact GE.mono h fun v H1 ⟨j, e, h1, h2, r⟩ => ⟨j, e, h1, h2, hr _ _ r⟩
/-- for a, b in enumerate(list) -/
theorem gs_forE {ae : Expr} {p p' tpos : Pos} {elts : List Expr} {kk : Nat} (hp : PassesOwn (model X.prog X.w) X.A X.env X.xe) (hc : X.calm = true) (hm : X.mg "enumerate" = none) (hg : PG X (.Tuple elts kk tpos) g)
    (h : GE X ae σ H fun v H1 => ∃ (a : Addr) (xs : List V) (Pv : Nat → St → Hp → Prop), v = .ref a ∧ SqL X.K H1 a xs ∧ Pv 0 σ H1 ∧ (∀ i σ H, i ≤ xs.length → Pv i σ H → SqL X.K H a xs) ∧
      (∀ i x σ H T H', xs[i]? = some x → Pv i σ H → H T = none → Ex H H' → H' T = some (.tup [.int i, x]) → g (.ref T) σ H' fun σ2 H2 => GB X body { D with nx := Pv (i + 1), ct := Pv (i + 1), bk := D.nx } σ2 H2) ∧ ∀ σ H, Pv xs.length σ H → D.nx σ H)
    (hgl : Gl X "enumerate" := by rfl) (hst : starEach [ae] X.env = [(false, eval ae X.env)] := by rfl) (hs : ∀ x, foldedSetIterable (.Call (.Name "enumerate" p) [ae] [] p') X.env x = pure x := by intro _; rfl) :
    GS X (.For (.Tuple elts kk tpos) (.Call (.Name "enumerate" p) [ae] [] p') body [] pos) D σ H := by
  refine gs_for hp hc (pi_enum hgl hm (ta := tCons (GE X ae) tNil) (pa_cons GE.pe pa_nil hst) hst) hg ?_ ?_ hs
  · refine GE.mono h fun v H1 ⟨a, xs, Pv, e, hx, h0, hl, ht, hd⟩ => ⟨a, xs, by rw [e], hx, xs.length, _, _, Pv, walk_enum, h0, hl, fun i x σ H H' hi p y => ?_, hd⟩
    obtain ⟨T, x1, y1, rfl, hT, rfl, e1, e2⟩ := y
    cases e1
    exact ht i y1 σ H T _ e2 p hT (ex_upd hT) upd_same
  · intro R R' hr h
    exact GE.mono h fun v H1 ⟨a, xs, e, hx, r⟩ => ⟨a, xs, e, hx, hr _ _ r⟩
theorem gs_while (hp : PassesOwn (model X.prog X.w) X.A X.env X.xe) (Pv : Nat → St → Hp → Prop) (m0 : Nat) (h0 : Pv m0 σ H)
    (ht : ∀ m σ H, Pv m σ H → GT X c σ H fun b H1 => if b = true then GB X body { D with nx := fun σ' H' => ∃ m', m' < m ∧ Pv m' σ' H', ct := fun σ' H' => ∃ m', m' < m ∧ Pv m' σ' H', bk := D.nx } σ H1 else D.nx σ H1) :
    GS X (.While c body [] pos) D σ H := by
  refine gs (ps_while hp GT.pt GB.pss) ⟨Pv, ⟨m0, h0⟩, fun m σ H p => (ht m σ H p).mono fun b H1 q => ?_⟩
  cases b with
  | true => exact ⟨_, fun σ' H' h => h, q⟩
  | false => exact q
end
/-- a, b = x, y -/
theorem gs_par (i j : Nat) {X : Cx} {x y : Str} {a b : Expr} {px py pt pos : Pos} {kt k2 pt2} {D : Ends} {σ : St} {H : Hp} (hc : X.calm = true) (hN : X.N.Nodup) (hi : X.N[i]? = some x) (hj : X.N[j]? = some y)
    (h : GE X a σ H fun v H1 => GE X b σ H1 fun w H2 => D.nx ((σ.set i (some v)).set j (some w)) H2) (hij : i ≠ j := by decide)
    (hx : X.env.scope.names.lookup x = some .local := by rfl) (hy : X.env.scope.names.lookup y = some .local := by rfl)
    (hw : swappedStores [.Tuple [.Name x px, .Name y py] kt pt] (.Tuple [a, b] k2 pt2) X.env = pure (some [x, y]) := by rfl)
    (hs : swapsWithSole [.Tuple [.Name x px, .Name y py] kt pt] (.Tuple [a, b] k2 pt2) pos.line X.env = pure false := by rfl)
    (h1 : starEach [a, b] X.env = (false, eval a X.env) :: starEach [b] X.env := by rfl) (h2 : starEach [b] X.env = (false, eval b X.env) :: starEach [] X.env := by rfl) :
    GS X (.Assign [.Tuple [.Name x px, .Name y py] kt pt] (.Tuple [a, b] k2 pt2) pos) D σ H :=
  gs (ps_par hc hN hi hj hij hx hy (ta := tCons (GE X a) (tCons (GE X b) tNil)) (pa_cons GE.pe (pa_cons GE.pe pa_nil h2) h1) hw hs) (h.mono fun v H1 h2 => h2.mono fun w H2 q => ⟨v, w, rfl, q⟩)
/-! ### comprehensions -/
theorem wipe2 {σ : St} {j k : Nat} {x y : Option V} (h : j ≠ k) : wipe (((wipe σ [j, k]).set j x).set k y) [j, k] = wipe σ [j, k] := by
  show ((((((σ.set k none).set j none).set j x).set k y).set k none).set j none) = (σ.set k none).set j none
  rw [List.set_set, List.set_set, List.set_comm _ _ h.symm, List.set_set, List.set_comm _ _ h.symm, List.set_set, List.set_comm _ _ h]
structure BE (X : Cx) (scope : Scope) (e : Expr) (σ : St) (H : Hp) (Q : VK) : Prop where
  run : ∀ (s0 : Shared) (H0 : Hp) (C : Addr) (cl : List (Str × Addr)) (fp : List Addr), GE (X.blk s0 H0 scope (compEnvC scope cl C X.env) fp) e σ H Q
structure BT (X : Cx) (scope : Scope) (e : Expr) (σ : St) (H : Hp) (Q : Bool → Hp → Prop) : Prop where
  run : ∀ (s0 : Shared) (H0 : Hp) (C : Addr) (cl : List (Str × Addr)) (fp : List Addr), GT (X.blk s0 H0 scope (compEnvC scope cl C X.env) fp) e σ H Q
section
variable {X : Cx} {tg iter elt c : Expr} {scope : Scope} {own : List (Str × Nat)} {wi : TI} {g : TG} {σ : St} {H : Hp} {pos : Pos} {Q : VK}
theorem BE.pe (s0 : Shared) (H0 : Hp) (C : Addr) (cl : List (Str × Addr)) (fp : List Addr) : PE (X.blk s0 H0 scope (compEnvC scope cl C X.env) fp) elt (BE X scope elt) := ⟨fun pins s σ H Q I h => (h.run s0 H0 C cl fp).run pins s I⟩
theorem BT.pt (s0 : Shared) (H0 : Hp) (C : Addr) (cl : List (Str × Addr)) (fp : List Addr) : PT (X.blk s0 H0 scope (compEnvC scope cl C X.env) fp) c (BT X scope c) := ⟨fun pins s σ H Q I h => (h.run s0 H0 C cl fp).run pins s I⟩
theorem BE.mono {Q Q' : VK} (h : BE X scope elt σ H Q) (k : ∀ v H', Q v H' → Q' v H') : BE X scope elt σ H Q' := ⟨fun s0 H0 C cl fp => (h.run s0 H0 C cl fp).mono k⟩
theorem BT.mono {Q Q' : Bool → Hp → Prop} (h : BT X scope c σ H Q) (k : ∀ v H', Q v H' → Q' v H') : BT X scope c σ H Q' := ⟨fun s0 H0 C cl fp => (h.run s0 H0 C cl fp).mono k⟩
/-- what a pure comprehension has made so far -/
def Lc (K : PySem.W.Frag) (H1 : Hp) (D : Addr) (keep : Nat → Bool) (d : Nat → PyData) (i : Nat) (H : Hp) : Prop := H1 D = none ∧ Ex H1 H ∧ ∃ ys, H D = some (.lst ys) ∧ TDs K H ys (((List.range i).filter keep).map d) ∧ ys.length ≤ i
theorem Lc.start {K : PySem.W.Frag} {H1 : Hp} {D : Addr} {keep : Nat → Bool} {d : Nat → PyData} (h : H1 D = none) : Lc K H1 D keep d 0 (upd H1 D (.lst [])) := ⟨h, ex_upd h, [], upd_same, .nil, Nat.le_refl _⟩
theorem tk_mut {K : PySem.W.Frag} {H : Hp} {p : Addr} {xs ys : List V} (h : H p = some (.lst xs)) : Tk K H (upd H p (.lst ys)) := fun a zs q => by
  rcases q with (q | ⟨o, q⟩) | q
  · exact .inl (.inl (by rw [upd_ne (ne_of q h (by intro z; cases z))]; exact q))
  · exact .inl (.inr ⟨o, by rw [upd_ne (ne_of q h (by intro z; cases z))]; exact q⟩)
  · exact .inr q
theorem Lc.yes {K : PySem.W.Frag} {H1 H H2 : Hp} {D : Addr} {keep : Nat → Bool} {d : Nat → PyData} {i : Nat} {y : V} (p : Lc K H1 D keep d i H) (e : Ex H H2) (hk : keep i = true) (hy : TD K H2 y (d i)) (hi : i < 100000) :
    ∃ acc, H2 D = some (.lst acc) ∧ acc.length < sizeLine ∧ Lc K H1 D keep d (i + 1) (upd H2 D (.lst (acc ++ [y]))) := by
  obtain ⟨h0, h1, ys, h2, h3, h4⟩ := p
  have e2 := e D _ h2
  refine ⟨ys, e2, Evl.sz_lt (by omega), h0, Evl.Ex.mut (h1.trans e) h0, _, upd_same, ?_, by rw [List.length_append, List.length_singleton]; omega⟩
  rw [List.range_succ, List.filter_append, List.map_append, List.filter_cons, if_pos hk]
  exact ((h3.ex e).append (.cons hy .nil)).tk (tk_mut e2)
theorem Lc.no {K : PySem.W.Frag} {H1 H H2 : Hp} {D : Addr} {keep : Nat → Bool} {d : Nat → PyData} {i : Nat} (p : Lc K H1 D keep d i H) (e : Ex H H2) (hk : keep i = false) : Lc K H1 D keep d (i + 1) H2 := by
  obtain ⟨h0, h1, ys, h2, h3, h4⟩ := p
  refine ⟨h0, h1.trans e, ys, e D _ h2, ?_, by omega⟩
  rw [List.range_succ, List.filter_append, List.map_append, List.filter_cons, if_neg (by rw [hk]; decide)]
  simpa using h3.ex e
/-- what follows a pure comprehension -/
def LcK (K : PySem.W.Frag) (H1 : Hp) (n : Nat) (keep : Nat → Bool) (d : Nat → PyData) (Q : VK) : Prop := ∀ D H' ys, H1 D = none → Ex H1 H' → H' D = some (.lst ys) → TDs K H' ys (((List.range n).filter keep).map d) → Q (.ref D) H'
/-- a comprehension, as a value or stored at a name -/
structure GL (X : Cx) (e : Expr) (σ : St) (H : Hp) (Q : VK) : Prop where
  ex : ∃ t : TE, PE X e t ∧ (∀ (i : Nat) (y : Str) (py spos : Pos), X.N[i]? = some y → X.env.scope.names.lookup y = some .local → swapsWith e (some (.Name y py)) spos.line X.env = pure true → PS X (.Assign [.Name y py] e spos) (tAsg t (gName i))) ∧ t σ H Q
theorem GL.ge {e : Expr} (g : GL X e σ H Q) : GE X e σ H Q := let ⟨_, h, _, q⟩ := g.ex; RD.ge h q
theorem gs_lc (i : Nat) {e : Expr} {y : Str} {py : Pos} {D : Ends} (hi : X.N[i]? = some y) (hy : X.env.scope.names.lookup y = some .local) (hs : swapsWith e (some (.Name y py)) pos.line X.env = pure true) (g : GL X e σ H fun v H1 => D.nx (σ.set i (some v)) H1) : GS X (.Assign [.Name y py] e pos) D σ H :=
  let ⟨_, _, h, q⟩ := g.ex; gs (h i y py pos hi hy hs) q
/-- [elt for tg in iter], pure -/
theorem gl_lc (hc : X.calm = true) (hN : X.N.Nodup) (hi : PI X tg iter wi) (ok : BlkOk X.N X.env.scope scope own)
    (hg : ∀ (s : Shared) (H : Hp) (C : Addr) (cl : List (Str × Addr)) (fp : List Addr), PG (X.blk s H scope (compEnvC scope cl C X.env) fp) tg g)
    (h : wi σ H fun J H1 => ∃ (n : Nat) (G : Hp → Prop) (Y : Nat → Hp → V → Hp → Prop) (d : Nat → PyData), Walk J n G Y ∧ n ≤ 100000 ∧ (∀ H', Ex H1 H' → G H') ∧
      (∀ i x H2 H', i < n → Ex H1 H2 → Y i H2 x H' → Ex H2 H' ∧ g x (wipe σ (own.map (·.2))) H' fun σ2 H3 => wipe σ2 (own.map (·.2)) = wipe σ (own.map (·.2)) ∧ Ex H' H3 ∧ BE X scope elt σ2 H3 fun y H4 => Ex H3 H4 ∧ TD X.K H4 y (d i)) ∧
      LcK X.K H1 n (fun _ => true) d Q)
    (gm : ∀ v σ H (R R' : St → Hp → Prop), (∀ σ H, R σ H → R' σ H) → g v σ H R → g v σ H R')
    (wm : ∀ R R' : It → Hp → Prop, (∀ J H, R J H → R' J H) → wi σ H R → wi σ H R')
    (hs : ∀ x, foldedSetIterable iter X.env x = pure x := by intro _; rfl) : GL X (.ListComp elt [⟨tg, iter, [], 0⟩] scope pos) σ H Q := by
  refine ⟨_, pe_lc hc hN hi ok hg (fun _ _ _ _ _ => pts_nil) BE.pe hs, fun i y py spos h1 h2 h3 => ps_setLc hc hN h1 h2 h3 hi ok hg (fun _ _ _ _ _ => pts_nil) BE.pe hs, (wm _ _ (fun J H1 ⟨n, G, Y, d, w, hn, hG, ht, hd⟩ D hD => ?_) h)⟩
  refine lc_it w (Lc X.K H1 D (fun _ => true) d) (Lc.start hD) (fun i H' _ p => hG H' p.2.1) (fun i x H2 H' hi p y => ?_) (fun H' p => ?_)
  · obtain ⟨e1, q⟩ := ht i x H2 H' hi p.2.1 y
    refine gm _ _ _ _ _ (fun σ2 H3 ⟨h1, e2, q⟩ => ⟨h1, ?_⟩) q
    show tYes σ2 H3 _
    exact q.mono fun y H4 ⟨e3, hy⟩ => p.yes ((e1.trans e2).trans e3) rfl hy (by omega)
  · obtain ⟨h0, h1, ys, h2, h3, h4⟩ := p
    exact hd D H' ys h0 h1 h2 h3
/-- [elt for tg in iter if c], pure -/
theorem gl_lcI (hc : X.calm = true) (hN : X.N.Nodup) (hi : PI X tg iter wi) (ok : BlkOk X.N X.env.scope scope own)
    (hg : ∀ (s : Shared) (H : Hp) (C : Addr) (cl : List (Str × Addr)) (fp : List Addr), PG (X.blk s H scope (compEnvC scope cl C X.env) fp) tg g)
    (h : wi σ H fun J H1 => ∃ (n : Nat) (G : Hp → Prop) (Y : Nat → Hp → V → Hp → Prop) (keep : Nat → Bool) (d : Nat → PyData), Walk J n G Y ∧ n ≤ 100000 ∧ (∀ H', Ex H1 H' → G H') ∧
      (∀ i x H2 H', i < n → Ex H1 H2 → Y i H2 x H' → Ex H2 H' ∧ g x (wipe σ (own.map (·.2))) H' fun σ2 H3 => wipe σ2 (own.map (·.2)) = wipe σ (own.map (·.2)) ∧ Ex H' H3 ∧
        BT X scope c σ2 H3 fun b H4 => Ex H3 H4 ∧ b = keep i ∧ (b = true → BE X scope elt σ2 H4 fun y H5 => Ex H4 H5 ∧ TD X.K H5 y (d i))) ∧
      LcK X.K H1 n keep d Q)
    (gm : ∀ v σ H (R R' : St → Hp → Prop), (∀ σ H, R σ H → R' σ H) → g v σ H R → g v σ H R')
    (wm : ∀ R R' : It → Hp → Prop, (∀ J H, R J H → R' J H) → wi σ H R → wi σ H R')
    (hs : ∀ x, foldedSetIterable iter X.env x = pure x := by intro _; rfl) : GL X (.ListComp elt [⟨tg, iter, [c], 0⟩] scope pos) σ H Q := by
  refine ⟨_, pe_lc hc hN hi ok hg (fun s H C cl fp => pts_one (BT.pt s H C cl fp)) BE.pe hs, fun i y py spos h1 h2 h3 => ps_setLc hc hN h1 h2 h3 hi ok hg (fun s H C cl fp => pts_one (BT.pt s H C cl fp)) BE.pe hs, (wm _ _ (fun J H1 ⟨n, G, Y, keep, d, w, hn, hG, ht, hd⟩ D hD => ?_) h)⟩
  refine lc_it w (Lc X.K H1 D keep d) (Lc.start hD) (fun i H' _ p => hG H' p.2.1) (fun i x H2 H' hi p y => ?_) (fun H' p => ?_)
  · obtain ⟨e1, q⟩ := ht i x H2 H' hi p.2.1 y
    refine gm _ _ _ _ _ (fun σ2 H3 ⟨h1, e2, q⟩ => ⟨h1, ?_⟩) q
    refine q.mono fun b H4 ⟨e3, hb, q⟩ => ?_
    cases b with
    | true =>
      rw [if_pos rfl]
      exact (q rfl).mono fun y H5 ⟨e4, hy⟩ => p.yes (((e1.trans e2).trans e3).trans e4) hb.symm hy (by omega)
    | false =>
      rw [if_neg Bool.false_ne_true]
      exact p.no ((e1.trans e2).trans e3) hb.symm
  · obtain ⟨h0, h1, ys, h2, h3, h4⟩ := p
    exact hd D H' ys h0 h1 h2 h3
theorem gm_name {j : Nat} (v : V) (σ : St) (H : Hp) (R R' : St → Hp → Prop) (h : ∀ σ H, R σ H → R' σ H) (q : gName j v σ H R) : gName j v σ H R' := h _ _ q
variable {j : Nat} {xn : Str} {xp : Pos}
/-- [elt for x in list] -/
theorem gl_lcL (hc : X.calm = true) (hN : X.N.Nodup) (ok : BlkOk X.N X.env.scope scope [(xn, j)])
    (h : GE X iter σ H fun v H1 => ∃ (a : Addr) (xs : List V) (d : Nat → PyData), v = .ref a ∧ SqL X.K H1 a xs ∧ xs.length ≤ 100000 ∧
      (∀ i x H2, xs[i]? = some x → Ex H1 H2 → BE X scope elt ((wipe σ [j]).set j (some x)) H2 fun y H4 => Ex H2 H4 ∧ TD X.K H4 y (d i)) ∧ LcK X.K H1 xs.length (fun _ => true) d Q)
    (hg : ∀ (s : Shared) (H : Hp) (C : Addr) (cl : List (Str × Addr)) (fp : List Addr), PG (X.blk s H scope (compEnvC scope cl C X.env) fp) (.Name xn xp) (gName j))
    (hs : ∀ x, foldedSetIterable iter X.env x = pure x := by intro _; rfl) : GL X (.ListComp elt [⟨.Name xn xp, iter, [], 0⟩] scope pos) σ H Q := by
  refine gl_lc (own := [(xn, j)]) hc hN (pi_list GE.pe) ok hg ?_ gm_name ?_ hs
  · refine GE.mono h fun v H1 ⟨a, xs, d, e, hx, hn, ht, hd⟩ => ⟨a, e, ⟨xs, hx⟩, xs.length, _, _, d, walk_list, hn, fun H' e => Evl.ex_l e hx, fun i x H2 H' hi e y => ?_, hd⟩
    obtain ⟨rfl, y⟩ := y
    exact ⟨Evl.Ex.refl _, by simp [wipe], Evl.Ex.refl _, ht i x H' y e⟩
  · intro R R' hr h
    exact GE.mono h fun v H1 ⟨a, e, hx, r⟩ => ⟨a, e, hx, hr _ _ r⟩
/-- [elt for x in list if c] -/
theorem gl_lcLI (hc : X.calm = true) (hN : X.N.Nodup) (ok : BlkOk X.N X.env.scope scope [(xn, j)])
    (h : GE X iter σ H fun v H1 => ∃ (a : Addr) (xs : List V) (keep : Nat → Bool) (d : Nat → PyData), v = .ref a ∧ SqL X.K H1 a xs ∧ xs.length ≤ 100000 ∧
      (∀ i x H2, xs[i]? = some x → Ex H1 H2 → BT X scope c ((wipe σ [j]).set j (some x)) H2 fun b H3 => Ex H2 H3 ∧ b = keep i ∧ (b = true → BE X scope elt ((wipe σ [j]).set j (some x)) H3 fun y H4 => Ex H3 H4 ∧ TD X.K H4 y (d i))) ∧ LcK X.K H1 xs.length keep d Q)
    (hg : ∀ (s : Shared) (H : Hp) (C : Addr) (cl : List (Str × Addr)) (fp : List Addr), PG (X.blk s H scope (compEnvC scope cl C X.env) fp) (.Name xn xp) (gName j))
    (hs : ∀ x, foldedSetIterable iter X.env x = pure x := by intro _; rfl) : GL X (.ListComp elt [⟨.Name xn xp, iter, [c], 0⟩] scope pos) σ H Q := by
  refine gl_lcI (own := [(xn, j)]) hc hN (pi_list GE.pe) ok hg ?_ gm_name ?_ hs
  · refine GE.mono h fun v H1 ⟨a, xs, keep, d, e, hx, hn, ht, hd⟩ => ⟨a, e, ⟨xs, hx⟩, xs.length, _, _, keep, d, walk_list, hn, fun H' e => Evl.ex_l e hx, fun i x H2 H' hi e y => ?_, hd⟩
    obtain ⟨rfl, y⟩ := y
    exact ⟨Evl.Ex.refl _, by simp [wipe], Evl.Ex.refl _, ht i x H' y e⟩
  · intro R R' hr h
    exact GE.mono h fun v H1 ⟨a, e, hx, r⟩ => ⟨a, e, hx, hr _ _ r⟩
/-- [elt for x in range(n)], with a test -/
theorem gl_lcRI {ae : Expr} {p p' : Pos} (hc : X.calm = true) (hN : X.N.Nodup) (hm : X.mg "range" = none) (ok : BlkOk X.N X.env.scope scope [(xn, j)])
    (h : GE X ae σ H fun v H1 => ∃ (n : Nat) (keep : Nat → Bool) (d : Nat → PyData), v = .int n ∧ n ≤ 100000 ∧
      (∀ i H2, i < n → Ex H1 H2 → BT X scope c ((wipe σ [j]).set j (some (.int i))) H2 fun b H3 => Ex H2 H3 ∧ b = keep i ∧ (b = true → BE X scope elt ((wipe σ [j]).set j (some (.int i))) H3 fun y H4 => Ex H3 H4 ∧ TD X.K H4 y (d i))) ∧ LcK X.K H1 n keep d Q)
    (hg : ∀ (s : Shared) (H : Hp) (C : Addr) (cl : List (Str × Addr)) (fp : List Addr), PG (X.blk s H scope (compEnvC scope cl C X.env) fp) (.Name xn xp) (gName j))
    (hgl : Gl X "range" := by rfl) (hst : starEach [ae] X.env = [(false, eval ae X.env)] := by rfl) (hs : ∀ x, foldedSetIterable (.Call (.Name "range" p) [ae] [] p') X.env x = pure x := by intro _; rfl) :
    GL X (.ListComp elt [⟨.Name xn xp, .Call (.Name "range" p) [ae] [] p', [c], 0⟩] scope pos) σ H Q := by
  refine gl_lcI (own := [(xn, j)]) hc hN (pi_range1 hgl hm (ta := tCons (GE X ae) tNil) (pa_cons GE.pe pa_nil hst) hst) ok hg ?_ gm_name ?_ hs
  · refine GE.mono h fun v H1 ⟨n, keep, d, e, hn, ht, hd⟩ => ⟨n, by rw [e], by omega, by omega, n, _, _, keep, d, walk_range, hn, fun _ _ => trivial, fun i x H2 H' hi e y => ?_, hd⟩
    obtain ⟨rfl, rfl⟩ := y
    have e0 : (0 : Int) + (i : Int) = i := Int.zero_add _
    dsimp only
    rw [e0]
    exact ⟨Evl.Ex.refl _, by simp [wipe], Evl.Ex.refl _, ht i H' hi e⟩
  · intro R R' hr h
    exact GE.mono h fun v H1 ⟨j, e, h1, h2, r⟩ => ⟨j, e, h1, h2, hr _ _ r⟩
theorem gl_lcR {ae : Expr} {p p' : Pos} (hc : X.calm = true) (hN : X.N.Nodup) (hm : X.mg "range" = none) (ok : BlkOk X.N X.env.scope scope [(xn, j)])
    (h : GE X ae σ H fun v H1 => ∃ (n : Nat) (d : Nat → PyData), v = .int n ∧ n ≤ 100000 ∧
      (∀ i H2, i < n → Ex H1 H2 → BE X scope elt ((wipe σ [j]).set j (some (.int i))) H2 fun y H4 => Ex H2 H4 ∧ TD X.K H4 y (d i)) ∧ LcK X.K H1 n (fun _ => true) d Q)
    (hg : ∀ (s : Shared) (H : Hp) (C : Addr) (cl : List (Str × Addr)) (fp : List Addr), PG (X.blk s H scope (compEnvC scope cl C X.env) fp) (.Name xn xp) (gName j))
    (hgl : Gl X "range" := by rfl) (hst : starEach [ae] X.env = [(false, eval ae X.env)] := by rfl) (hs : ∀ x, foldedSetIterable (.Call (.Name "range" p) [ae] [] p') X.env x = pure x := by intro _; rfl) :
    GL X (.ListComp elt [⟨.Name xn xp, .Call (.Name "range" p) [ae] [] p', [], 0⟩] scope pos) σ H Q := by
  refine gl_lc (own := [(xn, j)]) hc hN (pi_range1 hgl hm (ta := tCons (GE X ae) tNil) (pa_cons GE.pe pa_nil hst) hst) ok hg ?_ gm_name ?_ hs
  · refine GE.mono h fun v H1 ⟨n, d, e, hn, ht, hd⟩ => ⟨n, by rw [e], by omega, by omega, n, _, _, d, walk_range, hn, fun _ _ => trivial, fun i x H2 H' hi e y => ?_, hd⟩
    obtain ⟨rfl, rfl⟩ := y
    have e0 : (0 : Int) + (i : Int) = i := Int.zero_add _
    dsimp only
    rw [e0]
    exact ⟨Evl.Ex.refl _, by simp [wipe], Evl.Ex.refl _, ht i H' hi e⟩
  · intro R R' hr h
    exact GE.mono h fun v H1 ⟨j, e, h1, h2, r⟩ => ⟨j, e, h1, h2, hr _ _ r⟩
/-- [elt for a, b in zip(xs, ys)] -/
theorem gl_lcZ {ae be : Expr} {p p' : Pos} {yn : Str} {yp tp : Pos} {k kk : Nat} (hc : X.calm = true) (hN : X.N.Nodup) (hm : X.mg "zip" = none) (hjk : j ≠ k) (ok : BlkOk X.N X.env.scope scope [(xn, j), (yn, k)])
    (h : GE X ae σ H fun v H0 => GE X be σ H0 fun u H1 => ∃ (a b : Addr) (xs ys : List V) (d : Nat → PyData), v = .ref a ∧ u = .ref b ∧ SqL X.K H1 a xs ∧ SqL X.K H1 b ys ∧ xs.length = ys.length ∧ xs.length ≤ 100000 ∧
      (∀ i x y H2, xs[i]? = some x → ys[i]? = some y → Ex H1 H2 → BE X scope elt (((wipe σ [j, k]).set j (some x)).set k (some y)) H2 fun y H4 => Ex H2 H4 ∧ TD X.K H4 y (d i)) ∧ LcK X.K H1 xs.length (fun _ => true) d Q)
    (hg : ∀ (s : Shared) (H : Hp) (C : Addr) (cl : List (Str × Addr)) (fp : List Addr), PG (X.blk s H scope (compEnvC scope cl C X.env) fp) (.Tuple [.Name xn xp, .Name yn yp] kk tp) (gTup X.K 2 (gCons (gName j) (gCons (gName k) gNil))))
    (hgl : Gl X "zip" := by rfl) (hst : starEach [ae, be] X.env = (false, eval ae X.env) :: starEach [be] X.env := by rfl) (hpl : (backTo p' (starEach [be] X.env)).any (·.1) = false := by rfl) (hst2 : starEach [be] X.env = (false, eval be X.env) :: starEach [] X.env := by rfl)
    (hs : ∀ x, foldedSetIterable (.Call (.Name "zip" p) [ae, be] [] p') X.env x = pure x := by intro _; rfl) :
    GL X (.ListComp elt [⟨.Tuple [.Name xn xp, .Name yn yp] kk tp, .Call (.Name "zip" p) [ae, be] [] p', [], 0⟩] scope pos) σ H Q := by
  refine gl_lc (own := [(xn, j), (yn, k)]) hc hN (pi_zip hgl hm (ta := tCons (GE X ae) (tCons (GE X be) tNil)) (pa_cons GE.pe (pa_cons GE.pe pa_nil hst2) hst) hst hpl) ok hg ?_ ?_ ?_ hs
  · refine GE.mono h fun v H0 h2 => GE.mono h2 fun u H1 ⟨a, b, xs, ys, d, e, e', hx, hy, hl, hn, ht, hd⟩ => ⟨a, b, xs, ys, by rw [e, e'], hx, hy, xs.length, _, _, d, walk_zip (by omega), hn, fun H' e => ⟨Evl.ex_l e hx, Evl.ex_l e hy⟩, fun i x H2 H' hi e y => ?_, hd⟩
    obtain ⟨T, x1, y1, rfl, hT, rfl, e1, e2⟩ := y
    refine ⟨ex_upd hT, T, _, rfl, Evl.st_of upd_same, rfl, x1, [y1], rfl, y1, [], rfl, rfl, ?_, Evl.Ex.refl _, ht i x1 y1 _ e1 e2 (e.trans (ex_upd hT))⟩
    exact wipe2 hjk
  · intro v σ H R R' hr q
    obtain ⟨a, xs, e, h1, h2, w1, r1, e1, w2, r2, e2, e3, q⟩ := q
    exact ⟨a, xs, e, h1, h2, w1, r1, e1, w2, r2, e2, e3, hr _ _ q⟩
  · intro R R' hr h
    exact GE.mono h fun v H0 h2 => GE.mono h2 fun u H1 ⟨a, b, xs, ys, e, h1, h2, r⟩ => ⟨a, b, xs, ys, e, h1, h2, hr _ _ r⟩
end
end RD
namespace RD
open PySem PySem.Spec PyProof.Rows L2
section
variable {X : Cx} {e o : Expr} {te : TE} {p apos cpos pos : Pos} {σ : St} {H : Hp} {Q : VK}
def tListKeys (te : TE) : TE := fun σ H Q => te σ H fun x H1 => ∃ (d : Addr) (kvs : List (Key × V)), x = .ref d ∧ H1 d = some (.dK kvs) ∧ ∀ q, H1 q = none → Q (.ref q) (upd H1 q (.lst (kvs.map fun kv => kV kv.1)))
/-- list(e.keys()) -/
theorem pe_listKeys (hc : X.calm = true) (he : PE X e te) (hg : Gl X "list") (hm : X.mg "list" = none) (hbase : attributeBase e "keys" X.env (eval e X.env) = eval e X.env := by rfl) (hline : (apos.endLine == cpos.line) = true := by rfl)
    (hs : starEach [.Call (.Attribute e "keys" apos) [] [] cpos] X.env = (false, eval (.Call (.Attribute e "keys" apos) [] [] cpos) X.env) :: starEach [] X.env := by rfl) :
    PE X (.Call (.Name "list" p) [.Call (.Attribute e "keys" apos) [] [] cpos] [] pos) (tListKeys te) := by
  refine ⟨fun pins s σ H Q I hq => ?_⟩
  refine wpAny_Call_Name_kw (ld_blt I hg hm boot_list ?_)
  refine PyProof.Rows.callWith_type1 ?_ hs rfl
  rw [hs]
  show wpAny _ _ (spliced ((false, eval (.Call (.Attribute e "keys" apos) [] [] cpos) X.env) :: backTo pos (starEach [] X.env))) _ _ s
  refine Calls.spliced_cons ?_
  refine wpAny_Call_method (T := "dict") (id := "dict.keys") hbase rfl hline F.plainAttrs_dict F.slot_dict_keys F.type_dict_keys (thn (he.run pins s σ H _ I hq) fun u s1 ⟨x, H1, I1, rx, d, kvs, ex, hd, q⟩ => ?_)
  subst ex
  obtain rfl : u = Value.ref d := rx
  obtain ⟨z, lo, vs, rk, hdo⟩ := I1.hok d _ hd
  obtain ⟨ep, hat⟩ := hdo.dictAt
  have hl : kvs.length = vs.length := Paired.length rk
  have I2 : Inv X pins σ H1 { s1 with heap := s1.heap.push { cls := .type "dict_keys", data := .fields #[.ref d] } } := I1.kept (t' := s1.toks) fun b ob q => Heap.get?_push_of_some _ q
  refine ⟨hdo.typeIs, hdo.mapOf.noDict, ?_⟩
  show wpAny _ _ (callWith cpos (.builtin "dict.keys") [.ref d] [] []) _ X.xe s1
  refine method_meetsIn F.slot_dict_keys F.entry_dict_keys rfl (PySem.evalArgs_none ⟨rfl, hdo.typeIs, F.args_dict_keys_1 _, _, PySem.W.kdl_meets_keys (mixKind X.prog X.w) d lo, ⟨vs, hdo⟩, ?_⟩)
  refine Calls.spliced_nil ?_
  refine PySem.W.kdl_call (PySem.W.kdl_keys (knd := mixKind X.prog X.w) (kvs := vs) (ep := ep) (r := s1.heap.objs.size) (d := d)) (I1.ok.hd hc) ⟨⟨_, Heap.get?_push_size _ rfl, rfl, rfl⟩, hat.push _⟩ (by rw [← hl]; exact z) fun h' tk acc' c' hkeep hS hacc => ?_
  have hn : H1 (s1.heap.push { cls := .type "dict_keys", data := .fields #[.ref d] }).objs.size = none := I2.hok.fresh (Nat.le_refl _)
  refine ⟨.ref (s1.heap.push { cls := .type "dict_keys", data := .fields #[.ref d] }).objs.size, upd H1 (s1.heap.push { cls := .type "dict_keys", data := .fields #[.ref d] }).objs.size (.lst (kvs.map fun kv => kV kv.1)),
    I2.laid hkeep (Nat.le_refl _) (show ObjOk X.prog X.w _ _ _ (.lst (kvs.map fun kv => kV kv.1)) from ⟨?_, acc'.toList, c', ?_, ?_⟩), rfl, q _ hn⟩
  · rw [List.length_map]; exact z
  · have el : acc'.toList.length = acc'.size := by simp
    refine vals_of_at (by rw [List.length_map, el, hacc.1, hl]) fun j x w h1 h2 => ?_
    obtain ⟨k, y, hky, hi⟩ := hacc.2 j w (by rw [← Array.getElem?_toList]; exact h2)
    have e1 : (kvs.map (·.1))[j]? = some k := by
      rw [KV.keys rk, List.getElem?_map, hky] <;> rfl
    have e2 : (kvs.map fun kv => kV kv.1)[j]? = some (kV k) := by
      have e3 : (kvs.map fun kv => kV kv.1) = (kvs.map (·.1)).map kV := by rw [List.map_map] <;> rfl
      rw [e3, List.getElem?_map, e1] <;> rfl
    rw [e2] at h1
    cases h1
    exact keyIs_rel hi
  · rw [Array.toArray_toList]; exact hS
theorem ge_listKeys (hc : X.calm = true) (hm : X.mg "list" = none) (h : GE X e σ H fun x H1 => ∃ (d : Addr) (kvs : List (Key × V)), x = .ref d ∧ H1 d = some (.dK kvs) ∧ ∀ q H2, H1 q = none → Ex H1 H2 → H2 q = some (.lst (kvs.map fun kv => kV kv.1)) → Q (.ref q) H2)
    (hg : Gl X "list" := by rfl) (hbase : attributeBase e "keys" X.env (eval e X.env) = eval e X.env := by rfl) (hline : (apos.endLine == cpos.line) = true := by rfl)
    (hs : starEach [.Call (.Attribute e "keys" apos) [] [] cpos] X.env = (false, eval (.Call (.Attribute e "keys" apos) [] [] cpos) X.env) :: starEach [] X.env := by rfl) :
    GE X (.Call (.Name "list" p) [.Call (.Attribute e "keys" apos) [] [] cpos] [] pos) σ H Q :=
  ge (pe_listKeys hc GE.pe hg hm hbase hline hs) (h.mono fun x H1 ⟨d, kvs, e1, e2, q⟩ => ⟨d, kvs, e1, e2, fun z hz => q z _ hz (ex_upd hz) upd_same⟩)
/-- list(range(n)) -/
theorem ge_listRange {p2 pos2 : Pos} (hc : X.calm = true) (hm : X.mg "list" = none) (hm2 : X.mg "range" = none) (h : GE X e σ H fun x H1 => ∃ n : Nat, x = .int n ∧ n ≤ 100000 ∧ ∀ q H2, H1 q = none → Ex H1 H2 → H2 q = some (.lst ((List.range n).map fun i => V.int (i : Nat))) → Q (.ref q) H2)
    (hg : Gl X "list" := by rfl) (hg2 : Gl X "range" := by rfl) (na : starEach [.Call (.Name "range" p2) [e] [] pos2] X.env = (false, eval (.Call (.Name "range" p2) [e] [] pos2) X.env) :: starEach [] X.env := by rfl) (na2 : starEach [e] X.env = (false, eval e X.env) :: starEach [] X.env := by rfl) :
    GE X (.Call (.Name "list" p) [.Call (.Name "range" p2) [e] [] pos2] [] pos) σ H Q :=
  ge (pe_listRg hc hg hm (prg_1 hg2 hm2 GE.pe na2) na) (h.mono fun x H1 ⟨n, e1, hn, q⟩ => ⟨n, e1, RgOk.of_le (by omega) (by omega) (by omega) (by omega), fun z hz => q z _ hz (ex_upd hz) (by
    rw [upd_same]
    unfold rgV
    simp)⟩)
/-- xs.pop(i) -/
theorem ge_popAt (h : GE X o σ H fun x H1 => ∃ l ys, x = .ref l ∧ SqL X.K H1 l ys ∧ GE X e σ H1 fun v H2 => ∃ (xs : List V) (j : Nat) (y : V), v = .int j ∧ H2 l = some (.lst xs) ∧ xs.length ≤ 100000 ∧ xs[j]? = some y ∧ Q y (upd H2 l (.lst (xs.eraseIdx j))))
    (hbase : attributeBase o "pop" X.env (eval o X.env) = eval o X.env := by rfl)
    (hfew : ((backTo pos (starEach [e] X.env)).all (fun x => !x.1) && (backToKw pos (keywordEach [] X.env)).all (fun x => x.1.isSome)
      && decide ([e].length + ([] : List Keyword).length + (if ([] : List Keyword).isEmpty then 0 else 1) < 30)) = true := by rfl)
    (hline : (apos.endLine == pos.line) = true := by rfl) (hs : starEach [e] X.env = (false, eval e X.env) :: starEach [] X.env := by rfl) (hplain : (backTo pos (starEach [] X.env)).any (·.1) = false := by rfl) :
    GE X (.Call (.Attribute o "pop" apos) [e] [] pos) σ H Q :=
  ge (pe_bm PySem.F.plainAttrs_list PySem.F.slot_list_pop PySem.F.type_list_pop mt_popAt GE.pe (pa_cons GE.pe pa_nil hs) hbase hfew hline hs hplain) (h.mono fun x H1 ⟨l, ys, e1, hl, h2⟩ => by
    subst e1
    refine ⟨.inl ⟨rfl, ys, hl⟩, h2.mono fun v H2 ⟨xs, j, y, e2, hx, hz, hy, q⟩ => ?_⟩
    subst e2
    have hj := (List.getElem?_eq_some_iff.mp hy).1
    exact ⟨l, xs, j, j, y, rfl, rfl, hx, by omega, by omega, (ixN_seq (Evl.ixN_nat hj)).1, hy, q⟩)
/-- xs.index(e), whole numbers -/
theorem ge_index (h : GE X o σ H fun x H1 => ∃ (l : Addr) (ns : List Int), x = .ref l ∧ SqL X.K H1 l (ns.map V.int) ∧ GE X e σ H1 fun v H2 => ∃ (n : Int) (j : Nat), v = .int n ∧ SqL X.K H2 l (ns.map V.int) ∧ ns[j]? = some n ∧ (∀ m, m < j → ns[m]? ≠ some n) ∧ Q (.int (j : Nat)) H2)
    (hbase : attributeBase o "index" X.env (eval o X.env) = eval o X.env := by rfl)
    (hfew : ((backTo pos (starEach [e] X.env)).all (fun x => !x.1) && (backToKw pos (keywordEach [] X.env)).all (fun x => x.1.isSome)
      && decide ([e].length + ([] : List Keyword).length + (if ([] : List Keyword).isEmpty then 0 else 1) < 30)) = true := by rfl)
    (hline : (apos.endLine == pos.line) = true := by rfl) (hs : starEach [e] X.env = (false, eval e X.env) :: starEach [] X.env := by rfl) (hplain : (backTo pos (starEach [] X.env)).any (·.1) = false := by rfl) :
    GE X (.Call (.Attribute o "index" apos) [e] [] pos) σ H Q :=
  ge (pe_bm PySem.F.plainAttrs_list PySem.F.slot_list_index PySem.F.type_list_index mt_index GE.pe (pa_cons GE.pe pa_nil hs) hbase hfew hline hs hplain) (h.mono fun x H1 ⟨l, ns, e1, hl, h2⟩ => by
    subst e1
    refine ⟨.inl ⟨rfl, _, hl⟩, h2.mono fun v H2 ⟨n, j, e2, hx, hj, hno, q⟩ => ?_⟩
    subst e2
    refine ⟨l, ns.map V.int, .int n, j, .int n, rfl, rfl, hx, rfl, by simp [List.all_eq_true]; intros; rfl, by rw [List.getElem?_map, hj]; rfl, by show (n == n) = true; simp, fun m z' hm hz => ?_, q⟩
    rw [List.getElem?_map] at hz
    cases em : ns[m]? with
    | none => rw [em] at hz; cases hz
    | some k =>
      rw [em] at hz
      cases hz
      have : k ≠ n := fun e => hno m hm (by rw [em, e])
      show (k == n) = false
      simpa using this)
end
end RD
namespace RD
open PySem PySem.Spec PyProof.Rows L2
/-! ### what the text's top has left: the built-in names are free -/
structure Tx (K : PySem.W.Frag) (mg : Str → Option Value) : Prop where
  len : mg "len" = none
  abs : mg "abs" = none
  isinstance : mg "isinstance" = none
  int : mg "int" = none
  bool : mg "bool" = none
  str : mg "str" = none
  list : mg "list" = none
  tuple : mg "tuple" = none
  range : mg "range" = none
  zip : mg "zip" = none
  enumerate : mg "enumerate" = none
  all : mg "all" = none
  any : mg "any" = none
  max : mg "max" = none
  min : mg "min" = none
  most : ∃ t, mg "MOST_SHAFTS" = some (.int 120 t)
  nought : ∃ a, mg "NOUGHT" = some (.ref a) ∧ ∀ H, SqT K H a [.int 0, .int 1]
theorem boot_abs : bootBuiltins "abs" = some (.builtin "abs") := by decide +kernel
theorem boot_len : bootBuiltins "len" = some (.builtin "len") := by decide +kernel
theorem boot_all : bootBuiltins "all" = some (.builtin "all") := by decide +kernel
theorem boot_any : bootBuiltins "any" = some (.builtin "any") := by decide +kernel
theorem boot_max : bootBuiltins "max" = some (.builtin "max") := by decide +kernel
theorem boot_min : bootBuiltins "min" = some (.builtin "min") := by decide +kernel
theorem boot_isi : bootBuiltins "isinstance" = some (.builtin "isinstance") := by decide +kernel
section
variable {X : Cx} {H : Hp} {Q : VK}
theorem c1_int_int {i : Int} (q : Q (.bl true) H) : C1 X (.builtin "isinstance") [.int i, .ty "int"] H Q := c1_isi (b := true) (.base (.int _)) (by decide +kernel) q
theorem c1_int_bool {i : Int} (q : Q (.bl false) H) : C1 X (.builtin "isinstance") [.int i, .ty "bool"] H Q := c1_isi (b := false) (.base (.int _)) (by decide +kernel) q
theorem c1_int_list {i : Int} (q : Q (.bl false) H) : C1 X (.builtin "isinstance") [.int i, .ty "list"] H Q := c1_isi (b := false) (.base (.int _)) (by decide +kernel) q
theorem c1_int_tuple {i : Int} (q : Q (.bl false) H) : C1 X (.builtin "isinstance") [.int i, .ty "tuple"] H Q := c1_isi (b := false) (.base (.int _)) (by decide +kernel) q
theorem c1_str_str {i : Str} (q : Q (.bl true) H) : C1 X (.builtin "isinstance") [.str i, .ty "str"] H Q := c1_isi (b := true) (.base (.str _)) (by decide +kernel) q
theorem c1_str_bool {i : Str} (q : Q (.bl false) H) : C1 X (.builtin "isinstance") [.str i, .ty "bool"] H Q := c1_isi (b := false) (.base (.str _)) (by decide +kernel) q
theorem c1_str_list {i : Str} (q : Q (.bl false) H) : C1 X (.builtin "isinstance") [.str i, .ty "list"] H Q := c1_isi (b := false) (.base (.str _)) (by decide +kernel) q
theorem c1_str_tuple {i : Str} (q : Q (.bl false) H) : C1 X (.builtin "isinstance") [.str i, .ty "tuple"] H Q := c1_isi (b := false) (.base (.str _)) (by decide +kernel) q
theorem c1_tup_tuple {a : Addr} {xs : List V} (h : SqT X.K H a xs) (q : Q (.bl true) H) : C1 X (.builtin "isinstance") [.ref a, .ty "tuple"] H Q := c1_isi (b := true) (tyx_t h) (by decide +kernel) q
theorem c1_tup_list {a : Addr} {xs : List V} (h : SqT X.K H a xs) (q : Q (.bl false) H) : C1 X (.builtin "isinstance") [.ref a, .ty "list"] H Q := c1_isi (b := false) (tyx_t h) (by decide +kernel) q
theorem c1_lst_list {a : Addr} {xs : List V} (h : SqL X.K H a xs) (q : Q (.bl true) H) : C1 X (.builtin "isinstance") [.ref a, .ty "list"] H Q := c1_isi (b := true) (tyx_l h) (by decide +kernel) q
theorem c1_lst_tuple {a : Addr} {xs : List V} (h : SqL X.K H a xs) (q : Q (.bl false) H) : C1 X (.builtin "isinstance") [.ref a, .ty "tuple"] H Q := c1_isi (b := false) (tyx_l h) (by decide +kernel) q
theorem c1_tup_int {a : Addr} {xs : List V} (h : SqT X.K H a xs) (q : Q (.bl false) H) : C1 X (.builtin "isinstance") [.ref a, .ty "int"] H Q := c1_isi (b := false) (tyx_t h) (by decide +kernel) q
theorem c1_lst_int {a : Addr} {xs : List V} (h : SqL X.K H a xs) (q : Q (.bl false) H) : C1 X (.builtin "isinstance") [.ref a, .ty "int"] H Q := c1_isi (b := false) (tyx_l h) (by decide +kernel) q
end
end RD
namespace RD
open PySem PySem.Spec PyProof.Rows L2
section
variable {X : Cx} {H : Hp} {Q : VK} {ys : List V} {bs : List Bool} {p : Addr}
theorem TDs.bools {K : PySem.W.Frag} : ∀ {ys : List V} {bs : List Bool}, TDs K H ys (bs.map PyData.bool) → ys = bs.map V.bl
  | [], [], _ => rfl
  | [], _ :: _, h => by cases h
  | _ :: _, [], h => by cases h
  | y :: ys, b :: bs, h => by
    cases h with
    | cons h hs =>
      cases h
      rw [List.map_cons, TDs.bools hs]
theorem TDs.ints {K : PySem.W.Frag} : ∀ {ys : List V} {bs : List Int}, TDs K H ys (bs.map PyData.int) → ys = bs.map V.int
  | [], [], _ => rfl
  | [], _ :: _, h => by cases h
  | _ :: _, [], h => by cases h
  | y :: ys, b :: bs, h => by
    cases h with
    | cons h hs =>
      cases h
      rw [List.map_cons, TDs.ints hs]
theorem c1_all (hc : X.calm = true) (h : TDs X.K H ys (bs.map PyData.bool)) (hl : H p = some (.lst ys)) (q : Q (.bl (bs.all id)) H) : C1 X (.builtin "all") [.ref p] H Q := by
  rw [h.bools] at hl
  exact c1 (cr_all hc) ⟨p, bs, rfl, SqL.of hl, q⟩
theorem c1_any (hc : X.calm = true) (h : TDs X.K H ys (bs.map PyData.bool)) (hl : H p = some (.lst ys)) (q : Q (.bl (bs.any id)) H) : C1 X (.builtin "any") [.ref p] H Q := by
  rw [h.bools] at hl
  exact c1 (cr_any hc) ⟨p, bs, rfl, SqL.of hl, q⟩
/-- the items that are kept of n -/
theorem kept_all {α : Type} (n : Nat) (d : Nat → α) : ((List.range n).filter fun _ => true).map d = (List.range n).map d := by
  congr 1
  exact List.filter_eq_self.mpr fun _ _ => rfl
theorem range_map_get {α β : Type} (xs : List α) (d : Nat → β) (f : α → β) (h : ∀ i x, xs[i]? = some x → d i = f x) : (List.range xs.length).map d = xs.map f := by
  refine List.ext_getElem? fun i => ?_
  rw [List.getElem?_map, List.getElem?_map]
  by_cases hi : i < xs.length
  · rw [List.getElem?_range hi, List.getElem?_eq_getElem hi]
    simp [h i _ (List.getElem?_eq_getElem hi)]
  · rw [List.getElem?_eq_none (by simpa using hi), List.getElem?_eq_none (by simpa using hi)]
    rfl
end
end RD
namespace RD
open PySem PySem.Spec PyProof.Rows L2
theorem cut_from {xs : List V} {j : Nat} (h : j ≤ xs.length) : cutV xs (some (j : Int)) none = xs.drop j := by
  unfold cutV
  rw [HT.sIx_nat, HT.sIx_none, Nat.min_eq_left h]
  exact List.take_of_length_le (by rw [List.length_drop]; exact Nat.le_refl _)
theorem cut_to {xs : List V} {j : Nat} (h : j ≤ xs.length) : cutV xs none (some (j : Int)) = xs.take j := by
  unfold cutV
  rw [HT.sIx_nat, HT.sIx_none, Nat.min_eq_left h]
  simp
/-- whole numbers in a list of such -/
theorem inV_nats (k : Nat) (L : List Nat) : inV (.int (k : Nat)) (L.map fun (n : Nat) => V.int n) = decide (k ∈ L) := by
  unfold inV
  rw [List.any_map]
  induction L with
  | nil => simp
  | cons a r ih =>
    rw [List.any_cons, ih]
    show ((a : Int) == (k : Int) || decide (k ∈ r)) = decide (k ∈ a :: r)
    by_cases h1 : k = a
    · simp [h1]
    · have : ((a : Int) == (k : Int)) = false := by simp; omega
      rw [this]
      simp [h1]
theorem flat_nats (L : List Nat) : (L.map fun (n : Nat) => V.int n).all flatV = true := by
  rw [List.all_eq_true]
  intro x hx
  obtain ⟨n, _, rfl⟩ := List.mem_map.mp hx
  rfl
end RD
namespace RD
open PySem PySem.Spec PyProof.Rows L2 HotX L2H
/-! ### walks while an exception is handled -/
section
variable {prog : Program} {w : World} {A : Around} {E : Value → Shared → Prop} {s : Shared}
theorem HotAt.but {x1 it : Addr} {h h' : Heap} (hot : HotAt A x1 h) (ne : x1 ≠ it) (sb : ∀ b o, b ≠ it → h.get? b = some o → h'.get? b = some o) : HotAt A x1 h' := by
  obtain ⟨hh, o1, vs1, h1, d1, c1⟩ := hot
  exact ⟨hh, o1, vs1, sb _ _ ne h1, d1, c1⟩
theorem next_list_endH {it l x1 : Addr} {i : Nat} {items} {Q : Option Value → Shared → Prop} (hot : HotAt A x1 s.heap) (ne : x1 ≠ it)
    (hit : s.heap.IsListIter it l i) (hl : s.heap.IsList l items) (hx : items[i]? = none)
    (hQ : ∀ h', (∀ b o, b ≠ it → s.heap.get? b = some o → h'.get? b = some o) → Q none { s with heap := h' }) : wpAny (model prog w) A (pyNext (.ref it)) Q E s := by
  obtain ⟨o, ho, hc, hd⟩ := id hit
  obtain ⟨ol, hol, _, nl, hdl⟩ := hl
  obtain ⟨hh, o1, vs1, h1, d1, c1⟩ := hot
  unfold pyNext
  refine wpAny_bind (wpAny_attempt (wpAny_callSpecial?_slot (name := Str.ofString "__next__") hit.typeIs slot_listiter_next
    (wpAny_call_entry slot_listiter_next hit.typeIs entry_listiter_next ?_ (args_listiter_next _))))
  show wpAny _ _ (field (.ref it) 0 >>= _) _ _ s
  refine wpAny_bind (wpAny_field ho hd (x := .ref l) rfl ?_)
  show wpAny _ _ (if (Value.ref l == Value.none) = true then _ else _) _ _ s
  rw [if_neg (show ¬ ((Value.ref l == Value.none) = true) from Bool.false_ne_true)]
  show wpAny _ _ (field (.ref it) 1 >>= _) _ _ s
  refine wpAny_bind (wpAny_field ho hd (x := .int i 0) rfl ?_)
  show wpAny _ _ (seqItems? (.ref l) >>= _) _ _ s
  refine wpAny_bind (wpAny_seqItems hol hdl ?_)
  simp only [Int.toNat_natCast, hx]
  refine wpAny_bind (wpAny_rule (wpAny_bind (wpAny_setField ho hd (by simp) ?_)))
  have h2 := (Heap.get?_update_other s.heap (Obj.mapFields (·.setIfInBounds 0 Value.none)) (Ne.symm ne)).trans h1
  show wpAny _ _ (newExc (.type "StopIteration") [] >>= _) _ _ _
  refine wpAny_bind ?_
  simp only [newExc, newTuple]
  refine wpAny_bind (wpAny_newObj_type ?_ (by size_fits))
  refine wpAny_bind (m := firstArgMember _ _) (wpAny_of_eq (a := Value.none) (by first | rfl | (simp only [firstArgMember]; rfl)) ?_)
  refine wpAny_newObj_type ?_ (by size_fits)
  refine raiseNew_hot ⟨hh, o1, vs1, Heap.get?_push_of_some _ (Heap.get?_push_of_some _ h2), d1, c1⟩ (Nat.ne_of_lt (Heap.lt_size (Heap.get?_push_of_some _ h2))) (Heap.get?_push_size _ rfl) rfl (by first | (simp; done) | (simp; omega) | (simp only [Array.size_append]; simp; omega)) ?_
  refine wpAny_bind (wpAny_isInstance (T := "StopIteration") (b := true) ⟨_, Heap.get?_update_self _ (Heap.get?_push_size _ rfl) rfl, rfl⟩ isSubtype_stop ?_)
  refine wpAny_pure (hQ _ fun b o hb e => ?_)
  have e2 := (Heap.get?_update_other s.heap (Obj.mapFields (·.setIfInBounds 0 Value.none)) (Ne.symm hb)).trans e
  rw [Heap.get?_update_other _ _ (Nat.ne_of_gt (Heap.lt_size (Heap.get?_push_of_some _ e2)))]
  exact Heap.get?_push_of_some _ (Heap.get?_push_of_some _ e2)
theorem next_tuple_endH {it t x1 : Addr} {i : Nat} {items} {Q : Option Value → Shared → Prop} (hot : HotAt A x1 s.heap) (ne : x1 ≠ it)
    (hit : IsTupIter s.heap it t i) (ht : IsTup s.heap t items) (hx : items[i]? = none)
    (hQ : ∀ h', (∀ b o, b ≠ it → s.heap.get? b = some o → h'.get? b = some o) → Q none { s with heap := h' }) : wpAny (model prog w) A (pyNext (.ref it)) Q E s := by
  obtain ⟨o, ho, hc, hd⟩ := id hit
  obtain ⟨ol, hol, _, nl, hdl⟩ := ht
  obtain ⟨hh, o1, vs1, h1, d1, c1⟩ := hot
  unfold pyNext
  refine wpAny_bind (wpAny_attempt (wpAny_callSpecial?_slot (name := Str.ofString "__next__") hit.typeIs slot_tupleiter_next
    (wpAny_call_entry slot_tupleiter_next hit.typeIs entry_tupleiter_next ?_ (args_tupleiter_next _))))
  show wpAny _ _ (field (.ref it) 0 >>= _) _ _ s
  refine wpAny_bind (wpAny_field ho hd (x := .ref t) rfl ?_)
  show wpAny _ _ (if (Value.ref t == Value.none) = true then _ else _) _ _ s
  rw [if_neg (show ¬ ((Value.ref t == Value.none) = true) from Bool.false_ne_true)]
  show wpAny _ _ (field (.ref it) 1 >>= _) _ _ s
  refine wpAny_bind (wpAny_field ho hd (x := .int i 0) rfl ?_)
  show wpAny _ _ (seqItems? (.ref t) >>= _) _ _ s
  refine wpAny_bind (wpAny_seqItems hol hdl ?_)
  simp only [Int.toNat_natCast, hx]
  refine wpAny_bind (wpAny_rule (wpAny_bind (wpAny_setField ho hd (by simp) ?_)))
  have h2 := (Heap.get?_update_other s.heap (Obj.mapFields (·.setIfInBounds 0 Value.none)) (Ne.symm ne)).trans h1
  show wpAny _ _ (newExc (.type "StopIteration") [] >>= _) _ _ _
  refine wpAny_bind ?_
  simp only [newExc, newTuple]
  refine wpAny_bind (wpAny_newObj_type ?_ (by size_fits))
  refine wpAny_bind (m := firstArgMember _ _) (wpAny_of_eq (a := Value.none) (by first | rfl | (simp only [firstArgMember]; rfl)) ?_)
  refine wpAny_newObj_type ?_ (by size_fits)
  refine raiseNew_hot ⟨hh, o1, vs1, Heap.get?_push_of_some _ (Heap.get?_push_of_some _ h2), d1, c1⟩ (Nat.ne_of_lt (Heap.lt_size (Heap.get?_push_of_some _ h2))) (Heap.get?_push_size _ rfl) rfl (by first | (simp; done) | (simp; omega) | (simp only [Array.size_append]; simp; omega)) ?_
  refine wpAny_bind (wpAny_isInstance (T := "StopIteration") (b := true) ⟨_, Heap.get?_update_self _ (Heap.get?_push_size _ rfl) rfl, rfl⟩ isSubtype_stop ?_)
  refine wpAny_pure (hQ _ fun b o hb e => ?_)
  have e2 := (Heap.get?_update_other s.heap (Obj.mapFields (·.setIfInBounds 0 Value.none)) (Ne.symm hb)).trans e
  rw [Heap.get?_update_other _ _ (Nat.ne_of_gt (Heap.lt_size (Heap.get?_push_of_some _ e2)))]
  exact Heap.get?_push_of_some _ (Heap.get?_push_of_some _ e2)
theorem unpackItems_tupleH {t x1 : Addr} {items : Array Value} {Q : List Value → Shared → Prop} (hot : HotAt A x1 s.heap) (ht : IsTup s.heap t items)
    (hQ : ∀ h', Heap.ExtBut s.heap.objs.size s.heap h' → Q items.toList { s with heap := h' }) : wpAny (model prog w) A (unpackItems (.ref t) items.size none) Q E s := by
  have hlt : t ≠ s.heap.objs.size := by obtain ⟨o, ho, _⟩ := ht; exact Nat.ne_of_lt (Heap.lt_size ho)
  have hx1 : x1 ≠ s.heap.objs.size := by obtain ⟨_, o, _, ho, _⟩ := hot; exact Nat.ne_of_lt (Heap.lt_size ho)
  unfold unpackItems
  refine wpAny_bind ?_
  · unfold notIterableAtAll
    refine wpAny_bind (wpAny_specialOf ht.typeIs slot_tuple_iter.lookup ?_)
    refine wpAny_pure ?_
    simp only [Bool.false_eq_true, if_false]
    refine wpAny_bind (wpAny_holding (iter_tuple ht ?_))
    refine wpAny_bind (wpAny_holding (draw_tuple hlt items.size 0 _ _ ⟨_, Heap.get?_push_size _ rfl, rfl, rfl⟩ (ht.push _) (by omega) fun h₁ hit₁ hs₁ => ?_))
    have hall : List.take items.size (List.drop 0 items.toList) = items.toList := by
      rw [List.drop_zero]; exact List.take_of_length_le (by simp)
    rw [hall]
    rw [if_neg (by simp)]
    have ht₁ : IsTup h₁ t items := (ht.push _).extBut hs₁.extBut hlt
    have hot1 : HotAt A x1 h₁ := HotAt.but hot hx1 fun b o hb e => hs₁.extBut b o hb (Heap.get?_push_of_some _ e)
    refine wpAny_bind (wpAny_holding (next_tuple_endH hot1 hx1 hit₁ ht₁ (by simp) fun h₂ he₂ => ?_))
    simp only [Option.isSome_none, Bool.false_eq_true, if_false]
    refine wpAny_pure (hQ h₂ fun b o hb e => he₂ b o hb (hs₁.extBut b o hb (Heap.get?_push_of_some _ e)))
theorem assign_TupleH {env : Env} {elts : List Expr} {k} {pos : Pos} {t x1 : Addr} {items : Array Value} {Q : Unit → Shared → Prop} (hot : HotAt A x1 s.heap) (ht : IsTup s.heap t items)
    (hn : (assignEach elts env).length = items.size) (hstar : (assignEach elts env).findIdx? (·.1) = none)
    (h : ∀ h', Heap.ExtBut s.heap.objs.size s.heap h' → wpAny (model prog w) A (assignInOrder ((assignEach elts env).map (·.2)) items.toList) Q E { s with heap := h' }) :
    wpAny (model prog w) A (assign (.Tuple elts k pos) env (.ref t)) Q E s := by
  rw [assign_Tuple]
  refine wpAny_bind (wpAny_standAt ?_)
  unfold unpack
  rw [hn, hstar]
  exact wpAny_bind (wpAny_holding (unpackItems_tupleH hot ht h))
end
theorem HotC.at' {X : Cx} {pins : List (Addr × Obj)} {σ : St} {H : Hp} {s : Shared} (c : HotC X) (I : Inv X pins σ H s) : ∃ x1, HotAt X.A x1 s.heap ∧ ∀ b, FpOk X pins H b → x1 ≠ b := by
  obtain ⟨p, ⟨hh, v1, e1, c1⟩, hp⟩ := c
  exact ⟨p.1, ⟨hh, p.2, v1, (I.pin p (List.mem_append_left _ hp)).1, e1, c1⟩, fun b f => f.2.2.2.2.2 p (List.mem_append_left _ hp)⟩
theorem turn_listH {P : Program} {w : World} {K : PySem.W.Frag} {tg : Expr} (a it : Addr) : TurnH P w K tg (Itl K a) [it] it (fun i h => h.IsListIter it a i) where
  mem := by simp
  obj := fun i h st b hb => by
    have e : b = it := by simpa using hb
    subst e
    obtain ⟨o, e, c, d⟩ := st
    exact ⟨o, e, fun v z => by rw [d] at z; cases z⟩
  keep := fun i h h' st k => st.at fun o e => k it (by simp) o e
  item := by
    intro X hP hw hK hc i pins s σ H E I hf st hg
    subst hP hw hK
    obtain ⟨xs, x, hq, hx⟩ := hg
    obtain ⟨its, rv, p, hz⟩ := I.list hq
    obtain ⟨u, hu, ru⟩ := rv.get hx
    obtain ⟨f0, f1, f2, f3, f4, f5⟩ := hf it (by simp)
    refine wpAny_pyNext_list_item st p.isList (x := u) (by simpa using hu) fun h' st' sb => ?_
    have I1 : Inv X pins σ H { s with heap := h' } := I.turned (t' := s.toks) (fun b o hb e => (sb.2 b hb).trans e) f0 f1 f3 f4 f5
    obtain ⟨o, e, c, d⟩ := id st'
    exact ⟨u, rfl, go_of (s := { s with heap := h' }) e c d (by decide) ⟨x, H, I1, ru, ⟨rfl, fun ys hy => by rw [I.list_inj hy hq]; exact hx⟩, st', fun b hb => (hf b hb).1⟩⟩
  done := by
    intro X hP hw hK hc i pins s σ H E I hf st hg
    subst hP hw hK
    obtain ⟨xs, hq, hx⟩ := hg
    obtain ⟨its, rv, p, hz⟩ := I.list hq
    obtain ⟨x1, hot, hne⟩ := HotC.at' hc I
    have hn := hne it (hf it (by simp))
    obtain ⟨f0, f1, f2, f3, f4, f5⟩ := hf it (by simp)
    have hl := rv.length
    exact next_list_endH hot hn st p.isList (by simp; omega) fun h' eb => ⟨rfl, I.turned (t' := s.toks) (fun b o hb e => eb b o hb e) f0 f1 f3 f4 f5⟩
  self := fun _ _ _ _ _ st h => wpAny_pyIter_listiter st h
theorem pi_listH {X : Cx} {tg l : Expr} {tl : TE} (hl : PE X l tl) : PIH X tg l (iList X.K tl) := by
  refine ⟨fun pins s σ H R I h => ?_⟩
  refine thn (hl.run pins s σ H _ I h) fun v s1 ⟨x, H1, I1, r1, q1⟩ => ?_
  obtain ⟨a, e, ⟨xs, hq⟩, q⟩ := q1
  subst e
  cases r1
  obtain ⟨its, rv, p, hz⟩ := I1.list hq
  refine wpAny_pyIter_list p.isList ?_
  refine ⟨s1.heap.objs.size, [s1.heap.objs.size], _, _, H1, rfl, I1.kept (t' := s1.toks) fun b o e => Heap.get?_push_of_some _ e, turn_listH a _, ⟨_, Heap.get?_push_size _ rfl, rfl, rfl⟩, fun b hb => ?_, q⟩
  have e : b = s1.heap.objs.size := by simpa using hb
  subst e
  exact I1.fpOk (Nat.le_refl _) (I1.hok.fresh (Nat.le_refl _))
theorem pg_tupH {X : Cx} {pos : Pos} {es : List Expr} {k : Nat} {t : TGs} {n : Nat} (hc : HotC X) (h : PGs X es t)
    (hn : (assignEach es X.env).length = n := by rfl) (hst : (assignEach es X.env).findIdx? (·.1) = none := by rfl) : PG X (.Tuple es k pos) (gTup X.K n t) := by
  refine ⟨fun pins s σ H v u Q I r hw => ?_⟩
  obtain ⟨a, xs, e1, hq, hl, hw⟩ := hw
  subst e1
  cases r
  obtain ⟨its, rv, ht, hz⟩ := I.tuple hq
  obtain ⟨x1, hot, _⟩ := HotC.at' hc I
  refine assign_TupleH hot ht (by simp [hn, ← hl, rv.length]) hst fun h' hx => ?_
  have I1 : Inv X pins σ H { s with heap := h' } := I.kept (t' := s.toks) fun b o e => hx b o (Nat.ne_of_lt (Heap.lt_size e)) e
  exact h.run pins _ σ H xs _ Q I1 (by simpa using rv) hw
/-! ### a comprehension there -/
abbrev blkH (X : Cx) (s : Shared) (H : Hp) (scope : Scope) (cenv : Env) (fp : List Addr) : Cx := { X.blk s H scope cenv fp with pn := X.pn }
theorem inv_pn {X : Cx} {pins pn : List (Addr × Obj)} {σ : St} {H : Hp} {s : Shared} (I : Inv X pins σ H s) (hp : ∀ p ∈ pn, s.heap.get? p.1 = some p.2 ∧ H p.1 = none ∧ p.1 ≠ X.env.locals ∧ p.1 ∉ X.fs ∧ ∀ v, p.2.data ≠ .cell v) : Inv { X with pn := pn } pins σ H s :=
  ⟨⟨I.ok.mod, I.ok.kind, I.ok.glob, I.ok.blt, I.ok.above, I.ok.inj, I.ok.has, I.ok.cab, I.ok.hd, I.ok.frames, I.ok.stk, I.ok.exf, I.ok.bs, I.ok.bsz, I.ok.noex, I.ok.exfs, I.ok.funs, I.ok.frf⟩, I.os, I.bare, I.base, I.loc, I.cell, I.free, I.freeC, fun p hm => by
    rcases List.mem_append.mp hm with h | h
    · exact hp p h
    · exact I.pin p (List.mem_append_right _ h), I.hok, I.len⟩
theorem blockH_start {X : Cx} {pins : List (Addr × Obj)} {σ : St} {H : Hp} {s : Shared} {scope : Scope} {own : List (Str × Nat)} {fp : List Addr} (I : Inv X pins σ H s) (ok : BlkOk X.N X.env.scope scope own) (hN : X.N.Nodup) (hfp : ∀ b ∈ fp, FpOk X pins H b ∧ b < s.heap.objs.size) :
    Inv (blkH X s H scope (compEnvC scope (cellsFrom (s.heap.objs.size + 1) scope.names (cloFrom X.env.cells scope.names [])) s.heap.objs.size X.env) fp) [] (wipe σ (own.map (·.2))) H { s with heap := pushCells (s.heap.push { cls := .type "dict", data := .dict #[] }) scope.names } := by
  refine inv_pn (block_start I ok hN hfp) fun p hp => ?_
  obtain ⟨h1, h2, h3, h4, h5⟩ := I.pin p (List.mem_append_left _ hp)
  refine ⟨pushCells_keeps _ _ _ _ (Heap.get?_push_of_some _ h1), h2, Nat.ne_of_lt (Heap.lt_size h1), fun hm => ?_, h5⟩
  exact (List.mem_cons.mp (I.stkSub p.1 hm)).elim h3 h4
section
variable {X : Cx}
theorem lc_coreH {pins : List (Addr × Obj)} {s : Shared} {σ : St} {H : Hp} {Q : VK} {elt tg iter : Expr} {ifs : List Expr} {scope : Scope} {own : List (Str × Nat)} {pos pos' : Pos} {wi : TI} {g : TG} {tt : TT} {te : TE} {use : Option (Value → Sem Unit)} {Qf : Value → Shared → Prop}
    (hc : HotC X) (hN : X.N.Nodup) (I : Inv X pins σ H s) (hi : L2H.PIH X tg iter wi) (ok : BlkOk X.N X.env.scope scope own)
    (hg : ∀ (s : Shared) (H : Hp) (C : Addr) (cl : List (Str × Addr)) (fp : List Addr), PG (blkH X s H scope (compEnvC scope cl C X.env) fp) tg g) (ht : ∀ (s : Shared) (H : Hp) (C : Addr) (cl : List (Str × Addr)) (fp : List Addr), PTs (blkH X s H scope (compEnvC scope cl C X.env) fp) ifs tt)
    (he : ∀ (s : Shared) (H : Hp) (C : Addr) (cl : List (Str × Addr)) (fp : List Addr), PE (blkH X s H scope (compEnvC scope cl C X.env) fp) elt te) (hs : ∀ x, foldedSetIterable iter X.env x = pure x)
    (h : tLc wi g tt te (own.map (·.2)) σ H Q)
    (hRR : ∀ D C s' m H', Inv X pins σ H' s' → Q (.ref D) H' → s'.heap.Ns C m → FpOk X pins H' C → compPost (model X.prog X.w) X.A X.xe use Qf (.ref D) C (.ok .next) s') :
    wpAny (model X.prog X.w) X.A (comprehension (.ListComp elt [⟨tg, iter, ifs, 0⟩] scope pos) scope X.env pos' (newList []) false (eval iter X.env) use) Qf X.xe s := by
  have hfree : ∀ y ∈ scope.names, y.2 = .free → ∃ c, X.env.cells.lookup y.1 = some c := fun y hy e => by
    rcases ok.free y hy e with k | k
    · exact I.ok.has _ (.inl k)
    · exact I.ok.has _ (.inr k)
  refine wpAny_comprehension_free (use := use) rfl hs (closure_ok hfree) ok.kind (fun y hy e => by rw [ok.uniq y hy, e])
    (thn (hi.run pins s σ H _ I h) fun xv s1 hx => thn hx fun itv s2 h2 => ?_)
  obtain ⟨it, fp, tn, J, H2, e, I2, T, st2, f2, q⟩ := h2
  subst e
  refine wpAny_newObj_type (newEnv_comp ?_) (by show 0 ≤ sizeLine; decide)
  generalize hD : s2.heap.objs.size = D
  have hDn : H2 D = none := I2.hok.fresh (Nat.le_of_eq hD)
  obtain ⟨W, ⟨m0, w0⟩, turn⟩ := q D hDn
  -- the new list
  generalize hs3 : ({ s2 with heap := s2.heap.push { cls := .type "list", data := .seq ([] : List Value).toArray } } : Shared) = s3
  have I3 : Inv X pins σ (upd H2 D (.lst [])) s3 := by
    rw [← hs3]
    refine I2.laid (t' := s2.toks) (fun b o e => Heap.get?_push_of_some _ e) (Nat.le_of_eq hD) ⟨Nat.zero_le _, [], 0, .nil, ?_⟩
    rw [← hD]
    exact Heap.get?_push_size _ rfl
  have h3 : s3.heap = s2.heap.push { cls := .type "list", data := .seq ([] : List Value).toArray } := by rw [← hs3]
  have sz : ∀ b ∈ fp, b < s2.heap.objs.size := fun b hb => by
    obtain ⟨o, e, _⟩ := T.obj _ _ st2 b hb
    exact Heap.lt_size e
  have f3 : ∀ b ∈ fp, FpOk X pins (upd H2 D (.lst [])) b ∧ b < s3.heap.objs.size := fun b hb => by
    have hlt := sz b hb
    refine ⟨⟨?_, (f2 b hb).2⟩, by rw [h3, Heap.size_push]; exact Nat.lt_succ_of_lt hlt⟩
    rw [upd_ne (by rw [← hD]; exact Nat.ne_of_lt hlt)]
    exact (f2 b hb).1
  have st3 : tn 0 s3.heap := T.keep _ _ _ st2 fun b _ o e => by rw [h3]; exact Heap.get?_push_of_some _ e
  have I4 := blockH_start I3 ok hN f3
  have pg := hg s3 (upd H2 D (.lst [])) s3.heap.objs.size (cellsFrom (s3.heap.objs.size + 1) scope.names (cloFrom X.env.cells scope.names [])) fp
  have pt := ht s3 (upd H2 D (.lst [])) s3.heap.objs.size (cellsFrom (s3.heap.objs.size + 1) scope.names (cloFrom X.env.cells scope.names [])) fp
  have pe := he s3 (upd H2 D (.lst [])) s3.heap.objs.size (cellsFrom (s3.heap.objs.size + 1) scope.names (cloFrom X.env.cells scope.names [])) fp
  show codeAny _ _ (.compStart (.ListComp elt [⟨tg, iter, ifs, 0⟩] scope pos) 0 (.ref it) (.ref D) (compEnvC scope (cellsFrom (s3.heap.objs.size + 1) scope.names (cloFrom X.env.cells scope.names [])) s3.heap.objs.size X.env)) (compPost (model X.prog X.w) X.A X.xe use Qf (.ref D) s3.heap.objs.size) { s3 with heap := pushCells (s3.heap.push { cls := .type "dict", data := .dict #[] }) scope.names }
  have nfp : ∀ b ∈ fp, (upd H2 D (.lst [])) b = none := fun b hb => (f3 b hb).1.1
  generalize hce : compEnvC scope (cellsFrom (s3.heap.objs.size + 1) scope.names (cloFrom X.env.cells scope.names [])) s3.heap.objs.size X.env = ce at I4 pg pt pe ⊢
  have cL : ce.locals = s3.heap.objs.size := by subst hce; rfl
  generalize hH3 : upd H2 D (.lst []) = H3 at I3 I4 pg pt pe w0 nfp f3
  generalize hs4 : ({ s3 with heap := pushCells (s3.heap.push { cls := .type "dict", data := .dict #[] }) scope.names } : Shared) = s4 at I4 ⊢
  have st4 : tn 0 s4.heap := T.keep _ _ _ st3 fun b _ o e => by rw [← hs4]; exact pushCells_keeps _ _ _ _ (Heap.get?_push_of_some _ e)
  have stat : ∀ {σ' : St} {H' : Hp} {s' : Shared}, Inv (blkH X s3 H3 scope ce fp) [] σ' H' s' → (∀ b ∈ fp, H' b = none) → ∀ b ∈ fp, FpOk (blkH X s3 H3 scope ce fp) [] H' b := fun {σ' H' s'} I' hn b hb =>
    ⟨hn b hb, (I'.ok.exf b hb).1, I'.ok.exfs b hb, .inl hb, fun x c e => (I'.ok.exf b hb).2 x c e, fun p hp => (f3 b hb).1.2.2.2.2.2 p (by simpa using Or.inl (show p ∈ X.pn by simpa using hp))⟩
  have hcB : HotC (blkH X s3 H3 scope ce fp) := hc
  have loop : codeAny (model X.prog X.w) X.A (.compLoop (.ListComp elt [⟨tg, iter, ifs, 0⟩] scope pos) 0 (.ref it) (.ref D) ce) (compPost (model X.prog X.w) X.A X.xe use Qf (.ref D) s3.heap.objs.size) s4 := by
    refine compLoop_any (fun n s' => ∃ i H', Inv (blkH X s3 H3 scope ce fp) [] (wipe σ (own.map (·.2))) H' s' ∧ tn i s'.heap ∧ (∀ b ∈ fp, H' b = none) ∧ W i n H') ?_ m0 ⟨0, H3, I4, st4, nfp, w0⟩
    rintro n s5 ⟨i, H5, I5, st5, n5, w5⟩
    rcases turn i n H5 w5 with ⟨stop, qq⟩ | ⟨go, Nx, hNx, step⟩
    · have td := T.done (blkH X s3 H3 scope ce fp) rfl rfl rfl hcB i [] s5 _ H5 (fun _ _ => False) I5 (stat I5 n5) st5 stop
      refine thnF td fun r s6 ⟨hr, I6⟩ => ?_
      subst hr
      -- back in the def's context
      have I7 : Inv X pins σ H5 s6 := I3.call' (ch := fp) I6.os I6.base I6.hok I6.bare fun b hb => ⟨(f3 b hb).1.2.2.2.1, (f3 b hb).1.2.1, (f3 b hb).1.2.2.2.2.1, (f3 b hb).1.2.2.2.2.2⟩
      have nC : H5 s3.heap.objs.size = none := by
        have z : H5 ce.locals = none := I6.free
        rw [cL] at z
        exact z
      obtain ⟨m, hn, _⟩ := I6.loc
      have hn : s6.heap.Ns ce.locals m := hn
      rw [cL] at hn
      exact hRR D s3.heap.objs.size s6 m H5 I7 qq hn (I3.fpOk (Nat.le_refl _) nC)
    · have ti := T.item (blkH X s3 H3 scope ce fp) rfl rfl rfl hcB i [] s5 _ H5 (fun _ _ => False) I5 (stat I5 n5) st5 go
      refine thnF ti fun r s6 ⟨u, hr, h6⟩ => ?_
      subst hr
      refine thnF h6 fun _ s7 ⟨x, H7, I7, r7, y7, st7, n7⟩ => ?_
      have I7' := I7.pinned (stat I7 n7) (T.obj _ _ st7)
      refine thnF (pg.run _ s7 _ H7 x u _ I7' r7 (step x H7 y7)) fun _ s8 ⟨σ8, H8, I8, hw8, q8⟩ => ?_
      refine thnF (pt.run _ s8 σ8 H8 _ I8 q8) fun b s9 ⟨H9, I9, q9⟩ => ?_
      -- the turn's end
      have fin : ∀ {s' : Shared} {H' : Hp}, Inv (blkH X s3 H3 scope ce fp) ([] ++ pinsAt fp s7.heap) σ8 H' s' → Nx H' → ∃ m, m < n ∧ ∃ i H', Inv (blkH X s3 H3 scope ce fp) [] (wipe σ (own.map (·.2))) H' s' ∧ tn i s'.heap ∧ (∀ b ∈ fp, H' b = none) ∧ W i m H' := fun {s' H'} I' nx => by
        obtain ⟨m', hm, w'⟩ := hNx H' nx
        have pin' : ∀ b ∈ fp, ∀ o, s7.heap.get? b = some o → s'.heap.get? b = some o ∧ H' b = none := fun b hb o e =>
          let z := I'.pin (b, o) (List.mem_append_right _ (List.mem_append_right _ (mem_pinsAt hb e)))
          ⟨z.1, z.2.1⟩
        have hl : (wipe σ (own.map (·.2))).length = σ8.length := by rw [← hw8, wipe_length]
        refine ⟨m', hm, i + 1, H', (I'.unpinned (pins := [])).weak hl (fun j v e => ?_), T.keep _ _ _ st7 fun b hb o e => (pin' b hb o e).1, fun b hb => ?_, w'⟩
        · rw [← hw8] at e
          exact (wipe_some e).1
        · obtain ⟨o, e, _⟩ := T.obj _ _ st7 b hb
          exact (pin' b hb o e).2
      cases b with
      | false =>
        simp only [Bool.false_eq_true, if_false] at q9 ⊢
        exact fin I9 q9
      | true =>
        simp only [if_true] at q9 ⊢
        refine thnF (pe.run _ s9 σ8 H9 _ I9 q9) fun z s10 ⟨yv, H10, I10, r10, acc, hD10, hz10, nx⟩ => ?_
        exact app_ok (X := blkH X s3 H3 scope ce fp) I10 hD10 hz10 r10 fun s11 I11 => fin I11 nx
  exact codeAny_compStart_list loop (T.self X.A 0 _ _ _ st4 loop)
theorem pe_lcH {elt tg iter : Expr} {ifs : List Expr} {scope : Scope} {own : List (Str × Nat)} {pos : Pos} {wi : TI} {g : TG} {tt : TT} {te : TE} (hc : HotC X) (hN : X.N.Nodup) (hi : L2H.PIH X tg iter wi) (ok : BlkOk X.N X.env.scope scope own)
    (hg : ∀ (s : Shared) (H : Hp) (C : Addr) (cl : List (Str × Addr)) (fp : List Addr), PG (blkH X s H scope (compEnvC scope cl C X.env) fp) tg g) (ht : ∀ (s : Shared) (H : Hp) (C : Addr) (cl : List (Str × Addr)) (fp : List Addr), PTs (blkH X s H scope (compEnvC scope cl C X.env) fp) ifs tt)
    (he : ∀ (s : Shared) (H : Hp) (C : Addr) (cl : List (Str × Addr)) (fp : List Addr), PE (blkH X s H scope (compEnvC scope cl C X.env) fp) elt te) (hs : ∀ x, foldedSetIterable iter X.env x = pure x := by intro _; rfl) :
    PE X (.ListComp elt [⟨tg, iter, ifs, 0⟩] scope pos) (tLc wi g tt te (own.map (·.2))) := by
  refine ⟨fun pins s σ H Q I h => ?_⟩
  rw [eval_ListComp]
  refine lc_coreH hc hN I hi ok hg ht he hs h fun D C s' m H' I' q hn f => ⟨m, hn, fun h'' sb => ?_⟩
  obtain ⟨f0, f1, f2, f3, f4, f5⟩ := f
  exact ⟨.ref D, H', I'.turned (t' := s'.toks) (fun b o hb e => (sb.2 b hb).trans e) f0 f1 f3 f4 f5, rfl, q⟩
theorem ps_setLcH {i : Nat} {y : Str} {py : Pos} {elt tg iter : Expr} {ifs : List Expr} {scope : Scope} {own : List (Str × Nat)} {pos spos : Pos} {wi : TI} {g : TG} {tt : TT} {te : TE} (hc : HotC X) (hN : X.N.Nodup) (hy : X.N[i]? = some y) (hyl : X.env.scope.names.lookup y = some .local)
    (hsw : swapsWith (.ListComp elt [⟨tg, iter, ifs, 0⟩] scope pos) (some (.Name y py)) spos.line X.env = pure true) (hi : L2H.PIH X tg iter wi) (ok : BlkOk X.N X.env.scope scope own)
    (hg : ∀ (s : Shared) (H : Hp) (C : Addr) (cl : List (Str × Addr)) (fp : List Addr), PG (blkH X s H scope (compEnvC scope cl C X.env) fp) tg g) (ht : ∀ (s : Shared) (H : Hp) (C : Addr) (cl : List (Str × Addr)) (fp : List Addr), PTs (blkH X s H scope (compEnvC scope cl C X.env) fp) ifs tt)
    (he : ∀ (s : Shared) (H : Hp) (C : Addr) (cl : List (Str × Addr)) (fp : List Addr), PE (blkH X s H scope (compEnvC scope cl C X.env) fp) elt te) (hs : ∀ x, foldedSetIterable iter X.env x = pure x := by intro _; rfl) :
    PS X (.Assign [.Name y py] (.ListComp elt [⟨tg, iter, ifs, 0⟩] scope pos) spos) (tAsg (tLc wi g tt te (own.map (·.2))) (gName i)) := by
  refine ⟨fun pins s σ H D I h => ?_⟩
  rw [exec_Assign_Name_used _ _ _ _ hsw]
  refine wpAny_bind (wpAny_standAt (wpAny_bind ?_))
  show wpAny _ X.A (do let _ ← comprehension (.ListComp elt [⟨tg, iter, ifs, 0⟩] scope pos) scope X.env (firstIterPos [⟨tg, iter, ifs, 0⟩] pos) (newList []) false (eval iter X.env) (some (assign (.Name y py) X.env))) _ _ s
  have h : tLc wi g tt te (own.map (·.2)) σ H (fun x H1 => gName i x σ H1 D.nx) := h
  refine wpAny_bind (thn (lc_coreH (Qf := fun _ s' => SP X pins D .next s') hc hN I hi ok hg ht he hs h fun L C s' m H' I' q hn f => ?_) fun _ s' hq => wpAny_pure (wpAny_pure hq))
  show wpAny _ _ (assign (.Name y py) X.env (.ref L)) _ _ _
  refine wpAny_assign_Name (store_ok2 (v := V.ref L) I' hN hy (.inl hyl) rfl (fun s2 I2 ⟨a, sb, ha⟩ => ?_) (.inr hyl))
  obtain ⟨f0, f1, f2, f3, f4, f5⟩ := f
  have haC : C ≠ a := by
    rcases ha with z | z
    · rw [z]; exact f1
    · exact fun e => f4 y a z e.symm
  refine ⟨m, hn.sameBut sb haC, fun h3 sb3 => ?_⟩
  exact ⟨_, H', I2.turned (t' := s2.toks) (fun b o hb e => (sb3.2 b hb).trans e) f0 f1 f3 f4 f5, q⟩
end
end RD
namespace RD
open PySem PySem.Spec PyProof.Rows L2 HotX L2H
/-! ### raising -/
structure GR (X : Cx) (e : Expr) (σ : St) (H : Hp) (Q : XK) : Prop where
  run : ∀ pins s, Inv X pins σ H s → wpAny (model X.prog X.w) X.A (eval e X.env) (L2N.MkP X pins σ Q) X.xe s
section
variable {X : Cx} {W : WX} {e : Expr} {es : List Expr} {σ : St} {H : Hp} {D : Ends} {pos p p2 : Pos} {x m : Str} {j : Nat} {C : Addr}
theorem gs_raise (hc : X.calm = true) (tk : L2N.Takes X W) (h : GR X e σ H fun cls d H' => W cls d σ H') : GS X (.Raise (some e) none pos) D σ H :=
  gs (L2N.ps_raise (t := fun σ H Q => GR X e σ H Q) hc tk fun pins s σ H Q I h => h.run pins s I) h
/-- what is known of an own class without own __init__ -/
structure OwnC (K : PySem.W.Frag) (mg : Str → Option Value) (x : Str) (C : Addr) : Prop where
  own : ∃ bmB, ExcBaseFacts "ValueError" "ValueError.__new__" "ValueError.__init__" bmB ∧ PySem.W.excIn K C bmB "ValueError.__new__" = true
  get : mg x = some (.ref C)
  keep : PySem.W.keepIn K (.ref C) = true
  exC : PySem.W.subIn K (.ref C) (.type "BaseException") = some true
  tyC : PySem.W.typeIn K (.ref C) = some (.type "type")
theorem gr_own {Q : XK} (T : OwnC X.K X.mg x C) (q : Q (.ref C) none H) (hg : Gl X x := by rfl) (hdb : (x == ("__debug__" : Str)) = false := by decide) : GR X (.Call (.Name x p) [.Constant (.str m) j p2] [] pos) σ H Q := by
  obtain ⟨bmB, F, q2⟩ := T.own
  exact ⟨fun pins s I => L2N.pmk_own F q2 T.get T.keep (raises_own T.exC T.tyC) hg hdb pins s σ H Q I q⟩
/-- .. with own __init__ -/
structure IniC (P : Program) (w : World) (K : PySem.W.Frag) (mg : Str → Option Value) (base : Heap) (k : Nat) (x : Str) (C : Addr) (ps : List Str) (sp : Sp) : Prop where
  oex : OexC K C
  get : mg x = some (.ref C)
  ini : ∃ fI fd, PySem.W.findIn K (.ref C) "__init__" = some (some (.ref fI)) ∧ PySem.W.typeIn K (.ref fI) = some (.type "function") ∧ FnOk P w K mg base CX0 k fI fd ps sp ∧ Binds K fd ps []
theorem gr_ini {k : Nat} {ps : List Str} {sp : Sp} {Q : XK} (T : IniC X.prog X.w X.K X.mg X.base k x C ps sp) (hr : Room (k + 1) X.A)
    (h : GA X (e :: es) σ H fun vs H1 => vs.length ≤ 1000 ∧ ∀ a, H1 a = none → sp (.ref a :: vs) (upd H1 a (exo a C none))
      (fun v H2 => v = .non ∧ ∃ (d : Addr) (fs : List (Str × V)), H2 a = some (exo a C (some d)) ∧ H2 d = some (exd d fs) ∧ H1 d = none ∧ Q (.ref C) (some d) (upd (del H2 a) d (.xd fs))) (fun _ _ _ => False))
    (hg : Gl X x := by rfl) (hdb : (x == ("__debug__" : Str)) = false := by decide) (he : starEach (e :: es) X.env = (false, eval e X.env) :: starEach es X.env := by rfl) (hpl : (backTo pos (starEach es X.env)).any (·.1) = false := by rfl) :
    GR X (.Call (.Name x p) (e :: es) [] pos) σ H Q := by
  obtain ⟨fI, fd, iC, tI, F1, hb⟩ := T.ini
  refine ⟨fun pins s I => ?_⟩
  obtain ⟨nm, q, N, bs, bm, sn, sub, ab, col, dd, k0, k1, k2, k3, k5, hC, hbm⟩ := T.oex.cls
  refine wpAny_Call_Name_kw (ld_glob I hg T.get ?_ hdb)
  refine PySem.W.callWith_K (h₀ := X.base) I.ok.mod.kin T.oex.kC (thn (h.run pos pins s I) fun us s1 ⟨vs, H1, I1, r1, hz, q1⟩ => ⟨I1.kIn, ?_⟩) he hpl
  show wpAny _ _ (call (.ref C) us) _ _ _
  obtain ⟨hp, g, dr, tk, os⟩ := s1
  have hsz : hp.objs.size ≤ hp.objs.size + 1 := Nat.le_succ _
  have hn : H1 (hp.objs.size + 1) = none := I1.hok.fresh hsz
  have hq := q1 (hp.objs.size + 1) hn
  have kk : ∀ b o, hp.get? b = some o → ((hp.push (PySem.W.kdv_tup us)).push (PySem.HandSPX.excO C hp.objs.size)).get? b = some o := fun b o e => Heap.get?_push_of_some _ (Heap.get?_push_of_some _ e)
  have hget : ((hp.push (PySem.W.kdv_tup us)).push (PySem.HandSPX.excO C hp.objs.size)).get? (hp.objs.size + 1) = some (PySem.HandSPX.excO C hp.objs.size) := by heap_get
  have I2 : Inv X pins σ (upd H1 (hp.objs.size + 1) (exo (hp.objs.size + 1) C none)) ⟨(hp.push (PySem.W.kdv_tup us)).push (PySem.HandSPX.excO C hp.objs.size), g, dr, tk, os⟩ :=
    I1.laid (t' := tk) (a := hp.objs.size + 1) (o := exo (hp.objs.size + 1) C none) (h' := (hp.push (PySem.W.kdv_tup us)).push (PySem.HandSPX.excO C hp.objs.size)) kk hsz (exo_ok hget)
  have r2 : Vals (V.ref (hp.objs.size + 1) :: vs) (Value.ref (hp.objs.size + 1) :: us) := .cons rfl r1
  have hl : (Value.ref (hp.objs.size + 1) :: us).length = ps.length := by
    have e := r2.length
    rw [F1.len _ _ _ _ hq] at e
    exact e.symm
  have hus : us.length ≤ sizeLine := by
    rw [← Paired.length r1, sizeLine_eq]
    omega
  have b0 := hb _ (Value.ref (hp.objs.size + 1) :: us) I2.kIn (by rw [List.append_nil]; exact hl)
  rw [List.append_nil] at b0
  refine wpAny_call (PySem.HandSPX.call_own F.excBase_ValueError (fun Y => PySem.HandSPX.refsVE_contains Y bm hbm) (I1.kIn _ _ hC) (PySem.W.looks_findIn I1.kIn iC) (fun self => PySem.W.bind_fn I1.kIn self tI) hus
    (codeAny_mono (F1.run _ X.stack _ _ ⟨Value.ref (hp.objs.size + 1) :: us, []⟩ (Value.ref (hp.objs.size + 1) :: us) _ _ (fun _ _ _ => False) (hr.make C us []) (I2.env0.make C us []) b0 r2 hq) fun r s' hq' => ?_))
  cases r with
  | error er => exact False.elim hq'
  | ok fl =>
    cases fl with
    | ret u =>
      obtain ⟨v, H2, os2, bare2, un2, hok2, rv, ev, d, fs, ea, ed, hd1, q2⟩ := hq'
      subst ev
      obtain ⟨h2, g2, d2, t2, os'⟩ := s'
      obtain ⟨t0, G, J, kG, ge, hoe, na⟩ := mk_end0 (d2 := d2) (t2 := t2) I1 hsz kk un2 hok2 os2 bare2 ea ed hd1
      exact ⟨rv, _, _, _, ⟨G, g2, d2, t2, os'⟩, _, .ref C, some d, rfl, J, kG, ge, hoe, ⟨rfl, rfl, fun vs e => by cases e; rfl⟩, rfl, rfl, na, rfl, bare2, raises_own T.oex.exC T.oex.tyC, q2⟩
    | next => exact False.elim hq'
    | brk => exact False.elim hq'
    | cont => exact False.elim hq'
/-- self.f = e in such an __init__ -/
theorem gs_ost {o e : Expr} {f : Str} {p' : Pos} (h : GE X e σ H fun y H1 => GE X o σ H1 fun x H2 => ∃ a C : Addr, x = .ref a ∧ OexC X.K C ∧ PySem.W.findIn X.K (.ref C) f = some none ∧ H2 a = some (exo a C none) ∧ ∀ dx, H2 dx = none → dx ≠ a → D.nx σ (upd (upd H2 dx (exd dx [(f, y)])) a (exo a C (some dx))))
    (hs : swapsWith e (some (.Attribute o f p')) pos.line X.env = pure false := by rfl) : GS X (.Assign [.Attribute o f p'] e pos) D σ H :=
  gs (ps_ost GE.pe GE.pe hs) (h.mono fun y H1 h2 => h2.mono fun x H2 ⟨a, C, e1, e2, e3, e4, q⟩ => ⟨a, C, e1, e2, e3, .inl ⟨e4, q⟩⟩)
end
/-! ### calls that may raise -/
section
variable {X : Cx} {W : WX} {k : Nat} {x m : Str} {ps : List Str} {sp : Sp} {e o : Expr} {es : List Expr} {p pos apos : Pos} {σ : St} {H : Hp} {Q : VK} {C : Addr}
theorem ge_callS (D : Df X.prog X.w X.K X.mg X.base (L2N.CX X.prog X.w) k x ps sp) (hr : Room k X.A) (tk : L2N.Takes X W) (h : GA X (e :: es) σ H fun vs H1 => sp vs H1 Q (fun cls d H' => W cls d σ H')) (hg : Gl X x := by rfl)
    (hdb : (x == ("__debug__" : Str)) = false := by decide) (he : starEach (e :: es) X.env = (false, eval e X.env) :: starEach es X.env := by rfl) (hpl : (backTo pos (starEach es X.env)).any (·.1) = false := by rfl) : GE X (.Call (.Name x p) (e :: es) [] pos) σ H Q := by
  obtain ⟨f, fd, F, hm, hk, hb⟩ := D.ex
  exact ge (pe_callS (E := WE W) F hr hg hm hk hb (fun σ => L2N.passAt tk σ) GA.pa hdb he hpl) h
end
/-! ### try: .. except X as n: .. -/
def wAsL (K : PySem.W.Frag) (Wout : WX) (D : Ends) : List (Nat × Value × (Addr → Value → Option Addr → TS)) → WX
  | [] => Wout
  | (i, c, ts) :: r => fun cls d σ H => ∃ b, PySem.W.exmOne K cls c = some b ∧
      (b = true → ∀ a, H a = none → ts a cls d { nx := fun σ' H' => D.nx (σ'.set i none) H', rt := D.rt, bk := fun σ' H' => D.bk (σ'.set i none) H', ct := fun σ' H' => D.ct (σ'.set i none) H' } (σ.set i (some (.ref a))) H) ∧ (b = false → wAsL K Wout D r cls d σ H)
inductive HdsAs (X : Cx) : List ExceptHandler → List (Nat × Value × (Addr → Value → Option Addr → TS)) → Prop
  | nil : HdsAs X [] []
  | cons {x n : Str} {c : Value} {i : Nat} {ts : Addr → Value → Option Addr → TS} {b₀ : Stmt} {suite : List Stmt} {np pos' : Pos} {hds : List ExceptHandler} {l : List (Nat × Value × (Addr → Value → Option Addr → TS))} (hi : X.N[i]? = some n) (hln : X.env.kindOf n = some .local) (hc : Names X x c)
      (hsu : ∀ (a : Addr) (oe : Obj) (cls : Value) (d : Option Addr) (pn : List (Addr × Obj)), L2N.Zn cls d oe → (∃ vs, oe.data = .fields vs) → PSs (X.suite a ((a, oe) :: pn)) (b₀ :: suite) (ts a cls d)) (r : HdsAs X hds l) :
      HdsAs X (.ExceptHandler (some (.Name x np)) (some n) (b₀ :: suite) pos' :: hds) ((i, c, ts) :: l)
section
variable {X : Cx} {body : List Stmt} {h₀ : ExceptHandler} {hds : List ExceptHandler} {l : List (Nat × Value × (Addr → Value → Option Addr → TS))} {pos : Pos} {tb : WX → TS} {Wout : WX}
theorem ps_try_manyAs (hs : X.stack = X.env :: X.outer) (hf : X.env.frame = some X.env.locals) (hN : X.N.Nodup) (tk : L2N.Takes X Wout)
    (hb : ∀ (W : WX) (pn : List (Addr × Obj)) (xe : Value → Shared → Prop), L2N.Takes (X.tr pn xe) W → PassesOwn (model X.prog X.w) X.A X.env xe → PSs (X.tr pn xe) body (tb W))
    (hh : HdsAs X (h₀ :: hds) l) : PS X (.Try body (h₀ :: hds) [] [] pos) (fun D σ H => tb (wAsL X.K Wout D l) D σ H) := by
  refine ⟨fun pins s σ H D I h => ?_⟩
  have ok := I.ok
  have hfr : X.A.frames = some (X.env :: X.outer) := by rw [ok.frames, hs]
  refine wpAny_Try_except ?_
  refine wpAny_mono ((hb (wAsL X.K Wout D l) (X.pn ++ pins) (fun e s₁ => wpAny (model X.prog X.w) X.A (noteFrame e X.env) (fun _ s₂ => wpAny (model X.prog X.w) X.A (setFlight e none) (fun _ s₃ =>
    wpAny (model X.prog X.w) X.A (handleBy e X.env (h₀ :: hds)) (SP X pins D) X.xe s₃) X.xe s₂) X.xe s₁) (fun u s' xx => ?_) PassesOwn.looking).run [] s σ H D (I.toTry _) h) (fun f s1 hsp => ?_) (fun e s1 he => he)
  · -- the catch
    obtain ⟨a, B, sI, pins', σ', H', cls, d, rfl, J', nb, up, sky, na, os, ag, w⟩ := xx
    have J : Inv X pins σ' H' sI := J'.ofTry ok
    have sky' : Sky B (X.env :: X.outer) a (L2N.Zn cls d) X.env.locals s'.heap := by rw [← hs]; exact sky
    show wpAny (model X.prog X.w) X.A (noteFrame (.ref a) X.env) _ _ _
    refine L2N.Sky.land L2N.Zn.steady hfr hf sky' fun h3 fl3 up3 => ?_
    have J3 : Inv X pins σ' H' { s' with heap := h3 } := J.landed nb fl3.1 (up.trans up3) os ag
    obtain ⟨oe3, vs3, he3, hz3, hd3⟩ := fl3.there
    have notFr : ∀ {h : Heap} {o : Obj} {vs : Array Value}, h.FunFrames B (X.env :: X.outer) → h.get? a = some o → o.data = .fields vs → a ∉ frs (X.env :: X.outer) := fun {h o vs} ff e dd hm => by
      obtain ⟨_, o', e', hnf⟩ := ff.mem hm
      rw [e] at e'; cases e'
      exact hnf _ dd
    have nfr := notFr fl3.2.2.1 he3 hd3
    have nL : a ≠ X.env.locals := fun z => nfr (List.mem_filterMap.mpr ⟨X.env, List.mem_cons_self, by rw [hf, z]⟩)
    have nF : a ∉ X.fs := fun hm => by
      obtain ⟨e, he, q⟩ := List.mem_filterMap.mp hm
      exact nfr (List.mem_filterMap.mpr ⟨e, List.mem_cons_of_mem _ he, q⟩)
    have S3 := J3.suite he3 hd3 na nL nF
    have go : ∀ {hds' : List ExceptHandler} {l' : List (Nat × Value × (Addr → Value → Option Addr → TS))}, HdsAs X hds' l' → wAsL X.K Wout D l' cls d σ' H' →
        wpAny (model X.prog X.w) X.A (handleBy (.ref a) X.env hds') (SP X pins D) X.xe { s' with heap := h3 } := by
      intro hds' l' hk
      induction hk with
      | nil =>
        intro w
        refine wpAny_handleBy_nil ?_
        obtain ⟨k1, k2, k3, oe, vs, T, oT, ts', he, hz, hd, h1, hr⟩ := id fl3
        unfold PySem.passOn
        refine wpAny_bind (wpAny_field he hd h1 ?_)
        rw [if_neg (show ¬ ((Value.ref T == Value.none) = true) from by simp)]
        have fin : wpAny (model X.prog X.w) X.A (setFlight (.ref a) X.env.frame) (fun _ s4 => wpAny (model X.prog X.w) X.A (throw (.ref a) : Sem Flow) (SP X pins D) X.xe s4) X.xe { s' with heap := h3 } := by
          rw [hf]
          refine HandSPX.setFlight_upZ fl3 fun h4 hh4 up4 => wpAny_throw (tk _ _ ?_)
          exact ⟨a, B, sI, pins, σ', H', cls, d, rfl, J, nb, (up.trans up3).trans up4, .inr (.inr (by rw [hs]; exact hh4)), na, os, ag, w⟩
        first
          | exact wpAny_bind (wpAny_pure (wpAny_bind fin))
          | exact wpAny_bind fin
      | @cons x n c i ts b₀ suite np pos' hds2 l2 hi hln hc hsu r ih =>
        intro w
        obtain ⟨b, hb1, hyes, hno⟩ := w
        refine wpAny_handleBy_cons (codeAny_handlers_test ?_) (by intro q; cases q)
        have LT : PySem.W.Looks (model X.prog X.w) h3 (typeOf (.ref a)) cls := fun A Q E s k q => wpAny_typeOf_ref (k _ _ he3) (by rw [hz3.1]; exact q)
        have LM := PySem.W.exm_one (M := model X.prog X.w) (J3.kIn) LT hb1
        have test : ∀ {Q : Value → Shared → Prop} {E : Value → Shared → Prop}, Q c { s' with heap := h3 } → wpAny (model X.prog X.w) (X.A.mark (some (.ref a))) (eval (.Name x np) X.env) Q E { s' with heap := h3 } := fun {Q E} q => by
          obtain ⟨hg, hdbg, hm | ⟨hm, hv, hnn⟩⟩ := hc
          · exact ld_glob (X := X.suite a ((a, oe3) :: (X.pn ++ pins))) S3 hg hm q hdbg
          · exact ld_blt (X := X.suite a ((a, oe3) :: (X.pn ++ pins))) S3 hg hm hv q hnn hdbg
        refine test (LM.here ?_)
        cases b with
        | true =>
          refine codeAny_handlers_suite_as ?_
          refine HandSPX.lands_againZ fl3 fun h4 fl4 up4 => ?_
          have J4 : Inv X pins σ' H' { s' with heap := h4 } := J.landed nb fl4.1 ((up.trans up3).trans up4) os ag
          obtain ⟨oe4, vs4, he4, hz4, hd4⟩ := fl4.there
          have S4 := J4.suite he4 hd4 na nL nF
          refine store_ok (X := X.suite a ((a, oe4) :: (X.pn ++ pins))) (v := .ref a) S4 hN hi (.inl hln) rfl (fun s5 S5 => ?_) (.inr hln)
          refine wpAny_mono ((hsu a oe4 cls d (X.pn ++ pins) hz4 ⟨_, hd4⟩).run [] s5 _ H' _ S5 (hyes rfl a na)) (fun f s6 hsp => ?_) (fun _ _ z => False.elim z)
          have end_ : ∀ {σ6 : St} {H6 : Hp} {Q : Shared → Prop}, Inv (X.suite a ((a, oe4) :: (X.pn ++ pins))) [] σ6 H6 s6 → (∀ s7, Inv X pins (σ6.set i none) H6 s7 → Q s7) →
              wpAny (model X.prog X.w) X.A (do bindName X.env n .none; unbindBehindTheSuite X.env n pos') (fun _ s7 => Q s7) X.xe s6 := fun {σ6 H6 Q} S6 hq => gone_ok (S6.unsuite ok) hN hi hln hq
          cases f with
          | next =>
            obtain ⟨σ6, H6, S6, q6⟩ := hsp
            exact end_ S6 fun s7 J7 => ⟨_, _, J7, q6⟩
          | brk =>
            obtain ⟨σ6, H6, S6, q6⟩ := hsp
            exact end_ S6 fun s7 J7 => ⟨_, _, J7, q6⟩
          | cont =>
            obtain ⟨σ6, H6, S6, q6⟩ := hsp
            exact end_ S6 fun s7 J7 => ⟨_, _, J7, q6⟩
          | ret u =>
            obtain ⟨v6, σ6, H6, S6, r6, q6⟩ := hsp
            exact end_ S6 fun s7 J7 => ⟨_, _, _, J7, r6, q6⟩
        | false =>
          show wpAny _ X.A (handleBy (.ref a) X.env hds2) _ _ _
          exact ih (hno rfl)
    exact go hh w
  · cases f with
    | next =>
      obtain ⟨σ', H', J', q⟩ := hsp
      exact wpAny_execs_nil ⟨σ', H', J'.ofTry ok, q⟩
    | brk =>
      obtain ⟨σ', H', J', q⟩ := hsp
      exact ⟨σ', H', J'.ofTry ok, q⟩
    | cont =>
      obtain ⟨σ', H', J', q⟩ := hsp
      exact ⟨σ', H', J'.ofTry ok, q⟩
    | ret u =>
      obtain ⟨v, σ', H', J', r, q⟩ := hsp
      exact ⟨v, σ', H', J'.ofTry ok, r, q⟩
end
/-- a suite's code -/
def gSuite (X : Cx) (suite : List Stmt) : Addr → Value → Option Addr → TS := fun a cls d D σ H => ∀ (oe : Obj) (pn : List (Addr × Obj)), L2N.Zn cls d oe → (∃ vs, oe.data = .fields vs) → GB (X.suite a ((a, oe) :: pn)) suite D σ H
theorem gSuite.ok {X : Cx} {suite : List Stmt} (a : Addr) (oe : Obj) (cls : Value) (d : Option Addr) (pn : List (Addr × Obj)) (hz : L2N.Zn cls d oe) (hf : ∃ vs, oe.data = .fields vs) : PSs (X.suite a ((a, oe) :: pn)) suite (gSuite X suite a cls d) := ⟨fun pins s σ H D I h => (h oe pn hz hf).run pins s I⟩
theorem gs_tryAs {X : Cx} {body : List Stmt} {h₀ : ExceptHandler} {hds : List ExceptHandler} {l : List (Nat × Value × (Addr → Value → Option Addr → TS))} {pos : Pos} {Wout : WX} {D : Ends} {σ : St} {H : Hp} (hs : X.stack = X.env :: X.outer) (hf : X.env.frame = some X.env.locals) (hN : X.N.Nodup) (tk : L2N.Takes X Wout)
    (hh : HdsAs X (h₀ :: hds) l) (h : ∀ (pn : List (Addr × Obj)) (xe : Value → Shared → Prop), L2N.Takes (X.tr pn xe) (wAsL X.K Wout D l) → PassesOwn (model X.prog X.w) X.A X.env xe → GB (X.tr pn xe) body D σ H) : GS X (.Try body (h₀ :: hds) [] [] pos) D σ H :=
  gs (ps_try_manyAs (tb := fun W D σ H => ∀ (pn : List (Addr × Obj)) (xe : Value → Shared → Prop), L2N.Takes (X.tr pn xe) W → PassesOwn (model X.prog X.w) X.A X.env xe → GB (X.tr pn xe) body D σ H) hs hf hN tk
    (fun W pn xe t p => ⟨fun pins s σ H D I h => (h pn xe t p).run pins s I⟩) hh) h
theorem takes_none {X : Cx} : L2N.Takes X (fun _ _ _ _ => False) := fun _ _ ⟨_, _, _, _, _, _, _, _, _, _, _, _, _, _, _, _, w⟩ => w.elim
end RD
namespace RD
open PySem PySem.Spec PyProof.Rows L2 HotX L2H
/-! ### defs that are called while p's exception is handled -/
structure FnE (P : Program) (w : World) (K : PySem.W.Frag) (mg : Str → Option Value) (base : Heap) (k : Nat) (f : Addr) (fd : FuncData) (ps : List Str) (sp : Addr × Obj → Sp) : Prop where
  len : ∀ p vs H Q E, sp p vs H Q E → vs.length = ps.length
  run : ∀ (A : Around) (outer : List Env) (s : Shared) (H : Hp) (args : Args) (us : List Value) (vs : List V) (Q : VK) (E : XK) (p : Addr × Obj), RoomH k A → Hot1 A p → PinOk outer H s p → Env0 P w K mg base A outer s H → BindsTo s fd args (ps.zip us) → Vals vs us → sp p vs H Q E →
    codeAny (model P w) A (.call (.ref f) args) (CR CX0 outer P w H s Q E) s
section
variable {P : Program} {w : World} {K : PySem.W.Frag} {mg : Str → Option Value} {base : Heap}
theorem fnE {x q : Str} {st : Stmt} {f : Addr} {fd : FuncData} {N ps : List Str} {k : Nat} {sp : Addr × Obj → Sp} (F : FnP K x q st f fd) (S : FnScope N ps (defScope st)) (len : ∀ p vs H Q E, sp p vs H Q E → vs.length = ps.length)
    (hbody : ∀ (cdv : Value) (A : Around) (outer : List Env) (s : Shared) (H : Hp) (vs : List V) (Q : VK) (E : XK) (p : Addr × Obj), Hot1 A p → RoomH k (A.deeper (envOfC q (defScope st) s.heap.objs.size f cdv)) → sp p vs H Q E →
      GB (cxH CX0 P w K mg base N q (defScope st) f cdv A outer s H E p).nox (defBody st) { nx := fun _ H' => Q .non H', rt := Q } (L2.start N vs) H) : FnE P w K mg base (k + 1) f fd ps sp := by
  obtain ⟨oc, od, dV, kV, doc, pm, an, cdv, ct, osl, rfl, lk, hcd, _, _⟩ := F.ex
  refine ⟨len, fun A outer s H args us vs Q E p hr hot hpin e0 hb r hsp => ?_⟩
  have hl := len _ _ _ _ _ hsp
  have KX : K.In s.heap := e0.mod.kin.keeps fun b o e => (e0.bs b o e).1
  have lim : s.heap.NoLimit := e0.mod.nolimit.keeps fun b o e => (e0.bs b o e).1
  have hkind : ∀ y ∈ ps.zip us, (defScope st).names.lookup y.1 = some .local ∨ ((defScope st).names.lookup y.1 = some .cell ∧ ((cellsFrom (s.heap.objs.size + 1) (defScope st).names []).lookup y.1).isSome = true) := fun ⟨n, v⟩ hy => by
    rcases S.par n (List.of_mem_zip hy).1 with q | q
    · exact .inl q
    · exact .inr ⟨q, PySem.W.cellsFrom_some _ _ _ (.inl q)⟩
  refine codeAny_call_function hr.depth (KX _ _ lk) rfl S.co S.gen rfl (PySem.W.codeRec_of KX hcd) (hb _ _ _ _ ?_)
  refine wpAny_newFunctionEnv_cells S.kind hkind fun env he s1 x => ?_
  subst he
  refine ⟨lim.keeps x.toInCall.keep, codeAny_func ?_⟩
  have I : Inv (cxH CX0 P w K mg base N q (defScope st) f cdv A outer s H E p) [] (L2.start N vs) H s1 := inv_startH S hpin e0 hl r x
  refine wpAny_mono ((PSs.nox GB.pss).run [] s1 (L2.start N vs) H _ I (hbody cdv A outer s H vs Q E p hot (hr.deeper _) hsp)) (fun fl s' hs => ?_) fun e s' hs => hs
  have fin : ∀ {σ' : St} {H' : Hp} {v : V} {u : Value}, Inv (cxH CX0 P w K mg base N q (defScope st) f cdv A outer s H E p) [] σ' H' s' → RelV v u → Q v H' → CE outer P w H s Q u s' :=
    fun {σ' H' v u} J rv q => ⟨v, H', J.os, J.bare, J.base, J.hok, rv, q⟩
  cases fl with
  | ret u =>
    obtain ⟨v, σ', H', J, rv, q⟩ := hs
    exact fin J rv q
  | next =>
    obtain ⟨σ', H', J, q⟩ := hs
    exact fin (v := V.non) (u := Value.none) J rfl q
  | brk =>
    obtain ⟨_, _, _, q⟩ := hs
    exact False.elim q
  | cont =>
    obtain ⟨_, _, _, q⟩ := hs
    exact False.elim q
structure DfE (P : Program) (w : World) (K : PySem.W.Frag) (mg : Str → Option Value) (base : Heap) (k : Nat) (x : Str) (ps : List Str) (sp : Addr × Obj → Sp) : Prop where
  ex : ∃ f fd, FnE P w K mg base k f fd ps sp ∧ mg x = some (.ref f) ∧ PySem.W.keepIn K (.ref f) = true ∧ Binds K fd ps []
theorem DfE.mk' {x : Str} {st : Stmt} {ps : List Str} {k : Nat} {sp : Addr × Obj → Sp} {f : Addr} {fd : FuncData} (F : FnP K x x st f fd) (hm : mg x = some (.ref f)) (G : FnE P w K mg base k f fd ps sp)
    (h : ∀ (kV doc pm : Value) (an : Option Addr) (cdv ct : Value) (us : List Value), us.length = ps.length → bindArgs (PySem.W.fnOf x x (defArgs st) (defBody st) (defScope st) .none kV doc pm an cdv ct) ⟨us, []⟩ = pure (ps.zip us)) : DfE P w K mg base k x ps sp :=
  ⟨f, fd, G, hm, F.kp, F.bindsN h⟩
end
section
variable {X : Cx} {k : Nat} {x : Str} {ps : List Str} {sp : Addr × Obj → Sp} {e : Expr} {es : List Expr} {q pos : Pos} {σ : St} {H : Hp} {Q : VK}
theorem ge_callE {p : Addr × Obj} (D : DfE X.prog X.w X.K X.mg X.base k x ps sp) (hot : Hot1 X.A p) (hp : p ∈ X.pn) (hr : RoomH k X.A) (h : GA X (e :: es) σ H fun vs H1 => sp p vs H1 Q E0) (hg : Gl X x := by rfl)
    (hdb : (x == ("__debug__" : Str)) = false := by decide) (he : starEach (e :: es) X.env = (false, eval e X.env) :: starEach es X.env := by rfl) (hpl : (backTo pos (starEach es X.env)).any (·.1) = false := by rfl) : GE X (.Call (.Name x q) (e :: es) [] pos) σ H Q := by
  obtain ⟨f, fd, F, hm, hk, hb⟩ := D.ex
  refine ⟨fun pins s I => ?_⟩
  refine wpAny_Call_Name_kw (ld_glob I hg hm ?_ hdb)
  refine PySem.W.callWith_K (h₀ := X.base) I.ok.mod.kin hk (thn (h.run pos pins s I) fun us s1 ⟨vs, H1, I1, r, q1⟩ => ⟨I1.kIn, ?_⟩) he hpl
  have hl : us.length = ps.length := by rw [← r.length]; exact F.len _ _ _ _ _ q1
  have b := hb s1 us I1.kIn (by rw [List.append_nil]; exact hl)
  rw [List.append_nil] at b
  have P1 := I1.pin p (List.mem_append_left _ hp)
  have hpin : PinOk X.stack H1 s1 p := ⟨P1.1, P1.2.1, fun hm => (List.mem_cons.mp (I1.stkSub p.1 hm)).elim P1.2.2.1 P1.2.2.2.1, P1.2.2.2.2⟩
  refine wpAny_call (codeAny_mono (F.run X.A X.stack s1 H1 ⟨us, []⟩ us vs Q E0 p hr hot hpin I1.env0 b r q1) fun r s' hq => ?_)
  cases r with
  | error e => exact False.elim hq
  | ok fl =>
    cases fl with
    | ret u => exact I1.after hq
    | next => exact False.elim hq
    | brk => exact False.elim hq
    | cont => exact False.elim hq
end
/-! ### the caught exception -/
/-- its dict stands -/
def XdOk (H : Hp) (d : Option Addr) : Prop := d = none ∨ ∃ dd fs, d = some dd ∧ H dd = some (.xd fs)
theorem c1_isE {X : Cx} {H : Hp} {Q : VK} {a D : Addr} {oe : Obj} {d : Option Addr} {c : V} {cv : Value} {b : Bool} (T : ExcC X.K D) (hz : L2N.Zn (.ref D) d oe) (hf : ∃ vs, oe.data = .fields vs) (hp : (a, oe) ∈ X.pn) (hd : XdOk H d) (hcv : ClsV c cv) (hk : PySem.W.kitOne X.K (.ref D) cv = some b) (q : Q (.bl b) H) :
    C1 X (.builtin "isinstance") [.ref a, c] H Q := ⟨fun pins s σ us I r => by
  cases r with
  | cons rx rr =>
    cases rr with
    | cons rt rr =>
      cases rr
      cases rx
      have ec := hcv.eq rt
      subst ec
      obtain ⟨hget, _⟩ := I.pin (a, oe) (List.mem_append.mpr (.inl hp))
      obtain ⟨vs, hv⟩ := hf
      have J : ∃ od, PySem.W.InstAt s.heap a oe D od := by
        obtain ⟨oc, od, oda, osl⟩ := oe
        obtain ⟨h1, h2, _⟩ := hz
        dsimp only at h1 h2 hv
        subst h1 h2 hv
        rcases hd with rfl | ⟨dd, fs, rfl, hx⟩
        · exact ⟨none, hget, rfl, rfl, trivial⟩
        · have hx : ObjOk X.prog X.w H s.heap dd (.xd fs) := I.hok dd _ hx
          obtain ⟨mA, hns, hr⟩ := hx
          obtain ⟨od, ho, hl⟩ := lookIn_ns hns
          exact ⟨some od, hget, rfl, rfl, ho⟩
      obtain ⟨od, J⟩ := J
      exact PySem.W.kia_one (PySem.W.kitx_exc (od := od) (ox := oe) (x := a) (by obtain ⟨cd, hc, _⟩ := PySem.W.any_some T.hd; rw [hc]; rfl) T.hg T.hk T.hs T.ha T.hn T.ht T.hm) I.kIn J hk (fun z => nomatch z) fun tk => ⟨.bl b, H, I.kept (t' := tk) fun _ _ z => z, rfl, q⟩⟩
/-- err.f -/
theorem ge_xf {X : Cx} {a C : Addr} {oe : Obj} {d : Option Addr} {pn : List (Addr × Obj)} {e : Expr} {σ : St} {H : Hp} {Q : VK} {pos : Pos} {n : Str} (T : XfC X.K C) (hno : PySem.W.findIn X.K (.ref C) n = some none)
    (hz : L2N.Zn (.ref C) d oe) (hf : ∃ vs, oe.data = .fields vs) (h : GE (X.suite a ((a, oe) :: pn)) e σ H fun x H1 => x = .ref a ∧ ∃ (dd : Addr) (fs : List (Str × V)) (v : V), d = some dd ∧ H1 dd = some (.xd fs) ∧ fs.lookup n = some v ∧ Q v H1)
    (hb : attributeBase e n X.env (eval e X.env) = eval e X.env := by rfl) : GE (X.suite a ((a, oe) :: pn)) (.Attribute e n pos) σ H Q :=
  ge (pe_xf T hno ⟨hz.1, hz.2.1⟩ hf GE.pe hb) (h.mono fun x H1 ⟨e1, q⟩ => ⟨e1, rfl, q⟩)
/-! ### list.count(True) of bools -/
def bsk (v : Value) : Bool := match v with
  | .bool b => b
  | _ => false
theorem bsk_gives {A : Around} {s : Shared} : ∀ {us : List Value} {bs : List Bool}, Vals (bs.map V.bl) us → ∀ y ∈ us, SeqAt.EqAt A s y (.bool true) (bsk y)
  | [], [], _ => fun y hy => by cases hy
  | _, b :: bs, .cons r rs => fun y hy => by
    rcases List.mem_cons.mp hy with e | e
    · rw [e]
      have er := (show _ = Value.bool b from r)
      rw [er]
      have := SeqAt.EqAt.bool_bool (A := A) (s := s) b true
      cases b
      · exact this
      · exact this
    · exact bsk_gives rs y e
theorem bsk_count : ∀ {us : List Value} {bs : List Bool}, Vals (bs.map V.bl) us → us.countP bsk = bs.countP id
  | [], [], _ => rfl
  | _, b :: bs, .cons r rs => by
    have ih := bsk_count rs
    have er := (show _ = Value.bool b from r)
    rw [er, List.countP_cons, List.countP_cons, ih]
    rfl
theorem mt_bcount {X : Cx} : MtR X "list.count" (fun x xs H Q => ∃ (p : Addr) (bs : List Bool), x = .ref p ∧ xs = [.bl true] ∧ SqL X.K H p (bs.map V.bl) ∧ Q (.int (bs.countP id : Nat)) H) := by
  intro pins s σ H x xs v us Q I rx rxs h
  obtain ⟨p, bs, rfl, rfl, hs, q⟩ := h
  cases rx
  obtain ⟨u, rfl, ru⟩ := rxs.one
  obtain rfl : u = Value.bool true := ru
  obtain ⟨its, rv, ⟨⟨cls, dd, data, sl⟩, n, ho, hc, hdn, hd⟩, hlen⟩ := I.list hs
  simp only at hc hd
  subst hc hd
  refine call_meets PySem.F.slot_list_count ⟨_, ho, rfl⟩ PySem.F.entry_list_count (PySem.F.args_list_count_2 _ _)
    (SeqAt.list_countAt p its.toArray n dd sl (.bool true) bsk) ⟨ho, fun y hy => bsk_gives rv y (by simpa using hy), ?_⟩
  have ec : its.toArray.toList.countP bsk = bs.countP id := bsk_count rv
  refine ⟨.int (bs.countP id : Nat), H, I.tok _, ⟨s.toks, ?_⟩, q⟩
  show Value.int ((its.toArray.toList.countP bsk : Nat) : Int) s.toks = Value.int ((bs.countP id : Nat) : Int) s.toks
  rw [ec]
theorem ge_bcount {X : Cx} {o e : Expr} {σ : St} {H : Hp} {Q : VK} {pos apos : Pos} (h : GE X o σ H fun x H1 => ∃ (l : Addr) (bs : List Bool), x = .ref l ∧ SqL X.K H1 l (bs.map V.bl) ∧ GE X e σ H1 fun v H2 => v = .bl true ∧ SqL X.K H2 l (bs.map V.bl) ∧ Q (.int (bs.countP id : Nat)) H2)
    (hbase : attributeBase o "count" X.env (eval o X.env) = eval o X.env := by rfl)
    (hfew : ((backTo pos (starEach [e] X.env)).all (fun x => !x.1) && (backToKw pos (keywordEach [] X.env)).all (fun x => x.1.isSome)
      && decide ([e].length + ([] : List Keyword).length + (if ([] : List Keyword).isEmpty then 0 else 1) < 30)) = true := by rfl)
    (hline : (apos.endLine == pos.line) = true := by rfl) (hs : starEach [e] X.env = (false, eval e X.env) :: starEach [] X.env := by rfl) (hplain : (backTo pos (starEach [] X.env)).any (·.1) = false := by rfl) :
    GE X (.Call (.Attribute o "count" apos) [e] [] pos) σ H Q :=
  ge (pe_bm PySem.F.plainAttrs_list PySem.F.slot_list_count PySem.F.type_list_count mt_bcount GE.pe (pa_cons GE.pe pa_nil hs) hbase hfew hline hs hplain) (h.mono fun x H1 ⟨l, bs, e1, hl, h2⟩ => by
    subst e1
    exact ⟨.inl ⟨rfl, _, hl⟩, h2.mono fun v H2 ⟨e2, hx, q⟩ => ⟨l, bs, rfl, by rw [e2], hx, q⟩⟩)
/-! ### a comprehension while an exception is handled -/
structure BEH (X : Cx) (scope : Scope) (e : Expr) (σ : St) (H : Hp) (Q : VK) : Prop where
  run : ∀ (s0 : Shared) (H0 : Hp) (C : Addr) (cl : List (Str × Addr)) (fp : List Addr), GE (blkH X s0 H0 scope (compEnvC scope cl C X.env) fp) e σ H Q
structure BTH (X : Cx) (scope : Scope) (e : Expr) (σ : St) (H : Hp) (Q : Bool → Hp → Prop) : Prop where
  run : ∀ (s0 : Shared) (H0 : Hp) (C : Addr) (cl : List (Str × Addr)) (fp : List Addr), GT (blkH X s0 H0 scope (compEnvC scope cl C X.env) fp) e σ H Q
section
variable {X : Cx} {iter elt c : Expr} {scope : Scope} {σ : St} {H : Hp} {pos : Pos}
theorem BEH.pe (s0 : Shared) (H0 : Hp) (C : Addr) (cl : List (Str × Addr)) (fp : List Addr) : PE (blkH X s0 H0 scope (compEnvC scope cl C X.env) fp) elt (BEH X scope elt) := ⟨fun pins s σ H Q I h => (h.run s0 H0 C cl fp).run pins s I⟩
theorem BTH.pt (s0 : Shared) (H0 : Hp) (C : Addr) (cl : List (Str × Addr)) (fp : List Addr) : PT (blkH X s0 H0 scope (compEnvC scope cl C X.env) fp) c (BTH X scope c) := ⟨fun pins s σ H Q I h => (h.run s0 H0 C cl fp).run pins s I⟩
theorem BEH.mono {Q Q' : VK} (h : BEH X scope elt σ H Q) (k : ∀ v H', Q v H' → Q' v H') : BEH X scope elt σ H Q' := ⟨fun s0 H0 C cl fp => (h.run s0 H0 C cl fp).mono k⟩
theorem BTH.mono {Q Q' : Bool → Hp → Prop} (h : BTH X scope c σ H Q) (k : ∀ v H', Q v H' → Q' v H') : BTH X scope c σ H Q' := ⟨fun s0 H0 C cl fp => (h.run s0 H0 C cl fp).mono k⟩
/-- y = [elt for a, b in list if c], pure, the pairs being tuples -/
theorem gs_lcP (i : Nat) {j k kk : Nat} {y xn yn : Str} {py px pz tp spos : Pos} {D : Ends} (hc : HotC X) (hN : X.N.Nodup) (hi : X.N[i]? = some y) (hjk : j ≠ k) (hy : X.env.scope.names.lookup y = some .local)
    (hsw : swapsWith (.ListComp elt [⟨.Tuple [.Name xn px, .Name yn pz] kk tp, iter, [c], 0⟩] scope pos) (some (.Name y py)) spos.line X.env = pure true) (ok : BlkOk X.N X.env.scope scope [(xn, j), (yn, k)])
    (h : GE X iter σ H fun v H1 => ∃ (a : Addr) (xs : List V) (keep : Nat → Bool) (d : Nat → PyData), v = .ref a ∧ SqL X.K H1 a xs ∧ xs.length ≤ 100000 ∧
      (∀ i x H2, xs[i]? = some x → Ex H1 H2 → ∃ t x1 y1, x = .ref t ∧ SqT X.K H2 t [x1, y1] ∧
        BTH X scope c (((wipe σ [j, k]).set j (some x1)).set k (some y1)) H2 fun b H3 => Ex H2 H3 ∧ b = keep i ∧ (b = true → BEH X scope elt (((wipe σ [j, k]).set j (some x1)).set k (some y1)) H3 fun y H4 => Ex H3 H4 ∧ TD X.K H4 y (d i))) ∧
      LcK X.K H1 xs.length keep d fun v H' => D.nx (σ.set i (some v)) H')
    (hg : ∀ (s : Shared) (H : Hp) (C : Addr) (cl : List (Str × Addr)) (fp : List Addr), PG (blkH X s H scope (compEnvC scope cl C X.env) fp) (.Tuple [.Name xn px, .Name yn pz] kk tp) (gTup X.K 2 (gCons (gName j) (gCons (gName k) gNil))))
    (hs : ∀ x, foldedSetIterable iter X.env x = pure x := by intro _; rfl) :
    GS X (.Assign [.Name y py] (.ListComp elt [⟨.Tuple [.Name xn px, .Name yn pz] kk tp, iter, [c], 0⟩] scope pos) spos) D σ H := by
  refine gs (ps_setLcH (own := [(xn, j), (yn, k)]) hc hN hi hy hsw (pi_listH GE.pe) ok hg (fun s H C cl fp => pts_one (BTH.pt s H C cl fp)) BEH.pe hs) ?_
  refine GE.mono h fun v H1 ⟨a, xs, keep, d, e, hx, hn, ht, hd⟩ => ⟨a, e, ⟨xs, hx⟩, fun D' hD => ?_⟩
  refine lc_it walk_list (Lc X.K H1 D' keep d) (Lc.start hD) (fun i H' _ p => Evl.ex_l p.2.1 hx) (fun i x H2 H' hi p y => ?_) (fun H' p => ?_)
  · obtain ⟨rfl, y⟩ := y
    obtain ⟨t, x1, y1, rfl, hT, q⟩ := ht i x H' y p.2.1
    refine ⟨t, _, rfl, hT, rfl, x1, [y1], rfl, y1, [], rfl, rfl, wipe2 hjk, ?_⟩
    refine q.mono fun b H3 ⟨e1, hb, q⟩ => ?_
    cases b with
    | true =>
      rw [if_pos rfl]
      exact (q rfl).mono fun y H5 ⟨e4, hy⟩ => p.yes (e1.trans e4) hb.symm hy (by omega)
    | false =>
      rw [if_neg Bool.false_ne_true]
      exact p.no e1 hb.symm
  · obtain ⟨h0, h1, ys, h2, h3, h4⟩ := p
    exact hd D' H' ys h0 h1 h2 h3
end
end RD
namespace RD
open PySem PySem.Spec PyProof.Rows L2
section
variable {X : Cx} {e o i : Expr} {f : Str} {pos pos' apos p : Pos} {σ : St} {H : Hp} {Q : VK} {D : Ends}
/-! ### stores -/
def gFld (X : Cx) (o : Expr) (f : Str) : TG := fun v σ H Q => GE X o σ H fun x H2 => ∃ a C dx fs, x = .ref a ∧ H2 a = some (.ins C dx fs) ∧ Cls X.K C ∧ NoAttr X.K C f ∧ fs.length < 1000 ∧ Q σ (upd H2 a (.ins C dx (putF f v fs)))
theorem pg_fld : PG X (.Attribute o f pos) (gFld X o f) := by
  refine ⟨fun pins s σ H v u Q I r h => ?_⟩
  rw [assign_Attribute]
  refine wpAny_bind (wpAny_holding (thn (h.run pins s I) fun ov s1 ⟨x, H1, I1, r1, a, C, dx, fs, ex, ea, c, n, l, q⟩ => ?_))
  subst ex
  obtain rfl : ov = Value.ref a := r1
  refine wpAny_bind (wpAny_standAt (wpAny_bind (wpAny_holding (setattr_ok I1 ea c n l r fun s3 I3 => ?_))))
  exact wpAny_release ⟨σ, _, I3, q⟩
/-- xs[i] = e -/
theorem gs_setL (h : GE X e σ H fun v H1 => GE X o σ H1 fun x H2 => GE X i σ H2 fun y H3 => ∃ l xs k j, x = .ref l ∧ y = .int k ∧ H3 l = some (.lst xs) ∧ ixN xs.length k = some j ∧ D.nx σ (upd H3 l (.lst (xs.set j v))))
    (hs : swapsWithSole [.Subscript o i pos'] e pos.line X.env = pure false := by rfl) (hw : swappedStores [.Subscript o i pos'] e X.env = pure none := by rfl)
    (h1 : (assignEach [.Subscript o i pos'] X.env).map (·.2) = [assign (.Subscript o i pos') X.env] := by rfl)
    (ha : ∀ v, assign (.Subscript o i pos') X.env v = (do
      let ov ← holding [v] (eval o X.env)
      let iv ← holding [v, ov] (eval i X.env)
      standAt pos'
      holding [v, ov, iv] (setItem ov iv v)
      release [v, ov, iv] []) := by intro _; rfl) : GS X (.Assign [.Subscript o i pos'] e pos) D σ H :=
  gs_asg (pg_sub GE.pe GE.pe set_list ha) h hs hw h1
def rSetD : V → V → V → Hp → (Hp → Prop) → Prop := fun o i v H Q => ∃ a H', o = .ref a ∧ DPut H a i v H' ∧ Q H'
theorem set_dict (hu : X.A.units + 1 < cLine) : PSet X rSetD := by
  intro pins s σ H o i v ov iv u Q I ro ri rv h
  obtain ⟨a, H', rfl, g, q⟩ := h
  obtain rfl : ov = Value.ref a := ro
  exact d_setItem hu I g ri rv fun s' I' => ⟨H', I', q⟩
/-! ### displays of dicts -/
def trsOf (X : Cx) : List (Option Expr) → List Expr → List (TE × TE)
  | some k :: ks, v :: vs => (GE X k, GE X v) :: trsOf X ks vs
  | _, _ => []
theorem pps_of : ∀ {keys : List (Option Expr)} {values : List Expr}, keys.all (·.isSome) = true → keys.length = values.length → PPs X pos keys values (trsOf X keys values)
  | [], [], _, _ => pps_nil
  | [], _ :: _, _, h => by cases h
  | _ :: _, [], _, h => by cases h
  | some k :: ks, v :: vs, h1, h2 => pps_cons GE.pe GE.pe (pps_of (by simpa using h1) (by simpa using h2))
  | none :: _, _ :: _, h1, _ => by simp at h1
theorem ge_disp {keys : List (Option Expr)} {values : List Expr} (h : ∀ p, H p = none → tPairs (trsOf X keys values) σ (upd H p (.dK [])) fun ps H2 => H2 p = some (.dK []) ∧ ∃ kvs : List (Key × V), ps = kvs.map (fun kv => (kV kv.1, kv.2)) ∧ kvs.length ≤ 15 ∧ Q (.ref p) (upd H2 p (.dK (mergeK [] kvs))))
    (hall : keys.all (·.isSome) = true := by rfl) (hl : keys.length = values.length := by rfl) (h0 : keys ≠ [] := by simp) (h15 : keys.length ≤ 15 := by decide) : GE X (.Dict keys values pos) σ H Q :=
  ge (pe_disp (pps_of hall hl) hall hl h0 h15) h
/-! ### built-in functions -/
theorem c1_max {a b : Int} (hc : X.calm = true) (q : Q (.int (max a b)) H) : C1 X (.builtin "max") [.int a, .int b] H Q := c1 (call_max2 hc) ⟨a, b, rfl, by
  rw [show (if b > a then b else a) = max a b by split <;> omega]; exact q⟩
theorem c1_min {a b : Int} (hc : X.calm = true) (q : Q (.int (min a b)) H) : C1 X (.builtin "min") [.int a, .int b] H Q := c1 (call_min2 hc) ⟨a, b, rfl, by
  rw [show (if b < a then b else a) = min a b by split <;> omega]; exact q⟩
theorem c1_intB {k : Bool} (q : Q (.int (if k then 1 else 0)) H) : C1 X (.type "int") [.bl k] H Q := c1 call_int1 (.inr ⟨k, rfl, q⟩)
theorem rep_flat {x : V} : ∀ n : Nat, (List.replicate n [x]).flatten = List.replicate n x
  | 0 => rfl
  | n + 1 => by rw [List.replicate_succ, List.flatten_cons, rep_flat n]; rfl
/-- [x] * n -/
theorem o2_rep {l : Addr} {n : Nat} {x : V} (h : H l = some (.lst [x])) (hn : n ≤ 100000) (q : ∀ p H2, H p = none → Ex H H2 → H2 p = some (.lst (List.replicate n x)) → Q (.ref p) H2) : O2 X (binaryOp .Mult) (.ref l) (.int n) H Q :=
  o2 op_rep ⟨l, n, [x], rfl, rfl, h, by omega, by omega, by
    rw [Int.toNat_natCast, List.length_singleton, Nat.one_mul]
    exact Evl.sz_of hn, fun p hp => q p _ hp (ex_upd hp) (by
    rw [upd_same, Int.toNat_natCast, rep_flat])⟩
/-! ### making an instance -/
structure Mn (P : Program) (w : World) (K : PySem.W.Frag) (mg : Str → Option Value) (base : Heap) (CX : CXT) (k : Nat) (x : Str) (C : Addr) (ps : List Str) (sp : Sp) : Prop where
  ex : ∃ f fd, Mk K C f ∧ FnOk P w K mg base CX k f fd ps sp ∧ mg x = some (.ref C) ∧ Binds K fd ps []
theorem ge_make {CX : CXT} {k : Nat} {x : Str} {C : Addr} {ps : List Str} {sp : Sp} {E : XK} {es : List Expr} (D : Mn X.prog X.w X.K X.mg X.base CX k x C ps sp) (hr : Room (k + 1) X.A) (hx : Passes CX X E)
    (h : GA X (e :: es) σ H fun vs H1 => ∀ b dx, H1 b = none → H1 dx = none → dx ≠ b → sp (.ref b :: vs) (upd (upd H1 dx (.own b)) b (.ins C dx [])) (fun v H2 => v = .non ∧ Q (.ref b) H2) E) (hg : Gl X x := by rfl)
    (hdb : (x == ("__debug__" : Str)) = false := by decide) (he : starEach (e :: es) X.env = (false, eval e X.env) :: starEach es X.env := by rfl) (hpl : (backTo pos (starEach es X.env)).any (·.1) = false := by rfl) : GE X (.Call (.Name x p) (e :: es) [] pos) σ H Q := by
  obtain ⟨f, fd, M, F, hm, hb⟩ := D.ex
  exact ge (pe_make M F hr hg hm hb .nil hx GA.pa hdb he hpl) (h.mono fun vs H1 q b dx h1 h2 h3 => by rw [List.append_nil]; exact q b dx h1 h2 h3)
end
/-! ### zip of tuples -/
theorem walk_zipT {K : PySem.W.Frag} {a b : Addr} {xs ys : List V} {n : Nat} (hn : n = min xs.length ys.length) : Walk (RZ.ItzT K a b) n (fun H => SqT K H a xs ∧ SqT K H b ys) (YPair (fun i => xs[i]?) (fun i => ys[i]?)) := by
  subst hn
  refine ⟨fun i _ hi q => ?_, fun _ q => ⟨xs, ys, q.1, q.2, by omega⟩, fun i H v H' _ q y => ?_⟩
  · have h1 : i < xs.length := by omega
    have h2 : i < ys.length := by omega
    exact ⟨xs, ys, xs[i], ys[i], q.1, q.2, by simp [h1], by simp [h2]⟩
  · obtain ⟨T, x, z, h1, h2, h3, h4, h5⟩ := y
    exact ⟨T, x, z, h1, h2, h3, h4 xs q.1, h5 ys q.2⟩
section
variable {X : Cx} {tg iter elt c : Expr} {scope : Scope} {own : List (Str × Nat)} {wi : TI} {g : TG} {σ : St} {H : Hp} {pos : Pos} {Q : VK} {j : Nat} {xn : Str} {xp : Pos}
/-- [elt for a, b in zip(xs, ys)], both lists or both tuples -/
theorem gl_lcZA {ae be : Expr} {p p' : Pos} {yn : Str} {yp tp : Pos} {k kk : Nat} (hc : X.calm = true) (hN : X.N.Nodup) (hm : X.mg "zip" = none) (hjk : j ≠ k) (ok : BlkOk X.N X.env.scope scope [(xn, j), (yn, k)])
    (h : GE X ae σ H fun v H0 => GE X be σ H0 fun u H1 => ∃ (a b : Addr) (xs ys : List V) (d : Nat → PyData), v = .ref a ∧ u = .ref b ∧ ((SqL X.K H1 a xs ∧ SqL X.K H1 b ys) ∨ (SqT X.K H1 a xs ∧ SqT X.K H1 b ys)) ∧ xs.length = ys.length ∧ xs.length ≤ 100000 ∧
      (∀ i x y H2, xs[i]? = some x → ys[i]? = some y → Ex H1 H2 → BE X scope elt (((wipe σ [j, k]).set j (some x)).set k (some y)) H2 fun y H4 => Ex H2 H4 ∧ TD X.K H4 y (d i)) ∧ LcK X.K H1 xs.length (fun _ => true) d Q)
    (hg : ∀ (s : Shared) (H : Hp) (C : Addr) (cl : List (Str × Addr)) (fp : List Addr), PG (X.blk s H scope (compEnvC scope cl C X.env) fp) (.Tuple [.Name xn xp, .Name yn yp] kk tp) (gTup X.K 2 (gCons (gName j) (gCons (gName k) gNil))))
    (hgl : Gl X "zip" := by rfl) (hst : starEach [ae, be] X.env = (false, eval ae X.env) :: starEach [be] X.env := by rfl) (hpl : (backTo p' (starEach [be] X.env)).any (·.1) = false := by rfl) (hst2 : starEach [be] X.env = (false, eval be X.env) :: starEach [] X.env := by rfl)
    (hs : ∀ x, foldedSetIterable (.Call (.Name "zip" p) [ae, be] [] p') X.env x = pure x := by intro _; rfl) :
    GL X (.ListComp elt [⟨.Tuple [.Name xn xp, .Name yn yp] kk tp, .Call (.Name "zip" p) [ae, be] [] p', [], 0⟩] scope pos) σ H Q := by
  refine gl_lc (own := [(xn, j), (yn, k)]) hc hN (RZ.pi_zipA hgl hm (ta := tCons (GE X ae) (tCons (GE X be) tNil)) (pa_cons GE.pe (pa_cons GE.pe pa_nil hst2) hst) hst hpl) ok hg ?_ ?_ ?_ hs
  · refine GE.mono h fun v H0 h2 => GE.mono h2 fun u H1 ⟨a, b, xs, ys, d, e, e', hxy, hl, hn, ht, hd⟩ => ⟨a, b, xs, ys, by rw [e, e'], ?_⟩
    rcases hxy with ⟨hx, hy⟩ | ⟨hx, hy⟩
    · refine .inl ⟨hx, hy, xs.length, _, _, d, walk_zip (by omega), hn, fun H' e => ⟨Evl.ex_l e hx, Evl.ex_l e hy⟩, fun i x H2 H' hi e y => ?_, hd⟩
      obtain ⟨T, x1, y1, rfl, hT, rfl, e1, e2⟩ := y
      refine ⟨ex_upd hT, T, _, rfl, Evl.st_of upd_same, rfl, x1, [y1], rfl, y1, [], rfl, rfl, ?_, Evl.Ex.refl _, ht i x1 y1 _ e1 e2 (e.trans (ex_upd hT))⟩
      exact wipe2 hjk
    · refine .inr ⟨hx, hy, xs.length, _, _, d, walk_zipT (by omega), hn, fun H' e => ⟨Evl.ex_t e hx, Evl.ex_t e hy⟩, fun i x H2 H' hi e y => ?_, hd⟩
      obtain ⟨T, x1, y1, rfl, hT, rfl, e1, e2⟩ := y
      refine ⟨ex_upd hT, T, _, rfl, Evl.st_of upd_same, rfl, x1, [y1], rfl, y1, [], rfl, rfl, ?_, Evl.Ex.refl _, ht i x1 y1 _ e1 e2 (e.trans (ex_upd hT))⟩
      exact wipe2 hjk
  · intro v σ H R R' hr q
    obtain ⟨a, xs, e, h1, h2, w1, r1, e1, w2, r2, e2, e3, q⟩ := q
    exact ⟨a, xs, e, h1, h2, w1, r1, e1, w2, r2, e2, e3, hr _ _ q⟩
  · intro R R' hr h
    refine GE.mono h fun v H0 h2 => GE.mono h2 fun u H1 ⟨a, b, xs, ys, e, q⟩ => ⟨a, b, xs, ys, e, ?_⟩
    rcases q with ⟨h1, h2, r⟩ | ⟨h1, h2, r⟩
    · exact .inl ⟨h1, h2, hr _ _ r⟩
    · exact .inr ⟨h1, h2, hr _ _ r⟩
end
end RD
namespace RD
open PySem PySem.Spec PyProof.Rows L2
abbrev n_Ring_init : List Str := ["self", "ring"]
theorem sc_Ring_init : FnScope n_Ring_init ["self", "ring"] (defScope s_Ring_init) := ⟨rfl, rfl, rfl, by decide +kernel, rfl, by decide +kernel, by decide +kernel⟩
-- slots: 0 self, 1 ring
abbrev n_Stopped_init : List Str := ["self", "shaft"]
theorem sc_Stopped_init : FnScope n_Stopped_init ["self", "shaft"] (defScope s_Stopped_init) := ⟨rfl, rfl, rfl, by decide +kernel, rfl, by decide +kernel, by decide +kernel⟩
-- slots: 0 self, 1 shaft
abbrev n_is_whole : List Str := ["thing"]
theorem sc_is_whole : FnScope n_is_whole ["thing"] (defScope s_is_whole) := ⟨rfl, rfl, rfl, by decide +kernel, rfl, by decide +kernel, by decide +kernel⟩
-- slots: 0 thing
abbrev n_shared : List Str := ["one", "other"]
theorem sc_shared : FnScope n_shared ["one", "other"] (defScope s_shared) := ⟨rfl, rfl, rfl, by decide +kernel, rfl, by decide +kernel, by decide +kernel⟩
-- slots: 0 one, 1 other
abbrev n_is_number : List Str := ["thing"]
theorem sc_is_number : FnScope n_is_number ["thing"] (defScope s_is_number) := ⟨rfl, rfl, rfl, by decide +kernel, rfl, by decide +kernel, by decide +kernel⟩
-- slots: 0 thing
abbrev n_fraction : List Str := ["top", "bottom", "common"]
theorem sc_fraction : FnScope n_fraction ["top", "bottom"] (defScope s_fraction) := ⟨rfl, rfl, rfl, by decide +kernel, rfl, by decide +kernel, by decide +kernel⟩
-- slots: 0 top, 1 bottom, 2 common
abbrev n_plus : List Str := ["one", "other"]
theorem sc_plus : FnScope n_plus ["one", "other"] (defScope s_plus) := ⟨rfl, rfl, rfl, by decide +kernel, rfl, by decide +kernel, by decide +kernel⟩
-- slots: 0 one, 1 other
abbrev n_times : List Str := ["one", "other"]
theorem sc_times : FnScope n_times ["one", "other"] (defScope s_times) := ⟨rfl, rfl, rfl, by decide +kernel, rfl, by decide +kernel, by decide +kernel⟩
-- slots: 0 one, 1 other
abbrev n_is_above : List Str := ["one", "other"]
theorem sc_is_above : FnScope n_is_above ["one", "other"] (defScope s_is_above) := ⟨rfl, rfl, rfl, by decide +kernel, rfl, by decide +kernel, by decide +kernel⟩
-- slots: 0 one, 1 other
abbrev n_is_shaft : List Str := ["thing", "many"]
theorem sc_is_shaft : FnScope n_is_shaft ["thing", "many"] (defScope s_is_shaft) := ⟨rfl, rfl, rfl, by decide +kernel, rfl, by decide +kernel, by decide +kernel⟩
-- slots: 0 thing, 1 many
abbrev n_is_row : List Str := ["thing", "many"]
theorem sc_is_row : FnScope n_is_row ["thing", "many"] (defScope s_is_row) := ⟨rfl, rfl, rfl, by decide +kernel, rfl, by decide +kernel, by decide +kernel⟩
-- slots: 0 thing, 1 many
abbrev n_is_source : List Str := ["row"]
theorem sc_is_source : FnScope n_is_source ["row"] (defScope s_is_source) := ⟨rfl, rfl, rfl, by decide +kernel, rfl, by decide +kernel, by decide +kernel⟩
-- slots: 0 row
abbrev n_are_rows : List Str := ["thing", "row"]
theorem sc_are_rows : FnScope n_are_rows ["thing"] (defScope s_are_rows) := ⟨rfl, rfl, rfl, by decide +kernel, rfl, by decide +kernel, by decide +kernel⟩
-- slots: 0 thing, 1 row
abbrev n_drives_of : List Str := ["row"]
theorem sc_drives_of : FnScope n_drives_of ["row"] (defScope s_drives_of) := ⟨rfl, rfl, rfl, by decide +kernel, rfl, by decide +kernel, by decide +kernel⟩
-- slots: 0 row
abbrev n_may_stand : List Str := ["row", "stands", "shaft"]
theorem sc_may_stand : FnScope n_may_stand ["row", "stands"] (defScope s_may_stand) := ⟨rfl, rfl, rfl, by decide +kernel, rfl, by decide +kernel, by decide +kernel⟩
-- slots: 0 row, 1 stands, 2 shaft
abbrev n_order_of : List Str := ["machine", "stands", "more", "some", "shaft"]
theorem sc_order_of : FnScope n_order_of ["machine"] (defScope s_order_of) := ⟨rfl, rfl, rfl, by decide +kernel, rfl, by decide +kernel, by decide +kernel⟩
-- slots: 0 machine, 1 stands, 2 more, 3 some, 4 shaft
abbrev n_ring_of : List Str := ["machine", "stands", "here", "path", "shaft"]
theorem sc_ring_of : FnScope n_ring_of ["machine"] (defScope s_ring_of) := ⟨rfl, rfl, rfl, by decide +kernel, rfl, by decide +kernel, by decide +kernel⟩
-- slots: 0 machine, 1 stands, 2 here, 3 path, 4 shaft
abbrev n_look_machine : List Str := ["thing", "ring"]
theorem sc_look_machine : FnScope n_look_machine ["thing"] (defScope s_look_machine) := ⟨rfl, rfl, rfl, by decide +kernel, rfl, by decide +kernel, by decide +kernel⟩
-- slots: 0 thing, 1 ring
abbrev n_move_of : List Str := ["row", "stood", "moves", "number"]
theorem sc_move_of : FnScope n_move_of ["row", "stood", "moves", "number"] (defScope s_move_of) := ⟨rfl, rfl, rfl, by decide +kernel, rfl, by decide +kernel, by decide +kernel⟩
-- slots: 0 row, 1 stood, 2 moves, 3 number
abbrev n_is_beyond : List Str := ["ends", "number", "least", "greatest"]
theorem sc_is_beyond : FnScope n_is_beyond ["ends", "number"] (defScope s_is_beyond) := ⟨rfl, rfl, rfl, by decide +kernel, rfl, by decide +kernel, by decide +kernel⟩
-- slots: 0 ends, 1 number, 2 least, 3 greatest
abbrev n_is_long : List Str := ["number"]
theorem sc_is_long : FnScope n_is_long ["number"] (defScope s_is_long) := ⟨rfl, rfl, rfl, by decide +kernel, rfl, by decide +kernel, by decide +kernel⟩
-- slots: 0 number
abbrev n_Bench_init : List Str := ["self", "machine", "row"]
theorem sc_Bench_init : FnScope n_Bench_init ["self", "machine"] (defScope s_Bench_init) := ⟨rfl, rfl, rfl, by decide +kernel, rfl, by decide +kernel, by decide +kernel⟩
-- slots: 0 self, 1 machine, 2 row
abbrev n_Bench_stand : List Str := ["self", "shaft"]
theorem sc_Bench_stand : FnScope n_Bench_stand ["self", "shaft"] (defScope s_Bench_stand) := ⟨rfl, rfl, rfl, by decide +kernel, rfl, by decide +kernel, by decide +kernel⟩
-- slots: 0 self, 1 shaft
abbrev n_Bench_stands : List Str := ["self"]
theorem sc_Bench_stands : FnScope n_Bench_stands ["self"] (defScope s_Bench_stands) := ⟨rfl, rfl, rfl, by decide +kernel, rfl, by decide +kernel, by decide +kernel⟩
-- slots: 0 self
abbrev n_Bench_machine : List Str := ["self", "row", "here"]
theorem sc_Bench_machine : FnScope n_Bench_machine ["self"] (defScope s_Bench_machine) := ⟨rfl, rfl, rfl, by decide +kernel, rfl, by decide +kernel, by decide +kernel⟩
-- slots: 0 self, 1 row, 2 here
abbrev n_Bench_moved : List Str := ["self", "shaft"]
theorem sc_Bench_moved : FnScope n_Bench_moved ["self", "shaft"] (defScope s_Bench_moved) := ⟨rfl, rfl, rfl, by decide +kernel, rfl, by decide +kernel, by decide +kernel⟩
-- slots: 0 self, 1 shaft
abbrev n_Bench_keep : List Str := ["self"]
theorem sc_Bench_keep : FnScope n_Bench_keep ["self"] (defScope s_Bench_keep) := ⟨rfl, rfl, rfl, by decide +kernel, rfl, by decide +kernel, by decide +kernel⟩
-- slots: 0 self
abbrev n_Bench_moves_by : List Str := ["self", "number", "moves", "shaft", "row"]
theorem sc_Bench_moves_by : FnScope n_Bench_moves_by ["self", "number"] (defScope s_Bench_moves_by) := ⟨rfl, rfl, rfl, by decide +kernel, rfl, by decide +kernel, by decide +kernel⟩
-- slots: 0 self, 1 number, 2 moves, 3 shaft, 4 row
abbrev n_Bench_click : List Str := ["self", "number", "moves", "ahead", "shaft", "here", "move", "whole"]
theorem sc_Bench_click : FnScope n_Bench_click ["self", "number"] (defScope s_Bench_click) := ⟨rfl, rfl, rfl, by decide +kernel, rfl, by decide +kernel, by decide +kernel⟩
-- slots: 0 self, 1 number, 2 moves, 3 ahead, 4 shaft, 5 here, 6 move, 7 whole
abbrev n_Bench_want_out : List Str := ["self", "shaft", "is_out"]
theorem sc_Bench_want_out : FnScope n_Bench_want_out ["self", "shaft", "is_out"] (defScope s_Bench_want_out) := ⟨rfl, rfl, rfl, by decide +kernel, rfl, by decide +kernel, by decide +kernel⟩
-- slots: 0 self, 1 shaft, 2 is_out
abbrev n_Bench_out : List Str := ["self", "shaft"]
theorem sc_Bench_out : FnScope n_Bench_out ["self", "shaft"] (defScope s_Bench_out) := ⟨rfl, rfl, rfl, by decide +kernel, rfl, by decide +kernel, by decide +kernel⟩
-- slots: 0 self, 1 shaft
abbrev n_Bench_into : List Str := ["self", "shaft"]
theorem sc_Bench_into : FnScope n_Bench_into ["self", "shaft"] (defScope s_Bench_into) := ⟨rfl, rfl, rfl, by decide +kernel, rfl, by decide +kernel, by decide +kernel⟩
-- slots: 0 self, 1 shaft
abbrev n_Bench_put : List Str := ["self", "shaft", "number"]
theorem sc_Bench_put : FnScope n_Bench_put ["self", "shaft", "number"] (defScope s_Bench_put) := ⟨rfl, rfl, rfl, by decide +kernel, rfl, by decide +kernel, by decide +kernel⟩
-- slots: 0 self, 1 shaft, 2 number
abbrev n_Bench_wire : List Str := ["self", "shaft", "thing", "rows"]
theorem sc_Bench_wire : FnScope n_Bench_wire ["self", "shaft", "thing"] (defScope s_Bench_wire) := ⟨rfl, rfl, rfl, by decide +kernel, rfl, by decide +kernel, by decide +kernel⟩
-- slots: 0 self, 1 shaft, 2 thing, 3 rows
abbrev n_Bench_gear : List Str := ["self", "shaft", "ratio", "row"]
theorem sc_Bench_gear : FnScope n_Bench_gear ["self", "shaft", "ratio"] (defScope s_Bench_gear) := ⟨rfl, rfl, rfl, by decide +kernel, rfl, by decide +kernel, by decide +kernel⟩
-- slots: 0 self, 1 shaft, 2 ratio, 3 row
abbrev n_Bench_ends : List Str := ["self", "shaft", "least", "greatest"]
theorem sc_Bench_ends : FnScope n_Bench_ends ["self", "shaft", "least", "greatest"] (defScope s_Bench_ends) := ⟨rfl, rfl, rfl, by decide +kernel, rfl, by decide +kernel, by decide +kernel⟩
-- slots: 0 self, 1 shaft, 2 least, 3 greatest
abbrev n_Bench_undo : List Str := ["self"]
theorem sc_Bench_undo : FnScope n_Bench_undo ["self"] (defScope s_Bench_undo) := ⟨rfl, rfl, rfl, by decide +kernel, rfl, by decide +kernel, by decide +kernel⟩
-- slots: 0 self
abbrev n_Bench_deeds : List Str := ["self"]
theorem sc_Bench_deeds : FnScope n_Bench_deeds ["self"] (defScope s_Bench_deeds) := ⟨rfl, rfl, rfl, by decide +kernel, rfl, by decide +kernel, by decide +kernel⟩
-- slots: 0 self
abbrev n_L_bag : List Str := ["_law_script", "_law_at", "_law_cell"]
theorem sc_L_bag : FnScope n_L_bag ["_law_script", "_law_at"] (defScope s_L_bag) := ⟨rfl, rfl, rfl, by decide +kernel, rfl, by decide +kernel, by decide +kernel⟩
-- slots: 0 _law_script, 1 _law_at, 2 _law_cell
abbrev n_L_take : List Str := ["_law_bag_here", "_law_many", "_law_digit", "_law_primes", "_law_step", "_law_base", "_law_here"]
theorem sc_L_take : FnScope n_L_take ["_law_bag_here", "_law_many"] (defScope s_L_take) := ⟨rfl, rfl, rfl, by decide +kernel, rfl, by decide +kernel, by decide +kernel⟩
-- slots: 0 _law_bag_here, 1 _law_many, 2 _law_digit, 3 _law_primes, 4 _law_step, 5 _law_base, 6 _law_here
abbrev n_L_low : List Str := ["_law_top", "_law_below", "_law_one", "_law_other"]
theorem sc_L_low : FnScope n_L_low ["_law_top", "_law_below"] (defScope s_L_low) := ⟨rfl, rfl, rfl, by decide +kernel, rfl, by decide +kernel, by decide +kernel⟩
-- slots: 0 _law_top, 1 _law_below, 2 _law_one, 3 _law_other
abbrev n_L_add : List Str := ["_law_one", "_law_other"]
theorem sc_L_add : FnScope n_L_add ["_law_one", "_law_other"] (defScope s_L_add) := ⟨rfl, rfl, rfl, by decide +kernel, rfl, by decide +kernel, by decide +kernel⟩
-- slots: 0 _law_one, 1 _law_other
abbrev n_L_mul : List Str := ["_law_one", "_law_other"]
theorem sc_L_mul : FnScope n_L_mul ["_law_one", "_law_other"] (defScope s_L_mul) := ⟨rfl, rfl, rfl, by decide +kernel, rfl, by decide +kernel, by decide +kernel⟩
-- slots: 0 _law_one, 1 _law_other
abbrev n_L_number : List Str := ["_law_bag_here", "_law_kind"]
theorem sc_L_number : FnScope n_L_number ["_law_bag_here", "_law_kind"] (defScope s_L_number) := ⟨rfl, rfl, rfl, by decide +kernel, rfl, by decide +kernel, by decide +kernel⟩
-- slots: 0 _law_bag_here, 1 _law_kind
abbrev n_L_turned : List Str := ["_law_bag_here", "_law_many", "_law_left", "_law_found", "_law_step"]
theorem sc_L_turned : FnScope n_L_turned ["_law_bag_here", "_law_many"] (defScope s_L_turned) := ⟨rfl, rfl, rfl, by decide +kernel, rfl, by decide +kernel, by decide +kernel⟩
-- slots: 0 _law_bag_here, 1 _law_many, 2 _law_left, 3 _law_found, 4 _law_step
abbrev n_L_machine : List Str := ["_law_bag_here", "_law_most", "_law_even", "_law_kind", "_law_many", "_law_names", "_law_found", "_law_k", "_law_start", "_law_way", "_law_one", "_law_other", "_law_row"]
theorem sc_L_machine : FnScope n_L_machine ["_law_bag_here", "_law_most", "_law_even", "_law_kind"] (defScope s_L_machine) := ⟨rfl, rfl, rfl, by decide +kernel, rfl, by decide +kernel, by decide +kernel⟩
-- slots: 0 _law_bag_here, 1 _law_most, 2 _law_even, 3 _law_kind, 4 _law_many, 5 _law_names, 6 _law_found, 7 _law_k, 8 _law_start, 9 _law_way, 10 _law_one, 11 _law_other, 12 _law_row
abbrev n_L_whole : List Str := ["_law_thing"]
theorem sc_L_whole : FnScope n_L_whole ["_law_thing"] (defScope s_L_whole) := ⟨rfl, rfl, rfl, by decide +kernel, rfl, by decide +kernel, by decide +kernel⟩
-- slots: 0 _law_thing
abbrev n_L_is_number : List Str := ["_law_thing"]
theorem sc_L_is_number : FnScope n_L_is_number ["_law_thing"] (defScope s_L_is_number) := ⟨rfl, rfl, rfl, by decide +kernel, rfl, by decide +kernel, by decide +kernel⟩
-- slots: 0 _law_thing
abbrev n_L_same : List Str := ["_law_one", "_law_other", "_law_a", "_law_b"]
theorem sc_L_same : FnScope n_L_same ["_law_one", "_law_other"] (defScope s_L_same) := ⟨rfl, rfl, rfl, by decide +kernel, rfl, by decide +kernel, by decide +kernel⟩
-- slots: 0 _law_one, 1 _law_other, 2 _law_a, 3 _law_b
abbrev n_L_alone : List Str := ["_law_e", "_law_kinds"]
theorem sc_L_alone : FnScope n_L_alone ["_law_e"] (defScope s_L_alone) := ⟨rfl, rfl, rfl, by decide +kernel, rfl, by decide +kernel, by decide +kernel⟩
-- slots: 0 _law_e, 1 _law_kinds
abbrev n_L_refusal : List Str := ["_law_e", "_law_kinds", "_law_names", "_law_name", "_law_is_one"]
theorem sc_L_refusal : FnScope n_L_refusal ["_law_e"] (defScope s_L_refusal) := ⟨rfl, rfl, rfl, by decide +kernel, rfl, by decide +kernel, by decide +kernel⟩
-- slots: 0 _law_e, 1 _law_kinds, 2 _law_names, 3 _law_name, 4 _law_is_one
abbrev n_L_said : List Str := ["_law_bench", "_law_deed"]
theorem sc_L_said : FnScope n_L_said ["_law_bench", "_law_deed"] (defScope s_L_said) := ⟨rfl, rfl, rfl, by decide +kernel, rfl, by decide +kernel, by decide +kernel⟩
-- slots: 0 _law_bench, 1 _law_deed
abbrev n_L_got : List Str := ["_law_bench", "_law_deed", "_law_told", "_law_e", "far", "_law_one"]
theorem sc_L_got : FnScope n_L_got ["_law_bench", "_law_deed"] (defScope s_L_got) := ⟨rfl, rfl, rfl, by decide +kernel, rfl, by decide +kernel, by decide +kernel⟩
-- slots: 0 _law_bench, 1 _law_deed, 2 _law_told, 3 _law_e, 4 far, 5 _law_one
abbrev n_L_any_row : List Str := ["_law_bag_here", "_law_many", "_law_number_here", "_law_one", "_law_other", "_law_ratio", "_law_rows"]
theorem sc_L_any_row : FnScope n_L_any_row ["_law_bag_here", "_law_many", "_law_number_here"] (defScope s_L_any_row) := ⟨rfl, rfl, rfl, by decide +kernel, rfl, by decide +kernel, by decide +kernel⟩
-- slots: 0 _law_bag_here, 1 _law_many, 2 _law_number_here, 3 _law_one, 4 _law_other, 5 _law_ratio, 6 _law_rows
abbrev n_L_any_deed : List Str := ["_law_bag_here", "_law_many", "_law_outs", "_law_way", "_law_shaft", "_law_number_here", "_law_least", "_law_greatest"]
theorem sc_L_any_deed : FnScope n_L_any_deed ["_law_bag_here", "_law_many", "_law_outs"] (defScope s_L_any_deed) := ⟨rfl, rfl, rfl, by decide +kernel, rfl, by decide +kernel, by decide +kernel⟩
-- slots: 0 _law_bag_here, 1 _law_many, 2 _law_outs, 3 _law_way, 4 _law_shaft, 5 _law_number_here, 6 _law_least, 7 _law_greatest
abbrev n_L_all_told : List Str := ["_law_bench", "_law_many", "_law_k"]
theorem sc_L_all_told : FnScope n_L_all_told ["_law_bench", "_law_many"] (defScope s_L_all_told) := ⟨rfl, rfl, rfl, by decide +kernel, rfl, by decide +kernel, by decide +kernel⟩
-- slots: 0 _law_bench, 1 _law_many, 2 _law_k
abbrev n_L_moved : List Str := ["_law_ahead", "_law_moves", "_law_outs", "_law_number_here", "_law_here", "_law_rows", "_law_k", "_law_row", "_law_due", "_law_one"]
theorem sc_L_moved : FnScope n_L_moved ["_law_ahead", "_law_moves", "_law_outs", "_law_number_here"] (defScope s_L_moved) := ⟨rfl, rfl, rfl, by decide +kernel, rfl, by decide +kernel, by decide +kernel⟩
-- slots: 0 _law_ahead, 1 _law_moves, 2 _law_outs, 3 _law_number_here, 4 _law_here, 5 _law_rows, 6 _law_k, 7 _law_row, 8 _law_due, 9 _law_one
abbrev n_L_behind : List Str := ["_law_ahead", "_law_deed", "_law_told", "_law_here", "_law_rows", "_law_sums", "_law_many", "_law_row", "_law_a", "_law_b", "_law_one"]
theorem sc_L_behind : FnScope n_L_behind ["_law_ahead", "_law_deed", "_law_told"] (defScope s_L_behind) := ⟨rfl, rfl, rfl, by decide +kernel, rfl, by decide +kernel, by decide +kernel⟩
-- slots: 0 _law_ahead, 1 _law_deed, 2 _law_told, 3 _law_here, 4 _law_rows, 5 _law_sums, 6 _law_many, 7 _law_row, 8 _law_a, 9 _law_b, 10 _law_one
abbrev n_L_known : List Str := ["_law_deed", "_law_got_here", "_law_names"]
theorem sc_L_known : FnScope n_L_known ["_law_deed", "_law_got_here"] (defScope s_L_known) := ⟨rfl, rfl, rfl, by decide +kernel, rfl, by decide +kernel, by decide +kernel⟩
-- slots: 0 _law_deed, 1 _law_got_here, 2 _law_names
abbrev n_L_done : List Str := ["_law_bag_here", "_law_place", "_law_bench", "_law_outs", "_law_shot", "_law_past", "_law_deed", "_law_got_here", "_law_due", "_law_told", "_law_k"]
theorem sc_L_done : FnScope n_L_done ["_law_bag_here", "_law_place"] (defScope s_L_done) := ⟨rfl, rfl, rfl, by decide +kernel, rfl, by decide +kernel, by decide +kernel⟩
-- slots: 0 _law_bag_here, 1 _law_place, 2 _law_bench, 3 _law_outs, 4 _law_shot, 5 _law_past, 6 _law_deed, 7 _law_got_here, 8 _law_due, 9 _law_told, 10 _law_k
abbrev n_law : List Str := ["_law_script", "_law_at", "_law_bag_here", "_law_places", "_law_turn", "_law_machine_here", "_law_shot", "_law_step", "_law_place", "_law_one", "_law_row"]
theorem sc_law : FnScope n_law ["_law_script"] (defScope s_law) := ⟨rfl, rfl, rfl, by decide +kernel, rfl, by decide +kernel, by decide +kernel⟩
-- slots: 0 _law_script, 1 _law_at, 2 _law_bag_here, 3 _law_places, 4 _law_turn, 5 _law_machine_here, 6 _law_shot, 7 _law_step, 8 _law_place, 9 _law_one, 10 _law_row
end RD
local macro_rules | `(tactic| fail "rd.v") => `(tactic| first
  | refine RD.ge_int ?_ | refine RD.ge_str ?_ | refine RD.ge_bl ?_ | refine RD.ge_non ?_
  | ((with_reducible show RD.GE _ (PySem.Expr.Name _ _) _ _ _); first
    | refine RD.ge_var 0 rfl rfl ?_ | refine RD.ge_var 1 rfl rfl ?_ | refine RD.ge_var 2 rfl rfl ?_ | refine RD.ge_var 3 rfl rfl ?_ | refine RD.ge_var 4 rfl rfl ?_ | refine RD.ge_var 5 rfl rfl ?_ | refine RD.ge_var 6 rfl rfl ?_
    | refine RD.ge_var 7 rfl rfl ?_ | refine RD.ge_var 8 rfl rfl ?_ | refine RD.ge_var 9 rfl rfl ?_ | refine RD.ge_var 10 rfl rfl ?_ | refine RD.ge_var 11 rfl rfl ?_ | refine RD.ge_var 12 rfl rfl ?_))
local macro_rules | `(tactic| fail "rd.o") => `(tactic| first
  | with_reducible refine RD.o2_add ?_ | with_reducible refine RD.o2_sub ?_ | with_reducible refine RD.o2_lt ?_ | with_reducible refine RD.o2_le ?_ | with_reducible refine RD.o2_gt ?_ | with_reducible refine RD.o2_ge ?_ | with_reducible refine RD.o2_eqi ?_ | with_reducible refine RD.o2_nei ?_ | with_reducible refine RD.o2_eqs ?_ | with_reducible refine RD.o2_nes ?_ | with_reducible refine RD.o2_eqb ?_ | with_reducible refine RD.o2_neb ?_ | with_reducible refine RD.o2_isN ?_ | with_reducible refine RD.o2_notN ?_)
local macro_rules | `(tactic| fail "rd.g") => `(tactic| first
  | ((with_reducible show RD.GE _ _ _ _ _); first | fail "rd.v" | refine RD.ge_ix ?_ | refine RD.ge_bin ?_ | refine RD.ge_cmp ?_ | refine RD.tup_k ?_ | refine RD.lst_k ?_ | refine RD.ge_if ?_ | refine RD.ge_not ?_ | refine RD.ge_and ?_ | refine RD.ge_or ?_ | refine RD.ge_one ?_)
  | ((with_reducible show RD.O2 _ _ _ _ _ _); fail "rd.o")
  | ((with_reducible show RD.GA _ _ _ _ _); first | refine RD.ga_cons ?_ | refine RD.ga_nil ?_)
  | ((with_reducible show RD.GT _ _ _ _ _); first | refine RD.gt_not ?_ | refine RD.gt_w (RD.gw_and ?_) | refine RD.gt_w (RD.gw_or ?_) | refine RD.gt_cmp ?_ | refine RD.gt_val ?_)
  | ((with_reducible show RD.GW _ _ _ _ _); first | refine RD.gw_and ?_ | refine RD.gw_or ?_ | refine RD.gw_and1 ?_ | refine RD.gw_or1 ?_)
  | refine RD.gb_one ?_ | refine RD.gb_cons ?_ | refine RD.gb_nil ?_ | refine RD.gs_ret ?_ | refine RD.gs_if ?_ | refine RD.gs_expr ?_)
local macro_rules | `(tactic| fail "rd.ex") => `(tactic| first | exact Evl.Ex.refl _ | assumption | (refine Evl.Ex.trans (H1 := ?rdH) ?rdea ?rdeb; (case rdeb => assumption); (case rdea => fail "rd.ex")))
local macro_rules | `(tactic| fail "rd.t") => `(tactic| first | assumption | exact Evl.st_of (by assumption) | (refine Evl.ex_t (H := ?rdH) ?rdte ?rdth; (case rdte => assumption); (case rdth => fail "rd.t")))
local macro_rules | `(tactic| fail "rd.l") => `(tactic| first | assumption | exact Evl.sq_of (by assumption) | (refine Evl.ex_l (H := ?rdH) ?rdle ?rdlh; (case rdle => assumption); (case rdlh => fail "rd.l")))
local macro_rules | `(tactic| fail "rd.d") => `(tactic| first | assumption | exact RD.TD.int _ | exact RD.TD.str _ | exact RD.TD.bl _ | exact RD.TD.non | (refine RD.TD.ex (H := ?rdH) ?rdde ?rddh; (case rdde => assumption); (case rddh => fail "rd.d")))
local macro_rules | `(tactic| fail "rd.i") => `(tactic| first
  | ((with_reducible show RD.I2 _ _ _ _ _); (refine RD.i2_tup (xs := ?rdxs) (v := ?rdv) ?rdit ?rdii ?rdq; (case rdit => fail "rd.t"); (case rdii => rfl))))
local macro_rules | `(tactic| fail "rd.b") => `(tactic| ((with_reducible show RD.GE _ _ _ _ _); first
  | refine RD.ge_callB (RD.Tx.isinstance (by assumption)) RD.boot_isi ?_
  | refine RD.ge_callB (RD.Tx.len (by assumption)) RD.boot_len ?_
  | refine RD.ge_callB (RD.Tx.abs (by assumption)) RD.boot_abs ?_
  | refine RD.ge_bty (RD.Tx.int (by assumption)) PyProof.Rows.boot_int ?_
  | refine RD.ge_bty (RD.Tx.bool (by assumption)) PyProof.Rows.boot_bool ?_
  | refine RD.ge_bty (RD.Tx.str (by assumption)) PyProof.Rows.boot_str ?_
  | refine RD.ge_bty (RD.Tx.list (by assumption)) PyProof.Rows.boot_list ?_
  | refine RD.ge_bty (RD.Tx.tuple (by assumption)) PyProof.Rows.boot_tuple ?_))
local macro_rules | `(tactic| fail "rd.c") => `(tactic| ((with_reducible show RD.C1 _ _ _ _ _); first
  | with_reducible refine RD.c1_abs ?_
  | with_reducible refine RD.c1_int_int ?_
  | with_reducible refine RD.c1_int_bool ?_
  | with_reducible refine RD.c1_int_list ?_
  | with_reducible refine RD.c1_int_tuple ?_
  | with_reducible refine RD.c1_str_str ?_
  | with_reducible refine RD.c1_str_bool ?_
  | with_reducible refine RD.c1_str_list ?_
  | with_reducible refine RD.c1_str_tuple ?_
  | ((with_reducible refine RD.c1_tup_tuple (xs := ?rdxs) ?rdch ?rdcq); (case rdch => fail "rd.t"))
  | ((with_reducible refine RD.c1_tup_list (xs := ?rdxs) ?rdch ?rdcq); (case rdch => fail "rd.t"))
  | ((with_reducible refine RD.c1_lst_list (xs := ?rdxs) ?rdch ?rdcq); (case rdch => fail "rd.l"))
  | ((with_reducible refine RD.c1_lst_tuple (xs := ?rdxs) ?rdch ?rdcq); (case rdch => fail "rd.l"))
  | ((with_reducible refine RD.c1_tup_int (xs := ?rdxs) ?rdch ?rdcq); (case rdch => fail "rd.t"))
  | ((with_reducible refine RD.c1_lst_int (xs := ?rdxs) ?rdch ?rdcq); (case rdch => fail "rd.l"))
  | ((with_reducible refine RD.c1_lenT (xs := ?rdxs) ?rdch ?rdcq); (case rdch => fail "rd.t"))
  | ((with_reducible refine RD.c1_lenL (xs := ?rdxs) ?rdch ?rdcq); (case rdch => fail "rd.l"))))
local macro_rules | `(tactic| fail "rd.k") => `(tactic| first
  | (with_reducible refine Exists.intro _ (And.intro rfl ?_)) | (with_reducible refine L2.iteT ?_) | (with_reducible refine L2.iteF ?_) | (with_reducible refine RD.ite_nt ?_) | (with_reducible refine RD.ite_nf ?_)
  | ((with_reducible show ite _ _ _); first | refine RD.ite_t (by decide +kernel) ?_ | refine RD.ite_f (by decide +kernel) ?_ | refine RD.ite_t (by rfl) ?_ | refine RD.ite_f (by rfl) ?_))
local macro_rules | `(tactic| fail "rd") => `(tactic| repeat first | fail "rd.g" | fail "rd.i" | fail "rd.b" | fail "rd.c")
local macro_rules | `(tactic| fail "rdk") => `(tactic| repeat first | fail "rd.g" | fail "rd.i" | fail "rd.b" | fail "rd.c" | fail "rd.k")
namespace RD
open PySem PySem.Spec PyProof.Rows L2
/-! ### numbers: the mirror -/
abbrev Num := Int × Int
def nD (n : Num) : PyData := .tuple [.int n.1, .int n.2]
/-- two whole numbers, the second above 0, in lowest terms -/
def low (t b : Int) : Num := (t / (t.gcd b : Int), b / (t.gcd b : Int))
def addN (n m : Num) : Num := low (n.1 * m.2 + m.1 * n.2) (n.2 * m.2)
def mulN (n m : Num) : Num := low (n.1 * m.1) (n.2 * m.2)
/-- a number with both parts below 2 ^ k -/
def Nz (k : Nat) (n : Num) : Prop := 0 < n.2 ∧ n.1.natAbs < 2 ^ k ∧ n.2.natAbs < 2 ^ k
def Red (n : Num) : Prop := n.1.gcd n.2 = 1
theorem Nz.mono {j k : Nat} {n : Num} (h : Nz j n) (hk : j ≤ k) : Nz k n :=
  ⟨h.1, Nat.lt_of_lt_of_le h.2.1 (Nat.pow_le_pow_right (by decide) hk), Nat.lt_of_lt_of_le h.2.2 (Nat.pow_le_pow_right (by decide) hk)⟩
theorem gcd_pos_of {t b : Int} (hb : 0 < b) : 0 < (t.gcd b : Int) := by
  have : t.gcd b ≠ 0 := fun h => by
    have := (Int.gcd_eq_zero_iff.mp h).2
    omega
  omega
theorem gcd_le_of {t b : Int} (hb : 0 < b) : (t.gcd b : Int) ≤ b := Int.le_of_dvd hb (Int.gcd_dvd_right ..)
theorem low_pos {t b : Int} (hb : 0 < b) : 0 < (low t b).2 := by
  show 0 < b / (t.gcd b : Int)
  exact Int.ediv_pos_of_pos_of_dvd hb (Int.le_of_lt (gcd_pos_of hb)) (Int.gcd_dvd_right ..)
theorem natAbs_div_le (a : Int) {g : Int} (hg : 0 < g) (hd : g ∣ a) : (a / g).natAbs ≤ a.natAbs := by
  rw [Int.natAbs_ediv_of_dvd hd]
  exact Nat.div_le_self _ _
theorem low_nz {t b : Int} {k : Nat} (hb : 0 < b) (h1 : t.natAbs < 2 ^ k) (h2 : b.natAbs < 2 ^ k) : Nz k (low t b) :=
  ⟨low_pos hb, Nat.lt_of_le_of_lt (natAbs_div_le _ (gcd_pos_of hb) (Int.gcd_dvd_left ..)) h1, Nat.lt_of_le_of_lt (natAbs_div_le _ (gcd_pos_of hb) (Int.gcd_dvd_right ..)) h2⟩
theorem low_red {t b : Int} (hb : 0 < b) : Red (low t b) := by
  show (t / (t.gcd b : Int)).gcd (b / (t.gcd b : Int)) = 1
  have h : 0 < t.gcd b := by have := gcd_pos_of (t := t) hb; omega
  rw [Int.gcd_ediv (Int.gcd_dvd_left ..) (Int.gcd_dvd_right ..)]
  simp only [Int.natAbs_natCast]
  exact Nat.div_self h
theorem low_of_red {n : Num} (h : Red n) : low n.1 n.2 = n := by
  unfold low
  rw [h]
  simp
theorem pow_split {a b : Nat} {x y : Nat} (hx : x < 2 ^ a) (hy : y < 2 ^ b) : x * y < 2 ^ (a + b) := by
  rw [Nat.pow_add]
  exact Nat.mul_lt_mul'' hx hy
theorem addN_nz {a b : Nat} {n m : Num} (hn : Nz a n) (hm : Nz b m) : Nz (a + b + 1) (addN n m) := by
  refine low_nz (Int.mul_pos hn.1 hm.1) ?_ ?_
  · have h1 := pow_split hn.2.1 hm.2.2
    have h2 := pow_split hn.2.2 hm.2.1
    have h3 : (n.1 * m.2 + m.1 * n.2).natAbs ≤ (n.1 * m.2).natAbs + (m.1 * n.2).natAbs := Int.natAbs_add_le _ _
    rw [Int.natAbs_mul, Int.natAbs_mul, Nat.mul_comm m.1.natAbs] at h3
    rw [Nat.pow_succ]
    omega
  · rw [Int.natAbs_mul, Nat.pow_succ]
    have := pow_split hn.2.2 hm.2.2
    omega
theorem mulN_nz {a b : Nat} {n m : Num} (hn : Nz a n) (hm : Nz b m) : Nz (a + b) (mulN n m) := by
  refine low_nz (Int.mul_pos hn.1 hm.1) ?_ ?_
  · rw [Int.natAbs_mul]; exact pow_split hn.2.1 hm.2.1
  · rw [Int.natAbs_mul]; exact pow_split hn.2.2 hm.2.2
theorem addN_red {n m : Num} (hn : 0 < n.2) (hm : 0 < m.2) : Red (addN n m) := low_red (Int.mul_pos hn hm)
theorem mulN_red {n m : Num} (hn : 0 < n.2) (hm : 0 < m.2) : Red (mulN n m) := low_red (Int.mul_pos hn hm)
theorem wmul {a b : Nat} {x y : Int} (hx : x.natAbs < 2 ^ a) (hy : y.natAbs < 2 ^ b) (h : a + b ≤ 900000) : CMulW x y := by
  refine wide_mul (a := a + 1) (b := b + 1) (Nat.lt_of_lt_of_le hx (Nat.pow_le_pow_right (by decide) (by omega))) (Nat.lt_of_lt_of_le hy (Nat.pow_le_pow_right (by decide) (by omega))) (by omega) (by omega) (by omega)
theorem wdiv {k : Nat} {t b : Int} {x : Int} (hb : 0 < b) (h : b.natAbs < 2 ^ k) (hk : k ≤ 8999) : CDivW x (t.gcd b : Int) := by
  refine wide_div (gcd_pos_of hb) (b := k + 1) ?_ (by omega) (by omega)
  have := gcd_le_of (t := t) hb
  have h0 := gcd_pos_of (t := t) hb
  exact Nat.lt_of_lt_of_le (Nat.lt_of_le_of_lt (by omega) h) (Nat.pow_le_pow_right (by decide) (by omega))
/-! ### a datum's pieces -/
theorem TD.num {K : PySem.W.Frag} {H : Hp} {v : V} {n : Num} (h : TD K H v (nD n)) : ∃ a, v = .ref a ∧ SqT K H a [.int n.1, .int n.2] := by
  obtain ⟨a, xs, rfl, h1, h2⟩ := h.tupE
  obtain ⟨x, r, rfl, hx, h2⟩ := h2.consE
  obtain ⟨y, r, rfl, hy, h2⟩ := h2.consE
  cases h2.nilE
  cases hx.intE
  cases hy.intE
  exact ⟨a, rfl, h1⟩
theorem TD.numI {K : PySem.W.Frag} {H : Hp} {a : Addr} {n : Num} (h : SqT K H a [.int n.1, .int n.2]) : TD K H (.ref a) (nD n) := .tup h (.cons (.int _) (.cons (.int _) .nil))
section
variable {P : Program} {w : World} {K : PySem.W.Frag} {mg : Str → Option Value} {base : Heap} {f : Addr} {fd : FuncData}
/-- the greatest common divisor -/
def spShared : Sp := fun vs H Q _ => ∃ t b : Int, vs = [.int t, .int b] ∧ Q (.int (t.gcd b : Int)) H
theorem ok_shared (T : Tx K mg) (F : FnP K "shared" "shared" s_shared f fd) : FnOk P w K mg base CX0 1 f fd ["one", "other"] spShared := by
  refine fn0 F sc_shared (fun vs H Q E h => ?_) (fun cdv A outer s H vs Q E hr h => ?_)
  · obtain ⟨t, b, rfl, _⟩ := h
    rfl
  · obtain ⟨t, b0, rfl, k⟩ := h
    refine gb_cons (gs_par 0 1 rfl sc_shared.nd rfl rfl ?_)
    fail "rd"
    refine gs_while PassesOwn.never (fun m σ H' => ∃ a b : Nat, σ = [some (.int a), some (.int b)] ∧ H' = H ∧ m = b ∧ Nat.gcd a b = t.gcd b0) b0.natAbs ⟨_, _, rfl, rfl, rfl, rfl⟩ ?_
    rintro m σ H' ⟨a, b, rfl, rfl, rfl, hg⟩
    fail "rd"
    refine ⟨_, rfl, ite_d (fun hb => ?_) fun hb => ?_⟩
    · refine gb_one (gs_par 0 1 rfl sc_shared.nd rfl rfl ?_)
      fail "rd"
      refine o2_mod hb ⟨a % m, Nat.mod_lt _ (by omega), m, a % m, by simp, rfl, rfl, ?_⟩
      rw [← hg, Nat.gcd_comm a m, Nat.gcd_rec m a, Nat.gcd_comm]
    · fail "rd"
      have e : m = 0 := by omega
      subst e
      rw [Nat.gcd_zero_right] at hg
      rw [hg]
      exact k
/-- in lowest terms, the second above 0 -/
def spFraction : Sp := fun vs H Q _ => ∃ (t b : Int) (k : Nat), vs = [.int t, .int b] ∧ 0 < b ∧ b.natAbs < 2 ^ k ∧ k ≤ 8999 ∧ ∀ v H', Ex H H' → TD K H' v (nD (low t b)) → Q v H'
theorem ok_fraction (F : FnP K "fraction" "fraction" s_fraction f fd) (D : Df P w K mg base CX0 1 "shared" ["one", "other"] spShared) : FnOk P w K mg base CX0 2 f fd ["top", "bottom"] (spFraction (K := K)) := by
  refine fn0 F sc_fraction (fun vs H Q E h => ?_) (fun cdv A outer s H vs Q E hr h => ?_)
  · obtain ⟨t, b, _, rfl, _⟩ := h
    rfl
  · obtain ⟨t, b, n, rfl, hb, hn, hn9, k⟩ := h
    fail "rd"
    refine ⟨_, rfl, ite_d (fun h => by omega) fun _ => ?_⟩
    refine gb_nil (gb_cons (gs_set 2 sc_fraction.nd rfl (ge_call D hr pass0 ?_)))
    fail "rd"
    refine ⟨t, b, rfl, ?_⟩
    fail "rd"
    refine ⟨_, rfl, ite_d (fun h => by omega) fun _ => ?_⟩
    fail "rd"
    refine o2_div (wdiv hb hn hn9) ?_
    fail "rd"
    refine o2_div (wdiv hb hn hn9) ?_
    fail "rd"
    refine ⟨(by show 2 ≤ 100; decide), fun p H2 hp e h => ?_⟩
    exact k _ _ e (TD.numI (n := low t b) (Evl.st_of h))
def spAdd : Sp := fun vs H Q _ => ∃ (v w : V) (n m : Num) (a b : Nat), vs = [v, w] ∧ TD K H v (nD n) ∧ TD K H w (nD m) ∧ Nz a n ∧ Nz b m ∧ a + b ≤ 8998 ∧ ∀ v H', Ex H H' → TD K H' v (nD (addN n m)) → Q v H'
def spMul : Sp := fun vs H Q _ => ∃ (v w : V) (n m : Num) (a b : Nat), vs = [v, w] ∧ TD K H v (nD n) ∧ TD K H w (nD m) ∧ Nz a n ∧ Nz b m ∧ a + b ≤ 8998 ∧ ∀ v H', Ex H H' → TD K H' v (nD (mulN n m)) → Q v H'
theorem ok_plus (F : FnP K "plus" "plus" s_plus f fd) (D : Df P w K mg base CX0 2 "fraction" ["top", "bottom"] (spFraction (K := K))) : FnOk P w K mg base CX0 3 f fd ["one", "other"] (spAdd (K := K)) := by
  refine fn0 F sc_plus (fun vs H Q E h => ?_) (fun cdv A outer s H vs Q E hr h => ?_)
  · obtain ⟨_, _, _, _, _, _, rfl, _⟩ := h
    rfl
  · obtain ⟨v, w', n, m, a, b, rfl, hv, hw, hn, hm, hab, k⟩ := h
    obtain ⟨p, rfl, hp⟩ := hv.num
    obtain ⟨q, rfl, hq⟩ := hw.num
    refine gb_one (gs_ret (ge_call D hr pass0 ?_))
    fail "rd"
    refine (o2_mul (wmul hn.2.1 hm.2.2 (by omega)) ?_)
    fail "rd"
    refine (o2_mul (wmul hm.2.1 hn.2.2 (by omega)) ?_)
    fail "rd"
    refine (o2_mul (wmul hn.2.2 hm.2.2 (by omega)) ?_)
    fail "rd"
    exact ⟨_, _, a + b, rfl, Int.mul_pos hn.1 hm.1, by rw [Int.natAbs_mul]; exact pow_split hn.2.2 hm.2.2, by omega, k⟩
theorem ok_times (F : FnP K "times" "times" s_times f fd) (D : Df P w K mg base CX0 2 "fraction" ["top", "bottom"] (spFraction (K := K))) : FnOk P w K mg base CX0 3 f fd ["one", "other"] (spMul (K := K)) := by
  refine fn0 F sc_times (fun vs H Q E h => ?_) (fun cdv A outer s H vs Q E hr h => ?_)
  · obtain ⟨_, _, _, _, _, _, rfl, _⟩ := h
    rfl
  · obtain ⟨v, w', n, m, a, b, rfl, hv, hw, hn, hm, hab, k⟩ := h
    obtain ⟨p, rfl, hp⟩ := hv.num
    obtain ⟨q, rfl, hq⟩ := hw.num
    refine gb_one (gs_ret (ge_call D hr pass0 ?_))
    fail "rd"
    refine (o2_mul (wmul hn.2.1 hm.2.1 (by omega)) ?_)
    fail "rd"
    refine (o2_mul (wmul hn.2.2 hm.2.2 (by omega)) ?_)
    fail "rd"
    exact ⟨_, _, a + b, rfl, Int.mul_pos hn.1 hm.1, by rw [Int.natAbs_mul]; exact pow_split hn.2.2 hm.2.2, by omega, k⟩
/-- one above another -/
def aboveN (n m : Num) : Bool := decide (m.1 * n.2 < n.1 * m.2)
def spAbove : Sp := fun vs H Q _ => ∃ (v w : V) (n m : Num) (a b : Nat), vs = [v, w] ∧ TD K H v (nD n) ∧ TD K H w (nD m) ∧ Nz a n ∧ Nz b m ∧ a + b ≤ 8998 ∧ Q (.bl (aboveN n m)) H
theorem ok_above (F : FnP K "is_above" "is_above" s_is_above f fd) : FnOk P w K mg base CX0 1 f fd ["one", "other"] (spAbove (K := K)) := by
  refine fn0 F sc_is_above (fun vs H Q E h => ?_) (fun cdv A outer s H vs Q E hr h => ?_)
  · obtain ⟨_, _, _, _, _, _, rfl, _⟩ := h
    rfl
  · obtain ⟨v, w', n, m, a, b, rfl, hv, hw, hn, hm, hab, k⟩ := h
    obtain ⟨p, rfl, hp⟩ := hv.num
    obtain ⟨q, rfl, hq⟩ := hw.num
    fail "rd"
    refine (o2_mul (wmul hn.2.1 hm.2.2 (by omega)) ?_)
    fail "rd"
    refine (o2_mul (wmul hm.2.1 hn.2.2 (by omega)) ?_)
    fail "rd"
    exact k
/-- a whole number -/
def spWhole : Sp := fun vs H Q _ => ∃ i : Int, vs = [.int i] ∧ Q (.bl true) H
theorem ok_is_whole (T : Tx K mg) (F : FnP K "is_whole" "is_whole" s_is_whole f fd) : FnOk P w K mg base CX0 1 f fd ["thing"] spWhole := by
  refine fn0 F sc_is_whole (fun vs H Q E h => ?_) (fun cdv A outer s H vs Q E hr h => ?_)
  · obtain ⟨_, rfl, _⟩ := h
    rfl
  · obtain ⟨i, rfl, k⟩ := h
    fail "rdk"
    exact k
/-- a number as told -/
def isNumB (n : Num) : Bool := decide (1 ≤ n.2) && decide ((n.1.gcd n.2 : Int) = 1)
def spIsNum : Sp := fun vs H Q _ => ∃ (v : V) (n : Num), vs = [v] ∧ TD K H v (nD n) ∧ Q (.bl (isNumB n)) H
theorem ok_is_number (T : Tx K mg) (F : FnP K "is_number" "is_number" s_is_number f fd) (D : Df P w K mg base CX0 1 "is_whole" ["thing"] spWhole) (D2 : Df P w K mg base CX0 1 "shared" ["one", "other"] spShared) : FnOk P w K mg base CX0 2 f fd ["thing"] (spIsNum (K := K)) := by
  refine fn0 F sc_is_number (fun vs H Q E h => ?_) (fun cdv A outer s H vs Q E hr h => ?_)
  · obtain ⟨_, _, rfl, _⟩ := h
    rfl
  · obtain ⟨v, n, rfl, hv, k⟩ := h
    obtain ⟨p, rfl, hp⟩ := hv.num
    fail "rdk"
    refine ge_call D hr pass0 ?_
    fail "rdk"
    refine ⟨_, rfl, ?_⟩
    fail "rdk"
    refine ge_call D hr pass0 ?_
    fail "rdk"
    refine ⟨_, rfl, ?_⟩
    fail "rdk"
    refine ite_d (fun h => ?_) fun h => ?_
    · fail "rdk"
      refine ge_call D2 hr pass0 ?_
      fail "rdk"
      refine ⟨_, _, rfl, ?_⟩
      fail "rdk"
      unfold isNumB at k
      rw [decide_eq_true h] at k
      exact k
    · unfold isNumB at k
      rw [decide_eq_false h] at k
      exact k
end
end RD
namespace RD
open PySem PySem.Spec PyProof.Rows L2
/-! ### rows -/
inductive Row where
  | src | gear (r : Num) (s : Nat) | add (a b : Nat) | disc (c t : Nat)
def rowD (st : Num) : Row → PyData
  | .src => .tuple [.str "source", nD st]
  | .gear r s => .tuple [.str "gear", nD st, nD r, .int s]
  | .add a b => .tuple [.str "adder", nD st, .int a, .int b]
  | .disc c t => .tuple [.str "disc", nD st, .int c, .int t]
def Row.drives : Row → List Nat
  | .src => []
  | .gear _ s => [s]
  | .add a b => [a, b]
  | .disc _ t => [t]
abbrev Rows := List (Num × Row)
def rowsD (rs : Rows) : List PyData := rs.map fun p => rowD p.1 p.2
def drivesAt (rs : Rows) (k : Nat) : List Nat := match rs[k]? with
  | some p => p.2.drives
  | none => []
/-- each behind those that drive it -/
structure Topo (rs : Rows) (L : List Nat) : Prop where
  nd : L.Nodup
  lt : ∀ k ∈ L, k < rs.length
  dr : ∀ i k, L[i]? = some k → ∀ d ∈ drivesAt rs k, d ∈ L.take i
/-- no further one may stand -/
def Full (rs : Rows) (L : List Nat) : Prop := ∀ k, k < rs.length → k ∉ L → ∃ d ∈ drivesAt rs k, d ∉ L
theorem Topo.nil (rs : Rows) : Topo rs [] := ⟨List.nodup_nil, (fun k h => by cases h), fun i k h => by simp at h⟩
theorem Topo.snoc {rs : Rows} {L : List Nat} (t : Topo rs L) {k : Nat} (hk : k < rs.length) (hn : k ∉ L) (hd : ∀ d ∈ drivesAt rs k, d ∈ L) : Topo rs (L ++ [k]) := by
  refine ⟨?_, ?_, ?_⟩
  · rw [List.nodup_append]
    refine ⟨t.nd, by simp, fun a ha b hb => ?_⟩
    simp at hb
    subst hb
    exact fun e => hn (e ▸ ha)
  · intro j hj
    rcases List.mem_append.mp hj with h | h
    · exact t.lt j h
    · simp at h; subst h; exact hk
  · intro i j hi d hd'
    by_cases h : i < L.length
    · rw [List.getElem?_append_left h] at hi
      rw [List.take_append_of_le_length (Nat.le_of_lt h)]
      exact t.dr i j hi d hd'
    · have hl : i = L.length := by
        have := (List.getElem?_eq_some_iff.mp hi).1
        simp at this
        omega
      subst hl
      simp at hi
      subst hi
      rw [List.take_append_of_le_length (Nat.le_refl _), List.take_length]
      exact hd d hd'
theorem nodup_len {n : Nat} : ∀ {L : List Nat}, L.Nodup → (∀ k ∈ L, k < n) → L.length ≤ n := by
  induction n with
  | zero => intro L _ h; cases L with
    | nil => exact Nat.le_refl _
    | cons a r => exact absurd (h a (List.mem_cons_self)) (by omega)
  | succ n ih =>
    intro L hn h
    by_cases hm : n ∈ L
    · have h1 : (L.erase n).length ≤ n := ih (hn.erase n) fun k hk => by
        have h2 := (List.Nodup.mem_erase_iff hn).mp hk
        have := h k h2.2
        omega
      rw [List.length_erase_of_mem hm] at h1
      omega
    · exact Nat.le_succ_of_le (ih hn fun k hk => by
        have := h k hk
        have : k ≠ n := fun e => hm (e ▸ hk)
        omega)
theorem Topo.len {rs : Rows} {L : List Nat} (t : Topo rs L) : L.length ≤ rs.length := nodup_len t.nd t.lt
/-- all of them -/
theorem full_all {n : Nat} {L : List Nat} (hn : L.Nodup) (h : ∀ k ∈ L, k < n) (hl : L.length = n) : ∀ k, k < n → k ∈ L := by
  intro k hk
  refine Classical.byContradiction fun hm => ?_
  have : (k :: L).length ≤ n := nodup_len (List.nodup_cons.mpr ⟨hm, hn⟩) fun j hj => by
    rcases List.mem_cons.mp hj with rfl | h'
    · exact hk
    · exact h j h'
  simp at this
  omega
/-! a row's pieces in the heap -/
theorem TD.row {K : PySem.W.Frag} {H : Hp} {v : V} {st : Num} {r : Row} (h : TD K H v (rowD st r)) : ∃ a p, v = .ref a ∧ SqT K H p [.int st.1, .int st.2] ∧
    match r with
    | .src => SqT K H a [.str "source", .ref p]
    | .gear r s => ∃ q, SqT K H a [.str "gear", .ref p, .ref q, .int s] ∧ SqT K H q [.int r.1, .int r.2]
    | .add x y => SqT K H a [.str "adder", .ref p, .int x, .int y]
    | .disc c t => SqT K H a [.str "disc", .ref p, .int c, .int t] := by
  cases r with
  | src =>
    obtain ⟨a, xs, rfl, h1, h2⟩ := h.tupE
    obtain ⟨x, r, rfl, hx, h2⟩ := h2.consE
    obtain ⟨y, r, rfl, hy, h2⟩ := h2.consE
    cases h2.nilE
    cases hx.strE
    obtain ⟨p, rfl, hp⟩ := hy.num
    exact ⟨a, p, rfl, hp, h1⟩
  | gear r s =>
    obtain ⟨a, xs, rfl, h1, h2⟩ := h.tupE
    obtain ⟨x, r, rfl, hx, h2⟩ := h2.consE
    obtain ⟨y, r, rfl, hy, h2⟩ := h2.consE
    obtain ⟨z, r, rfl, hz, h2⟩ := h2.consE
    obtain ⟨u, r, rfl, hu, h2⟩ := h2.consE
    cases h2.nilE
    cases hx.strE
    cases hu.intE
    obtain ⟨p, rfl, hp⟩ := hy.num
    obtain ⟨q, rfl, hq⟩ := hz.num
    exact ⟨a, p, rfl, hp, q, h1, hq⟩
  | add b c =>
    obtain ⟨a, xs, rfl, h1, h2⟩ := h.tupE
    obtain ⟨x, r, rfl, hx, h2⟩ := h2.consE
    obtain ⟨y, r, rfl, hy, h2⟩ := h2.consE
    obtain ⟨z, r, rfl, hz, h2⟩ := h2.consE
    obtain ⟨u, r, rfl, hu, h2⟩ := h2.consE
    cases h2.nilE
    cases hx.strE
    cases hz.intE
    cases hu.intE
    obtain ⟨p, rfl, hp⟩ := hy.num
    exact ⟨a, p, rfl, hp, h1⟩
  | disc b c =>
    obtain ⟨a, xs, rfl, h1, h2⟩ := h.tupE
    obtain ⟨x, r, rfl, hx, h2⟩ := h2.consE
    obtain ⟨y, r, rfl, hy, h2⟩ := h2.consE
    obtain ⟨z, r, rfl, hz, h2⟩ := h2.consE
    obtain ⟨u, r, rfl, hu, h2⟩ := h2.consE
    cases h2.nilE
    cases hx.strE
    cases hz.intE
    cases hu.intE
    obtain ⟨p, rfl, hp⟩ := hy.num
    exact ⟨a, p, rfl, hp, h1⟩
section
variable {P : Program} {w : World} {K : PySem.W.Frag} {mg : Str → Option Value} {base : Heap} {f : Addr} {fd : FuncData}
/-- one of many shafts -/
def shB (i n : Int) : Bool := decide (0 ≤ i) && decide (i < n)
def spIsShaft : Sp := fun vs H Q _ => ∃ (i n : Int), vs = [.int i, .int n] ∧ Q (.bl (shB i n)) H
theorem ok_is_shaft (F : FnP K "is_shaft" "is_shaft" s_is_shaft f fd) (D : Df P w K mg base CX0 1 "is_whole" ["thing"] spWhole) : FnOk P w K mg base CX0 2 f fd ["thing", "many"] spIsShaft := by
  refine fn0 F sc_is_shaft (fun vs H Q E h => ?_) (fun cdv A outer s H vs Q E hr h => ?_)
  · obtain ⟨_, _, rfl, _⟩ := h
    rfl
  · obtain ⟨i, n, rfl, k⟩ := h
    fail "rd"
    refine ge_call D hr pass0 ?_
    fail "rd"
    refine ⟨_, rfl, _, rfl, iteT ?_⟩
    refine ge_one (ge_chain ?_)
    fail "rd"
    unfold shB at k
    refine ⟨_, rfl, ite_d (fun h => ?_) fun h => ?_⟩
    · fail "rd"
      rw [decide_eq_true h] at k
      exact k
    · rw [decide_eq_false h] at k
      exact k
/-- what is_row tells -/
def rowB (n : Int) (st : Num) : Row → Bool
  | .src => isNumB st
  | .gear r d => isNumB st && (shB d n && isNumB r)
  | .add x y => isNumB st && (shB y n && shB x n)
  | .disc x y => isNumB st && (shB y n && shB x n)
/-- a row of a machine of so many shafts -/
def spIsRow : Sp := fun vs H Q _ => ∃ (v : V) (st : Num) (r : Row) (n : Int), vs = [v, .int n] ∧ TD K H v (rowD st r) ∧ ∀ H', Ex H H' → Q (.bl (rowB n st r)) H'
theorem ok_is_row (T : Tx K mg) (F : FnP K "is_row" "is_row" s_is_row f fd) (D : Df P w K mg base CX0 2 "is_number" ["thing"] (spIsNum (K := K))) (D2 : Df P w K mg base CX0 2 "is_shaft" ["thing", "many"] spIsShaft) : FnOk P w K mg base CX0 3 f fd ["thing", "many"] (spIsRow (K := K)) := by
  refine fn0 F sc_is_row (fun vs H Q E h => ?_) (fun cdv A outer s H vs Q E hr h => ?_)
  · obtain ⟨_, _, _, _, rfl, _⟩ := h
    rfl
  · obtain ⟨v, st, r, n, rfl, hv, k⟩ := h
    obtain ⟨a, p, rfl, hp, hr2⟩ := hv.row
    have pn : TD K H (.ref p) (nD st) := TD.numI hp
    cases r with
    | src =>
      have ha : SqT K H a [.str "source", .ref p] := hr2
      fail "rdk"
      refine ge_call D hr pass0 ?_
      fail "rdk"
      refine ⟨_, _, rfl, pn, _, rfl, ite_nb (fun hb => ?_) fun hb => ?_⟩
      · fail "rdk"
        have e0 : rowB n st .src = false := by simp [rowB, hb]
        rw [e0] at k
        exact k _ (Evl.Ex.refl _)
      · fail "rdk"
        have e0 : rowB n st .src = true := hb
        rw [e0] at k
        exact k _ (Evl.Ex.refl _)
    | gear r2 d =>
      obtain ⟨q, ha, hq⟩ := hr2
      have qn : TD K H (.ref q) (nD r2) := TD.numI hq
      fail "rdk"
      refine ge_call D hr pass0 ?_
      fail "rdk"
      refine ⟨_, _, rfl, pn, _, rfl, ite_nb (fun hb => ?_) fun hb => ?_⟩
      · fail "rdk"
        have e0 : rowB n st (.gear r2 d) = false := by simp [rowB, hb]
        rw [e0] at k
        exact k _ (Evl.Ex.refl _)
      · fail "rdk"
        refine ⟨Nat.le_of_ble_eq_true rfl, fun t H2 _ e2 ht => o2_nin (.inr (Evl.st_of ht)) rfl rfl ?_⟩
        fail "rdk"
        refine ge_call D2 (hr.mono (by decide)) pass0 ?_
        fail "rdk"
        refine ⟨_, _, rfl, _, rfl, ite_nb (fun hc => ?_) fun hc => ?_⟩
        · fail "rdk"
          have e0 : rowB n st (.gear r2 d) = false := by simp [rowB, hc]
          rw [e0] at k
          exact k _ e2
        · fail "rdk"
          refine ge_call D hr pass0 ?_
          fail "rdk"
          have e0 : rowB n st (.gear r2 d) = isNumB r2 := by simp [rowB, hb, hc]
          rw [e0] at k
          exact ⟨_, _, rfl, TD.ex e2 qn, k _ e2⟩
    | add x y =>
      have ha : SqT K H a [.str "adder", .ref p, .int x, .int y] := hr2
      fail "rdk"
      refine ge_call D hr pass0 ?_
      fail "rdk"
      refine ⟨_, _, rfl, pn, _, rfl, ite_nb (fun hb => ?_) fun hb => ?_⟩
      · fail "rdk"
        have e0 : rowB n st (.add x y) = false := by simp [rowB, hb]
        rw [e0] at k
        exact k _ (Evl.Ex.refl _)
      · fail "rdk"
        refine ⟨Nat.le_of_ble_eq_true rfl, fun t H2 _ e2 ht => o2_nin (.inr (Evl.st_of ht)) rfl rfl ?_⟩
        fail "rdk"
        refine ge_call D2 (hr.mono (by decide)) pass0 ?_
        fail "rdk"
        refine ⟨_, _, rfl, _, rfl, ite_nb (fun hc => ?_) fun hc => ?_⟩
        · fail "rdk"
          have e0 : rowB n st (.add x y) = false := by simp [rowB, hc]
          rw [e0] at k
          exact k _ e2
        · fail "rdk"
          refine ge_call D2 (hr.mono (by decide)) pass0 ?_
          fail "rdk"
          have e0 : rowB n st (.add x y) = shB x n := by simp [rowB, hb, hc]
          rw [e0] at k
          exact ⟨_, _, rfl, k _ e2⟩
    | disc x y =>
      have ha : SqT K H a [.str "disc", .ref p, .int x, .int y] := hr2
      fail "rdk"
      refine ge_call D hr pass0 ?_
      fail "rdk"
      refine ⟨_, _, rfl, pn, _, rfl, ite_nb (fun hb => ?_) fun hb => ?_⟩
      · fail "rdk"
        have e0 : rowB n st (.disc x y) = false := by simp [rowB, hb]
        rw [e0] at k
        exact k _ (Evl.Ex.refl _)
      · fail "rdk"
        refine ⟨Nat.le_of_ble_eq_true rfl, fun t H2 _ e2 ht => o2_nin (.inr (Evl.st_of ht)) rfl rfl ?_⟩
        fail "rdk"
        refine ge_call D2 (hr.mono (by decide)) pass0 ?_
        fail "rdk"
        refine ⟨_, _, rfl, _, rfl, ite_nb (fun hc => ?_) fun hc => ?_⟩
        · fail "rdk"
          have e0 : rowB n st (.disc x y) = false := by simp [rowB, hc]
          rw [e0] at k
          exact k _ e2
        · fail "rdk"
          refine ge_call D2 (hr.mono (by decide)) pass0 ?_
          fail "rdk"
          have e0 : rowB n st (.disc x y) = shB x n := by simp [rowB, hb, hc]
          rw [e0] at k
          exact ⟨_, _, rfl, k _ e2⟩
/-- a source's row -/
def isSrcB : Row → Bool
  | .src => true
  | _ => false
def spIsSource : Sp := fun vs H Q _ => ∃ (v : V) (st : Num) (r : Row), vs = [v] ∧ TD K H v (rowD st r) ∧ Q (.bl (isSrcB r)) H
theorem ok_is_source (F : FnP K "is_source" "is_source" s_is_source f fd) : FnOk P w K mg base CX0 1 f fd ["row"] (spIsSource (K := K)) := by
  refine fn0 F sc_is_source (fun vs H Q E h => ?_) (fun cdv A outer s H vs Q E hr h => ?_)
  · obtain ⟨_, _, _, rfl, _⟩ := h
    rfl
  · obtain ⟨v, st, r, rfl, hv, k⟩ := h
    obtain ⟨a, p, rfl, hp, hr2⟩ := hv.row
    cases r with
    | src =>
      have ha : SqT K H a [.str "source", .ref p] := hr2
      fail "rdk"
      exact k
    | gear r2 d =>
      obtain ⟨q, ha, hq⟩ := hr2
      fail "rdk"
      exact k
    | add x y =>
      have ha : SqT K H a [.str "adder", .ref p, .int x, .int y] := hr2
      fail "rdk"
      exact k
    | disc x y =>
      have ha : SqT K H a [.str "disc", .ref p, .int x, .int y] := hr2
      fail "rdk"
      exact k
/-- what drives a row -/
def spDrives : Sp := fun vs H Q _ => ∃ (v : V) (st : Num) (r : Row), vs = [v] ∧ TD K H v (rowD st r) ∧ ∀ p H', H p = none → Ex H H' → H' p = some (.lst (r.drives.map fun n => V.int (n : Nat))) → Q (.ref p) H'
theorem ok_drives (F : FnP K "drives_of" "drives_of" s_drives_of f fd) : FnOk P w K mg base CX0 1 f fd ["row"] (spDrives (K := K)) := by
  refine fn0 F sc_drives_of (fun vs H Q E h => ?_) (fun cdv A outer s H vs Q E hr h => ?_)
  · obtain ⟨_, _, _, rfl, _⟩ := h
    rfl
  · obtain ⟨v, st, r, rfl, hv, k⟩ := h
    obtain ⟨a, p, rfl, hp, hr2⟩ := hv.row
    cases r with
    | src =>
      have ha : SqT K H a [.str "source", .ref p] := hr2
      fail "rdk"
      exact ⟨Nat.le_of_ble_eq_true rfl, fun t H2 hn e2 ht => k _ _ hn e2 ht⟩
    | gear r2 d =>
      obtain ⟨q, ha, hq⟩ := hr2
      fail "rdk"
      exact ⟨Nat.le_of_ble_eq_true rfl, fun t H2 hn e2 ht => k _ _ hn e2 ht⟩
    | add x y =>
      have ha : SqT K H a [.str "adder", .ref p, .int x, .int y] := hr2
      fail "rdk"
      exact ⟨Nat.le_of_ble_eq_true rfl, fun t H2 hn e2 ht => k _ _ hn e2 ht⟩
    | disc x y =>
      have ha : SqT K H a [.str "disc", .ref p, .int x, .int y] := hr2
      fail "rdk"
      exact ⟨Nat.le_of_ble_eq_true rfl, fun t H2 hn e2 ht => k _ _ hn e2 ht⟩
end
end RD
namespace RD
open PySem PySem.Spec PyProof.Rows L2
/-- a dict of these shafts -/
def dkL (L : List Nat) : List (Key × V) := L.map fun (k : Nat) => ((Sum.inl (k : Int) : Key), V.bl true)
theorem dkL_val (L : List Nat) (k : Nat) : (valV (dkL L) (Sum.inl (k : Int) : Key)).isSome = decide (k ∈ L) := by
  rw [← valV_any]
  unfold dkL
  rw [List.any_map]
  induction L with
  | nil => simp
  | cons a r ih =>
    rw [List.any_cons, ih]
    have e : decide ((Sum.inl (a : Int) : Key) = Sum.inl (k : Int)) = decide (k = a) := by
      congr 1
      simp only [Sum.inl.injEq, eq_iff_iff]
      omega
    show (decide ((Sum.inl (a : Int) : Key) = Sum.inl (k : Int)) || decide (k ∈ r)) = decide (k ∈ a :: r)
    rw [e]
    by_cases h1 : k = a
    · simp [h1]
    · simp [h1]
theorem dkL_put {L : List Nat} {k : Nat} (h : k ∉ L) : putK (dkL L) (Sum.inl (k : Int) : Key) (.bl true) = dkL (L ++ [k]) := by
  unfold putK
  rw [valV_any, dkL_val, decide_eq_false h]
  simp [dkL]
def mayB (L : List Nat) (r : Row) : Bool := r.drives.all fun d => decide (d ∈ L)
section
variable {P : Program} {w : World} {K : PySem.W.Frag} {mg : Str → Option Value} {base : Heap} {f : Addr} {fd : FuncData}
/-- whether all that drive it stand -/
def spMay : Sp := fun vs H Q _ => ∃ (v : V) (st : Num) (r : Row) (d : Addr) (L : List Nat), vs = [v, .ref d] ∧ TD K H v (rowD st r) ∧ H d = some (.dK (dkL L)) ∧ ∀ H', Ex H H' → Q (.bl (mayB L r)) H'
theorem ok_may (T : Tx K mg) (F : FnP K "may_stand" "may_stand" s_may_stand f fd) (D : Df P w K mg base CX0 1 "drives_of" ["row"] (spDrives (K := K))) : FnOk P w K mg base CX0 2 f fd ["row", "stands"] (spMay (K := K)) := by
  refine fn0 F sc_may_stand (fun vs H Q E h => ?_) (fun cdv A outer s H vs Q E hr h => ?_)
  · obtain ⟨_, _, _, _, _, rfl, _⟩ := h
    rfl
  · obtain ⟨v, st, r, d, L, rfl, hv, hd, k⟩ := h
    fail "rdk"
    refine ge_callB T.all boot_all ?_
    refine ga_cons (GL.ge <| gl_lcL rfl sc_may_stand.nd (blkOk_by (N := n_may_stand) (sc := defScope s_may_stand) (by decide +kernel)) ?_ (fun _ _ _ _ _ => pg_name (i := 2) sc_may_stand.nd rfl (Or.inl rfl)))
    refine ge_call D hr pass0 ?_
    fail "rdk"
    refine ⟨v, st, r, rfl, hv, fun p H1 hp e1 h1 => ⟨p, _, fun i => .bool (decide (r.drives.getD i 0 ∈ L)), rfl, Evl.sq_of h1, ?_, fun i x H2 hx e2 => ⟨fun s0 H0 C cl fp => ?_⟩, fun q H2 ys hq e2 h2 hy => ?_⟩⟩
    · rw [List.length_map]
      cases r <;> exact Nat.le_of_ble_eq_true rfl
    · obtain ⟨n, hn, rfl⟩ : ∃ n, r.drives[i]? = some n ∧ x = V.int (n : Nat) := by
        rw [List.getElem?_map] at hx
        cases e : r.drives[i]? with
        | none => rw [e] at hx; cases hx
        | some n => rw [e] at hx; exact ⟨n, rfl, (Option.some.inj hx).symm⟩
      fail "rdk"
      refine o2_din (hu_of hr) (DGet.k (k := Sum.inl (n : Int)) (e2 _ _ (e1 _ _ hd))) ⟨Evl.Ex.refl _, ?_⟩
      dsimp only
      rw [dkL_val, List.getD_eq_getElem?_getD, hn]
      exact .bl _
    · fail "rdk"
      rw [kept_all, List.length_map] at hy
      refine c1_all (bs := (List.range r.drives.length).map fun i => decide (r.drives.getD i 0 ∈ L)) rfl (by rw [List.map_map]; exact hy) h2 ?_
      have e : (List.range r.drives.length).map (fun i => decide (r.drives.getD i 0 ∈ L)) = r.drives.map fun d => decide (d ∈ L) := range_map_get _ _ _ fun i x hx => by rw [List.getD_eq_getElem?_getD, hx]; rfl
      rw [e, List.all_map]
      exact k _ (e1.trans e2)
/-- which shafts may stand next -/
def keepB (rs : Rows) (L : List Nat) (i : Nat) : Bool := !decide (i ∈ L) && (match rs[i]? with
  | some p => mayB L p.2
  | none => false)
theorem keep_spec {rs : Rows} {L : List Nat} {i : Nat} (h : keepB rs L i = true) : i ∉ L ∧ i < rs.length ∧ ∀ d ∈ drivesAt rs i, d ∈ L := by
  unfold keepB at h
  obtain ⟨h1, h2⟩ := Bool.and_eq_true_iff.mp h
  unfold drivesAt
  cases e : rs[i]? with
  | none => rw [e] at h2; cases h2
  | some p =>
    rw [e] at h2
    refine ⟨by simpa using h1, (List.getElem?_eq_some_iff.mp e).1, fun d hd => ?_⟩
    simpa using List.all_eq_true.mp h2 d hd
theorem full_of {rs : Rows} {L : List Nat} (h : ∀ i, i < rs.length → keepB rs L i = false) : Full rs L := fun k hk hn => by
  have h1 := h k hk
  unfold keepB at h1
  rw [decide_eq_false hn, List.getElem?_eq_getElem hk] at h1
  have h2 : mayB L rs[k].2 = false := by simpa using h1
  have h3 : ¬ ∀ d ∈ rs[k].2.drives, d ∈ L := fun hall => by
    have : mayB L rs[k].2 = true := List.all_eq_true.mpr fun d hd => decide_eq_true (hall d hd)
    rw [this] at h2
    cases h2
  have h4 : drivesAt rs k = rs[k].2.drives := by unfold drivesAt; rw [List.getElem?_eq_getElem hk]
  rw [h4]
  exact Classical.byContradiction fun hc => h3 fun d hd => Classical.byContradiction fun hm => hc ⟨d, hd, hm⟩
def spOrder : Sp := fun vs H Q _ => ∃ (a : Addr) (rs : Rows), vs = [.ref a] ∧ LD K H a (rowsD rs) ∧ rs.length ≤ 120 ∧ ∀ p H' L, H p = none → Ex H H' → H' p = some (.lst (L.map fun (k : Nat) => V.int k)) → Topo rs L → Full rs L → Q (.ref p) H'
theorem ok_order (T : Tx K mg) (F : FnP K "order_of" "order_of" s_order_of f fd) (D : Df P w K mg base CX0 2 "may_stand" ["row", "stands"] (spMay (K := K))) : FnOk P w K mg base CX0 3 f fd ["machine"] (spOrder (K := K)) := by
  refine fn0 F sc_order_of (fun vs H Q E h => ?_) (fun cdv A outer s H vs Q E hr h => ?_)
  · obtain ⟨_, _, rfl, _⟩ := h
    rfl
  · obtain ⟨a, rs, rfl, ⟨ws, hl, hws⟩, hn, k⟩ := h
    have hlen : ws.length = rs.length := by rw [hws.length]; exact List.length_map _
    refine gb_cons (gs_set 1 sc_order_of.nd rfl (ge_dnew fun d hd => ?_))
    refine gb_cons (gs_set 2 sc_order_of.nd rfl (ge_bl ?_))
    refine gb_cons (gs_while PassesOwn.never (fun m σ H' => ∃ (L : List Nat) (b : Bool) (v3 : Option V), σ = [some (.ref a), some (.ref d), some (.bl b), v3, none] ∧ Ex H H' ∧ H' d = some (.dK (dkL L)) ∧ Topo rs L ∧ (b = false → Full rs L) ∧ m = 2 * (rs.length - L.length) + b.toNat)
      (2 * rs.length + 1) ⟨[], true, none, rfl, ex_upd hd, upd_same, Topo.nil rs, (fun h => by cases h), rfl⟩ ?_)
    rintro m σ H1 ⟨L, b, v3, rfl, e1, h1, tp, fl, rfl⟩
    fail "rdk"
    refine ite_b (fun hb => ?_) fun hb => ?_
    · subst hb
      refine gb_cons (gs_lc 3 rfl rfl (sw_true rfl rfl rfl (by decide +kernel)) (gl_lcRI rfl sc_order_of.nd T.range (blkOk_by (N := n_order_of) (sc := defScope s_order_of) (by decide +kernel)) ?_ (fun _ _ _ _ _ => pg_name (i := 4) sc_order_of.nd rfl (Or.inl rfl))))
      fail "rdk"
      refine ⟨ws.length, keepB rs L, fun i => .int (i : Nat), rfl, by omega, fun i H2 hi e2 => ⟨fun s0 H0 C cl fp => ?_⟩, fun q H2 ys hq e2 h2 hy => ?_⟩
      · obtain ⟨x, hx⟩ : ∃ x, ws[i]? = some x := ⟨_, List.getElem?_eq_getElem hi⟩
        obtain ⟨dd, hdd, hxd⟩ := hws.getV hx
        have hri : i < rs.length := by omega
        have e3 : dd = rowD rs[i].1 rs[i].2 := by
          unfold rowsD at hdd
          rw [List.getElem?_map, List.getElem?_eq_getElem hri] at hdd
          exact (Option.some.inj hdd).symm
        subst e3
        fail "rdk"
        refine o2_dnotin (hu_of hr) (DGet.k (k := Sum.inl (i : Int)) (e2 _ _ h1)) ⟨_, rfl, ?_⟩
        rw [dkL_val]
        have hk0 : keepB rs L i = (!decide (i ∈ L) && mayB L rs[i].2) := by
          unfold keepB
          rw [List.getElem?_eq_getElem hri]
        refine ite_nd (fun hm => ?_) fun hm => ?_
        · fail "rdk"
          refine ge_call D hr pass0 ?_
          fail "rdk"
          refine i2_lst (Evl.ex_l (e1.trans e2) hl) (atI_n hx) ?_
          fail "rdk"
          refine ⟨x, _, _, d, L, rfl, hxd.ex (e1.trans e2), e2 _ _ h1, fun H3 e3 => ⟨_, rfl, e3, ?_, fun hb => ⟨fun s0 H0 C cl fp => ?_⟩⟩⟩
          · rw [hk0, decide_eq_false hm]
            rfl
          · fail "rdk"
            exact ⟨Evl.Ex.refl _, .int _⟩
        · refine ⟨Evl.Ex.refl _, ?_, fun hb => by cases hb⟩
          rw [hk0, decide_eq_true hm]
          rfl
      · have hys : ys = ((List.range ws.length).filter (keepB rs L)).map fun (i : Nat) => V.int i := by
          have := TDs.ints (bs := ((List.range ws.length).filter (keepB rs L)).map fun (i : Nat) => (i : Int)) (by rw [List.map_map]; exact hy)
          rw [this, List.map_map]
          rfl
        have hsp : ∀ i, i ∈ (List.range ws.length).filter (keepB rs L) → keepB rs L i = true := fun i hi => (List.mem_filter.mp hi).2
        have hem : (List.range ws.length).filter (keepB rs L) = [] → ∀ i, i < rs.length → keepB rs L i = false := fun h i hi => by
          have := List.filter_eq_nil_iff.mp h i (List.mem_range.mpr (by omega))
          simpa using this
        generalize (List.range ws.length).filter (keepB rs L) = ks at hys hsp hem
        subst hys
        refine gb_cons (gs_set 2 sc_order_of.nd rfl ?_)
        fail "rdk"
        refine ⟨Nat.le_of_ble_eq_true rfl, fun z H3 _ e3 hz => o2_neNil (Room.units0 hr) (Evl.sq_of (e3 _ _ h2)) (Evl.sq_of hz) ?_⟩
        fail "rdk"
        cases ks with
        | nil =>
          fail "rdk"
          exact ⟨_, by show 2 * (rs.length - L.length) + 0 < 2 * (rs.length - L.length) + 1; omega, L, false, _, rfl, ((e1.trans e2).trans e3), e3 _ _ (e2 _ _ h1), tp, fun _ => full_of (hem rfl), rfl⟩
        | cons k0 kr =>
          obtain ⟨k1, k2, k3⟩ := keep_spec (hsp k0 List.mem_cons_self)
          fail "rdk"
          refine gs_dput (hu_of hr) ?_
          fail "rdk"
          refine i2_lst (Evl.sq_of (e3 _ _ h2)) (atI_n (n := 0) rfl) ?_
          have tp2 := tp.snoc k2 k1 k3
          have hl2 := tp2.len
          rw [List.length_append, List.length_singleton] at hl2
          refine ⟨d, _, rfl, DPut.k (k := Sum.inl (k0 : Int)) (e3 _ _ (e2 _ _ h1)) ?_, ?_⟩
          · unfold dkL
            rw [List.length_map]
            exact Evl.sz_lt (by omega)
          · rw [dkL_put k1]
            exact ⟨_, by rw [List.length_append, List.length_singleton]; show 2 * (rs.length - (L.length + 1)) + 1 < 2 * (rs.length - L.length) + 1; omega, L ++ [k0], true, _, rfl, Evl.Ex.mut ((e1.trans e2).trans e3) hd, upd_same, tp2, (fun h => by cases h), rfl⟩
    · subst hb
      refine gb_one (gs_ret (ge_listKeys rfl T.list ?_))
      fail "rdk"
      refine ⟨d, _, rfl, h1, fun q H2 hq e2 h2 => k q H2 L ?_ (e1.trans e2) ?_ tp (fl rfl)⟩
      · exact Evl.fresh_back e1 hq
      · rw [h2]
        unfold dkL
        rw [List.map_map]
        rfl
end
end RD
namespace RD
open PySem PySem.Spec PyProof.Rows L2
def Wf (rs : Rows) : Prop := ∀ k, ∀ d ∈ drivesAt rs k, d < rs.length
theorem rows_at {K : PySem.W.Frag} {H : Hp} {ws : List V} {rs : Rows} {i : Nat} (h : TDs K H ws (rowsD rs)) (hi : i < rs.length) : ∃ x, ws[i]? = some x ∧ TD K H x (rowD rs[i].1 rs[i].2) := by
  refine h.get ?_
  unfold rowsD
  rw [List.getElem?_map, List.getElem?_eq_getElem hi]
  rfl
theorem rows_len {K : PySem.W.Frag} {H : Hp} {ws : List V} {rs : Rows} (h : TDs K H ws (rowsD rs)) : ws.length = rs.length := by rw [h.length]; exact List.length_map _
theorem drives_at {rs : Rows} {i : Nat} (hi : i < rs.length) : drivesAt rs i = rs[i].2.drives := by unfold drivesAt; rw [List.getElem?_eq_getElem hi]
/-- the first of the kept ones -/
theorem kept_first {n : Nat} {keep : Nat → Bool} (h : ∃ i, i < n ∧ keep i = true) : ∃ k r, (List.range n).filter keep = k :: r ∧ k < n ∧ keep k = true := by
  obtain ⟨i, hi, hk⟩ := h
  have hm : i ∈ (List.range n).filter keep := List.mem_filter.mpr ⟨List.mem_range.mpr hi, hk⟩
  cases e : (List.range n).filter keep with
  | nil => rw [e] at hm; cases hm
  | cons k r =>
    have hk2 : k ∈ (List.range n).filter keep := by rw [e]; exact List.mem_cons_self
    exact ⟨k, r, rfl, List.mem_range.mp (List.mem_filter.mp hk2).1, (List.mem_filter.mp hk2).2⟩
theorem len_of_all : ∀ {n : Nat} {L : List Nat}, (∀ k, k < n → k ∈ L) → n ≤ L.length
  | 0, _, _ => Nat.zero_le _
  | n + 1, L, h => by
    have hm := h n (Nat.lt_succ_self n)
    have h1 : n ≤ (L.erase n).length := len_of_all fun k hk => (List.mem_erase_of_ne (by omega)).mpr (h k (by omega))
    rw [List.length_erase_of_mem hm] at h1
    have : 0 < L.length := List.length_pos_of_mem hm
    omega
theorem first_at {x : Nat} : ∀ {ps : List Nat}, x ∈ ps → ∃ j : Nat, ps[j]? = some x ∧ ∀ m : Nat, m < j → ps[m]? ≠ some x
  | [], h => by cases h
  | a :: r, h => by
    by_cases e : a = x
    · exact ⟨0, by rw [e]; rfl, fun m (hm : m < 0) => absurd hm (Nat.not_lt_zero m)⟩
    · have hr : x ∈ r := by
        rcases List.mem_cons.mp h with h | h
        · exact absurd h.symm e
        · exact h
      obtain ⟨j, h1, h2⟩ := first_at hr
      refine ⟨j + 1, by simpa using h1, fun m hm => ?_⟩
      cases m with
      | zero => simpa using e
      | succ m => simpa using h2 m (by omega)
theorem ints_of {K : PySem.W.Frag} {H : Hp} {ys : List V} {ks : List Nat} (h : TDs K H ys (ks.map fun (i : Nat) => PyData.int i)) : ys = ks.map fun (i : Nat) => V.int i := by
  have := TDs.ints (bs := ks.map fun (i : Nat) => (i : Int)) (by rw [List.map_map]; exact h)
  rw [this, List.map_map]
  rfl
section
variable {P : Program} {w : World} {K : PySem.W.Frag} {mg : Str → Option Value} {base : Heap} {f : Addr} {fd : FuncData}
def spAreRows : Sp := fun vs H Q _ => ∃ (a : Addr) (rs : Rows), vs = [.ref a] ∧ LD K H a (rowsD rs) ∧ rs.length ≤ 120 ∧ ∀ b H', Ex H H' → Q (.bl b) H'
theorem ok_are_rows (T : Tx K mg) (F : FnP K "are_rows" "are_rows" s_are_rows f fd) (D : Df P w K mg base CX0 3 "is_row" ["thing", "many"] (spIsRow (K := K))) (D2 : Df P w K mg base CX0 1 "is_source" ["row"] (spIsSource (K := K))) : FnOk P w K mg base CX0 4 f fd ["thing"] (spAreRows (K := K)) := by
  refine fn0 F sc_are_rows (fun vs H Q E h => ?_) (fun cdv A outer s H vs Q E hr h => ?_)
  · obtain ⟨_, _, rfl, _⟩ := h
    rfl
  · obtain ⟨a, rs, rfl, ⟨ws, hl, hws⟩, hn, k⟩ := h
    have hlen := rows_len hws
    obtain ⟨mt, hmt⟩ := T.most
    fail "rdk"
    refine gt_chain ?_
    fail "rdk"
    refine ite_d (fun h1 => ?_) fun h1 => ?_
    · refine ge_glob (v := .int 120) hmt ⟨_, rfl⟩ ?_
      fail "rdk"
      refine ite_nd (fun h2 => ?_) fun h2 => ?_
      · fail "rdk"
        exact k _ _ (Evl.Ex.refl _)
      · fail "rdk"
        refine ge_callB T.all boot_all ?_
        refine ga_cons (GL.ge <| gl_lcL rfl sc_are_rows.nd (blkOk_by (N := n_are_rows) (sc := defScope s_are_rows) (by decide +kernel)) ?_ (fun _ _ _ _ _ => pg_name (i := 1) sc_are_rows.nd rfl (Or.inl rfl)))
        fail "rdk"
        refine ⟨a, ws, fun i => .bool (match rs[i]? with | some p => rowB ws.length p.1 p.2 | none => false), rfl, hl, by omega, fun i x H2 hx e2 => ⟨fun s0 H0 C cl fp => ?_⟩, fun q H2 ys hq e2 h2 hy => ?_⟩
        · have hi : i < rs.length := by have := (List.getElem?_eq_some_iff.mp hx).1; omega
          obtain ⟨x', hx', hd⟩ := rows_at hws hi
          rw [hx] at hx'
          cases hx'
          refine ge_call D hr pass0 ?_
          fail "rdk"
          refine ⟨_, _, _, _, rfl, hd.ex e2, fun H3 e3 => ⟨e3, ?_⟩⟩
          dsimp only
          rw [List.getElem?_eq_getElem hi]
          exact .bl _
        · rw [kept_all] at hy
          fail "rdk"
          refine c1_all (bs := (List.range ws.length).map fun i => (match rs[i]? with | some p => rowB ws.length p.1 p.2 | none => false)) rfl (by rw [List.map_map]; exact hy) h2 ⟨_, rfl, ite_nb (fun _ => ?_) fun _ => ?_⟩
          · fail "rdk"
            exact k _ _ e2
          · fail "rd"
            refine GL.ge <| gl_lcLI rfl sc_are_rows.nd (blkOk_by (N := n_are_rows) (sc := defScope s_are_rows) (by decide +kernel)) ?_ (fun _ _ _ _ _ => pg_name (i := 1) sc_are_rows.nd rfl (Or.inl rfl))
            fail "rdk"
            refine ⟨a, ws, fun i => (match rs[i]? with | some p => isSrcB p.2 | none => false), fun i => (rowsD rs).getD i .none, rfl, Evl.ex_l e2 hl, by omega, fun i x H3 hx e3 => ⟨fun s0 H0 C cl fp => ?_⟩, fun q H3 ys hq e3 h3 hy => ?_⟩
            · have hi : i < rs.length := by have := (List.getElem?_eq_some_iff.mp hx).1; omega
              obtain ⟨x', hx', hd⟩ := rows_at hws hi
              rw [hx] at hx'
              cases hx'
              refine gt_val (ge_call D2 (hr.mono (by decide)) pass0 ?_)
              fail "rdk"
              refine ⟨_, _, _, rfl, hd.ex (e2.trans e3), _, rfl, Evl.Ex.refl _, ?_, fun _ => ⟨fun s0 H0 C cl fp => ?_⟩⟩
              · dsimp only
                rw [List.getElem?_eq_getElem hi]
              · fail "rdk"
                refine ⟨Evl.Ex.refl _, ?_⟩
                have e5 : (rowsD rs).getD i .none = rowD rs[i].1 rs[i].2 := by
                  unfold rowsD
                  rw [List.getD_eq_getElem?_getD, List.getElem?_map, List.getElem?_eq_getElem hi]
                  rfl
                dsimp only
                rw [e5]
                exact hd.ex (e2.trans e3)
            · fail "rdk"
              exact k _ _ (e2.trans e3)
    · fail "rdk"
      exact k _ _ (Evl.Ex.refl _)
/-- a ring, or all stand -/
def spRing : Sp := fun vs H Q _ => ∃ (a : Addr) (rs : Rows), vs = [.ref a] ∧ LD K H a (rowsD rs) ∧ rs.length ≤ 120 ∧ Wf rs ∧ ∀ p H' xs, H p = none → Ex H H' → H' p = some (.lst xs) → (xs = [] → ∃ L, Topo rs L ∧ L.length = rs.length) → Q (.ref p) H'
theorem ok_ring (T : Tx K mg) (F : FnP K "ring_of" "ring_of" s_ring_of f fd) (D : Df P w K mg base CX0 3 "order_of" ["machine"] (spOrder (K := K))) (D2 : Df P w K mg base CX0 1 "drives_of" ["row"] (spDrives (K := K))) : FnOk P w K mg base CX0 4 f fd ["machine"] (spRing (K := K)) := by
  refine fn0 F sc_ring_of (fun vs H Q E h => ?_) (fun cdv A outer s H vs Q E hr h => ?_)
  · obtain ⟨_, _, rfl, _⟩ := h
    rfl
  · obtain ⟨a, rs, rfl, ⟨ws, hl, hws⟩, hn, wf, k⟩ := h
    have hlen := rows_len hws
    refine gb_cons (gs_set 1 sc_ring_of.nd rfl (ge_call D hr pass0 ?_))
    fail "rdk"
    refine ⟨a, rs, rfl, ⟨ws, hl, hws⟩, hn, fun st H1 L hst e1 h1 tp fl => ?_⟩
    have hll : (L.map fun (k : Nat) => V.int k).length = L.length := List.length_map _
    fail "rdk"
    refine ite_d (fun hq => ?_) fun hq => ?_
    · fail "rdk"
      refine ⟨Nat.le_of_ble_eq_true rfl, fun p H2 hp e2 h2 => k p H2 [] (Evl.fresh_back e1 hp) (e1.trans e2) h2 fun _ => ⟨L, tp, ?_⟩⟩
      rw [hll] at hq
      omega
    · have hlt : L.length < rs.length := by
        have := tp.len
        rw [hll] at hq
        omega
      obtain ⟨k0, hk0⟩ : ∃ k0, k0 < rs.length ∧ decide (k0 ∈ L) = false := by
        refine Classical.byContradiction fun hc => ?_
        have : rs.length ≤ L.length := len_of_all fun x hx => Classical.byContradiction fun hm => hc ⟨x, hx, decide_eq_false hm⟩
        omega
      refine gb_nil (gb_cons (gs_set 2 sc_ring_of.nd rfl (ge_ix (GL.ge <| gl_lcRI rfl sc_ring_of.nd T.range (blkOk_by (N := n_ring_of) (sc := defScope s_ring_of) (by decide +kernel)) ?_ (fun _ _ _ _ _ => pg_name (i := 4) sc_ring_of.nd rfl (Or.inl rfl))))))
      fail "rdk"
      refine ⟨ws.length, fun i => !decide (i ∈ L), fun i => .int (i : Nat), rfl, by omega, fun i H2 hi e2 => ⟨fun s0 H0 C cl fp => ?_⟩, fun q H2 ys hq2 e2 h2 hy => ?_⟩
      · fail "rdk"
        refine o2_nin (.inl (Evl.sq_of (e2 _ _ h1))) rfl (flat_nats L) ⟨_, rfl, Evl.Ex.refl _, by rw [inV_nats], fun _ => ⟨fun s0 H0 C cl fp => ?_⟩⟩
        fail "rdk"
        exact ⟨Evl.Ex.refl _, .int _⟩
      · rw [hlen] at hy
        obtain ⟨k1, kr, hke, hk1, hk1L⟩ := kept_first (n := rs.length) (keep := fun i => !decide (i ∈ L)) ⟨k0, hk0.1, by rw [hk0.2]; rfl⟩
        rw [hke] at hy
        have hys := ints_of hy
        subst hys
        fail "rdk"
        refine i2_lst (Evl.sq_of h2) (atI_n (n := 0) rfl) ?_
        refine gb_cons (gs_set 3 sc_ring_of.nd rfl ?_)
        fail "rdk"
        refine ⟨Nat.le_of_ble_eq_true rfl, fun q3 H3 hq3 e3 h3 => ?_⟩
        refine gb_cons (gs_while PassesOwn.never (fun m σ H' => ∃ (ps : List Nat) (here : Nat), σ = [some (.ref a), some (.ref st), some (.int here), some (.ref q3), none] ∧ Ex H2 H' ∧ H' q3 = some (.lst (ps.map fun (k : Nat) => V.int k)) ∧ ps.Nodup ∧ (∀ x ∈ ps, x < rs.length) ∧ here < rs.length ∧ here ∉ L ∧ m = rs.length - ps.length)
          rs.length ⟨[], k1, rfl, e3, h3, List.nodup_nil, (fun x hx => by cases hx), hk1, by simpa using hk1L, by simp⟩ ?_)
        rintro m σ H4 ⟨ps, here, rfl, e4, h4, nd, hb, hh, hhL, rfl⟩
        fail "rdk"
        refine o2_nin (.inl (Evl.sq_of h4)) rfl (flat_nats ps) ⟨_, rfl, ?_⟩
        rw [inV_nats]
        refine ite_nd (fun hm => ?_) fun hm => ?_
        · have hpl : ps.length < rs.length := by
            have : (here :: ps).length ≤ rs.length := nodup_len (List.nodup_cons.mpr ⟨hm, nd⟩) fun x hx => by
              rcases List.mem_cons.mp hx with rfl | hx
              · exact hh
              · exact hb x hx
            rw [List.length_cons] at this
            omega
          refine gb_cons (gs_expr (ge_append ?_))
          fail "rdk"
          refine ⟨q3, _, rfl, Evl.sq_of h4, ?_⟩
          fail "rdk"
          refine ⟨_, h4, by rw [List.length_map]; omega, ?_⟩
          obtain ⟨x, hx, hxd⟩ := rows_at hws hh
          have e5 : Ex H2 (upd H4 q3 (.lst ((ps.map fun (k : Nat) => V.int k) ++ [V.int here]))) := Evl.Ex.mut e4 hq3
          have h5 : (upd H4 q3 (.lst ((ps.map fun (k : Nat) => V.int k) ++ [V.int here]))) q3 = some (.lst ((ps.map fun (k : Nat) => V.int k) ++ [V.int here])) := upd_same
          generalize upd H4 q3 (.lst ((ps.map fun (k : Nat) => V.int k) ++ [V.int here])) = H5 at e5 h5
          refine gb_one (gs_set 2 sc_ring_of.nd rfl (ge_ix (GL.ge <| gl_lcLI rfl sc_ring_of.nd (blkOk_by (N := n_ring_of) (sc := defScope s_ring_of) (by decide +kernel)) ?_ (fun _ _ _ _ _ => pg_name (i := 4) sc_ring_of.nd rfl (Or.inl rfl)))))
          refine ge_call D2 (hr.mono (by decide)) pass0 ?_
          fail "rdk"
          refine i2_lst (Evl.ex_l ((e1.trans e2).trans e5) hl) (atI_n hx) ?_
          fail "rdk"
          refine ⟨x, _, _, rfl, hxd.ex ((e1.trans e2).trans e5), fun p6 H6 hp6 e6 h6 => ?_⟩
          obtain ⟨d, hd, hdL⟩ := fl here hh hhL
          rw [drives_at hh] at hd
          refine ⟨p6, _, fun i => !decide (rs[here].2.drives.getD i 0 ∈ L), fun i => .int (rs[here].2.drives.getD i 0 : Nat), rfl, Evl.sq_of h6, ?_, fun i y H7 hy7 e7 => ⟨fun s0 H0 C cl fp => ?_⟩, fun q7 H7 ys hq7 e7 h7 hy7 => ?_⟩
          · rw [List.length_map]
            cases rs[here].2 <;> exact Nat.le_of_ble_eq_true rfl
          · obtain ⟨n, hn2, rfl⟩ : ∃ n, rs[here].2.drives[i]? = some n ∧ y = V.int (n : Nat) := by
              rw [List.getElem?_map] at hy7
              cases e : rs[here].2.drives[i]? with
              | none => rw [e] at hy7; cases hy7
              | some n => rw [e] at hy7; exact ⟨n, rfl, (Option.some.inj hy7).symm⟩
            fail "rdk"
            have hg : rs[here].2.drives.getD i 0 = n := by rw [List.getD_eq_getElem?_getD, hn2]; rfl
            refine o2_nin (.inl (Evl.sq_of (e7 _ _ (e6 _ _ (e5 _ _ (e2 _ _ h1)))))) rfl (flat_nats L) ⟨_, rfl, Evl.Ex.refl _, by dsimp only; rw [inV_nats, hg], fun _ => ⟨fun s0 H0 C cl fp => ?_⟩⟩
            fail "rdk"
            dsimp only
            rw [hg]
            exact ⟨Evl.Ex.refl _, .int _⟩
          · rw [List.length_map] at hy7
            obtain ⟨i0, hi0, hi0d⟩ := List.getElem_of_mem hd
            have hgd : ∀ i (hi : i < rs[here].2.drives.length), rs[here].2.drives.getD i 0 = rs[here].2.drives[i] := fun i hi => by rw [List.getD_eq_getElem?_getD, List.getElem?_eq_getElem hi]; rfl
            obtain ⟨i1, ir, hie, hi1, hi1L⟩ := kept_first (n := rs[here].2.drives.length) (keep := fun i => !decide (rs[here].2.drives.getD i 0 ∈ L)) ⟨i0, hi0, by rw [hgd i0 hi0, hi0d]; simpa using hdL⟩
            rw [hie] at hy7
            have hys := ints_of (ks := (i1 :: ir).map fun i => rs[here].2.drives.getD i 0) (by rw [List.map_map]; exact hy7)
            subst hys
            fail "rdk"
            refine i2_lst (Evl.sq_of h7) (atI_n (n := 0) rfl) ?_
            have hd1 : rs[here].2.drives.getD i1 0 ∈ rs[here].2.drives := by rw [hgd i1 hi1]; exact List.getElem_mem hi1
            refine ⟨rs.length - (ps ++ [here]).length, ?_, ps ++ [here], rs[here].2.drives.getD i1 0, rfl, (e5.trans e6).trans e7, ?_, ?_, ?_, ?_, by simpa using hi1L, rfl⟩
            · rw [List.length_append, List.length_singleton]
              omega
            · rw [e7 _ _ (e6 _ _ h5), List.map_append]
              rfl
            · rw [List.nodup_append]
              refine ⟨nd, by simp, fun x' hx' y' hy' => ?_⟩
              have hy2 : y' = here := by simpa using hy'
              rw [hy2]
              exact fun e => hm (e ▸ hx')
            · intro x' hx'
              rcases List.mem_append.mp hx' with h | h
              · exact hb x' h
              · have hy2 : x' = here := by simpa using h
                rw [hy2]; exact hh
            · exact wf here _ (by rw [drives_at hh]; exact hd1)
        · refine gb_one (gs_ret (ge_slL ?_))
          fail "rdk"
          refine go_some (ge_index ?_)
          fail "rdk"
          obtain ⟨j, hj, hjn⟩ : ∃ j : Nat, ps[j]? = some here ∧ ∀ m : Nat, m < j → ps[m]? ≠ some here := first_at hm
          refine ⟨q3, ps.map fun (k : Nat) => (k : Int), rfl, Evl.sq_of (by rw [h4, List.map_map]; rfl), ?_⟩
          fail "rdk"
          have hjl := (List.getElem?_eq_some_iff.mp hj).1
          refine ⟨(here : Int), j, rfl, Evl.sq_of (by rw [h4, List.map_map]; rfl), by rw [List.getElem?_map, hj]; rfl, fun m hmj hm2 => ?_, j, rfl, go_none ⟨q3, _, rfl, Evl.sq_of h4, fun p H5 hp e5 h5 => k p H5 _ ?_ ((e1.trans e2).trans (e4.trans e5)) h5 fun h => ?_⟩⟩
          · rw [List.getElem?_map] at hm2
            cases e : ps[m]? with
            | none => rw [e] at hm2; cases hm2
            | some z =>
              rw [e] at hm2
              have : (z : Int) = here := Option.some.inj hm2
              exact hjn m hmj (by rw [e]; congr 1; omega)
          · exact Evl.fresh_back ((e1.trans e2).trans e4) hp
          · rw [cut_from (by rw [List.length_map]; omega)] at h
            have := congrArg List.length h
            rw [List.length_drop, List.length_map] at this
            simp at this
            omega
end
end RD
namespace RD
open PySem PySem.Spec PyProof.Rows L2 L2H
/-! ### the refusals -/
theorem raised_once : ∀ x ∈ raised, (kinds.map fun y => decide (y = x)).countP id = 1 := by decide +kernel
/-- the class D of the name x, that is raised -/
structure Er (K : PySem.W.Frag) (mg : Str → Option Value) (x : Str) (D : Addr) : Prop where
  mem : x ∈ raised
  get : mg x = some (.ref D)
  exc : ExcC K D
  is : ∀ y ∈ kinds, ∃ C, mg y = some (.ref C) ∧ PySem.W.kitOne K (.ref D) (.ref C) = some (decide (y = x))
  isV : PySem.W.kitOne K (.ref D) (.type "ValueError") = some true
  isH : ∃ C1 C2 C3, mg "Stopped" = some (.ref C1) ∧ mg "Ring" = some (.ref C2) ∧ mg "RollError" = some (.ref C3) ∧ PySem.W.exmOne K (.ref D) (.ref C1) = some (decide (x = "Stopped")) ∧ PySem.W.exmOne K (.ref D) (.ref C2) = some (decide (x = "Ring")) ∧ PySem.W.exmOne K (.ref D) (.ref C3) = some true
  valN : mg "ValueError" = none
/-- the exception p of the class x, within a suite -/
def Ce (K : PySem.W.Frag) (mg : Str → Option Value) (H : Hp) (p : Addr × Obj) (x : Str) : Prop := ∃ D d, Er K mg x D ∧ L2N.Zn (.ref D) d p.2 ∧ (∃ vs, p.2.data = .fields vs) ∧ XdOk H d
theorem Ce.ex {K : PySem.W.Frag} {mg : Str → Option Value} {H H' : Hp} {p : Addr × Obj} {x : Str} (e : Ex H H') (h : Ce K mg H p x) : Ce K mg H' p x := by
  obtain ⟨D, d, h1, h2, h3, h4⟩ := h
  refine ⟨D, d, h1, h2, h3, ?_⟩
  rcases h4 with h | ⟨dd, fs, h, g⟩
  · exact .inl h
  · exact .inr ⟨dd, fs, h, e _ _ g⟩
section
variable {X : Cx} {en xn x : Str} {σ : St} {H : Hp} {Q : VK} {p1 p2 p3 pos : Pos} {p : Addr × Obj}
theorem ge_isE (i : Nat) (hm : X.mg "isinstance" = none) (hi : X.N[i]? = some en) (hσ : σ[i]? = some (some (.ref p.1))) (hp : p ∈ X.pn) (h : Ce X.K X.mg H p x) (q : Q (.bl (decide (xn = x))) H) (hx : xn ∈ kinds := by decide)
    (hv : Vis X.env.scope en := by first | exact Or.inl rfl | exact Or.inr (Or.inl rfl) | exact Or.inr (Or.inr rfl)) (hd : (en == ("__debug__" : Str)) = false := by decide) (hcd : (en == ("__classdict__" : Str)) = false := by decide)
    (hg : Gl X "isinstance" := by rfl) (hg2 : Gl X xn := by rfl) (hd2 : (xn == ("__debug__" : Str)) = false := by decide)
    (he : starEach [.Name en p2, .Name xn p3] X.env = (false, eval (.Name en p2) X.env) :: starEach [.Name xn p3] X.env := by rfl) (he2 : starEach [.Name xn p3] X.env = (false, eval (.Name xn p3) X.env) :: starEach [] X.env := by rfl) (hpl : (backTo pos (starEach [.Name xn p3] X.env)).any (·.1) = false := by rfl) :
    GE X (.Call (.Name "isinstance" p1) [.Name en p2, .Name xn p3] [] pos) σ H Q := by
  obtain ⟨D, d, E, hz, hf, hxd⟩ := h
  obtain ⟨C, hC, hk⟩ := E.is xn hx
  obtain ⟨a, oe⟩ := p
  exact ge_callB hm boot_isi (ga_cons (ge_var i hi hσ (ga_cons (ge_glob (v := .ref C) hC rfl (ga_nil (c1_isE E.exc hz hf hp hxd (.own C) hk q)) hg2 hd2) he2) hv hd hcd) he) hg (by decide) (by decide) he hpl
theorem ge_isV (i : Nat) (hm : X.mg "isinstance" = none) (hi : X.N[i]? = some en) (hσ : σ[i]? = some (some (.ref p.1))) (hp : p ∈ X.pn) (h : Ce X.K X.mg H p x) (q : Q (.bl true) H)
    (hv : Vis X.env.scope en := by first | exact Or.inl rfl | exact Or.inr (Or.inl rfl) | exact Or.inr (Or.inr rfl)) (hd : (en == ("__debug__" : Str)) = false := by decide) (hcd : (en == ("__classdict__" : Str)) = false := by decide)
    (hg : Gl X "isinstance" := by rfl) (hg2 : Gl X "ValueError" := by rfl)
    (he : starEach [.Name en p2, .Name "ValueError" p3] X.env = (false, eval (.Name en p2) X.env) :: starEach [.Name "ValueError" p3] X.env := by rfl) (he2 : starEach [.Name "ValueError" p3] X.env = (false, eval (.Name "ValueError" p3) X.env) :: starEach [] X.env := by rfl) (hpl : (backTo pos (starEach [.Name "ValueError" p3] X.env)).any (·.1) = false := by rfl) :
    GE X (.Call (.Name "isinstance" p1) [.Name en p2, .Name "ValueError" p3] [] pos) σ H Q := by
  obtain ⟨D, d, E, hz, hf, hxd⟩ := h
  obtain ⟨a, oe⟩ := p
  exact ge_callB hm boot_isi (ga_cons (ge_var i hi hσ (ga_cons (ge_bty (id := "ValueError") E.valN PyProof.Rows.Boot.«ValueError» (ga_nil (c1_isE E.exc hz hf hp hxd (.ty _) E.isV q)) hg2 (by decide) (by decide)) he2) hv hd hcd) he) hg (by decide) (by decide) he hpl
end
section
variable {P : Program} {w : World} {K : PySem.W.Frag} {mg : Str → Option Value} {base : Heap} {f : Addr} {fd : FuncData}
def spAlone : Addr × Obj → Sp := fun p vs H Q _ => ∃ x, vs = [.ref p.1] ∧ Ce K mg H p x ∧ ∀ H', Ex H H' → Q (.bl true) H'
theorem ok_alone (T : Tx K mg) (F : FnP K "_law_alone" "_law_alone" s_L_alone f fd) : FnE P w K mg base 1 f fd ["_law_e"] (spAlone (K := K) (mg := mg)) := by
  refine fnE F sc_L_alone (fun p vs H Q E h => ?_) (fun cdv A outer s H vs Q E p hot hr h => ?_)
  · obtain ⟨_, rfl, _⟩ := h
    rfl
  · obtain ⟨x, rfl, hc, k⟩ := h
    have hp : p ∈ (cxH CX0 P w K mg base n_L_alone "_law_alone" (defScope s_L_alone) f cdv A outer s H E p).nox.pn := List.mem_cons_self
    refine gb_cons (gs_set 1 sc_L_alone.nd rfl ?_)
    refine lst_k ?_
    iterate 4 refine ga_cons (ge_isE 0 T.isinstance rfl rfl hp hc ?_)
    fail "rdk"
    refine ⟨Nat.le_of_ble_eq_true rfl, fun p1 H1 hp1 e1 h1 => ?_⟩
    have hc1 := hc.ex e1
    refine gb_cons (gs_set 1 sc_L_alone.nd rfl (ge_bin (ge_var 1 rfl rfl (lst_k ?_))))
    iterate 4 refine ga_cons (ge_isE 0 T.isinstance rfl rfl hp hc1 ?_)
    fail "rdk"
    refine ⟨Nat.le_of_ble_eq_true rfl, fun p2 H2 hp2 e2 h2 => ?_⟩
    refine o2_cat (e2 _ _ h1) h2 (Nat.le_of_ble_eq_true rfl) fun p3 H3 hp3 e3 h3 => ?_
    have hc3 := hc1.ex (e2.trans e3)
    refine gb_cons (gs_set 1 sc_L_alone.nd rfl (ge_bin (ge_var 1 rfl rfl (lst_k ?_))))
    iterate 4 refine ga_cons (ge_isE 0 T.isinstance rfl rfl hp hc3 ?_)
    fail "rdk"
    refine ⟨Nat.le_of_ble_eq_true rfl, fun p4 H4 hp4 e4 h4 => ?_⟩
    refine o2_cat (e4 _ _ h3) h4 (Nat.le_of_ble_eq_true rfl) fun p5 H5 hp5 e5 h5 => ?_
    have hc5 := hc3.ex (e4.trans e5)
    refine gb_cons (gs_set 1 sc_L_alone.nd rfl (ge_bin (ge_var 1 rfl rfl (lst_k ?_))))
    iterate 4 refine ga_cons (ge_isE 0 T.isinstance rfl rfl hp hc5 ?_)
    fail "rdk"
    refine ⟨Nat.le_of_ble_eq_true rfl, fun p6 H6 hp6 e6 h6 => ?_⟩
    refine o2_cat (e6 _ _ h5) h6 (Nat.le_of_ble_eq_true rfl) fun p7 H7 hp7 e7 h7 => ?_
    have hc7 := hc5.ex (e6.trans e7)
    refine gb_cons (gs_set 1 sc_L_alone.nd rfl (ge_bin (ge_var 1 rfl rfl (lst_k ?_))))
    refine ga_cons (ge_isE 0 T.isinstance rfl rfl hp hc7 ?_)
    fail "rdk"
    refine ⟨Nat.le_of_ble_eq_true rfl, fun p8 H8 hp8 e8 h8 => ?_⟩
    refine o2_cat (e8 _ _ h7) h8 (Nat.le_of_ble_eq_true rfl) fun p9 H9 hp9 e9 h9 => ?_
    have hc9 := hc7.ex (e8.trans e9)
    refine gb_one (gs_ret (ge_and ?_))
    refine ge_isV 0 T.isinstance rfl rfl hp hc9 ⟨_, rfl, ?_⟩
    fail "rdk"
    refine ge_bcount ?_
    fail "rdk"
    have hb : SqL K H9 p9 ((kinds.map fun y => decide (y = x)).map V.bl) := Evl.sq_of h9
    refine ⟨p9, _, rfl, hb, ?_⟩
    fail "rdk"
    refine ⟨rfl, hb, ?_⟩
    fail "rdk"
    obtain ⟨D, d, hE, _⟩ := hc
    rw [raised_once x hE.mem]
    refine k H9 ((((e1.trans (e2.trans e3)).trans (e4.trans e5)).trans (e6.trans e7)).trans (e8.trans e9))
end
end RD
namespace RD
open PySem PySem.Spec PyProof.Rows L2 L2H
def five : List Str := ["Held", "NoMachine", "TooFar", "NoGear", "NoDeed"]
theorem five_one : ∀ x ∈ five, ((List.range 5).filter fun i => decide (five.getD i "Held" = x)).map (fun i => five.getD i "Held") = [x] := by decide +kernel
section
variable {P : Program} {w : World} {K : PySem.W.Frag} {mg : Str → Option Value} {base : Heap} {f : Addr} {fd : FuncData}
def spRefusal : Addr × Obj → Sp := fun p vs H Q _ => ∃ x, vs = [.ref p.1] ∧ Ce K mg H p x ∧ x ∈ five ∧ ∀ H', Ex H H' → Q (.str x) H'
theorem ok_refusal (T : Tx K mg) (F : FnP K "_law_refusal" "_law_refusal" s_L_refusal f fd) (D : DfE P w K mg base 1 "_law_alone" ["_law_e"] (spAlone (K := K) (mg := mg))) : FnE P w K mg base 2 f fd ["_law_e"] (spRefusal (K := K) (mg := mg)) := by
  refine fnE F sc_L_refusal (fun p vs H Q E h => ?_) (fun cdv A outer s H vs Q E p hot hr h => ?_)
  · obtain ⟨_, rfl, _⟩ := h
    rfl
  · obtain ⟨x, rfl, hc, hx, k⟩ := h
    have hp : p ∈ (cxH CX0 P w K mg base n_L_refusal "_law_refusal" (defScope s_L_refusal) f cdv A outer s H E p).nox.pn := List.mem_cons_self
    refine gb_cons (gs_set 1 sc_L_refusal.nd rfl (lst_k ?_))
    refine ga_cons (tup_k (ga_cons (ge_str (ga_cons (ge_isE 0 T.isinstance rfl rfl hp hc (ga_nil ⟨Nat.le_of_ble_eq_true rfl, fun p1 H1 hp1 e1 h1 => ?_⟩))))))
    have hc1 := hc.ex e1
    refine ga_cons (tup_k (ga_cons (ge_str (ga_cons (ge_isE 0 T.isinstance rfl rfl hp hc1 (ga_nil ⟨Nat.le_of_ble_eq_true rfl, fun p2 H2 hp2 e2 h2 => ?_⟩))))))
    have hc2 := hc1.ex e2
    refine ga_cons (tup_k (ga_cons (ge_str (ga_cons (ge_isE 0 T.isinstance rfl rfl hp hc2 (ga_nil ⟨Nat.le_of_ble_eq_true rfl, fun p3 H3 hp3 e3 h3 => ?_⟩))))))
    have hc3 := hc2.ex e3
    refine ga_nil ⟨Nat.le_of_ble_eq_true rfl, fun p4 H4 hp4 e4 h4 => ?_⟩
    have hc4 := hc3.ex e4
    refine gb_cons (gs_set 1 sc_L_refusal.nd rfl (ge_bin (ge_var 1 rfl rfl (lst_k ?_))))
    refine ga_cons (tup_k (ga_cons (ge_str (ga_cons (ge_isE 0 T.isinstance rfl rfl hp hc4 (ga_nil ⟨Nat.le_of_ble_eq_true rfl, fun p5 H5 hp5 e5 h5 => ?_⟩))))))
    have hc5 := hc4.ex e5
    refine ga_cons (tup_k (ga_cons (ge_str (ga_cons (ge_isE 0 T.isinstance rfl rfl hp hc5 (ga_nil ⟨Nat.le_of_ble_eq_true rfl, fun p6 H6 hp6 e6 h6 => ?_⟩))))))
    have hc6 := hc5.ex e6
    refine ga_nil ⟨Nat.le_of_ble_eq_true rfl, fun p7 H7 hp7 e7 h7 => ?_⟩
    have hc7 := hc6.ex e7
    have h47 := e7 _ _ (e6 _ _ (e5 _ _ h4))
    refine o2_cat h47 h7 (Nat.le_of_ble_eq_true rfl) fun p8 H8 hp8 e8 h8 => ?_
    have hc8 := hc7.ex e8
    refine gb_cons (gs_lcP 2 (j := 3) (k := 4) ⟨p, hot, hp⟩ sc_L_refusal.nd rfl (by decide) rfl (sw_true rfl rfl rfl (by decide +kernel)) (blkOk_by (N := n_L_refusal) (sc := defScope s_L_refusal) (by decide +kernel)) ?_ (fun s1 H1 C cl fp => ?_))
    · refine ge_var 1 rfl rfl ?_
      refine ⟨p8, _, fun i => decide (five.getD i "Held" = x), fun i => .str (five.getD i "Held"), rfl, Evl.sq_of h8, Nat.le_of_ble_eq_true rfl, fun i y H9 hy e9 => ?_, fun q H9 ys hq e9 h9 hys => ?_⟩
      · have t1 : SqT K H9 p1 [.str "Held", .bl (decide ((Str.ofString "Held") = x))] := Evl.st_of (e9 _ _ (e8 _ _ (e7 _ _ (e6 _ _ (e5 _ _ (e4 _ _ (e3 _ _ (e2 _ _ h1))))))))
        have t2 : SqT K H9 p2 [.str "NoMachine", .bl (decide ((Str.ofString "NoMachine") = x))] := Evl.st_of (e9 _ _ (e8 _ _ (e7 _ _ (e6 _ _ (e5 _ _ (e4 _ _ (e3 _ _ h2)))))))
        have t3 : SqT K H9 p3 [.str "TooFar", .bl (decide ((Str.ofString "TooFar") = x))] := Evl.st_of (e9 _ _ (e8 _ _ (e7 _ _ (e6 _ _ (e5 _ _ (e4 _ _ h3))))))
        have t5 : SqT K H9 p5 [.str "NoGear", .bl (decide ((Str.ofString "NoGear") = x))] := Evl.st_of (e9 _ _ (e8 _ _ (e7 _ _ (e6 _ _ h5))))
        have t6 : SqT K H9 p6 [.str "NoDeed", .bl (decide ((Str.ofString "NoDeed") = x))] := Evl.st_of (e9 _ _ (e8 _ _ (e7 _ _ h6)))
        have hc9 := hc8.ex e9
        have key : ∃ t, y = .ref t ∧ SqT K H9 t [.str (five.getD i "Held"), .bl (decide (five.getD i "Held" = x))] := by
          match i, hy with
          | 0, hy => cases hy; exact ⟨_, rfl, t1⟩
          | 1, hy => cases hy; exact ⟨_, rfl, t2⟩
          | 2, hy => cases hy; exact ⟨_, rfl, t3⟩
          | 3, hy => cases hy; exact ⟨_, rfl, t5⟩
          | 4, hy => cases hy; exact ⟨_, rfl, t6⟩
          | i + 5, hy => cases hy
        obtain ⟨t, rfl, ht⟩ := key
        refine ⟨t, _, _, rfl, ht, ⟨fun s0 H0 C cl fp => ?_⟩⟩
        refine gt_w (gw_and (gt_val (ge_var 4 rfl rfl ⟨_, rfl, ?_⟩)))
        by_cases hb : five.getD i "Held" = x
        · rw [if_pos (decide_eq_true hb)]
          refine gw_and1 (gt_val (ge_callE (p := p) D hot hp (hr.mono (by decide)) ?_))
          refine ga_cons (ge_var 0 rfl rfl (ga_nil ?_))
          refine ⟨x, rfl, hc9, fun H10 e10 => ⟨true, rfl, e10, (decide_eq_true hb).symm, fun _ => ⟨fun s0 H0 C cl fp => ?_⟩⟩⟩
          refine ge_var 3 rfl rfl ?_
          exact ⟨Evl.Ex.refl _, .str _⟩
        · rw [if_neg (by rw [decide_eq_false hb]; decide)]
          exact ⟨Evl.Ex.refl _, (decide_eq_false hb).symm, fun h => by cases h⟩
      · have ht : TDs K H9 ys ([x].map PyData.str) := by
          rw [← five_one x hx, List.map_map]
          exact hys
        obtain ⟨y, r, rfl, hy1, hr1⟩ := ht.consE
        have e1x := hy1.strE
        subst e1x
        have e2x := hr1.nilE
        subst e2x
        refine gb_one (gs_ret (ge_ix (ge_bin (ge_var 2 rfl rfl (lst_k (ga_cons (ge_str (ga_nil ⟨Nat.le_of_ble_eq_true rfl, fun p10 H10 hp10 e10 h10 => ?_⟩))))))))
        refine o2_cat (e10 _ _ h9) h10 (Nat.le_of_ble_eq_true rfl) fun p11 H11 hp11 e11 h11 => ?_
        refine ge_int ?_
        refine i2_lst (Evl.sq_of h11) (atI_n (n := 0) rfl) ?_
        exact k H11 ((((e1.trans (e2.trans e3)).trans (e4.trans e5)).trans (e6.trans e7)).trans ((e8.trans e9).trans (e10.trans e11)))
    · exact pg_tupH (X := blkH _ s1 H1 _ (compEnvC _ cl C _) fp) ⟨p, hot, hp⟩ (pgs_cons (pg_name sc_L_refusal.nd rfl (Or.inl rfl)) (pgs_cons (pg_name sc_L_refusal.nd rfl (Or.inl rfl)) pgs_nil))
end
end RD
namespace RD
open PySem PySem.Spec PyProof.Rows L2 L2H
/-- what follows the making of an exception with one field -/
theorem xd_ex {H1 : Hp} {a d C : Addr} {f : Str} {v : V} (ha : H1 a = none) (hd : (upd H1 a (exo a C none)) d = none) (hda : d ≠ a) :
    let H2 := upd (upd (upd H1 a (exo a C none)) d (exd d [(f, v)])) a (exo a C (some d))
    H2 a = some (exo a C (some d)) ∧ H2 d = some (exd d [(f, v)]) ∧ H1 d = none ∧ Ex H1 (upd (del H2 a) d (.xd [(f, v)])) := by
  refine ⟨upd_same, by rw [upd_ne hda]; exact upd_same, by rw [upd_ne hda] at hd; exact hd, fun b o hb => ?_⟩
  have h1 : b ≠ a := fun e => by rw [e, ha] at hb; cases hb
  have hd2 : H1 d = none := by rw [upd_ne hda] at hd; exact hd
  have h2 : b ≠ d := fun e => by rw [e, hd2] at hb; cases hb
  rw [upd_ne h2, del_ne h1, upd_ne h1, upd_ne h2, upd_ne h1]
  exact hb
section
variable {P : Program} {w : World} {K : PySem.W.Frag} {mg : Str → Option Value} {base : Heap} {f : Addr} {fd : FuncData}
def spXIni (n : Str) : Sp := fun vs H Q _ => ∃ (a C : Addr) (v : V), vs = [.ref a, v] ∧ OexC K C ∧ PySem.W.findIn K (.ref C) n = some none ∧ H a = some (exo a C none) ∧ ∀ dx, H dx = none → dx ≠ a → Q .non (upd (upd H dx (exd dx [(n, v)])) a (exo a C (some dx)))
theorem ok_ring_init (F : FnP K "__init__" "Ring.__init__" s_Ring_init f fd) : FnOk P w K mg base CX0 1 f fd ["self", "ring"] (spXIni (K := K) "ring") := by
  refine fn0 F sc_Ring_init (fun vs H Q E h => ?_) (fun cdv A outer s H vs Q E hr h => ?_)
  · obtain ⟨_, _, _, rfl, _⟩ := h
    rfl
  · obtain ⟨a, C, v, rfl, h1, h2, h3, k⟩ := h
    exact gb_one (gs_ost (ge_var 1 rfl rfl (ge_var 0 rfl rfl ⟨a, C, rfl, h1, h2, h3, k⟩)))
theorem ok_stopped_init (F : FnP K "__init__" "Stopped.__init__" s_Stopped_init f fd) : FnOk P w K mg base CX0 1 f fd ["self", "shaft"] (spXIni (K := K) "shaft") := by
  refine fn0 F sc_Stopped_init (fun vs H Q E h => ?_) (fun cdv A outer s H vs Q E hr h => ?_)
  · obtain ⟨_, _, _, rfl, _⟩ := h
    rfl
  · obtain ⟨a, C, v, rfl, h1, h2, h3, k⟩ := h
    exact gb_one (gs_ost (ge_var 1 rfl rfl (ge_var 0 rfl rfl ⟨a, C, rfl, h1, h2, h3, k⟩)))
/-- raise X(v), X keeping v as n -/
theorem gr_xini {X : Cx} {x n : Str} {C : Addr} {e : Expr} {σ : St} {H : Hp} {Q : XK} {p pos : Pos} (T : IniC X.prog X.w X.K X.mg X.base 1 x C ["self", n] (spXIni (K := X.K) n)) (hno : PySem.W.findIn X.K (.ref C) n = some none) (hr : Room 2 X.A)
    (h : GE X e σ H fun v H1 => ∀ d H2, H1 d = none → Ex H1 H2 → H2 d = some (.xd [(n, v)]) → Q (.ref C) (some d) H2) (hg : Gl X x := by rfl) (hdb : (x == ("__debug__" : Str)) = false := by decide) (he : starEach [e] X.env = (false, eval e X.env) :: starEach [] X.env := by rfl) (hpl : (backTo pos (starEach [] X.env)).any (·.1) = false := by rfl) :
    GR X (.Call (.Name x p) [e] [] pos) σ H Q := by
  refine gr_ini T hr (ga_cons (h.mono fun v H1 k => ga_nil ⟨Nat.le_of_ble_eq_true rfl, fun a ha => ⟨a, C, v, rfl, T.oex, hno, upd_same, fun dx hd hda => ?_⟩⟩) he) hg hdb he hpl
  obtain ⟨h1, h2, h3, h4⟩ := xd_ex (C := C) (f := n) (v := v) ha hd hda
  exact ⟨rfl, dx, _, h1, h2, h3, k dx _ h3 h4 upd_same⟩
/-- refuses what is no machine -/
def spLook : Sp := fun vs H Q E => ∃ (a : Addr) (rs : Rows), vs = [.ref a] ∧ LD K H a (rowsD rs) ∧ rs.length ≤ 120 ∧ Wf rs ∧ (∀ L H', Topo rs L → L.length = rs.length → Ex H H' → Q .non H') ∧
  (∀ D H', Er K mg "NoMachine" D → Ex H H' → E (.ref D) none H') ∧ ∀ D d p xs H', Er K mg "Ring" D → Ex H H' → H' d = some (.xd [("ring", .ref p)]) → H p = none → H' p = some (.lst xs) → H d = none → E (.ref D) (some d) H'
theorem ok_look {DN DR : Addr} (F : FnP K "look_machine" "look_machine" s_look_machine f fd) (D1 : Df P w K mg base CX0 4 "are_rows" ["thing"] (spAreRows (K := K))) (D2 : Df P w K mg base CX0 4 "ring_of" ["machine"] (spRing (K := K)))
    (EN : Er K mg "NoMachine" DN) (CN : OwnC K mg "NoMachine" DN) (ER : Er K mg "Ring" DR) (CR : IniC P w K mg base 1 "Ring" DR ["self", "ring"] (spXIni (K := K) "ring")) (hno : PySem.W.findIn K (.ref DR) "ring" = some none) :
    FnOk P w K mg base (L2N.CX P w) 5 f fd ["thing"] (spLook (K := K) (mg := mg)) := by
  refine fnX F sc_look_machine (fun vs H Q E h => ?_) (fun cdv A outer s H vs Q E hr h => ?_)
  · obtain ⟨_, _, rfl, _⟩ := h
    rfl
  · obtain ⟨a, rs, rfl, hl, hn, wf, k, kn, kr⟩ := h
    have tk := L2N.takes_of (X := cxOf (L2N.CX P w) P w K mg base n_look_machine "look_machine" (defScope s_look_machine) f cdv A outer s H E) rfl rfl rfl rfl
    fail "rdk"
    refine ge_call D1 hr pass0 ?_
    fail "rdk"
    refine ⟨a, rs, rfl, hl, hn, fun b H1 e1 => ⟨b, rfl, ite_nb (fun hb => ?_) fun hb => ?_⟩⟩
    · refine gb_one (gs_raise rfl tk (gr_own CN (kn DN H1 EN e1)))
    · refine gb_nil (gb_cons (gs_set 1 sc_look_machine.nd rfl (ge_call D2 hr pass0 ?_)))
      fail "rdk"
      refine ⟨a, rs, rfl, hl.ex e1, hn, wf, fun p H2 xs hp e2 h2 hL => ?_⟩
      fail "rdk"
      refine ⟨Nat.le_of_ble_eq_true rfl, fun q H3 hq e3 h3 => ?_⟩
      refine o2_neNil (Nat.lt_of_succ_lt (hu_of hr)) (Evl.sq_of (e3 _ _ h2)) (Evl.sq_of h3) ⟨_, rfl, ite_nb (fun hx => ?_) fun hx => ?_⟩
      · refine gb_one (gs_raise rfl tk (gr_xini CR hno (hr.mono (by decide)) ?_))
        refine ge_var 1 rfl rfl fun d H4 hd e4 h4 => ?_
        exact kr DR d p xs H4 ER ((e1.trans e2).trans (e3.trans e4)) h4 (Evl.fresh_back e1 hp) (e4 _ _ (e3 _ _ h2)) (Evl.fresh_back ((e1.trans e2).trans e3) hd)
      · obtain ⟨L, t, hLl⟩ := hL (List.isEmpty_iff.mp hx)
        fail "rdk"
        exact k L H3 t hLl ((e1.trans e2).trans e3)
end
end RD
namespace RD
open PySem PySem.Spec PyProof.Rows L2 L2H
def n0 : Num := (0, 1)
def numsD (ns : List Num) : List PyData := ns.map nD
/-- how far a row's shaft is moved -/
def dueN (r : Row) (S M : List Num) (n : Num) : Num := match r with
  | .src => n
  | .gear q s => mulN q (M.getD s n0)
  | .add a b => addN (M.getD a n0) (M.getD b n0)
  | .disc c t => mulN (S.getD c n0) (M.getD t n0)
/-- a row of a machine of n rows, small numbers -/
def RowOk (n : Nat) : Row → Prop
  | .src => True
  | .gear q s => Nz 4 q ∧ Red q ∧ s < n
  | .add a b => a < n ∧ b < n
  | .disc c t => c < n ∧ t < n
theorem nums_at {K : PySem.W.Frag} {H : Hp} {ws : List V} {ns : List Num} {i : Nat} (h : TDs K H ws (numsD ns)) (hi : i < ns.length) : ∃ x, ws[i]? = some x ∧ TD K H x (nD (ns.getD i n0)) := by
  refine h.get ?_
  unfold numsD
  rw [List.getElem?_map, List.getD_eq_getElem?_getD, List.getElem?_eq_getElem hi]
  rfl
theorem nums_len {K : PySem.W.Frag} {H : Hp} {ws : List V} {ns : List Num} (h : TDs K H ws (numsD ns)) : ws.length = ns.length := by rw [h.length]; exact List.length_map _
theorem getD_all {ns : List Num} {p : Num → Prop} (h : ∀ x ∈ ns, p x) {i : Nat} (hi : i < ns.length) : p (ns.getD i n0) := by
  rw [List.getD_eq_getElem?_getD, List.getElem?_eq_getElem hi]
  exact h _ (List.getElem_mem hi)
/-- how big a move may be -/
theorem due_nz {r : Row} {S M : List Num} {n : Num} {B : Nat} (hr : RowOk S.length r) (hl : M.length = S.length) (hS : ∀ x ∈ S, Nz 200 x) (hM : ∀ d ∈ r.drives, Nz B (M.getD d n0)) (hn : Nz 4 n) : Nz (2 * B + 201) (dueN r S M n) := by
  cases r with
  | src => exact hn.mono (by omega)
  | gear q s =>
    exact (mulN_nz hr.1 (hM s (List.mem_cons_self))).mono (by omega)
  | add a b =>
    exact (addN_nz (hM a (List.mem_cons_self)) (hM b (List.mem_cons_of_mem _ List.mem_cons_self))).mono (by omega)
  | disc c t => exact (mulN_nz (getD_all hS hr.1) (hM t List.mem_cons_self)).mono (by omega)
section
variable {P : Program} {w : World} {K : PySem.W.Frag} {mg : Str → Option Value} {base : Heap} {f : Addr} {fd : FuncData}
def spMove : Sp := fun vs H Q _ => ∃ (v nv : V) (st : Num) (r : Row) (sl ml : Addr) (S M : List Num) (n : Num) (B : Nat), vs = [v, .ref sl, .ref ml, nv] ∧ TD K H v (rowD st r) ∧ LD K H sl (numsD S) ∧ LD K H ml (numsD M) ∧ TD K H nv (nD n) ∧
  RowOk S.length r ∧ M.length = S.length ∧ (∀ x ∈ S, Nz 200 x) ∧ (∀ d ∈ r.drives, Nz B (M.getD d n0)) ∧ B ≤ 4000 ∧ ∀ v H', Ex H H' → TD K H' v (nD (dueN r S M n)) → Q v H'
theorem ok_move (F : FnP K "move_of" "move_of" s_move_of f fd) (DM : Df P w K mg base CX0 3 "times" ["one", "other"] (spMul (K := K))) (DA : Df P w K mg base CX0 3 "plus" ["one", "other"] (spAdd (K := K))) : FnOk P w K mg base CX0 4 f fd ["row", "stood", "moves", "number"] (spMove (K := K)) := by
  refine fn0 F sc_move_of (fun vs H Q E h => ?_) (fun cdv A outer s H vs Q E hr h => ?_)
  · obtain ⟨_, _, _, _, _, _, _, _, _, _, rfl, _⟩ := h
    rfl
  · obtain ⟨v, nv, st, r, sl, ml, S, M, n, B, rfl, hv, ⟨ss, hs1, hs2⟩, ⟨ms, hm1, hm2⟩, hn, ok, hl, hS, hM, hB, k⟩ := h
    obtain ⟨a, p, rfl, hp, hr2⟩ := hv.row
    cases r with
    | src =>
      have ha : SqT K H a [.str "source", .ref p] := hr2
      fail "rdk"
      exact k _ _ (Evl.Ex.refl _) hn
    | gear q d =>
      obtain ⟨q', ha, hq⟩ := hr2
      fail "rdk"
      refine ge_call DM hr pass0 ?_
      fail "rdk"
      obtain ⟨x, hx, hxd⟩ := nums_at hm2 (show d < M.length by rw [hl]; exact ok.2.2)
      refine i2_lst hm1 (atI_n hx) ?_
      fail "rdk"
      exact ⟨_, _, q, _, 4, B, rfl, TD.numI hq, hxd, ok.1, hM d List.mem_cons_self, by omega, k⟩
    | add b c =>
      have ha : SqT K H a [.str "adder", .ref p, .int b, .int c] := hr2
      fail "rdk"
      refine ge_call DA hr pass0 ?_
      fail "rdk"
      obtain ⟨x, hx, hxd⟩ := nums_at hm2 (show b < M.length by rw [hl]; exact ok.1)
      obtain ⟨y, hy, hyd⟩ := nums_at hm2 (show c < M.length by rw [hl]; exact ok.2)
      refine i2_lst hm1 (atI_n hx) ?_
      fail "rdk"
      refine i2_lst hm1 (atI_n hy) ?_
      fail "rdk"
      exact ⟨_, _, _, _, B, B, rfl, hxd, hyd, hM b List.mem_cons_self, hM c (List.mem_cons_of_mem _ List.mem_cons_self), by omega, k⟩
    | disc b c =>
      have ha : SqT K H a [.str "disc", .ref p, .int b, .int c] := hr2
      fail "rdk"
      refine ge_call DM hr pass0 ?_
      fail "rdk"
      obtain ⟨x, hx, hxd⟩ := nums_at hs2 ok.1
      obtain ⟨y, hy, hyd⟩ := nums_at hm2 (show c < M.length by rw [hl]; exact ok.2)
      refine i2_lst hs1 (atI_n hx) ?_
      fail "rdk"
      refine i2_lst hm1 (atI_n hy) ?_
      fail "rdk"
      exact ⟨_, _, _, _, 200, B, rfl, hxd, hyd, getD_all hS ok.1, hM c List.mem_cons_self, by omega, k⟩
/-! ends -/
abbrev End := Option Num
def endD : End → PyData
  | none => .none
  | some n => nD n
abbrev Ends2 := End × End
def limD (l : Ends2) : PyData := .tuple [endD l.1, endD l.2]
def EndOk (e : End) : Prop := ∀ n, e = some n → Nz 6 n
/-- a row of ends: anything is told -/
def spBeyond : Sp := fun vs H Q _ => ∃ (v nv : V) (l : Ends2) (n : Num) (B : Nat), vs = [v, nv] ∧ TD K H v (limD l) ∧ TD K H nv (nD n) ∧ EndOk l.1 ∧ EndOk l.2 ∧ Nz B n ∧ B ≤ 8000 ∧ ∀ b H', Ex H H' → Q (.bl b) H'
theorem TD.nd_ne {H : Hp} {v : V} {n : Num} (h : TD K H v (nD n)) : v ≠ .non := by
  obtain ⟨a, rfl, _⟩ := h.num
  exact fun e => by cases e
theorem ok_beyond (F : FnP K "is_beyond" "is_beyond" s_is_beyond f fd) (D : Df P w K mg base CX0 1 "is_above" ["one", "other"] (spAbove (K := K))) : FnOk P w K mg base CX0 2 f fd ["ends", "number"] (spBeyond (K := K)) := by
  refine fn0 F sc_is_beyond (fun vs H Q E h => ?_) (fun cdv A outer s H vs Q E hr h => ?_)
  · obtain ⟨_, _, _, _, _, rfl, _⟩ := h
    rfl
  · obtain ⟨v, nv, ⟨lo, hi⟩, n, B, rfl, hv, hn, h1, h2, hz, hB, k⟩ := h
    obtain ⟨a, xs, rfl, ha, hxs⟩ := hv.tupE
    obtain ⟨x, r, rfl, hx, hxs⟩ := hxs.consE
    obtain ⟨y, r, rfl, hy, hxs⟩ := hxs.consE
    cases hxs.nilE
    refine gb_cons (gs_asg (pg_tup rfl (pgs_cons (pg_name (i := 2) sc_is_beyond.nd rfl (Or.inl rfl)) (pgs_cons (pg_name (i := 3) sc_is_beyond.nd rfl (Or.inl rfl)) pgs_nil))) ?_)
    refine ge_var 0 rfl rfl ⟨a, _, rfl, ha, rfl, x, [y], rfl, y, [], rfl, rfl, ?_⟩
    have fin : GB (cxOf CX0 P w K mg base n_is_beyond "is_beyond" (defScope s_is_beyond) f cdv A outer s H E).nox (defBody s_is_beyond |>.drop 2) { nx := fun _ H' => Q .non H', rt := Q } [some (.ref a), some nv, some x, some y] H := by
      refine gb_one (gs_ret ?_)
      fail "rdk"
      cases hi with
      | none =>
        cases hy.nonE
        refine iteF ?_
        exact k _ _ (Evl.Ex.refl _)
      | some m =>
        rw [decide_eq_false (TD.nd_ne hy)]
        refine iteT ?_
        fail "rdk"
        refine ge_call D hr pass0 ?_
        fail "rdk"
        exact ⟨_, _, n, m, B, 6, rfl, hn, hy, hz, h2 m rfl, by omega, k _ _ (Evl.Ex.refl _)⟩
    refine gb_cons (gs_if (gt_w (gw_and ?_)))
    fail "rdk"
    cases lo with
    | none =>
      cases hx.nonE
      refine iteF ?_
      refine iteF ?_
      exact gb_nil fin
    | some m =>
      rw [decide_eq_false (TD.nd_ne hx)]
      refine iteT ?_
      fail "rdk"
      refine ge_call D hr pass0 ?_
      fail "rdk"
      refine ⟨_, _, m, n, 6, B, rfl, hx, hn, h1 m rfl, hz, by omega, _, rfl, ite_b (fun _ => ?_) fun _ => ?_⟩
      · fail "rdk"
        exact k _ _ (Evl.Ex.refl _)
      · exact gb_nil fin
/-- too many figures -/
theorem pow60 : ((10 : Int) ^ (60 : Int).toNat) = 10 ^ 60 := rfl
def longB (n : Num) : Bool := if (10 : Int) ^ 60 ≤ (n.1.natAbs : Int) then true else decide ((10 : Int) ^ 60 ≤ n.2)
theorem long_nz {n : Num} (h : longB n = false) (hp : 0 < n.2) : Nz 200 n := by
  unfold longB at h
  split at h
  · cases h
  · have h2 := of_decide_eq_false h
    have e : (10 : Int) ^ 60 < 2 ^ 200 := by decide +kernel
    have e2 : ((2 : Int) ^ 200) = ((2 ^ 200 : Nat) : Int) := by decide +kernel
    refine ⟨hp, ?_, ?_⟩ <;> omega
def spLong : Sp := fun vs H Q _ => ∃ (v : V) (n : Num), vs = [v] ∧ TD K H v (nD n) ∧ Q (.bl (longB n)) H
theorem ok_long (T : Tx K mg) (F : FnP K "is_long" "is_long" s_is_long f fd) : FnOk P w K mg base CX0 1 f fd ["number"] (spLong (K := K)) := by
  refine fn0 F sc_is_long (fun vs H Q E h => ?_) (fun cdv A outer s H vs Q E hr h => ?_)
  · obtain ⟨_, _, rfl, _⟩ := h
    rfl
  · obtain ⟨v, n, rfl, hv, k⟩ := h
    obtain ⟨p, rfl, hp⟩ := hv.num
    fail "rdk"
    have hc : CPow 10 60 := ⟨by decide, by decide, by decide⟩
    refine o2_pow hc ?_
    · fail "rd"
      rw [pow60]
      unfold longB at k
      refine ⟨_, rfl, ite_d (fun h => ?_) fun h => ?_⟩
      · rw [if_pos h] at k
        exact k
      · rw [if_neg h] at k
        fail "rd"
        refine o2_pow hc ?_
        rw [pow60]
        fail "rd"
        exact k
end
end RD
namespace RD
open PySem PySem.Spec PyProof.Rows L2 L2H
/-! ### what changes -/
/-- only these objects change, nothing goes -/
structure Fr (M : List Addr) (H H' : Hp) : Prop where
  keep : ∀ a o, H a = some o → a ∉ M → H' a = some o
  dom : ∀ a, H' a = none → H a = none
theorem Fr.refl {M : List Addr} {H : Hp} : Fr M H H := ⟨fun _ _ h _ => h, fun _ h => h⟩
theorem Fr.trans {M : List Addr} {H H1 H2 : Hp} (a : Fr M H H1) (b : Fr M H1 H2) : Fr M H H2 := ⟨fun x o h n => b.keep x o (a.keep x o h n) n, fun x h => a.dom x (b.dom x h)⟩
theorem Fr.ex {M : List Addr} {H H' : Hp} (e : Ex H H') : Fr M H H' := ⟨fun a o h _ => e a o h, fun a h => Evl.fresh_back e h⟩
theorem Fr.upd {M : List Addr} {H : Hp} {a : Addr} {o : HO} (h : a ∈ M) : Fr M H (L2.upd H a o) := ⟨fun x u hx n => by rw [upd_ne (fun (e : x = a) => n (by rw [e]; exact h))]; exact hx, fun x hx => by
  by_cases e : x = a
  · rw [e, upd_same] at hx; cases hx
  · rw [upd_ne e] at hx; exact hx⟩
theorem Fr.mono {M N : List Addr} {H H' : Hp} (h : Fr M H H') (s : ∀ a ∈ M, a ∈ N) : Fr N H H' := ⟨fun a o q n => h.keep a o q fun m => n (s a m), h.dom⟩
/-- an address that was fresh may be one of those that change -/
theorem Fr.mut {M : List Addr} {H H' : Hp} {a : Addr} {o : HO} (h : Fr M H H') (n : H a = none) : Fr M H (L2.upd H' a o) := ⟨fun x u hx m => by
  rw [upd_ne (ne_of_none hx n)]
  exact h.keep x u hx m, fun x hx => by
  by_cases e : x = a
  · rw [e, upd_same] at hx; cases hx
  · rw [upd_ne e] at hx; exact h.dom x hx⟩
/-- what is not a tuple -/
def NT (H : Hp) (a : Addr) : Prop := (∃ xs, H a = some (.lst xs)) ∨ (∃ C dx fs, H a = some (.ins C dx fs)) ∨ ∃ kvs, H a = some (.dK kvs)
theorem Fr.tk {K : PySem.W.Frag} {M : List Addr} {H H' : Hp} (h : Fr M H H') (n : ∀ a ∈ M, NT H a) : Tk K H H' := fun a xs q => by
  have key : ∀ {o : HO}, H a = some o → (∀ zs, o ≠ .lst zs) → (∀ C dx fs, o ≠ .ins C dx fs) → (∀ kvs, o ≠ .dK kvs) → H' a = some o := fun {o} ho h1 h2 h3 => h.keep a o ho fun hm => by
    rcases n a hm with ⟨zs, z⟩ | ⟨C, dx, fs, z⟩ | ⟨kvs, z⟩
    · rw [ho] at z; exact h1 _ (Option.some.inj z)
    · rw [ho] at z; exact h2 _ _ _ (Option.some.inj z)
    · rw [ho] at z; exact h3 _ (Option.some.inj z)
  rcases q with (q | ⟨o, q⟩) | q
  · exact .inl (.inl (key q (fun _ z => by cases z) (fun _ _ _ z => by cases z) fun _ z => by cases z))
  · exact .inl (.inr ⟨o, key q (fun _ z => by cases z) (fun _ _ _ z => by cases z) fun _ z => by cases z⟩)
  · exact .inr q
/-! ### a bench -/
structure BS where
  rows : Rows
  stood : List Num
  sums : List Num
  outs : List Bool
  lims : List Ends2
structure Fv where
  r : Addr
  s : Addr
  u : Addr
  o : Addr
  l : Addr
def Fv.list (F : Fv) : List Addr := [F.r, F.s, F.u, F.o, F.l]
/-- a list that may be written, of data -/
def LA (K : PySem.W.Frag) (H : Hp) (a : Addr) (ds : List PyData) : Prop := ∃ ys, H a = some (.lst ys) ∧ TDs K H ys ds
theorem LA.ld {K : PySem.W.Frag} {H : Hp} {a : Addr} {ds : List PyData} (h : LA K H a ds) : LD K H a ds := let ⟨ys, h1, h2⟩ := h; ⟨ys, Evl.sq_of h1, h2⟩
theorem LA.ex {K : PySem.W.Frag} {H H' : Hp} {a : Addr} {ds : List PyData} (e : Ex H H') (h : LA K H a ds) : LA K H' a ds := let ⟨ys, h1, h2⟩ := h; ⟨ys, e _ _ h1, h2.ex e⟩
theorem LA.keep {K : PySem.W.Frag} {H H' : Hp} {a : Addr} {ds : List PyData} (t : Tk K H H') (e : H' a = H a) (h : LA K H a ds) : LA K H' a ds := let ⟨ys, h1, h2⟩ := h; ⟨ys, e.trans h1, h2.tk t⟩
theorem LA.nt {K : PySem.W.Frag} {H : Hp} {a : Addr} {ds : List PyData} (h : LA K H a ds) : NT H a := let ⟨ys, h1, _⟩ := h; .inl ⟨ys, h1⟩
def boolsD (bs : List Bool) : List PyData := bs.map PyData.bool
structure FvAt (K : PySem.W.Frag) (H : Hp) (F : Fv) (S : BS) : Prop where
  r : LA K H F.r (rowsD S.rows)
  s : LA K H F.s (numsD S.stood)
  u : LA K H F.u (numsD S.sums)
  o : LA K H F.o (boolsD S.outs)
  l : LA K H F.l (S.lims.map limD)
theorem FvAt.keep {K : PySem.W.Frag} {H H' : Hp} {F : Fv} {S : BS} (t : Tk K H H') (e : ∀ a ∈ F.list, H' a = H a) (h : FvAt K H F S) : FvAt K H' F S :=
  ⟨h.r.keep t (e _ (by simp [Fv.list])), h.s.keep t (e _ (by simp [Fv.list])), h.u.keep t (e _ (by simp [Fv.list])), h.o.keep t (e _ (by simp [Fv.list])), h.l.keep t (e _ (by simp [Fv.list]))⟩
theorem FvAt.nt {K : PySem.W.Frag} {H : Hp} {F : Fv} {S : BS} (h : FvAt K H F S) : ∀ a ∈ F.list, NT H a := by
  intro a ha
  simp only [Fv.list, List.mem_cons, List.not_mem_nil, or_false] at ha
  rcases ha with rfl | rfl | rfl | rfl | rfl
  · exact h.r.nt
  · exact h.s.nt
  · exact h.u.nt
  · exact h.o.nt
  · exact h.l.nt
def bf (F : Fv) (p : Addr) : List (Str × V) := [("rows", .ref F.r), ("stood", .ref F.s), ("sums", .ref F.u), ("outs", .ref F.o), ("limits", .ref F.l), ("past", .ref p)]
/-- a bench's own objects -/
def fpB (b p : Addr) (F : Fv) (Fs : List Fv) : List Addr := b :: p :: (F.list ++ Fs.flatMap Fv.list)
structure BenchAt (K : PySem.W.Frag) (H : Hp) (C b dx p : Addr) (F : Fv) (Fs : List Fv) (S : BS) (past : List BS) : Prop where
  ins : H b = some (.ins C dx (bf F p))
  cur : FvAt K H F S
  pst : ∃ ts : List Addr, H p = some (.lst (ts.map V.ref)) ∧ ts.length = Fs.length ∧ ∀ (i : Nat) t Fi, ts[i]? = some t → Fs[i]? = some Fi → SqT K H t (Fi.list.map V.ref)
  hist : ∀ (i : Nat) Fi Si, Fs[i]? = some Fi → past[i]? = some Si → FvAt K H Fi Si
  len : Fs.length = past.length
  nd : (fpB b p F Fs).Nodup
section
variable {K : PySem.W.Frag} {H H' : Hp} {C b dx p : Addr} {F : Fv} {Fs : List Fv} {S : BS} {past : List BS}
theorem mem_fs {Fi : Fv} {i : Nat} {a : Addr} (h : Fs[i]? = some Fi) (ha : a ∈ Fi.list) : a ∈ Fs.flatMap Fv.list := List.mem_flatMap.mpr ⟨Fi, List.mem_of_getElem? h, ha⟩
theorem BenchAt.keep (B : BenchAt K H C b dx p F Fs S past) (t : Tk K H H') (e : ∀ a ∈ fpB b p F Fs, H' a = H a) : BenchAt K H' C b dx p F Fs S past := by
  refine ⟨(e b (by simp [fpB])).trans B.ins, B.cur.keep t fun a ha => e a (by simp [fpB, ha]), ?_, fun i Fi Si h1 h2 => (B.hist i Fi Si h1 h2).keep t fun a ha => e a ?_, B.len, B.nd⟩
  · obtain ⟨ts, h1, h2, h3⟩ := B.pst
    exact ⟨ts, (e p (by simp [fpB])).trans h1, h2, fun i t' Fi a c => t _ _ (h3 i t' Fi a c)⟩
  · have := mem_fs h1 ha
    simp [fpB, this]
theorem BenchAt.nt (B : BenchAt K H C b dx p F Fs S past) : ∀ a ∈ fpB b p F Fs, NT H a := by
  intro a ha
  simp only [fpB, List.mem_cons, List.mem_append] at ha
  rcases ha with rfl | rfl | ha | ha
  · exact .inr (.inl ⟨_, _, _, B.ins⟩)
  · obtain ⟨ts, h1, _⟩ := B.pst
    exact .inl ⟨_, h1⟩
  · exact B.cur.nt a ha
  · obtain ⟨Fi, hF, hm⟩ := List.mem_flatMap.mp ha
    obtain ⟨i, hi⟩ := List.getElem?_of_mem hF
    have hl : i < past.length := by rw [← B.len]; exact (List.getElem?_eq_some_iff.mp hi).1
    exact (B.hist i Fi _ hi (List.getElem?_eq_getElem hl)).nt a hm
theorem NT.dom {a : Addr} (h : NT H a) : H a ≠ none := by
  rcases h with ⟨_, h⟩ | ⟨_, _, _, h⟩ | ⟨_, h⟩ <;> rw [h] <;> intro z <;> cases z
theorem BenchAt.ex (B : BenchAt K H C b dx p F Fs S past) (e : Ex H H') : BenchAt K H' C b dx p F Fs S past := B.keep e.tk fun a ha => by
  have := (B.nt a ha).dom
  cases h : H a with
  | none => exact absurd h this
  | some o => exact e a o h
/-- by what another one does -/
theorem BenchAt.fr {M : List Addr} (B : BenchAt K H C b dx p F Fs S past) (f : Fr M H H') (n : ∀ a ∈ M, NT H a) (d : ∀ a ∈ fpB b p F Fs, a ∉ M) : BenchAt K H' C b dx p F Fs S past := B.keep (f.tk n) fun a ha => by
  have := (B.nt a ha).dom
  cases h : H a with
  | none => exact absurd h this
  | some o => exact f.keep a o h (d a ha)
theorem BenchAt.tk {M : List Addr} (B : BenchAt K H C b dx p F Fs S past) (f : Fr (fpB b p F Fs) H H') : Tk K H H' := f.tk B.nt
theorem BenchAt.mem_b : b ∈ fpB b p F Fs := by simp [fpB]
theorem BenchAt.mem_p : p ∈ fpB b p F Fs := by simp [fpB]
theorem BenchAt.mem_f {a : Addr} (h : a ∈ F.list) : a ∈ fpB b p F Fs := by simp [fpB, h]
/-- the bench's own objects behind a deed: those of before, or new ones -/
def Nf (H : Hp) (M M' : List Addr) : Prop := ∀ a ∈ M', a ∈ M ∨ H a = none
theorem Nf.refl {M : List Addr} : Nf H M M := fun _ h => .inl h
theorem Nf.trans {M M1 M2 : List Addr} {H1 : Hp} (a : Nf H M M1) (f : ∀ x, H1 x = none → H x = none) (b : Nf H1 M1 M2) : Nf H M M2 := fun x h => (b x h).elim (a x) fun h => .inr (f x h)
/-! fields -/
theorem bf_rows : (bf F p).lookup (Str.ofString "rows") = some (V.ref (F.r)) := by rfl
theorem bf_stood : (bf F p).lookup (Str.ofString "stood") = some (V.ref (F.s)) := by rfl
theorem bf_sums : (bf F p).lookup (Str.ofString "sums") = some (V.ref (F.u)) := by rfl
theorem bf_outs : (bf F p).lookup (Str.ofString "outs") = some (V.ref (F.o)) := by rfl
theorem bf_limits : (bf F p).lookup (Str.ofString "limits") = some (V.ref (F.l)) := by rfl
theorem bf_past : (bf F p).lookup (Str.ofString "past") = some (V.ref (p)) := by rfl
theorem put_rows {v : Addr} : putF "rows" (.ref v) (bf F p) = bf { F with r := v } p := by rfl
theorem put_stood {v : Addr} : putF "stood" (.ref v) (bf F p) = bf { F with s := v } p := by rfl
theorem put_sums {v : Addr} : putF "sums" (.ref v) (bf F p) = bf { F with u := v } p := by rfl
theorem put_outs {v : Addr} : putF "outs" (.ref v) (bf F p) = bf { F with o := v } p := by rfl
theorem put_limits {v : Addr} : putF "limits" (.ref v) (bf F p) = bf { F with l := v } p := by rfl
/-- the class -/
structure BC (K : PySem.W.Frag) (C : Addr) : Prop where
  cls : Cls K C
  rows : NoAttr K C "rows"
  stood : NoAttr K C "stood"
  sums : NoAttr K C "sums"
  outs : NoAttr K C "outs"
  limits : NoAttr K C "limits"
  past : NoAttr K C "past"
/-! the objects are apart -/
theorem fp_apart (h : (fpB b p F Fs).Nodup) : b ≠ p ∧ b ∉ F.list ∧ p ∉ F.list ∧ F.list.Nodup ∧ (∀ a ∈ Fs.flatMap Fv.list, a ≠ b ∧ a ≠ p ∧ a ∉ F.list) ∧ (Fs.flatMap Fv.list).Nodup := by
  unfold fpB at h
  rw [List.nodup_cons, List.nodup_cons, List.nodup_append] at h
  obtain ⟨h1, h2, h3, h4, h5⟩ := h
  simp only [List.mem_cons, List.mem_append, not_or] at h1 h2
  exact ⟨h1.1, h1.2.1, h2.1, h3, fun a ha => ⟨fun e => h1.2.2 (e ▸ ha), fun e => h2.2 (e ▸ ha), fun hm => h5 a hm a ha rfl⟩, h4⟩
theorem fp_of {b p : Addr} {F : Fv} {Fs : List Fv} (h1 : b ≠ p) (h2 : b ∉ F.list) (h3 : p ∉ F.list) (h4 : F.list.Nodup) (h5 : ∀ a ∈ Fs.flatMap Fv.list, a ≠ b ∧ a ≠ p ∧ a ∉ F.list) (h6 : (Fs.flatMap Fv.list).Nodup) : (fpB b p F Fs).Nodup := by
  unfold fpB
  rw [List.nodup_cons, List.nodup_cons, List.nodup_append]
  simp only [List.mem_cons, List.mem_append, not_or]
  exact ⟨⟨h1, h2, fun h => (h5 b h).1 rfl⟩, ⟨h3, fun h => (h5 p h).2.1 rfl⟩, h4, h6, fun a ha c hc e => (h5 c hc).2.2 (e ▸ ha)⟩
theorem fv_nd {r s u o l : Addr} : (Fv.list ⟨r, s, u, o, l⟩).Nodup ↔ (r ≠ s ∧ r ≠ u ∧ r ≠ o ∧ r ≠ l) ∧ (s ≠ u ∧ s ≠ o ∧ s ≠ l) ∧ (u ≠ o ∧ u ≠ l) ∧ o ≠ l := by
  simp [Fv.list, List.nodup_cons]
end
end RD
namespace RD
open PySem PySem.Spec PyProof.Rows L2 L2H
/-- a row with another start -/
theorem TD.rowW {K : PySem.W.Frag} {H : Hp} {v : V} {st : Num} {r : Row} (h : TD K H v (rowD st r)) : ∃ a nm x rest, v = .ref a ∧ SqT K H a (.str nm :: x :: rest) ∧ TD K H x (nD st) ∧ rest.length ≤ 2 ∧
    ∀ H' t w n, Tk K H H' → SqT K H' t (.str nm :: w :: rest) → TD K H' w (nD n) → TD K H' (.ref t) (rowD n r) := by
  cases r with
  | src =>
    obtain ⟨a, xs, rfl, h1, h2⟩ := h.tupE
    obtain ⟨x, r, rfl, hx, h2⟩ := h2.consE
    obtain ⟨y, r, rfl, hy, h2⟩ := h2.consE
    cases h2.nilE
    cases hx.strE
    exact ⟨a, _, y, [], rfl, h1, hy, by decide, fun H' t w n tk ht hw => .tup ht (.cons (.str _) (.cons hw .nil))⟩
  | gear r s =>
    obtain ⟨a, xs, rfl, h1, h2⟩ := h.tupE
    obtain ⟨x, r, rfl, hx, h2⟩ := h2.consE
    obtain ⟨y, r, rfl, hy, h2⟩ := h2.consE
    obtain ⟨z, r, rfl, hz, h2⟩ := h2.consE
    obtain ⟨u, r, rfl, hu, h2⟩ := h2.consE
    cases h2.nilE
    cases hx.strE
    exact ⟨a, _, y, [z, u], rfl, h1, hy, by show 2 ≤ 2; decide, fun H' t w n tk ht hw => .tup ht (.cons (.str _) (.cons hw (.cons (hz.tk tk) (.cons (hu.tk tk) .nil))))⟩
  | add b c =>
    obtain ⟨a, xs, rfl, h1, h2⟩ := h.tupE
    obtain ⟨x, r, rfl, hx, h2⟩ := h2.consE
    obtain ⟨y, r, rfl, hy, h2⟩ := h2.consE
    obtain ⟨z, r, rfl, hz, h2⟩ := h2.consE
    obtain ⟨u, r, rfl, hu, h2⟩ := h2.consE
    cases h2.nilE
    cases hx.strE
    exact ⟨a, _, y, [z, u], rfl, h1, hy, by show 2 ≤ 2; decide, fun H' t w n tk ht hw => .tup ht (.cons (.str _) (.cons hw (.cons (hz.tk tk) (.cons (hu.tk tk) .nil))))⟩
  | disc b c =>
    obtain ⟨a, xs, rfl, h1, h2⟩ := h.tupE
    obtain ⟨x, r, rfl, hx, h2⟩ := h2.consE
    obtain ⟨y, r, rfl, hy, h2⟩ := h2.consE
    obtain ⟨z, r, rfl, hz, h2⟩ := h2.consE
    obtain ⟨u, r, rfl, hu, h2⟩ := h2.consE
    cases h2.nilE
    cases hx.strE
    exact ⟨a, _, y, [z, u], rfl, h1, hy, by show 2 ≤ 2; decide, fun H' t w n tk ht hw => .tup ht (.cons (.str _) (.cons hw (.cons (hz.tk tk) (.cons (hu.tk tk) .nil))))⟩
/-- rows, the shafts starting where they stand -/
def standR (rs : Rows) (S : List Num) : Rows := (List.range rs.length).map fun i => (S.getD i n0, (rs.getD i (n0, .src)).2)
theorem cut2_ne {n : Nat} (h : 2 ≤ n) {m : Nat} : ¬ (HT.sIx n 0 (some ((2 : Nat) : Int)) = 0 ∧ HT.sIx n n none = m) := by
  rw [HT.sIx_nat]
  omega
section
variable {X : Cx} {σ : St} {H : Hp} {Q : VK} {C b dx p : Addr} {F : Fv} {f : Str} {v : V} {p1 pos : Pos}
/-- self.f -/
theorem ge_self {xn : Str} (i : Nat) (hN : X.N[i]? = some xn) (hi : σ[i]? = some (some (.ref b))) (c : Cls X.K C) (h : H b = some (.ins C dx (bf F p))) (n : NoAttr X.K C f) (l : (bf F p).lookup f = some v) (q : Q v H)
    (hv : Vis X.env.scope xn := by first | exact Or.inl rfl | exact Or.inr (Or.inl rfl) | exact Or.inr (Or.inr rfl)) (hd : (xn == ("__debug__" : Str)) = false := by decide) (hcd : (xn == ("__classdict__" : Str)) = false := by decide)
    (hb : attributeBase (.Name xn p1) f X.env (eval (.Name xn p1) X.env) = eval (.Name xn p1) X.env := by rfl) : GE X (.Attribute (.Name xn p1) f pos) σ H Q :=
  ge_fld (ge_var i hN hi ⟨b, C, dx, _, v, rfl, h, c, n, l, q⟩ hv hd hcd) hb
end
section
variable {P : Program} {w : World} {K : PySem.W.Frag} {mg : Str → Option Value} {base : Heap} {f : Addr} {fd : FuncData} {C : Addr}
def spStands : Sp := fun vs H Q _ => ∃ b dx p F Fs S past, vs = [.ref b] ∧ BenchAt K H C b dx p F Fs S past ∧ ∀ q H', H q = none → Ex H H' → LA K H' q (numsD S.stood) → Q (.ref q) H'
theorem ok_stands (T : Tx K mg) (c : BC K C) (F : FnP K "stands" "Bench.stands" s_Bench_stands f fd) : FnOk P w K mg base CX0 1 f fd ["self"] (spStands (K := K) (C := C)) := by
  refine fn0 F sc_Bench_stands (fun vs H Q E h => ?_) (fun cdv A outer s H vs Q E hr h => ?_)
  · obtain ⟨_, _, _, _, _, _, _, rfl, _⟩ := h
    rfl
  · obtain ⟨b, dx, p, F, Fs, S, past, rfl, B, k⟩ := h
    obtain ⟨ys, h1, h2⟩ := B.cur.s
    refine gb_one (gs_ret (ge_callT T.list PyProof.Rows.boot_list (ga_cons (ge_self 0 rfl rfl c.cls B.ins c.stood bf_stood ?_))))
    refine ga_nil (c1_listL (Evl.sq_of h1) fun q H2 hq e hl => ?_)
    exact k q H2 hq e ⟨ys, hl, h2.ex e⟩
def spDeeds : Sp := fun vs H Q _ => ∃ b dx p F Fs S past, vs = [.ref b] ∧ BenchAt K H C b dx p F Fs S past ∧ Q (.int (past.length : Nat)) H
theorem ok_deeds (T : Tx K mg) (c : BC K C) (F : FnP K "deeds" "Bench.deeds" s_Bench_deeds f fd) : FnOk P w K mg base CX0 1 f fd ["self"] (spDeeds (K := K) (C := C)) := by
  refine fn0 F sc_Bench_deeds (fun vs H Q E h => ?_) (fun cdv A outer s H vs Q E hr h => ?_)
  · obtain ⟨_, _, _, _, _, _, _, rfl, _⟩ := h
    rfl
  · obtain ⟨b, dx, p, F, Fs, S, past, rfl, B, k⟩ := h
    obtain ⟨ts, h1, h2, h3⟩ := B.pst
    refine gb_one (gs_ret (ge_callB T.len boot_len (ga_cons (ge_self 0 rfl rfl c.cls B.ins c.past bf_past ?_))))
    refine ga_nil (c1_lenL (Evl.sq_of h1) ?_)
    rw [List.length_map, h2, B.len]
    exact k
def spMoved : Sp := fun vs H Q _ => ∃ (b dx p : Addr) (F : Fv) (Fs : List Fv) (S : BS) (past : List BS) (i : Nat), vs = [.ref b, .int i] ∧ BenchAt K H C b dx p F Fs S past ∧ i < S.sums.length ∧ ∀ v, TD K H v (nD (S.sums.getD i n0)) → Q v H
theorem ok_moved (c : BC K C) (F : FnP K "moved" "Bench.moved" s_Bench_moved f fd) : FnOk P w K mg base CX0 1 f fd ["self", "shaft"] (spMoved (K := K) (C := C)) := by
  refine fn0 F sc_Bench_moved (fun vs H Q E h => ?_) (fun cdv A outer s H vs Q E hr h => ?_)
  · obtain ⟨_, _, _, _, _, _, _, _, rfl, _⟩ := h
    rfl
  · obtain ⟨b, dx, p, F, Fs, S, past, i, rfl, B, hi, k⟩ := h
    obtain ⟨ys, h1, h2⟩ := B.cur.u
    obtain ⟨x, hx, hxd⟩ := nums_at h2 hi
    refine gb_one (gs_ret (ge_ix (ge_self 0 rfl rfl c.cls B.ins c.sums bf_sums ?_)))
    fail "rdk"
    exact i2_lst (Evl.sq_of h1) (atI_n hx) (k x hxd)
def spMachine : Sp := fun vs H Q _ => ∃ b dx p F Fs S past, vs = [.ref b] ∧ BenchAt K H C b dx p F Fs S past ∧ S.stood.length = S.rows.length ∧ S.rows.length ≤ 5 ∧ ∀ q H', H q = none → Ex H H' → LA K H' q (rowsD (standR S.rows S.stood)) → Q (.ref q) H'
theorem ok_machine (T : Tx K mg) (c : BC K C) (F : FnP K "machine" "Bench.machine" s_Bench_machine f fd) : FnOk P w K mg base CX0 1 f fd ["self"] (spMachine (K := K) (C := C)) := by
  refine fn0 F sc_Bench_machine (fun vs H Q E h => ?_) (fun cdv A outer s H vs Q E hr h => ?_)
  · obtain ⟨_, _, _, _, _, _, _, rfl, _⟩ := h
    rfl
  · obtain ⟨b, dx, p, F, Fs, S, past, rfl, B, hl, h5, k⟩ := h
    obtain ⟨rs, r1, r2⟩ := B.cur.r
    obtain ⟨ss, s1, s2⟩ := B.cur.s
    have hrl := rows_len r2
    have hsl := nums_len s2
    refine gb_one (gs_ret (GL.ge <| gl_lcZ rfl sc_Bench_machine.nd T.zip (by decide) (blkOk_by (N := n_Bench_machine) (sc := defScope s_Bench_machine) (by decide +kernel)) ?_ (fun _ _ _ _ _ => pg_tup rfl (pgs_cons (pg_name (i := 1) sc_Bench_machine.nd rfl (Or.inl rfl)) (pgs_cons (pg_name (i := 2) sc_Bench_machine.nd rfl (Or.inl rfl)) pgs_nil)))))
    refine ge_self 0 rfl rfl c.cls B.ins c.rows bf_rows ?_
    refine ge_self 0 rfl rfl c.cls B.ins c.stood bf_stood ?_
    refine ⟨F.r, F.s, rs, ss, fun i => (rowsD (standR S.rows S.stood)).getD i .none, rfl, rfl, Evl.sq_of r1, Evl.sq_of s1, by omega, by omega, fun i x y H2 hx hy e2 => ⟨fun s0 H0 C cl fp => ?_⟩, fun q H2 ys hq e2 h2 hy => ?_⟩
    · have hi : i < S.rows.length := by have := (List.getElem?_eq_some_iff.mp hx).1; omega
      obtain ⟨x', hx', hxd⟩ := rows_at r2 hi
      rw [hx] at hx'
      cases hx'
      obtain ⟨y', hy', hyd⟩ := nums_at s2 (show i < S.stood.length by omega)
      rw [hy] at hy'
      cases hy'
      have hde : (rowsD (standR S.rows S.stood)).getD i .none = rowD (S.stood.getD i n0) S.rows[i].2 := by
        unfold rowsD standR
        rw [List.getD_eq_getElem?_getD, List.getElem?_map, List.getElem?_map, List.getElem?_range hi]
        show rowD _ (S.rows.getD i (n0, Row.src)).2 = _
        rw [List.getD_eq_getElem?_getD (l := S.rows), List.getElem?_eq_getElem hi]
        rfl
      have hd2 := hxd.ex e2
      obtain ⟨a, nm, x0, rest, rfl, ha, hx0, hrest, mk⟩ := hd2.rowW
      refine ge_bin ?_
      fail "rdk"
      refine i2_tup ha (atI_n (n := 0) rfl) ?_
      fail "rdk"
      refine ⟨Nat.le_of_ble_eq_true rfl, fun t1 H3 ht1 e3 h3 => ?_⟩
      refine ge_slT ?_
      fail "rdk"
      refine go_some (ge_int ⟨2, rfl, go_none ⟨a, _, rfl, Evl.ex_t e3 ha, cut2_ne (by simp), fun t2 H4 ht2 e4 h4 => ?_⟩⟩)
      rw [show (2 : Int) = ((2 : Nat) : Int) from rfl, cut_from (by simp)] at h4
      have h4' : H4 t2 = some (.tup rest) := h4
      refine o2_catT (Evl.st_of (e4 _ _ h3)) (Evl.st_of h4') (by simp) (by simp; omega) fun t H5 e5 h5 => ?_
      exact ⟨(e3.trans e4).trans e5, by dsimp only; rw [hde]; exact mk H5 t y _ (Ex.tk ((e3.trans e4).trans e5)) h5 ((hyd.ex e2).ex ((e3.trans e4).trans e5))⟩
    · have e6 : ((List.range rs.length).filter fun _ => true).map (fun i => (rowsD (standR S.rows S.stood)).getD i .none) = rowsD (standR S.rows S.stood) := by
        rw [kept_all]
        refine List.ext_getElem? fun i => ?_
        rw [List.getElem?_map]
        have hlen : (rowsD (standR S.rows S.stood)).length = S.rows.length := by unfold rowsD standR; simp
        by_cases hi : i < S.rows.length
        · rw [List.getElem?_range (by omega)]
          show some ((rowsD (standR S.rows S.stood)).getD i .none) = _
          rw [List.getD_eq_getElem?_getD, List.getElem?_eq_getElem (by omega)]
          rfl
        · rw [List.getElem?_eq_none (by simp; omega), List.getElem?_eq_none (by omega)]
          rfl
      rw [e6] at hy
      exact k q H2 hq e2 ⟨ys, h2, hy⟩
end
end RD
namespace RD
open PySem PySem.Spec PyProof.Rows L2 L2H
section
variable {K : PySem.W.Frag} {H H6 : Hp} {C b dx p t : Addr} {F Fk : Fv} {Fs : List Fv} {S : BS} {past : List BS} {ys : List V}
/-- what was is kept -/
theorem BenchAt.kept (B : BenchAt K H C b dx p F Fs S past) (hp : H p = some (.lst ys)) (hE : Ex H H6) (hk : FvAt K H6 Fk S) (ht : H6 t = some (.tup (Fk.list.map V.ref))) (nk : Fk.list.Nodup) (fr : ∀ a ∈ Fk.list, H a = none) :
    BenchAt K (upd H6 p (.lst (ys ++ [.ref t]))) C b dx p F (Fs ++ [Fk]) S (past ++ [S]) := by
  obtain ⟨ts, h1, h2, h3⟩ := B.pst
  rw [hp] at h1
  cases h1
  have B6 := B.ex hE
  obtain ⟨a1, a2, a3, a4, a5, a6⟩ := fp_apart B.nd
  have tk : Tk K H6 (upd H6 p (.lst (ts.map V.ref ++ [.ref t]))) := (Fr.upd (M := [p]) (by simp)).tk fun a ha => by
    have e : a = p := by simpa using ha
    rw [e]
    exact .inl ⟨_, hE p _ hp⟩
  have un : ∀ a, a ≠ p → (upd H6 p (.lst (ts.map V.ref ++ [.ref t]))) a = H6 a := fun a ha => upd_ne ha
  have dom : ∀ a, H a = none → a ∉ fpB b p F Fs := fun a ha hm => (B.nt a hm).dom ha
  refine ⟨(un b a1).trans B6.ins, B6.cur.keep tk fun a ha => un a fun z => a3 (z ▸ ha), ⟨ts ++ [t], ?_, ?_, ?_⟩, ?_, ?_, ?_⟩
  · rw [upd_same, List.map_append]
    rfl
  · rw [List.length_append, List.length_append, h2]
    rfl
  · intro i t' Fi c1 c2
    by_cases hi : i < ts.length
    · rw [List.getElem?_append_left hi] at c1
      rw [List.getElem?_append_left (by omega)] at c2
      exact tk _ _ (Evl.ex_t hE (h3 i t' Fi c1 c2))
    · have hl := (List.getElem?_eq_some_iff.mp c1).1
      rw [List.length_append, List.length_singleton] at hl
      have ei : i = ts.length := by omega
      subst ei
      rw [List.getElem?_append_right (Nat.le_refl _), Nat.sub_self] at c1
      rw [List.getElem?_append_right (by omega), h2, Nat.sub_self] at c2
      cases c1
      cases c2
      exact tk _ _ (Evl.st_of ht)
  · intro i Fi Si c1 c2
    by_cases hi : i < Fs.length
    · rw [List.getElem?_append_left hi] at c1
      rw [List.getElem?_append_left (by rw [← B.len]; exact hi)] at c2
      refine (B6.hist i Fi Si c1 c2).keep tk fun a ha => un a fun z => ?_
      exact (a5 a (mem_fs c1 ha)).2.1 z
    · have hl := (List.getElem?_eq_some_iff.mp c1).1
      rw [List.length_append, List.length_singleton] at hl
      have ei : i = Fs.length := by omega
      subst ei
      rw [List.getElem?_append_right (Nat.le_refl _), Nat.sub_self] at c1
      rw [List.getElem?_append_right (by rw [B.len]; exact Nat.le_refl _), B.len, Nat.sub_self] at c2
      cases c1
      cases c2
      exact hk.keep tk fun a ha => un a fun z => dom a (fr a ha) (by rw [z]; exact BenchAt.mem_p)
  · rw [List.length_append, List.length_append, B.len]
    rfl
  · refine fp_of a1 a2 a3 a4 ?_ ?_
    · intro a ha
      rw [List.flatMap_append] at ha
      rcases List.mem_append.mp ha with h | h
      · exact a5 a h
      · have hm : a ∈ Fk.list := by simpa using h
        have := dom a (fr a hm)
        exact ⟨fun z => this (by rw [z]; exact BenchAt.mem_b), fun z => this (by rw [z]; exact BenchAt.mem_p), fun z => this (BenchAt.mem_f z)⟩
    · rw [List.flatMap_append, List.nodup_append]
      refine ⟨a6, by simpa using nk, fun a ha c hc z => ?_⟩
      have hm : c ∈ Fk.list := by simpa using hc
      refine dom c (fr c hm) ?_
      rw [← z]
      simp [fpB, ha]
theorem LA.other {a x : Addr} {xs zs : List V} {ds : List PyData} (h : LA K H a ds) (ne : a ≠ x) (hx : H x = some (.lst xs)) : LA K (upd H x (.lst zs)) a ds := h.keep (tk_mut hx) (upd_ne ne)
theorem LA.self {x : Addr} {xs zs : List V} {ds : List PyData} (h : TDs K H zs ds) (hx : H x = some (.lst xs)) : LA K (upd H x (.lst zs)) x ds := ⟨zs, upd_same, h.tk (tk_mut hx)⟩
/-- the five current lists change -/
theorem BenchAt.cur' {H' : Hp} {S' : BS} (B : BenchAt K H C b dx p F Fs S past) (f : Fr F.list H H') (hc : FvAt K H' F S') : BenchAt K H' C b dx p F Fs S' past := by
  obtain ⟨a1, a2, a3, a4, a5, a6⟩ := fp_apart B.nd
  have tk : Tk K H H' := f.tk B.cur.nt
  have same : ∀ a, NT H a → a ∉ F.list → H' a = H a := fun a hn hm => by
    cases h : H a with
    | none => exact absurd h hn.dom
    | some o => exact f.keep a o h hm
  refine ⟨(same b (B.nt b BenchAt.mem_b) a2).trans B.ins, hc, ?_, fun i Fi Si c1 c2 => (B.hist i Fi Si c1 c2).keep tk fun a ha => same a ((B.hist i Fi Si c1 c2).nt a ha) ((a5 a (mem_fs c1 ha)).2.2), B.len, B.nd⟩
  obtain ⟨ts, h1, h2, h3⟩ := B.pst
  exact ⟨ts, (same p (B.nt p BenchAt.mem_p) a3).trans h1, h2, fun i t' Fi c1 c2 => tk _ _ (h3 i t' Fi c1 c2)⟩
/-- a field is put -/
theorem BenchAt.fld {F' : Fv} {S' : BS} (B : BenchAt K H C b dx p F Fs S past) (hc : FvAt K H F' S') (n4 : F'.list.Nodup) (n5 : ∀ a ∈ F'.list, a ≠ b ∧ a ≠ p ∧ a ∉ Fs.flatMap Fv.list) : BenchAt K (upd H b (.ins C dx (bf F' p))) C b dx p F' Fs S' past := by
  obtain ⟨a1, a2, a3, a4, a5, a6⟩ := fp_apart B.nd
  have tk : Tk K H (upd H b (.ins C dx (bf F' p))) := (Fr.upd (M := [b]) (by simp)).tk fun a ha => by
    have e : a = b := by simpa using ha
    rw [e]
    exact B.nt b BenchAt.mem_b
  refine ⟨upd_same, hc.keep tk fun a ha => upd_ne (n5 a ha).1, ?_, fun i Fi Si c1 c2 => (B.hist i Fi Si c1 c2).keep tk fun a ha => upd_ne (a5 a (mem_fs c1 ha)).1, B.len, ?_⟩
  · obtain ⟨ts, h1, h2, h3⟩ := B.pst
    exact ⟨ts, (upd_ne a1.symm).trans h1, h2, fun i t' Fi c1 c2 => tk _ _ (h3 i t' Fi c1 c2)⟩
  · exact fp_of a1 (fun h => (n5 b h).1 rfl) (fun h => (n5 p h).2.1 rfl) n4 (fun a ha => ⟨(a5 a ha).1, (a5 a ha).2.1, fun hm => (n5 a hm).2.2 ha⟩) a6
theorem fv_apart (h : F.list.Nodup) : (F.r ≠ F.s ∧ F.r ≠ F.u ∧ F.r ≠ F.o ∧ F.r ≠ F.l) ∧ (F.s ≠ F.u ∧ F.s ≠ F.o ∧ F.s ≠ F.l) ∧ (F.u ≠ F.o ∧ F.u ≠ F.l) ∧ F.o ≠ F.l := by
  obtain ⟨r, s, u, o, l⟩ := F
  exact fv_nd.mp h
theorem set_of {α β : Type} {f : α → β} {xs : List α} {i : Nat} {x : α} : (xs.map f).set i (f x) = (xs.set i x).map f := by rw [List.map_set]
theorem BenchAt.set_o {ys : List V} {i : Nat} {v : Bool} (B : BenchAt K H C b dx p F Fs S past) (h : H F.o = some (.lst ys)) : BenchAt K (upd H F.o (.lst (ys.set i (.bl v)))) C b dx p F Fs { S with outs := S.outs.set i v } past := by
  obtain ⟨a1, a2, a3, a4, a5, a6⟩ := fp_apart B.nd
  obtain ⟨⟨b1, b2, b3, b4⟩, ⟨b5, b6, b7⟩, ⟨b8, b9⟩, b10⟩ := fv_apart a4
  obtain ⟨zs, h1, h2⟩ := B.cur.o
  rw [h] at h1
  cases h1
  refine B.cur' (Fr.upd (by simp [Fv.list])) ⟨B.cur.r.other b3 h, B.cur.s.other b6 h, B.cur.u.other b8 h, LA.self ?_ h, B.cur.l.other b10.symm h⟩
  have := h2.set (i := i) (TD.bl (K := K) (H := H) v)
  unfold boolsD at this ⊢
  rw [set_of] at this
  exact this
theorem BenchAt.set_s {ys : List V} {i : Nat} {v : V} {n : Num} (B : BenchAt K H C b dx p F Fs S past) (h : H F.s = some (.lst ys)) (hv : TD K H v (nD n)) : BenchAt K (upd H F.s (.lst (ys.set i v))) C b dx p F Fs { S with stood := S.stood.set i n } past := by
  obtain ⟨a1, a2, a3, a4, a5, a6⟩ := fp_apart B.nd
  obtain ⟨⟨b1, b2, b3, b4⟩, ⟨b5, b6, b7⟩, ⟨b8, b9⟩, b10⟩ := fv_apart a4
  obtain ⟨zs, h1, h2⟩ := B.cur.s
  rw [h] at h1
  cases h1
  refine B.cur' (Fr.upd (by simp [Fv.list])) ⟨B.cur.r.other b1 h, LA.self ?_ h, B.cur.u.other b5.symm h, B.cur.o.other b6.symm h, B.cur.l.other b7.symm h⟩
  have := h2.set (i := i) hv
  unfold numsD at this ⊢
  rw [set_of] at this
  exact this
theorem BenchAt.set_r {ys : List V} {i : Nat} {v : V} {n : Num × Row} (B : BenchAt K H C b dx p F Fs S past) (h : H F.r = some (.lst ys)) (hv : TD K H v (rowD n.1 n.2)) : BenchAt K (upd H F.r (.lst (ys.set i v))) C b dx p F Fs { S with rows := S.rows.set i n } past := by
  obtain ⟨a1, a2, a3, a4, a5, a6⟩ := fp_apart B.nd
  obtain ⟨⟨b1, b2, b3, b4⟩, ⟨b5, b6, b7⟩, ⟨b8, b9⟩, b10⟩ := fv_apart a4
  obtain ⟨zs, h1, h2⟩ := B.cur.r
  rw [h] at h1
  cases h1
  refine B.cur' (Fr.upd (by simp [Fv.list])) ⟨LA.self ?_ h, B.cur.s.other b1.symm h, B.cur.u.other b2.symm h, B.cur.o.other b3.symm h, B.cur.l.other b4.symm h⟩
  have := h2.set (i := i) hv
  unfold rowsD at this ⊢
  rw [show rowD n.1 n.2 = (fun p : Num × Row => rowD p.1 p.2) n from rfl, set_of] at this
  exact this
theorem BenchAt.set_l {ys : List V} {i : Nat} {v : V} {n : Ends2} (B : BenchAt K H C b dx p F Fs S past) (h : H F.l = some (.lst ys)) (hv : TD K H v (limD n)) : BenchAt K (upd H F.l (.lst (ys.set i v))) C b dx p F Fs { S with lims := S.lims.set i n } past := by
  obtain ⟨a1, a2, a3, a4, a5, a6⟩ := fp_apart B.nd
  obtain ⟨⟨b1, b2, b3, b4⟩, ⟨b5, b6, b7⟩, ⟨b8, b9⟩, b10⟩ := fv_apart a4
  obtain ⟨zs, h1, h2⟩ := B.cur.l
  rw [h] at h1
  cases h1
  refine B.cur' (Fr.upd (by simp [Fv.list])) ⟨B.cur.r.other b4 h, B.cur.s.other b7 h, B.cur.u.other b9 h, B.cur.o.other b10 h, LA.self ?_ h⟩
  have := h2.set (i := i) hv
  rw [set_of] at this
  exact this
end
end RD
namespace RD
open PySem PySem.Spec PyProof.Rows L2 L2H
/-- the exception's dict, by the class's name -/
def XdF (x : Str) (d : Option Addr) (H : Hp) : Prop := (x = "Stopped" → ∃ dd v, d = some dd ∧ H dd = some (.xd [("shaft", v)])) ∧ (x = "Ring" → ∃ dd v, d = some dd ∧ H dd = some (.xd [("ring", v)])) ∧ (x ≠ "Stopped" → x ≠ "Ring" → d = none)
/-- a refusal by one of these names leaves all as it was -/
def Ref (K : PySem.W.Frag) (mg : Str → Option Value) (H : Hp) (E : XK) (xs : List Str) : Prop := ∀ x D d H', x ∈ xs → Er K mg x D → Ex H H' → XdF x d H' → E (.ref D) d H'
theorem Ref.ex {K : PySem.W.Frag} {mg : Str → Option Value} {H H1 : Hp} {E : XK} {xs : List Str} (h : Ref K mg H E xs) (e : Ex H H1) : Ref K mg H1 E xs := fun x D d H' m r e2 f => h x D d H' m r (e.trans e2) f
theorem Ref.sub {K : PySem.W.Frag} {mg : Str → Option Value} {H : Hp} {E : XK} {xs ys : List Str} (h : Ref K mg H E xs) (s : ∀ y ∈ ys, y ∈ xs) : Ref K mg H E ys := fun x D d H' m r e2 f => h x D d H' (s x m) r e2 f
theorem xdf_own {x : Str} {H : Hp} (h1 : x ≠ "Stopped") (h2 : x ≠ "Ring") : XdF x none H := ⟨fun h => absurd h h1, fun h => absurd h h2, fun _ _ => rfl⟩
theorem xdf_stopped {d : Addr} {v : V} {H : Hp} (h : H d = some (.xd [("shaft", v)])) : XdF "Stopped" (some d) H := ⟨fun _ => ⟨d, v, rfl, h⟩, fun h => absurd h (by decide), fun h => absurd rfl h⟩
theorem xdf_ring {d : Addr} {v : V} {H : Hp} (h : H d = some (.xd [("ring", v)])) : XdF "Ring" (some d) H := ⟨fun h => absurd h (by decide), fun _ => ⟨d, v, rfl, h⟩, fun _ h => absurd rfl h⟩
structure Errs (P : Program) (w : World) (K : PySem.W.Frag) (mg : Str → Option Value) (base : Heap) : Prop where
  held : ∃ D, Er K mg "Held" D ∧ OwnC K mg "Held" D
  noMachine : ∃ D, Er K mg "NoMachine" D ∧ OwnC K mg "NoMachine" D
  tooFar : ∃ D, Er K mg "TooFar" D ∧ OwnC K mg "TooFar" D
  noGear : ∃ D, Er K mg "NoGear" D ∧ OwnC K mg "NoGear" D
  noDeed : ∃ D, Er K mg "NoDeed" D ∧ OwnC K mg "NoDeed" D
  stopped : ∃ D, Er K mg "Stopped" D ∧ IniC P w K mg base 1 "Stopped" D ["self", "shaft"] (spXIni (K := K) "shaft") ∧ PySem.W.findIn K (.ref D) "shaft" = some none
  ring : ∃ D, Er K mg "Ring" D ∧ IniC P w K mg base 1 "Ring" D ["self", "ring"] (spXIni (K := K) "ring") ∧ PySem.W.findIn K (.ref D) "ring" = some none
/-- what follows a deed that was done -/
def Aft (K : PySem.W.Frag) (H : Hp) (C b dx p : Addr) (F : Fv) (Fs : List Fv) (S' : BS) (past' : List BS) (Q : Hp → Prop) : Prop :=
  ∀ H' F' Fs', BenchAt K H' C b dx p F' Fs' S' past' → Fr (fpB b p F Fs) H H' → Nf H (fpB b p F Fs) (fpB b p F' Fs') → Q H'
theorem nf_app {H : Hp} {b p : Addr} {F Fk : Fv} {Fs : List Fv} (fr : ∀ a ∈ Fk.list, H a = none) : Nf H (fpB b p F Fs) (fpB b p F (Fs ++ [Fk])) := fun a ha => by
  unfold fpB at ha ⊢
  rw [List.flatMap_append] at ha
  simp only [List.mem_cons, List.mem_append] at ha ⊢
  rcases ha with h | h | h | h | h
  · exact .inl (.inl h)
  · exact .inl (.inr (.inl h))
  · exact .inl (.inr (.inr (.inl h)))
  · exact .inl (.inr (.inr (.inr h)))
  · exact .inr (fr a (by simpa using h))
section
variable {P : Program} {w : World} {K : PySem.W.Frag} {mg : Str → Option Value} {base : Heap} {f : Addr} {fd : FuncData} {C : Addr}
def spKeep : Sp := fun vs H Q _ => ∃ b dx p F Fs S past, vs = [.ref b] ∧ BenchAt K H C b dx p F Fs S past ∧ past.length ≤ 1000 ∧ ∀ H' Fk, BenchAt K H' C b dx p F (Fs ++ [Fk]) S (past ++ [S]) → Fr [p] H H' → (∀ a ∈ Fk.list, H a = none) → Q .non H'
theorem ok_keep (T : Tx K mg) (c : BC K C) (F : FnP K "keep" "Bench.keep" s_Bench_keep f fd) : FnOk P w K mg base CX0 1 f fd ["self"] (spKeep (K := K) (C := C)) := by
  refine fn0 F sc_Bench_keep (fun vs H Q E h => ?_) (fun cdv A outer s H vs Q E hr h => ?_)
  · obtain ⟨_, _, _, _, _, _, _, rfl, _⟩ := h
    rfl
  · obtain ⟨b, dx, p, F, Fs, S, past, rfl, B, hpl, k⟩ := h
    obtain ⟨ts, t1, t2, t3⟩ := B.pst
    refine gb_one (gs_expr (ge_append (ge_self 0 rfl rfl c.cls B.ins c.past bf_past ⟨p, _, rfl, Evl.sq_of t1, ?_⟩)))
    refine tup_k ?_
    obtain ⟨y1, r1, r2⟩ := B.cur.r
    refine ga_cons (ge_callT T.list PyProof.Rows.boot_list (ga_cons (ge_self 0 rfl rfl c.cls B.ins c.rows bf_rows ?_)))
    refine ga_nil (c1_listL (Evl.sq_of r1) fun q1 H1 hq1 e1 l1 => ?_)
    have B1 := B.ex e1
    obtain ⟨y2, s1, s2⟩ := B1.cur.s
    refine ga_cons (ge_callT T.list PyProof.Rows.boot_list (ga_cons (ge_self 0 rfl rfl c.cls B1.ins c.stood bf_stood ?_)))
    refine ga_nil (c1_listL (Evl.sq_of s1) fun q2 H2 hq2 e2 l2 => ?_)
    have B2 := B1.ex e2
    obtain ⟨y3, u1, u2⟩ := B2.cur.u
    refine ga_cons (ge_callT T.list PyProof.Rows.boot_list (ga_cons (ge_self 0 rfl rfl c.cls B2.ins c.sums bf_sums ?_)))
    refine ga_nil (c1_listL (Evl.sq_of u1) fun q3 H3 hq3 e3 l3 => ?_)
    have B3 := B2.ex e3
    obtain ⟨y4, o1, o2⟩ := B3.cur.o
    refine ga_cons (ge_callT T.list PyProof.Rows.boot_list (ga_cons (ge_self 0 rfl rfl c.cls B3.ins c.outs bf_outs ?_)))
    refine ga_nil (c1_listL (Evl.sq_of o1) fun q4 H4 hq4 e4 l4 => ?_)
    have B4 := B3.ex e4
    obtain ⟨y5, m1, m2⟩ := B4.cur.l
    refine ga_cons (ge_callT T.list PyProof.Rows.boot_list (ga_cons (ge_self 0 rfl rfl c.cls B4.ins c.limits bf_limits ?_)))
    refine ga_nil (c1_listL (Evl.sq_of m1) fun q5 H5 hq5 e5 l5 => ?_)
    refine ga_nil ⟨Nat.le_of_ble_eq_true rfl, fun t H6 ht e6 h6 => ?_⟩
    have e16 : Ex H1 H6 := ((e2.trans e3).trans (e4.trans e5)).trans e6
    have e06 : Ex H H6 := e1.trans e16
    refine ⟨_, e06 _ _ t1, by rw [List.length_map, t2, B.len]; omega, ?_⟩
    have hk : FvAt K H6 ⟨q1, q2, q3, q4, q5⟩ S := ⟨⟨_, e16 _ _ l1, r2.ex e06⟩, ⟨_, ((e3.trans e4).trans (e5.trans e6)) _ _ l2, s2.ex e16⟩, ⟨_, (e4.trans (e5.trans e6)) _ _ l3, u2.ex ((e3.trans e4).trans (e5.trans e6))⟩,
      ⟨_, (e5.trans e6) _ _ l4, o2.ex (e4.trans (e5.trans e6))⟩, ⟨_, e6 _ _ l5, m2.ex (e5.trans e6)⟩⟩
    have f2 : H q2 = none := Evl.fresh_back e1 hq2
    have f3 : H q3 = none := Evl.fresh_back (e1.trans e2) hq3
    have f4 : H q4 = none := Evl.fresh_back ((e1.trans e2).trans e3) hq4
    have f5 : H q5 = none := Evl.fresh_back ((e1.trans e2).trans (e3.trans e4)) hq5
    have ne : ∀ {a c : Addr} {G : Hp} {o : HO}, G a = some o → G c = none → a ≠ c := fun {a c G o} h1 h2 z => by rw [z, h2] at h1; cases h1
    refine k _ ⟨q1, q2, q3, q4, q5⟩ (B.kept t1 e06 hk h6 ?_ ?_) ((Fr.ex e06).trans (Fr.upd (by simp))) ?_
    · exact fv_nd.mpr ⟨⟨ne l1 hq2, ne (e2 _ _ l1) hq3, ne ((e2.trans e3) _ _ l1) hq4, ne (((e2.trans e3).trans e4) _ _ l1) hq5⟩, ⟨ne l2 hq3, ne (e3 _ _ l2) hq4, ne ((e3.trans e4) _ _ l2) hq5⟩, ⟨ne l3 hq4, ne (e4 _ _ l3) hq5⟩, ne l4 hq5⟩
    · intro a ha
      simp only [Fv.list, List.mem_cons, List.not_mem_nil, or_false] at ha
      rcases ha with rfl | rfl | rfl | rfl | rfl <;> assumption
    · intro a ha
      simp only [Fv.list, List.mem_cons, List.not_mem_nil, or_false] at ha
      rcases ha with rfl | rfl | rfl | rfl | rfl <;> assumption
def spWant : Sp := fun vs H Q E => ∃ (b dx p : Addr) (F : Fv) (Fs : List Fv) (S : BS) (past : List BS) (i : Nat) (v : Bool), vs = [.ref b, .int i, .bl v] ∧ BenchAt K H C b dx p F Fs S past ∧ i < S.outs.length ∧ (S.outs.getD i false = v → Q .non H) ∧ Ref K mg H E ["Held"]
theorem bools_at {H : Hp} {ws : List V} {bs : List Bool} {i : Nat} (h : TDs K H ws (boolsD bs)) (hi : i < bs.length) : ws[i]? = some (.bl (bs.getD i false)) := by
  have := TDs.bools h
  rw [this, List.getElem?_map, List.getD_eq_getElem?_getD, List.getElem?_eq_getElem hi]
  rfl
theorem ok_want (T : Tx K mg) (R : Errs P w K mg base) (c : BC K C) (F : FnP K "want_out" "Bench.want_out" s_Bench_want_out f fd) : FnOk P w K mg base (L2N.CX P w) 1 f fd ["self", "shaft", "is_out"] (spWant (K := K) (mg := mg) (C := C)) := by
  refine fnX F sc_Bench_want_out (fun vs H Q E h => ?_) (fun cdv A outer s H vs Q E hr h => ?_)
  · obtain ⟨_, _, _, _, _, _, _, _, _, rfl, _⟩ := h
    rfl
  · obtain ⟨b, dx, p, F, Fs, S, past, i, v, rfl, B, hi, k, kx⟩ := h
    obtain ⟨ys, h1, h2⟩ := B.cur.o
    obtain ⟨D, ED, OD⟩ := R.held
    refine gb_one (gs_if (gt_cmp (ge_ix (ge_self 0 rfl rfl c.cls B.ins c.outs bf_outs ?_))))
    fail "rdk"
    refine i2_lst (Evl.sq_of h1) (atI_n (bools_at h2 hi)) ?_
    fail "rdk"
    refine ite_nd (fun hv => ?_) fun hv => ?_
    · refine gb_one (gs_raise rfl (L2N.takes_of rfl rfl rfl rfl) (gr_own OD ?_))
      exact kx _ D none H (by simp) ED (Evl.Ex.refl _) (xdf_own (by decide) (by decide))
    · exact gb_nil (k hv)
end
end RD
namespace RD
open PySem PySem.Spec PyProof.Rows L2 L2H
structure BLen (S : BS) (n : Nat) : Prop where
  r : S.rows.length = n
  s : S.stood.length = n
  u : S.sums.length = n
  o : S.outs.length = n
  l : S.lims.length = n
theorem ixN_nat' {n j : Nat} (h : j < n) : ixN n (j : Int) = some j := Evl.ixN_nat h
section
variable {P : Program} {w : World} {K : PySem.W.Frag} {mg : Str → Option Value} {base : Heap} {f : Addr} {fd : FuncData} {C : Addr}
/-- behind a keep and a change of the five lists -/
theorem aft_of {H H1 H2 : Hp} {b dx p : Addr} {F Fk : Fv} {Fs : List Fv} {S' : BS} {past' : List BS} {Q : Hp → Prop} (a : Aft K H C b dx p F Fs S' past' Q) (B : BenchAt K H2 C b dx p F (Fs ++ [Fk]) S' past') (f1 : Fr [p] H H1) (f2 : Fr F.list H1 H2) (fr : ∀ a ∈ Fk.list, H a = none) : Q H2 := by
  refine a H2 F (Fs ++ [Fk]) B ?_ (nf_app fr)
  exact (f1.mono fun a ha => by have e : a = p := by simpa using ha
                                rw [e]; exact BenchAt.mem_p).trans (f2.mono fun a ha => BenchAt.mem_f ha)
variable (DK : Mt P w K mg base CX0 1 C "keep" ["self"] (spKeep (K := K) (C := C))) (DW : Mt P w K mg base (L2N.CX P w) 1 C "want_out" ["self", "shaft", "is_out"] (spWant (K := K) (mg := mg) (C := C)))
def spOut (v : Bool) : Sp := fun vs H Q E => ∃ (b dx p : Addr) (F : Fv) (Fs : List Fv) (S : BS) (past : List BS) (i n : Nat), vs = [.ref b, .int i] ∧ BenchAt K H C b dx p F Fs S past ∧ past.length ≤ 1000 ∧ BLen S n ∧ i < n ∧
  (S.outs.getD i false = !v → Aft K H C b dx p F Fs { S with outs := S.outs.set i v } (past ++ [S]) (Q .non)) ∧ Ref K mg H E ["Held"]
include DK DW in
theorem ok_out (c : BC K C) (F : FnP K "out" "Bench.out" s_Bench_out f fd) : FnOk P w K mg base (L2N.CX P w) 2 f fd ["self", "shaft"] (spOut (K := K) (mg := mg) (C := C) true) := by
  refine fnX F sc_Bench_out (fun vs H Q E h => ?_) (fun cdv A outer s H vs Q E hr h => ?_)
  · obtain ⟨_, _, _, _, _, _, _, _, _, rfl, _⟩ := h
    rfl
  · obtain ⟨b, dx, p, F, Fs, S, past, i, n, rfl, B, hp, L, hi, k, kx⟩ := h
    have tk := L2N.takes_of (X := cxOf (L2N.CX P w) P w K mg base n_Bench_out "Bench.out" (defScope s_Bench_out) f cdv A outer s H E) rfl rfl rfl rfl
    refine gb_cons (gs_expr (ge_meth c.cls DW (hr.mono (by decide)) (L2N.passes_call tk fun _ _ _ _ h => h) ?_))
    refine ge_var 0 rfl rfl ⟨b, dx, _, rfl, B.ins, by rfl, ?_⟩
    fail "rdk"
    refine ⟨b, dx, p, F, Fs, S, past, i, false, rfl, B, by rw [L.o]; exact hi, fun hv => ?_, kx⟩
    refine gb_cons (gs_expr (ge_meth0 c.cls DK (hr.mono (by decide)) pass0 ?_))
    refine ge_var 0 rfl rfl ⟨b, dx, _, rfl, B.ins, by rfl, ?_⟩
    refine ⟨b, dx, p, F, Fs, S, past, rfl, B, hp, fun H1 Fk B1 f1 fr => ?_⟩
    obtain ⟨ys, h1, h2⟩ := B1.cur.o
    refine gb_one (gs_setL ?_)
    fail "rdk"
    refine ge_self 0 rfl rfl c.cls B1.ins c.outs bf_outs ?_
    fail "rdk"
    refine ⟨F.o, ys, i, i, rfl, rfl, h1, ixN_nat' (by have := h2.length; unfold boolsD at this; rw [List.length_map, L.o] at this; omega), ?_⟩
    exact aft_of (k hv) (B1.set_o h1) f1 (Fr.upd (by simp [Fv.list])) fr
include DK DW in
theorem ok_into (c : BC K C) (F : FnP K "into" "Bench.into" s_Bench_into f fd) : FnOk P w K mg base (L2N.CX P w) 2 f fd ["self", "shaft"] (spOut (K := K) (mg := mg) (C := C) false) := by
  refine fnX F sc_Bench_into (fun vs H Q E h => ?_) (fun cdv A outer s H vs Q E hr h => ?_)
  · obtain ⟨_, _, _, _, _, _, _, _, _, rfl, _⟩ := h
    rfl
  · obtain ⟨b, dx, p, F, Fs, S, past, i, n, rfl, B, hp, L, hi, k, kx⟩ := h
    have tk := L2N.takes_of (X := cxOf (L2N.CX P w) P w K mg base n_Bench_into "Bench.into" (defScope s_Bench_into) f cdv A outer s H E) rfl rfl rfl rfl
    refine gb_cons (gs_expr (ge_meth c.cls DW (hr.mono (by decide)) (L2N.passes_call tk fun _ _ _ _ h => h) ?_))
    refine ge_var 0 rfl rfl ⟨b, dx, _, rfl, B.ins, by rfl, ?_⟩
    fail "rdk"
    refine ⟨b, dx, p, F, Fs, S, past, i, true, rfl, B, by rw [L.o]; exact hi, fun hv => ?_, kx⟩
    refine gb_cons (gs_expr (ge_meth0 c.cls DK (hr.mono (by decide)) pass0 ?_))
    refine ge_var 0 rfl rfl ⟨b, dx, _, rfl, B.ins, by rfl, ?_⟩
    refine ⟨b, dx, p, F, Fs, S, past, rfl, B, hp, fun H1 Fk B1 f1 fr => ?_⟩
    obtain ⟨ys, h1, h2⟩ := B1.cur.o
    refine gb_one (gs_setL ?_)
    fail "rdk"
    refine ge_self 0 rfl rfl c.cls B1.ins c.outs bf_outs ?_
    fail "rdk"
    refine ⟨F.o, ys, i, i, rfl, rfl, h1, ixN_nat' (by have := h2.length; unfold boolsD at this; rw [List.length_map, L.o] at this; omega), ?_⟩
    exact aft_of (k hv) (B1.set_o h1) f1 (Fr.upd (by simp [Fv.list])) fr
/-- one of the ends -/
theorem lims_at {H : Hp} {ws : List V} {ls : List Ends2} {i : Nat} (h : TDs K H ws (ls.map limD)) (hi : i < ls.length) : ∃ x, ws[i]? = some x ∧ TD K H x (limD ls[i]) := by
  refine h.get ?_
  rw [List.getElem?_map, List.getElem?_eq_getElem hi]
  rfl
def LimOk (ls : List Ends2) : Prop := ∀ l ∈ ls, EndOk l.1 ∧ EndOk l.2
/-- stood elsewhere -/
def spPut : Sp := fun vs H Q E => ∃ (b dx p : Addr) (F : Fv) (Fs : List Fv) (S : BS) (past : List BS) (i n : Nat) (v : V) (m : Num), vs = [.ref b, .int i, v] ∧ BenchAt K H C b dx p F Fs S past ∧ past.length ≤ 1000 ∧ BLen S n ∧ i < n ∧ TD K H v (nD m) ∧ Nz 4 m ∧ LimOk S.lims ∧
  (S.outs.getD i false = true → Aft K H C b dx p F Fs { S with stood := S.stood.set i m } (past ++ [S]) (Q .non)) ∧ Ref K mg H E ["Held", "Stopped"]
include DK DW in
theorem ok_put (R : Errs P w K mg base) (c : BC K C) (F : FnP K "put" "Bench.put" s_Bench_put f fd) (DB : Df P w K mg base CX0 2 "is_beyond" ["ends", "number"] (spBeyond (K := K))) : FnOk P w K mg base (L2N.CX P w) 3 f fd ["self", "shaft", "number"] (spPut (K := K) (mg := mg) (C := C)) := by
  refine fnX F sc_Bench_put (fun vs H Q E h => ?_) (fun cdv A outer s H vs Q E hr h => ?_)
  · obtain ⟨_, _, _, _, _, _, _, _, _, _, _, rfl, _⟩ := h
    rfl
  · obtain ⟨b, dx, p, F, Fs, S, past, i, n, v, m, rfl, B, hp, L, hi, hv, hm, lo, k, kx⟩ := h
    obtain ⟨DS, ES, IS, nS⟩ := R.stopped
    have tk := L2N.takes_of (X := cxOf (L2N.CX P w) P w K mg base n_Bench_put "Bench.put" (defScope s_Bench_put) f cdv A outer s H E) rfl rfl rfl rfl
    refine gb_cons (gs_expr (ge_meth c.cls DW (hr.mono (by decide)) (L2N.passes_call tk fun _ _ _ _ h => h) ?_))
    refine ge_var 0 rfl rfl ⟨b, dx, _, rfl, B.ins, by rfl, ?_⟩
    fail "rdk"
    refine ⟨b, dx, p, F, Fs, S, past, i, true, rfl, B, by rw [L.o]; exact hi, fun hw => ?_, kx.sub (by simp)⟩
    obtain ⟨ys, l1, l2⟩ := B.cur.l
    obtain ⟨x, hx, hxd⟩ := lims_at l2 (show i < S.lims.length by rw [L.l]; exact hi)
    have lok := lo _ (List.getElem_mem (show i < S.lims.length by rw [L.l]; exact hi))
    refine gb_cons (gs_if (gt_val (ge_call DB hr pass0 (ga_cons (ge_ix (ge_self 0 rfl rfl c.cls B.ins c.limits bf_limits ?_))))))
    fail "rdk"
    refine i2_lst (Evl.sq_of l1) (atI_n hx) ?_
    fail "rdk"
    refine ⟨_, _, _, m, 4, rfl, hxd, hv, lok.1, lok.2, hm, by decide, fun bb H1 e1 => ⟨bb, rfl, ite_b (fun _ => ?_) fun _ => ?_⟩⟩
    · refine gb_one (gs_raise rfl tk (gr_xini IS nS (hr.mono (by decide)) ?_))
      refine ge_var 1 rfl rfl fun d H4 hd e4 h4 => ?_
      exact kx "Stopped" DS (some d) H4 (by simp) ES (e1.trans e4) (xdf_stopped h4)
    · have B0 := B.ex e1
      refine gb_nil (gb_cons (gs_expr (ge_meth0 c.cls DK (hr.mono (by decide)) pass0 ?_)))
      refine ge_var 0 rfl rfl ⟨b, dx, _, rfl, B0.ins, by rfl, ?_⟩
      refine ⟨b, dx, p, F, Fs, S, past, rfl, B0, hp, fun H2 Fk B1 f1 fr => ?_⟩
      obtain ⟨zs, h1, h2⟩ := B1.cur.s
      have tk2 : Tk K H1 H2 := f1.tk fun a ha => by
        have e : a = p := by simpa using ha
        rw [e]
        exact B0.nt p BenchAt.mem_p
      refine gb_one (gs_setL ?_)
      fail "rdk"
      refine ge_self 0 rfl rfl c.cls B1.ins c.stood bf_stood ?_
      fail "rdk"
      refine ⟨F.s, zs, i, i, rfl, rfl, h1, ixN_nat' (by rw [nums_len h2, L.s]; exact hi), ?_⟩
      exact aft_of (k hw) (B1.set_s h1 ((hv.ex e1).tk tk2)) ((Fr.ex e1).trans f1) (Fr.upd (by simp [Fv.list])) fun a ha => Evl.fresh_back e1 (fr a ha)
end
end RD
namespace RD
open PySem PySem.Spec PyProof.Rows L2 L2H
theorem wf_set {rs : Rows} {i n : Nat} {x : Num × Row} (h : Wf rs) (hl : rs.length = n) (hx : RowOk n x.2) : Wf (rs.set i x) := by
  intro k d hd
  rw [List.length_set]
  unfold drivesAt at hd
  by_cases hk : k = i
  · subst hk
    by_cases hi : k < rs.length
    · rw [List.getElem?_set_self hi] at hd
      rw [hl]
      obtain ⟨st, r⟩ := x
      cases r with
      | src => cases hd
      | gear q s =>
        have : d = s := by simpa [Row.drives] using hd
        rw [this]; exact hx.2.2
      | add a b =>
        have : d = a ∨ d = b := by simpa [Row.drives] using hd
        rcases this with e | e <;> rw [e]
        · exact hx.1
        · exact hx.2
      | disc a b =>
        have : d = b := by simpa [Row.drives] using hd
        rw [this]; exact hx.2
    · rw [List.getElem?_eq_none (by rw [List.length_set]; omega)] at hd
      cases hd
  · rw [List.getElem?_set_ne (Ne.symm hk)] at hd
    exact h k d hd
theorem wf_ok {rs : Rows} {n : Nat} (hl : rs.length = n) (h : ∀ x ∈ rs, RowOk n x.2) : Wf rs := by
  intro k d hd
  unfold drivesAt at hd
  cases e : rs[k]? with
  | none => rw [e] at hd; cases hd
  | some x =>
    rw [e] at hd
    have hx := h x (List.mem_of_getElem? e)
    rw [hl]
    obtain ⟨st, r⟩ := x
    cases r with
    | src => cases hd
    | gear q s =>
      have : d = s := by simpa [Row.drives] using hd
      rw [this]; exact hx.2.2
    | add a b =>
      have : d = a ∨ d = b := by simpa [Row.drives] using hd
      rcases this with e | e <;> rw [e]
      · exact hx.1
      · exact hx.2
    | disc a b =>
      have : d = b := by simpa [Row.drives] using hd
      rw [this]; exact hx.2
theorem fv_put_r {F : Fv} {q : Addr} (h : F.list.Nodup) (hq : q ∉ F.list) : (Fv.list { F with r := q }).Nodup := by
  obtain ⟨r, s, u, o, l⟩ := F
  have h2 := fv_nd.mp h
  simp only [Fv.list, List.mem_cons, List.not_mem_nil, or_false, not_or] at hq
  exact fv_nd.mpr ⟨⟨hq.2.1, hq.2.2.1, hq.2.2.2.1, hq.2.2.2.2⟩, h2.2⟩
section
variable {P : Program} {w : World} {K : PySem.W.Frag} {mg : Str → Option Value} {base : Heap} {f : Addr} {fd : FuncData} {C : Addr}
variable (DK : Mt P w K mg base CX0 1 C "keep" ["self"] (spKeep (K := K) (C := C))) (DW : Mt P w K mg base (L2N.CX P w) 1 C "want_out" ["self", "shaft", "is_out"] (spWant (K := K) (mg := mg) (C := C)))
def spWire : Sp := fun vs H Q E => ∃ (b dx p : Addr) (F : Fv) (Fs : List Fv) (S : BS) (past : List BS) (i n : Nat) (v : V) (x : Num × Row), vs = [.ref b, .int i, v] ∧ BenchAt K H C b dx p F Fs S past ∧ past.length ≤ 1000 ∧ BLen S n ∧ i < n ∧ n ≤ 5 ∧ TD K H v (rowD x.1 x.2) ∧ RowOk n x.2 ∧ (∀ y ∈ S.rows, RowOk n y.2) ∧
  (S.outs.getD i false = true → ∀ L, Topo (S.rows.set i x) L → L.length = n → Aft K H C b dx p F Fs { S with rows := S.rows.set i x } (past ++ [S]) (Q .non)) ∧ Ref K mg H E ["Held", "NoMachine", "Ring"]
include DK DW in
theorem ok_wire (T : Tx K mg) (c : BC K C) (F : FnP K "wire" "Bench.wire" s_Bench_wire f fd) (DL : Df P w K mg base (L2N.CX P w) 5 "look_machine" ["thing"] (spLook (K := K) (mg := mg))) : FnOk P w K mg base (L2N.CX P w) 6 f fd ["self", "shaft", "thing"] (spWire (K := K) (mg := mg) (C := C)) := by
  refine fnX F sc_Bench_wire (fun vs H Q E h => ?_) (fun cdv A outer s H vs Q E hr h => ?_)
  · obtain ⟨_, _, _, _, _, _, _, _, _, _, _, rfl, _⟩ := h
    rfl
  · obtain ⟨b, dx, p, F, Fs, S, past, i, n, v, x, rfl, B, hp, L, hi, hn, hv, hx, hrs, k, kx⟩ := h
    have tk := L2N.takes_of (X := cxOf (L2N.CX P w) P w K mg base n_Bench_wire "Bench.wire" (defScope s_Bench_wire) f cdv A outer s H E) rfl rfl rfl rfl
    refine gb_cons (gs_expr (ge_meth c.cls DW (hr.mono (by decide)) (L2N.passes_call tk fun _ _ _ _ h => h) ?_))
    refine ge_var 0 rfl rfl ⟨b, dx, _, rfl, B.ins, by rfl, ?_⟩
    fail "rdk"
    refine ⟨b, dx, p, F, Fs, S, past, i, true, rfl, B, by rw [L.o]; exact hi, fun hw => ?_, kx.sub (by simp)⟩
    obtain ⟨ys, r1, r2⟩ := B.cur.r
    have hyl := rows_len r2
    refine gb_cons (gs_set 3 sc_Bench_wire.nd rfl (ge_callT T.list PyProof.Rows.boot_list (ga_cons (ge_self 0 rfl rfl c.cls B.ins c.rows bf_rows ?_))))
    refine ga_nil (c1_listL (Evl.sq_of r1) fun q H1 hq e1 h1 => ?_)
    refine gb_cons (gs_setL ?_)
    fail "rdk"
    refine ⟨q, ys, i, i, rfl, rfl, h1, ixN_nat' (by rw [hyl, L.r]; exact hi), ?_⟩
    have e2 : Ex H (upd H1 q (.lst (ys.set i v))) := Evl.Ex.mut e1 hq
    have h2 : (upd H1 q (.lst (ys.set i v))) q = some (.lst (ys.set i v)) := upd_same
    generalize upd H1 q (.lst (ys.set i v)) = H2 at e2 h2
    have hnew : TDs K H2 (ys.set i v) (rowsD (S.rows.set i x)) := by
      have := (r2.ex e2).set (i := i) (hv.ex e2)
      unfold rowsD at this ⊢
      rw [show rowD x.1 x.2 = (fun p : Num × Row => rowD p.1 p.2) x from rfl, set_of] at this
      exact this
    refine gb_cons (gs_expr (ge_callS DL (hr.mono (by decide)) tk ?_))
    fail "rdk"
    have B2 := B.ex e2
    refine ⟨q, S.rows.set i x, rfl, ⟨_, Evl.sq_of h2, hnew⟩, by rw [List.length_set, L.r]; omega, wf_set (wf_ok L.r hrs) L.r hx, fun Lo H3 tp hLo e3 => ?_, fun D H3 ED e3 => ?_, fun D d p' xs H3 ED e3 hd _ _ _ => ?_⟩
    · have hLn : Lo.length = n := by rw [hLo, List.length_set, L.r]
      have B3 := B2.ex e3
      refine gb_cons (gs_expr (ge_meth0 c.cls DK (hr.mono (by decide)) pass0 ?_))
      refine ge_var 0 rfl rfl ⟨b, dx, _, rfl, B3.ins, by rfl, ?_⟩
      refine ⟨b, dx, p, F, Fs, S, past, rfl, B3, hp, fun H4 Fk B4 f4 fr => ?_⟩
      have hq3 : H3 q = some (.lst (ys.set i v)) := e3 _ _ h2
      have qfp : q ∉ fpB b p F Fs := fun hm => (B.nt q hm).dom hq
      have qp : q ≠ p := fun z => qfp (by rw [z]; exact BenchAt.mem_p)
      have hq4 : H4 q = some (.lst (ys.set i v)) := f4.keep q _ hq3 (by simpa using qp)
      have tk4 : Tk K H3 H4 := f4.tk fun a ha => by
        have e : a = p := by simpa using ha
        rw [e]
        exact B3.nt p BenchAt.mem_p
      refine gb_one (gs_fld ?_)
      fail "rdk"
      refine ⟨b, C, dx, bf F p, rfl, B4.ins, c.cls, c.rows, (by show 6 < 1000; decide), ?_⟩
      rw [put_rows]
      obtain ⟨a1, a2, a3, a4, a5, a6⟩ := fp_apart B4.nd
      have qF : q ∉ F.list := fun hm => qfp (BenchAt.mem_f hm)
      have qS : q ∉ (Fs ++ [Fk]).flatMap Fv.list := fun hm => by
        rw [List.flatMap_append] at hm
        rcases List.mem_append.mp hm with h | h
        · exact qfp (by simp [fpB, h])
        · have hm2 : q ∈ Fk.list := by simpa using h
          have := fr q hm2
          rw [hq3] at this
          cases this
      refine k hw Lo tp hLn _ { F with r := q } (Fs ++ [Fk]) (B4.fld (S' := { S with rows := S.rows.set i x }) ⟨⟨_, hq4, (hnew.ex e3).tk tk4⟩, B4.cur.s, B4.cur.u, B4.cur.o, B4.cur.l⟩ (fv_put_r a4 qF) ?_) ?_ ?_
      · intro a ha
        have ha2 : a = q ∨ a ∈ F.list := by
          simp only [Fv.list, List.mem_cons, List.not_mem_nil, or_false] at ha ⊢
          rcases ha with h | h | h | h | h <;> simp [h]
        rcases ha2 with h | h
        · rw [h]
          exact ⟨fun z => qfp (by rw [z]; exact BenchAt.mem_b), qp, qS⟩
        · exact ⟨fun z => a2 (z ▸ h), fun z => a3 (z ▸ h), fun hm => (a5 a hm).2.2 h⟩
      · exact (((Fr.ex (e2.trans e3)).trans (f4.mono fun a ha => by have e : a = p := by simpa using ha
                                                                    rw [e]; exact BenchAt.mem_p))).trans (Fr.upd BenchAt.mem_b)
      · intro a ha
        unfold fpB at ha
        rw [List.flatMap_append] at ha
        simp only [List.mem_cons, List.mem_append] at ha
        rcases ha with h | h | h | h | h
        · exact .inl (by rw [h]; exact BenchAt.mem_b)
        · exact .inl (by rw [h]; exact BenchAt.mem_p)
        · simp only [Fv.list, List.mem_cons, List.not_mem_nil, or_false] at h
          rcases h with h | h
          · exact .inr (by rw [h]; exact hq)
          · exact .inl (BenchAt.mem_f (by simp only [Fv.list, List.mem_cons, List.not_mem_nil, or_false]; exact .inr h))
        · exact .inl (by simp [fpB, h])
        · exact .inr (Evl.fresh_back (e2.trans e3) (fr a (by simpa using h)))
    · exact kx "NoMachine" D none H3 (by simp) ED (e2.trans e3) (xdf_own (by decide) (by decide))
    · exact kx "Ring" D (some d) H3 (by simp) ED (e2.trans e3) (xdf_ring hd)
end
end RD
namespace RD
open PySem PySem.Spec PyProof.Rows L2 L2H
section
variable {P : Program} {w : World} {K : PySem.W.Frag} {mg : Str → Option Value} {base : Heap} {f : Addr} {fd : FuncData} {C : Addr}
variable (DK : Mt P w K mg base CX0 1 C "keep" ["self"] (spKeep (K := K) (C := C)))
theorem f_tk {H1 H2 : Hp} {b dx p : Addr} {F : Fv} {Fs : List Fv} {S : BS} {past : List BS} (B : BenchAt K H1 C b dx p F Fs S past) (f : Fr [p] H1 H2) : Tk K H1 H2 := f.tk fun a ha => by
  have e : a = p := by simpa using ha
  rw [e]
  exact B.nt p BenchAt.mem_p
/-- another ratio -/
def ratioR (x : Num × Row) (q : Num) : Num × Row := match x.2 with
  | .gear _ s => (x.1, .gear q s)
  | _ => x
def isGear : Row → Bool
  | .gear _ _ => true
  | _ => false
def spGear : Sp := fun vs H Q E => ∃ (b dx p : Addr) (F : Fv) (Fs : List Fv) (S : BS) (past : List BS) (i n : Nat) (v : V) (m : Num), vs = [.ref b, .int i, v] ∧ BenchAt K H C b dx p F Fs S past ∧ past.length ≤ 1000 ∧ BLen S n ∧ i < n ∧ TD K H v (nD m) ∧
  (∀ x, S.rows[i]? = some x → isGear x.2 = true → Aft K H C b dx p F Fs { S with rows := S.rows.set i (ratioR x m) } (past ++ [S]) (Q .non)) ∧ Ref K mg H E ["NoGear"]
include DK in
theorem ok_gear (R : Errs P w K mg base) (c : BC K C) (F : FnP K "gear" "Bench.gear" s_Bench_gear f fd) : FnOk P w K mg base (L2N.CX P w) 2 f fd ["self", "shaft", "ratio"] (spGear (K := K) (mg := mg) (C := C)) := by
  refine fnX F sc_Bench_gear (fun vs H Q E h => ?_) (fun cdv A outer s H vs Q E hr h => ?_)
  · obtain ⟨_, _, _, _, _, _, _, _, _, _, _, rfl, _⟩ := h
    rfl
  · obtain ⟨b, dx, p, F, Fs, S, past, i, n, v, m, rfl, B, hp, L, hi, hv, k, kx⟩ := h
    obtain ⟨DG, EG, OG⟩ := R.noGear
    have tk := L2N.takes_of (X := cxOf (L2N.CX P w) P w K mg base n_Bench_gear "Bench.gear" (defScope s_Bench_gear) f cdv A outer s H E) rfl rfl rfl rfl
    obtain ⟨ys, r1, r2⟩ := B.cur.r
    have hir : i < S.rows.length := by rw [L.r]; exact hi
    obtain ⟨x, hx, hxd⟩ := rows_at r2 hir
    refine gb_cons (gs_set 3 sc_Bench_gear.nd rfl (ge_ix (ge_self 0 rfl rfl c.cls B.ins c.rows bf_rows ?_)))
    fail "rdk"
    refine i2_lst (Evl.sq_of r1) (atI_n hx) ?_
    obtain ⟨a, p0, rfl, hp0, hr2⟩ := hxd.row
    have k' := k S.rows[i] (List.getElem?_eq_getElem hir)
    generalize S.rows[i] = x0 at hxd hp0 hr2 k'
    obtain ⟨st, rw0⟩ := x0
    have bad : ∀ (nm : Str) (rest : List V), nm ≠ "gear" → SqT K H a (.str nm :: rest) → GB (cxOf (L2N.CX P w) P w K mg base n_Bench_gear "Bench.gear" (defScope s_Bench_gear) f cdv A outer s H E) ((defBody s_Bench_gear).drop 1) { nx := fun _ H' => Q .non H', rt := Q } [some (.ref b), some (.int i), some v, some (.ref a)] H := fun nm rest hne ha => by
      refine gb_cons (gs_if (gt_cmp (ge_ix (ge_var 3 rfl rfl (ge_int ?_)))))
      refine i2_tup ha (atI_n (n := 0) rfl) (ge_str (o2_nes ⟨_, rfl, ?_⟩))
      rw [decide_eq_false hne]
      refine ite_nf (gb_one (gs_raise rfl tk (gr_own OG ?_)))
      exact kx _ DG none H (by simp) EG (Evl.Ex.refl _) (xdf_own (by decide) (by decide))
    cases rw0 with
    | src => exact bad _ _ (by decide) hr2
    | add x y => exact bad _ _ (by decide) hr2
    | disc x y => exact bad _ _ (by decide) hr2
    | gear q d =>
      obtain ⟨q', ha, hq⟩ := hr2
      refine gb_cons (gs_if (gt_cmp (ge_ix (ge_var 3 rfl rfl (ge_int ?_)))))
      refine i2_tup ha (atI_n (n := 0) rfl) (ge_str (o2_nes ⟨_, rfl, ?_⟩))
      rw [decide_eq_true rfl]
      refine ite_nt (gb_nil (gb_cons (gs_expr (ge_meth0 c.cls DK (hr.mono (by decide)) pass0 ?_))))
      refine ge_var 0 rfl rfl ⟨b, dx, _, rfl, B.ins, by rfl, ?_⟩
      refine ⟨b, dx, p, F, Fs, S, past, rfl, B, hp, fun H1 Fk B1 f1 fr => ?_⟩
      have tk1 := f_tk B f1
      have ha1 := tk1 _ _ ha
      refine gb_one (gs_setL (ge_bin (ge_slT (ge_var 3 rfl rfl (go_none (go_some (ge_int ⟨2, rfl, ⟨a, _, rfl, ha1, ?_, fun t1 H2 ht1 e2 h2 => ?_⟩⟩)))))))
      · show ¬ (HT.sIx 4 0 none = 0 ∧ HT.sIx 4 4 (some 2) = 4); decide +kernel
      have h2' : H2 t1 = some (.tup [.str "gear", .ref p0]) := h2
      have ha2 : SqT K H2 a [.str "gear", .ref p0, .ref q', .int (d : Nat)] := Evl.ex_t e2 ha1
      fail "rdk"
      refine ⟨Nat.le_of_ble_eq_true rfl, fun t2 H3 ht2 e3 h3 => ?_⟩
      refine o2_catT (Evl.st_of (e3 _ _ h2')) (Evl.st_of h3) (by simp) (Nat.le_of_ble_eq_true rfl) fun t H4 e4 h4 => ?_
      have e14 : Ex H1 H4 := (e2.trans e3).trans e4
      have B4 := B1.ex e14
      obtain ⟨zs, z1, z2⟩ := B4.cur.r
      refine ge_self 0 rfl rfl c.cls B4.ins c.rows bf_rows ?_
      fail "rdk"
      refine ⟨F.r, zs, i, i, rfl, rfl, z1, ixN_nat' (by rw [rows_len z2]; exact hir), ?_⟩
      refine aft_of (k' rfl) (B4.set_r (n := (st, .gear m d)) z1 ?_) (f1.trans (Fr.ex e14)) (Fr.upd (by simp [Fv.list])) fr
      refine .tup h4 (.cons (.str _) (.cons (((TD.numI hp0).tk tk1).ex e14) (.cons ((hv.tk tk1).ex e14) (.cons (.int _) .nil))))
/-- other ends -/
def spEnds : Sp := fun vs H Q E => ∃ (b dx p : Addr) (F : Fv) (Fs : List Fv) (S : BS) (past : List BS) (i n : Nat) (v u : V) (l : Ends2), vs = [.ref b, .int i, v, u] ∧ BenchAt K H C b dx p F Fs S past ∧ past.length ≤ 1000 ∧ BLen S n ∧ i < n ∧ TD K H v (endD l.1) ∧ TD K H u (endD l.2) ∧ EndOk l.1 ∧ EndOk l.2 ∧ (∀ x ∈ S.stood, Nz 200 x) ∧
  Aft K H C b dx p F Fs { S with lims := S.lims.set i l } (past ++ [S]) (Q .non) ∧ Ref K mg H E ["Stopped"]
include DK in
theorem ok_ends (R : Errs P w K mg base) (c : BC K C) (F : FnP K "ends" "Bench.ends" s_Bench_ends f fd) (DB : Df P w K mg base CX0 2 "is_beyond" ["ends", "number"] (spBeyond (K := K))) : FnOk P w K mg base (L2N.CX P w) 3 f fd ["self", "shaft", "least", "greatest"] (spEnds (K := K) (mg := mg) (C := C)) := by
  refine fnX F sc_Bench_ends (fun vs H Q E h => ?_) (fun cdv A outer s H vs Q E hr h => ?_)
  · obtain ⟨_, _, _, _, _, _, _, _, _, _, _, _, rfl, _⟩ := h
    rfl
  · obtain ⟨b, dx, p, F, Fs, S, past, i, n, v, u, l, rfl, B, hp, L, hi, hv, hu, o1, o2, hS, k, kx⟩ := h
    obtain ⟨DS, ES, IS, nS⟩ := R.stopped
    have tk := L2N.takes_of (X := cxOf (L2N.CX P w) P w K mg base n_Bench_ends "Bench.ends" (defScope s_Bench_ends) f cdv A outer s H E) rfl rfl rfl rfl
    refine gb_cons (gs_if (gt_val (ge_call DB hr pass0 (ga_cons (tup_k (ga_cons (ge_var 2 rfl rfl (ga_cons (ge_var 3 rfl rfl (ga_nil ⟨Nat.le_of_ble_eq_true rfl, fun t1 H1 ht1 e1 h1 => ?_⟩))))))))))
    have B1 := B.ex e1
    obtain ⟨ys, s1, s2⟩ := B1.cur.s
    have his : i < S.stood.length := by rw [L.s]; exact hi
    obtain ⟨x, hx, hxd⟩ := nums_at s2 his
    refine ga_cons (ge_ix (ge_self 0 rfl rfl c.cls B1.ins c.stood bf_stood ?_))
    fail "rdk"
    refine i2_lst (Evl.sq_of s1) (atI_n hx) ?_
    fail "rdk"
    refine ⟨_, _, l, _, 200, rfl, .tup (Evl.st_of h1) (.cons (hv.ex e1) (.cons (hu.ex e1) .nil)), hxd, o1, o2, getD_all hS his, by decide, fun bb H2 e2 => ⟨bb, rfl, ite_b (fun _ => ?_) fun _ => ?_⟩⟩
    · refine gb_one (gs_raise rfl tk (gr_xini IS nS (hr.mono (by decide)) ?_))
      refine ge_var 1 rfl rfl fun d H4 hd e4 h4 => ?_
      exact kx "Stopped" DS (some d) H4 (by simp) ES ((e1.trans e2).trans e4) (xdf_stopped h4)
    · have B2 := B1.ex e2
      refine gb_nil (gb_cons (gs_expr (ge_meth0 c.cls DK (hr.mono (by decide)) pass0 ?_)))
      refine ge_var 0 rfl rfl ⟨b, dx, _, rfl, B2.ins, by rfl, ?_⟩
      refine ⟨b, dx, p, F, Fs, S, past, rfl, B2, hp, fun H3 Fk B3 f3 fr => ?_⟩
      have tk3 := f_tk B2 f3
      refine gb_one (gs_setL ?_)
      fail "rdk"
      refine ⟨Nat.le_of_ble_eq_true rfl, fun t2 H4 ht2 e4 h4 => ?_⟩
      have B4 := B3.ex e4
      obtain ⟨zs, z1, z2⟩ := B4.cur.l
      refine ge_self 0 rfl rfl c.cls B4.ins c.limits bf_limits ?_
      fail "rdk"
      refine ⟨F.l, zs, i, i, rfl, rfl, z1, ixN_nat' (by have := z2.length; rw [List.length_map, L.l] at this; omega), ?_⟩
      have e12 := e1.trans e2
      refine aft_of k (B4.set_l z1 (.tup (Evl.st_of h4) (.cons (((hv.ex e12).tk tk3).ex e4) (.cons (((hu.ex e12).tk tk3).ex e4) .nil)))) (((Fr.ex e12).trans f3).trans (Fr.ex e4)) (Fr.upd (by simp [Fv.list])) fun a ha => Evl.fresh_back e12 (fr a ha)
end
end RD
namespace RD
open PySem PySem.Spec PyProof.Rows L2 L2H
theorem BenchAt.pop {K : PySem.W.Frag} {H H' : Hp} {C b dx p t1 : Addr} {F F1 : Fv} {Fs1 : List Fv} {S S1 : BS} {past1 : List BS} {ts1 : List Addr} (B : BenchAt K H C b dx p F (Fs1 ++ [F1]) S (past1 ++ [S1])) (hp : H p = some (.lst (ts1.map V.ref ++ [.ref t1])))
    (hb' : H' b = some (.ins C dx (bf F1 p))) (hp' : H' p = some (.lst (ts1.map V.ref))) (hs : ∀ a, a ≠ b → a ≠ p → H' a = H a) (hd : ∀ a, H' a = none → H a = none) : BenchAt K H' C b dx p F1 Fs1 S1 past1 := by
  obtain ⟨a1, a2, a3, a4, a5, a6⟩ := fp_apart B.nd
  have hlen : Fs1.length = past1.length := by
    have := B.len
    rw [List.length_append, List.length_append] at this
    exact Nat.succ.inj this
  have fr : Fr [b, p] H H' := ⟨fun a o h n => by
    simp only [List.mem_cons, List.not_mem_nil, or_false, not_or] at n
    rw [hs a n.1 n.2]; exact h, hd⟩
  have tk : Tk K H H' := fr.tk fun a ha => by
    simp only [List.mem_cons, List.not_mem_nil, or_false] at ha
    rcases ha with rfl | rfl
    · exact B.nt _ BenchAt.mem_b
    · exact B.nt _ BenchAt.mem_p
  have hF1 : (Fs1 ++ [F1])[Fs1.length]? = some F1 := by rw [List.getElem?_append_right (Nat.le_refl _), Nat.sub_self]; rfl
  have hS1 : (past1 ++ [S1])[Fs1.length]? = some S1 := by rw [List.getElem?_append_right (by omega), hlen, Nat.sub_self]; rfl
  have m1 : ∀ a ∈ F1.list, a ∈ (Fs1 ++ [F1]).flatMap Fv.list := fun a ha => mem_fs hF1 ha
  have m2 : ∀ a ∈ Fs1.flatMap Fv.list, a ∈ (Fs1 ++ [F1]).flatMap Fv.list := fun a ha => by rw [List.flatMap_append]; exact List.mem_append_left _ ha
  rw [List.flatMap_append, List.nodup_append] at a6
  obtain ⟨n1, n2, n3⟩ := a6
  have n2' : F1.list.Nodup := by simpa using n2
  have same : ∀ a ∈ (Fs1 ++ [F1]).flatMap Fv.list, H' a = H a := fun a ha => hs a (a5 a ha).1 (a5 a ha).2.1
  refine ⟨hb', (B.hist _ _ _ hF1 hS1).keep tk fun a ha => same a (m1 a ha), ⟨ts1, hp', ?_, ?_⟩, ?_, hlen, fp_of a1 (fun h => (a5 b (m1 b h)).1 rfl) (fun h => (a5 p (m1 p h)).2.1 rfl) n2' (fun a ha => ⟨(a5 a (m2 a ha)).1, (a5 a (m2 a ha)).2.1, fun hm => n3 a ha a (by simpa using hm) rfl⟩) n1⟩
  · obtain ⟨ts, h1, h2, h3⟩ := B.pst
    rw [hp] at h1
    have e1 : ts1.map V.ref ++ [.ref t1] = ts.map V.ref := by
      have := Option.some.inj h1
      exact HO.lst.inj this
    have e2 := congrArg List.length e1
    rw [List.length_append, List.length_map, List.length_map, h2, List.length_append] at e2
    exact Nat.succ.inj e2
  · obtain ⟨ts, h1, h2, h3⟩ := B.pst
    rw [hp] at h1
    have e1 : ts1.map V.ref ++ [.ref t1] = ts.map V.ref := by
      have := Option.some.inj h1
      exact HO.lst.inj this
    intro i t Fi c1 c2
    have hi : i < Fs1.length := (List.getElem?_eq_some_iff.mp c2).1
    have e3 : ts[i]? = some t := by
      have h4 : (ts.map V.ref)[i]? = some (V.ref t) := by
        rw [← e1, List.getElem?_append_left (by rw [List.length_map]; exact (List.getElem?_eq_some_iff.mp c1).1), List.getElem?_map, c1]
        rfl
      rw [List.getElem?_map] at h4
      cases e5 : ts[i]? with
      | none => rw [e5] at h4; cases h4
      | some z =>
        rw [e5] at h4
        have := Option.some.inj h4
        cases this
        rfl
    exact tk _ _ (h3 i t Fi e3 (by rw [List.getElem?_append_left hi]; exact c2))
  · intro i Fi Si c1 c2
    have hi : i < Fs1.length := (List.getElem?_eq_some_iff.mp c1).1
    exact (B.hist i Fi Si (by rw [List.getElem?_append_left hi]; exact c1) (by rw [List.getElem?_append_left (by omega)]; exact c2)).keep tk fun a ha => same a (m2 a (mem_fs c1 ha))
section
variable {P : Program} {w : World} {K : PySem.W.Frag} {mg : Str → Option Value} {base : Heap} {f : Addr} {fd : FuncData} {C : Addr}
def spUndo : Sp := fun vs H Q E => ∃ (b dx p : Addr) (F : Fv) (Fs : List Fv) (S : BS) (past : List BS), vs = [.ref b] ∧ BenchAt K H C b dx p F Fs S past ∧
  (∀ past1 S1, past = past1 ++ [S1] → Aft K H C b dx p F Fs S1 past1 (Q .non)) ∧ (past = [] → Ref K mg H E ["NoDeed"])
theorem ok_undo (R : Errs P w K mg base) (c : BC K C) (F : FnP K "undo" "Bench.undo" s_Bench_undo f fd) : FnOk P w K mg base (L2N.CX P w) 1 f fd ["self"] (spUndo (K := K) (mg := mg) (C := C)) := by
  refine fnX F sc_Bench_undo (fun vs H Q E h => ?_) (fun cdv A outer s H vs Q E hr h => ?_)
  · obtain ⟨_, _, _, _, _, _, _, rfl, _⟩ := h
    rfl
  · obtain ⟨b, dx, p, F, Fs, S, past, rfl, B, k, kx⟩ := h
    obtain ⟨DN, EN, ON⟩ := R.noDeed
    have tk := L2N.takes_of (X := cxOf (L2N.CX P w) P w K mg base n_Bench_undo "Bench.undo" (defScope s_Bench_undo) f cdv A outer s H E) rfl rfl rfl rfl
    obtain ⟨ts, t1, t2, t3⟩ := B.pst
    refine gb_cons (gs_if (gt_cmp (ge_self 0 rfl rfl c.cls B.ins c.past bf_past (lst_k (ga_nil ⟨Nat.le_of_ble_eq_true rfl, fun q H1 hq e1 h1 => ?_⟩)))))
    refine o2_eqNil (Nat.lt_of_succ_lt (hu_of hr)) (Evl.sq_of (e1 _ _ t1)) (Evl.sq_of h1) ⟨_, rfl, ite_b (fun he => ?_) fun he => ?_⟩
    · have hts : ts = [] := by
        have := List.isEmpty_iff.mp he
        simpa using this
      have hpast : past = [] := by
        rw [hts] at t2
        have := B.len
        rw [← t2] at this
        exact List.length_eq_zero_iff.mp this.symm
      refine gb_one (gs_raise rfl tk (gr_own ON ?_))
      exact kx hpast _ DN none H1 (by simp) EN e1 (xdf_own (by decide) (by decide))
    · have hne : past ≠ [] := fun z => by
        rw [z] at B
        have := B.len
        rw [← t2] at this
        have hts : ts = [] := List.length_eq_zero_iff.mp this
        rw [hts] at he
        cases he
      obtain ⟨past1, S1, rfl⟩ : ∃ past1 S1, past = past1 ++ [S1] := ⟨past.dropLast, past.getLast hne, (List.dropLast_concat_getLast hne).symm⟩
      have hFne : Fs ≠ [] := fun z => by
        have := B.len
        rw [z] at this
        simp at this
      obtain ⟨Fs1, F1, rfl⟩ : ∃ Fs1 F1, Fs = Fs1 ++ [F1] := ⟨Fs.dropLast, Fs.getLast hFne, (List.dropLast_concat_getLast hFne).symm⟩
      have htne : ts ≠ [] := fun z => by
        rw [z] at t2
        simp at t2
      obtain ⟨ts1, tl, rfl⟩ : ∃ ts1 t, ts = ts1 ++ [t] := ⟨ts.dropLast, ts.getLast htne, (List.dropLast_concat_getLast htne).symm⟩
      have hl1 : ts1.length = Fs1.length := by
        rw [List.length_append, List.length_append] at t2
        exact Nat.succ.inj t2
      have hpt : H p = some (.lst (ts1.map V.ref ++ [.ref tl])) := by rw [t1, List.map_append]; rfl
      have hq : SqT K H tl (F1.list.map V.ref) := t3 ts1.length tl F1 (by rw [List.getElem?_append_right (Nat.le_refl _), Nat.sub_self]; rfl) (by rw [List.getElem?_append_right (by omega), hl1, Nat.sub_self]; rfl)
      have B1 := B.ex e1
      have hq1 := Evl.ex_t e1 hq
      have hpt1 := e1 _ _ hpt
      obtain ⟨a1, a2, a3, a4, a5, a6⟩ := fp_apart B.nd
      refine gb_nil (gb_one (gs_asg (pg_tup rfl (pgs_cons pg_fld (pgs_cons pg_fld (pgs_cons pg_fld (pgs_cons pg_fld (pgs_cons pg_fld pgs_nil)))))) (ge_pop (ge_self 0 rfl rfl c.cls B1.ins c.past bf_past ?_))))
      refine ⟨p, _, .ref tl, rfl, hpt1, by simp, ?_⟩
      rw [List.dropLast_concat]
      have tkp : Tk K H1 (upd H1 p (.lst (ts1.map V.ref))) := tk_mut hpt1
      refine ⟨tl, _, rfl, tkp _ _ hq1, rfl, ?_⟩
      have hb0 : (upd H1 p (.lst (ts1.map V.ref))) b = some (.ins C dx (bf F p)) := (upd_ne a1).trans B1.ins
      refine ⟨.ref F1.r, _, rfl, ge_var 0 rfl rfl ⟨b, C, dx, _, rfl, hb0, c.cls, c.rows, (by show 6 < 1000; decide), ?_⟩⟩
      rw [put_rows]
      refine ⟨.ref F1.s, _, rfl, ge_var 0 rfl rfl ⟨b, C, dx, _, rfl, upd_same, c.cls, c.stood, (by show 6 < 1000; decide), ?_⟩⟩
      rw [put_stood]
      refine ⟨.ref F1.u, _, rfl, ge_var 0 rfl rfl ⟨b, C, dx, _, rfl, upd_same, c.cls, c.sums, (by show 6 < 1000; decide), ?_⟩⟩
      rw [put_sums]
      refine ⟨.ref F1.o, _, rfl, ge_var 0 rfl rfl ⟨b, C, dx, _, rfl, upd_same, c.cls, c.outs, (by show 6 < 1000; decide), ?_⟩⟩
      rw [put_outs]
      refine ⟨.ref F1.l, _, rfl, ge_var 0 rfl rfl ⟨b, C, dx, _, rfl, upd_same, c.cls, c.limits, (by show 6 < 1000; decide), rfl, ?_⟩⟩
      rw [put_limits]
      have fr1 : Fr (fpB b p F (Fs1 ++ [F1])) H (upd H1 p (.lst (ts1.map V.ref))) := (Fr.ex e1).trans (Fr.upd BenchAt.mem_p)
      have fr2 := ((((fr1.trans (Fr.upd (o := .ins C dx (bf { F with r := F1.r } p)) BenchAt.mem_b)).trans (Fr.upd (o := .ins C dx (bf { F with r := F1.r, s := F1.s } p)) BenchAt.mem_b)).trans (Fr.upd (o := .ins C dx (bf { F with r := F1.r, s := F1.s, u := F1.u } p)) BenchAt.mem_b)).trans
        (Fr.upd (o := .ins C dx (bf { F with r := F1.r, s := F1.s, u := F1.u, o := F1.o } p)) BenchAt.mem_b)).trans (Fr.upd (o := .ins C dx (bf F1 p)) BenchAt.mem_b)
      refine k past1 S1 rfl _ F1 Fs1 (B1.pop (t1 := tl) hpt1 upd_same ?_ (fun a h1 h2 => ?_) (fun a ha => ?_)) fr2 fun a ha => .inl ?_
      · rw [upd_ne a1.symm, upd_ne a1.symm, upd_ne a1.symm, upd_ne a1.symm, upd_ne a1.symm]
        exact upd_same
      · rw [upd_ne h1, upd_ne h1, upd_ne h1, upd_ne h1, upd_ne h1, upd_ne h2]
      · by_cases hab : a = b
        · rw [hab, upd_same] at ha
          cases ha
        · rw [upd_ne hab, upd_ne hab, upd_ne hab, upd_ne hab, upd_ne hab] at ha
          by_cases hap : a = p
          · rw [hap, upd_same] at ha
            cases ha
          · rw [upd_ne hap] at ha
            exact ha
      · unfold fpB at ha ⊢
        simp only [List.mem_cons, List.mem_append, List.flatMap_append, List.flatMap_cons, List.flatMap_nil, List.append_nil] at ha ⊢
        rcases ha with h | h | h | h
        · exact .inl h
        · exact .inr (.inl h)
        · exact .inr (.inr (.inr (.inr h)))
        · exact .inr (.inr (.inr (.inl h)))
end
end RD
namespace RD
open PySem PySem.Spec PyProof.Rows L2 L2H
theorem full_len {rs : Rows} {L0 L : List Nat} (t0 : Topo rs L0) (h0 : L0.length = rs.length) (t : Topo rs L) (f : Full rs L) : L.length = rs.length := by
  have sub : ∀ i, ∀ k ∈ L0.take i, k ∈ L := by
    intro i
    induction i with
    | zero => intro k hk; simp at hk
    | succ i ih =>
      intro k hk
      by_cases hi : i < L0.length
      · rw [List.take_succ, List.getElem?_eq_getElem hi] at hk
        rcases List.mem_append.mp hk with h | h
        · exact ih k h
        · have e : k = L0[i] := by simpa using h
          refine Classical.byContradiction fun hn => ?_
          obtain ⟨d, hd, hdn⟩ := f k (t0.lt k (by rw [e]; exact List.getElem_mem hi)) hn
          exact hdn (ih d (t0.dr i k (by rw [List.getElem?_eq_getElem hi, e]) d hd))
      · rw [List.take_of_length_le (by omega)] at hk
        exact ih k (by rw [List.take_of_length_le (by omega)]; exact hk)
  have all : ∀ k, k < rs.length → k ∈ L := fun k hk => sub L0.length k (by rw [List.take_length]; exact full_all t0.nd t0.lt h0 k hk)
  have h1 := len_of_all all
  have h2 := t.len
  omega
def rowAt (S : BS) (k : Nat) : Row := (S.rows.getD k (n0, .src)).2
/-- the moves that the rows ask -/
def MovesOk (S : BS) (n : Num) (M : List Num) : Prop := M.length = S.rows.length ∧ ∀ k, k < S.rows.length → M.getD k n0 = if S.outs.getD k false = true then n0 else dueN (rowAt S k) S.stood M n
def Bq : Nat → Nat
  | 0 => 4
  | i + 1 => 2 * Bq i + 201
theorem Bq_mono (i : Nat) : Bq i ≤ Bq (i + 1) := by show Bq i ≤ 2 * Bq i + 201; omega
theorem Bq_le : ∀ {i : Nat}, i < 5 → Bq i ≤ 4000
  | 0, _ => by decide
  | 1, _ => by decide
  | 2, _ => by decide
  | 3, _ => by decide
  | 4, _ => by decide
  | n + 5, h => by omega
theorem Bq_le5 : ∀ {i : Nat}, i ≤ 5 → Bq i ≤ 6359
  | 0, _ => by decide
  | 1, _ => by decide
  | 2, _ => by decide
  | 3, _ => by decide
  | 4, _ => by decide
  | 5, _ => by decide
  | n + 6, h => by omega
theorem n0_nz : Nz 4 n0 := ⟨by decide, by decide, by decide⟩
theorem n0_red : Red n0 := by unfold Red n0; rfl
theorem due_congr {r : Row} {S M M' : List Num} {n : Num} (h : ∀ d ∈ r.drives, M.getD d n0 = M'.getD d n0) : dueN r S M n = dueN r S M' n := by
  cases r with
  | src => rfl
  | gear q s => show mulN q (M.getD s n0) = mulN q (M'.getD s n0); rw [h s List.mem_cons_self]
  | add a b => show addN (M.getD a n0) (M.getD b n0) = addN (M'.getD a n0) (M'.getD b n0); rw [h a List.mem_cons_self, h b (List.mem_cons_of_mem _ List.mem_cons_self)]
  | disc c t => show mulN (S.getD c n0) (M.getD t n0) = mulN (S.getD c n0) (M'.getD t n0); rw [h t List.mem_cons_self]
theorem due_red {r : Row} {S M : List Num} {n : Num} {N : Nat} (hr : RowOk N r) (hS : S.length = N) (hM : M.length = N) (pS : ∀ x ∈ S, 0 < x.2) (pM : ∀ x ∈ M, 0 < x.2) (hn : Red n) : Red (dueN r S M n) := by
  cases r with
  | src => exact hn
  | gear q s => exact mulN_red hr.1.1 (getD_all (p := fun x => 0 < x.2) pM (by rw [hM]; exact hr.2.2))
  | add a b => exact addN_red (getD_all (p := fun x => 0 < x.2) pM (by rw [hM]; exact hr.1)) (getD_all (p := fun x => 0 < x.2) pM (by rw [hM]; exact hr.2))
  | disc c t => exact mulN_red (getD_all (p := fun x => 0 < x.2) pS (by rw [hS]; exact hr.1)) (getD_all (p := fun x => 0 < x.2) pM (by rw [hM]; exact hr.2))
/-- within the loop -/
structure Iv (S : BS) (n : Num) (L : List Nat) (i : Nat) (M : List Num) : Prop where
  len : M.length = S.rows.length
  out : ∀ k, k < S.rows.length → k ∉ L.take i → M.getD k n0 = n0
  ok : ∀ k ∈ L.take i, M.getD k n0 = if S.outs.getD k false = true then n0 else dueN (rowAt S k) S.stood M n
  nz : ∀ x ∈ M, Nz (Bq i) x
  red : ∀ x ∈ M, Red x
theorem getD_set {M : List Num} {k j : Nat} {x : Num} (hk : k < M.length) : (M.set k x).getD j n0 = if j = k then x else M.getD j n0 := by
  rw [List.getD_eq_getElem?_getD, List.getD_eq_getElem?_getD]
  by_cases h : j = k
  · rw [if_pos h, h, List.getElem?_set_self hk]; rfl
  · rw [if_neg h, List.getElem?_set_ne (Ne.symm h)]
theorem mem_set {M : List Num} {k : Nat} {x y : Num} (h : y ∈ M.set k x) : y = x ∨ y ∈ M := by
  rcases List.mem_or_eq_of_mem_set h with h | h
  · exact .inr h
  · exact .inl h
theorem Iv.start {S : BS} {n : Num} {L : List Nat} : Iv S n L 0 (List.replicate S.rows.length n0) := by
  refine ⟨List.length_replicate, fun k hk _ => ?_, fun k hk => by simp at hk, fun x hx => ?_, fun x hx => ?_⟩
  · rw [List.getD_eq_getElem?_getD, List.getElem?_replicate, if_pos hk]; rfl
  · rw [(List.mem_replicate.mp hx).2]; exact n0_nz
  · rw [(List.mem_replicate.mp hx).2]; exact n0_red
theorem take_snoc {L : List Nat} {i k : Nat} (h : L[i]? = some k) : L.take (i + 1) = L.take i ++ [k] := by rw [List.take_succ, h]; rfl
theorem not_take {L : List Nat} (nd : L.Nodup) {i k : Nat} (h : L[i]? = some k) : k ∉ L.take i := fun hm => by
  obtain ⟨j, hj⟩ := List.getElem?_of_mem hm
  have hjl := (List.getElem?_eq_some_iff.mp hj).1
  rw [List.length_take] at hjl
  rw [List.getElem?_take_of_lt (by omega)] at hj
  have hil := (List.getElem?_eq_some_iff.mp h).1
  have h1 := (List.getElem?_eq_some_iff.mp hj).2
  have h2 := (List.getElem?_eq_some_iff.mp h).2
  exact List.pairwise_iff_getElem.mp nd j i (by omega) hil (by omega) (h1.trans h2.symm)
theorem Iv.skip {S : BS} {n : Num} {L : List Nat} {i k : Nat} {M : List Num} (v : Iv S n L i M) (hi : L[i]? = some k) (nd : L.Nodup) (hk : k < S.rows.length) (ho : S.outs.getD k false = true) : Iv S n L (i + 1) M := by
  refine ⟨v.len, fun j hj hn => v.out j hj fun hm => hn (by rw [take_snoc hi]; exact List.mem_append_left _ hm), fun j hj => ?_, fun x hx => (v.nz x hx).mono (Bq_mono i), v.red⟩
  rw [take_snoc hi] at hj
  rcases List.mem_append.mp hj with h | h
  · exact v.ok j h
  · have e : j = k := by simpa using h
    rw [e, if_pos ho]
    exact v.out k hk (not_take nd hi)
theorem Iv.step {S : BS} {n : Num} {L : List Nat} {i k : Nat} {M : List Num} (v : Iv S n L i M) (hi : L[i]? = some k) (tp : Topo S.rows L) (hk : k < S.rows.length) (ho : S.outs.getD k false = false) (hd : (rowAt S k).drives = drivesAt S.rows k)
    (hz : Nz (Bq (i + 1)) (dueN (rowAt S k) S.stood M n)) (hr : Red (dueN (rowAt S k) S.stood M n)) : Iv S n L (i + 1) (M.set k (dueN (rowAt S k) S.stood M n)) := by
  have hkl : k < M.length := by rw [v.len]; exact hk
  have nk := not_take tp.nd hi
  have drv : ∀ j (y : Nat), L[j]? = some y → j ≤ i → ∀ d ∈ drivesAt S.rows y, d ≠ k := fun j y hj hji d hdd e => by
    have h1 := tp.dr j y hj d hdd
    have : d ∈ L.take i := (List.take_sublist_take_left hji).mem h1
    exact nk (e ▸ this)
  refine ⟨by rw [List.length_set]; exact v.len, fun j hj hn => ?_, fun j hj => ?_, fun x hx => ?_, fun x hx => ?_⟩
  · rw [take_snoc hi] at hn
    have h1 : j ∉ L.take i := fun h => hn (List.mem_append_left _ h)
    have h2 : j ≠ k := fun h => hn (List.mem_append_right _ (by simp [h]))
    rw [getD_set hkl, if_neg h2]
    exact v.out j hj h1
  · rw [take_snoc hi] at hj
    rcases List.mem_append.mp hj with h | h
    · have h2 : j ≠ k := fun e => nk (e ▸ h)
      rw [getD_set hkl, if_neg h2, v.ok j h]
      by_cases hoj : S.outs.getD j false = true
      · rw [if_pos hoj, if_pos hoj]
      · rw [if_neg hoj, if_neg hoj]
        obtain ⟨a, ha⟩ := List.getElem?_of_mem h
        have hal := (List.getElem?_eq_some_iff.mp ha).1
        rw [List.length_take] at hal
        rw [List.getElem?_take_of_lt (by omega)] at ha
        have hjl := tp.lt j (List.mem_of_getElem? ha)
        refine due_congr fun d hdd => ?_
        have e1 : (rowAt S j).drives = drivesAt S.rows j := by
          unfold rowAt drivesAt
          rw [List.getD_eq_getElem?_getD, List.getElem?_eq_getElem hjl]
          rfl
        rw [e1] at hdd
        rw [getD_set hkl, if_neg (drv a j ha (by omega) d hdd)]
    · have e : j = k := by simpa using h
      rw [e, if_neg (by rw [ho]; decide), getD_set hkl, if_pos rfl]
      refine due_congr fun d hdd => ?_
      rw [hd] at hdd
      rw [getD_set hkl, if_neg (drv i k hi (Nat.le_refl _) d hdd)]
  · rcases mem_set hx with h | h
    · rw [h]; exact hz
    · exact (v.nz x h).mono (Bq_mono i)
  · rcases mem_set hx with h | h
    · rw [h]; exact hr
    · exact v.red x h
theorem rowAt_eq {S : BS} {k : Nat} (hk : k < S.rows.length) : rowAt S k = S.rows[k].2 := by
  unfold rowAt
  rw [List.getD_eq_getElem?_getD, List.getElem?_eq_getElem hk]
  rfl
/-- what is always so of a bench -/
structure BOk (S : BS) (n : Nat) : Prop where
  len : BLen S n
  n5 : n ≤ 5
  rows : ∀ y ∈ S.rows, RowOk n y.2 ∧ Nz 4 y.1
  tp : ∃ L, Topo S.rows L ∧ L.length = n
  st : ∀ x ∈ S.stood, Nz 200 x
  lim : LimOk S.lims
section
variable {P : Program} {w : World} {K : PySem.W.Frag} {mg : Str → Option Value} {base : Heap} {f : Addr} {fd : FuncData} {C : Addr}
def spMovesBy : Sp := fun vs H Q _ => ∃ (b dx p : Addr) (F : Fv) (Fs : List Fv) (S : BS) (past : List BS) (n : Nat) (v : V) (m : Num), vs = [.ref b, v] ∧ BenchAt K H C b dx p F Fs S past ∧ BOk S n ∧ TD K H v (nD m) ∧ Nz 4 m ∧ Red m ∧
  ∀ q H' M, H q = none → Ex H H' → LA K H' q (numsD M) → MovesOk S m M → (∀ x ∈ M, Nz 6359 x ∧ Red x) → Q (.ref q) H'
theorem ok_moves_by (T : Tx K mg) (c : BC K C) (F : FnP K "moves_by" "Bench.moves_by" s_Bench_moves_by f fd) (DO : Df P w K mg base CX0 3 "order_of" ["machine"] (spOrder (K := K))) (DM : Df P w K mg base CX0 4 "move_of" ["row", "stood", "moves", "number"] (spMove (K := K))) : FnOk P w K mg base CX0 5 f fd ["self", "number"] (spMovesBy (K := K) (C := C)) := by
  refine fn0 F sc_Bench_moves_by (fun vs H Q E h => ?_) (fun cdv A outer s H vs Q E hr h => ?_)
  · obtain ⟨_, _, _, _, _, _, _, _, _, _, rfl, _⟩ := h
    rfl
  · obtain ⟨b, dx, p, F, Fs, S, past, N, v, m, rfl, B, ok, hv, hm, hmr, k⟩ := h
    obtain ⟨L0, t0, l0⟩ := ok.tp
    obtain ⟨an, hmn, hsn⟩ := T.nought
    obtain ⟨ys, r1, r2⟩ := B.cur.r
    have hyl := rows_len r2
    have hN := ok.len.r
    have hN5 := ok.n5
    refine gb_cons (gs_lc 2 rfl rfl (sw_true rfl rfl rfl (by decide +kernel)) (gl_lcL rfl sc_Bench_moves_by.nd (blkOk_by (N := n_Bench_moves_by) (sc := defScope s_Bench_moves_by) (by decide +kernel)) ?_ (fun _ _ _ _ _ => pg_name (i := 4) sc_Bench_moves_by.nd rfl (Or.inl rfl))))
    refine ge_self 0 rfl rfl c.cls B.ins c.rows bf_rows ?_
    refine ⟨F.r, ys, fun _ => nD n0, rfl, Evl.sq_of r1, by omega, fun i x H2 hx e2 => ⟨fun s0 H0 C cl fp => ?_⟩, fun q H1 zs hq e1 h1 hz => ?_⟩
    · refine ge_glob (v := .ref an) hmn rfl ?_
      exact ⟨Evl.Ex.refl _, TD.numI (n := n0) (hsn H2)⟩
    · have hz' : TDs K H1 zs (numsD (List.replicate S.rows.length n0)) := by
        rw [kept_all, hyl] at hz
        have e : (List.range S.rows.length).map (fun _ => nD n0) = numsD (List.replicate S.rows.length n0) := by
          unfold numsD
          rw [List.map_replicate]
          exact List.map_const' ..  |>.trans (by rw [List.length_range])
        rw [e] at hz
        exact hz
      have B1 := B.ex e1
      obtain ⟨yr, w1, w2⟩ := B1.cur.r
      refine gb_cons (gs_forL PassesOwn.never rfl (pg_name (i := 3) sc_Bench_moves_by.nd rfl (Or.inl rfl)) (ge_call DO (hr.mono (by decide)) pass0 ?_))
      refine ga_cons (ge_self 0 rfl rfl c.cls B1.ins c.rows bf_rows (ga_nil ?_))
      refine ⟨F.r, S.rows, rfl, ⟨yr, Evl.sq_of w1, w2⟩, by omega, fun st H2 L hst e2 h2 tp fl => ?_⟩
      have hL : L.length = S.rows.length := full_len t0 (by rw [l0, hN]) tp fl
      have hqst : q ≠ st := fun z => by rw [z, hst] at h1; cases h1
      refine ⟨st, _, fun i σ H' => ∃ (sh : Option V) (M : List Num) (zs : List V), σ = [some (.ref b), some v, some (.ref q), sh, none] ∧ Ex H H' ∧ H' st = some (.lst (L.map fun (k : Nat) => V.int k)) ∧ H' q = some (.lst zs) ∧ TDs K H' zs (numsD M) ∧ Iv S m L i M, rfl, Evl.sq_of h2,
        ⟨_, _, zs, rfl, e1.trans e2, h2, e2 _ _ h1, hz'.ex e2, Iv.start⟩, fun i σ H' _ ⟨_, _, _, _, _, h, _⟩ => Evl.sq_of h, ?_, ?_⟩
      · rintro i x σ H' hx ⟨sh, M, zs, rfl, e, hs, hq', hzs, iv⟩
        obtain ⟨kk, hkk, rfl⟩ : ∃ kk, L[i]? = some kk ∧ x = V.int (kk : Nat) := by
          rw [List.getElem?_map] at hx
          cases e : L[i]? with
          | none => rw [e] at hx; cases hx
          | some n => rw [e] at hx; exact ⟨n, rfl, (Option.some.inj hx).symm⟩
        have hkl : kk < S.rows.length := tp.lt kk (List.mem_of_getElem? hkk)
        have hil : i < 5 := by have := (List.getElem?_eq_some_iff.mp hkk).1; omega
        have B' := B.ex e
        obtain ⟨yo, o1, o2⟩ := B'.cur.o
        refine gb_one (gs_if (gt_not (gt_val (ge_ix (ge_self 0 rfl rfl c.cls B'.ins c.outs bf_outs ?_)))))
        fail "rdk"
        refine i2_lst (Evl.sq_of o1) (atI_n (bools_at o2 (show kk < S.outs.length by rw [ok.len.o]; omega))) ?_
        refine ⟨_, rfl, ite_nb (fun ho => ?_) fun ho => ?_⟩
        · obtain ⟨yr, w1, w2⟩ := B'.cur.r
          obtain ⟨ss, s1, s2⟩ := B'.cur.s
          obtain ⟨x, hxr, hxd⟩ := rows_at w2 hkl
          refine gb_one (gs_setL (ge_call DM (hr.mono (by decide)) pass0 (ga_cons (ge_ix (ge_self 0 rfl rfl c.cls B'.ins c.rows bf_rows ?_)))))
          fail "rdk"
          refine i2_lst (Evl.sq_of w1) (atI_n hxr) ?_
          refine ga_cons (ge_self 0 rfl rfl c.cls B'.ins c.stood bf_stood ?_)
          fail "rdk"
          have hrok : RowOk S.stood.length S.rows[kk].2 := by rw [ok.len.s]; exact (ok.rows _ (List.getElem_mem hkl)).1
          have hdr : ∀ d ∈ S.rows[kk].2.drives, Nz (Bq i) (M.getD d n0) := fun d hd => by
            have hdl : d < S.rows.length := wf_ok ok.len.r (fun y hy => (ok.rows y hy).1) kk d (by rw [drives_at hkl]; exact hd) |> fun h => by rw [ok.len.r] at h ⊢; exact h
            exact getD_all iv.nz (by rw [iv.len]; exact hdl)
          refine ⟨x, v, S.rows[kk].1, S.rows[kk].2, F.s, q, S.stood, M, m, Bq i, rfl, hxd, B'.cur.s.ld, ⟨zs, Evl.sq_of hq', hzs⟩, hv.ex e, hrok, by rw [iv.len, ok.len.s, ok.len.r], ok.st, hdr, Bq_le hil, fun nv H3 e3 hnv => ?_⟩
          fail "rdk"
          have hq3 := e3 _ _ hq'
          refine ⟨q, zs, kk, kk, rfl, rfl, hq3, ixN_nat' (by rw [nums_len hzs, iv.len]; exact hkl), ?_⟩
          have hra := rowAt_eq (S := S) hkl
          rw [← hra] at hnv hdr hrok
          refine ⟨_, M.set kk (dueN (rowAt S kk) S.stood M m), _, rfl, Evl.Ex.mut (e.trans e3) hq, ?_, upd_same, ?_, iv.step hkk tp hkl ho (by rw [hra, drives_at hkl]) ?_ ?_⟩
          · rw [upd_ne hqst.symm]
            exact e3 _ _ hs
          · have := ((hzs.ex e3).set (i := kk) hnv).tk (tk_mut (ys := zs.set kk nv) hq3)
            unfold numsD at this ⊢
            rw [set_of] at this
            exact this
          · exact due_nz hrok (by rw [iv.len, ok.len.s, ok.len.r]) ok.st hdr hm
          · exact due_red (N := N) (by rw [hra]; exact (ok.rows _ (List.getElem_mem hkl)).1) ok.len.s (by rw [iv.len, hN]) (fun x hx => (ok.st x hx).1) (fun x hx => (iv.nz x hx).1) hmr
        · exact gb_nil ⟨_, M, zs, rfl, e, hs, hq', hzs, iv.skip hkk tp.nd hkl ho⟩
      · rintro σ H' ⟨sh, M, zs, rfl, e, hs, hq', hzs, iv⟩
        rw [List.length_map] at iv
        refine gb_one (gs_ret (ge_var 2 rfl rfl ?_))
        refine k q H' M hq e ⟨zs, hq', hzs⟩ ⟨iv.len, fun j hj => iv.ok j ?_⟩ fun x hx => ⟨(iv.nz x hx).mono (Bq_le5 (by omega)), iv.red x hx⟩
        rw [List.take_length]
        exact full_all tp.nd tp.lt hL j hj
end
end RD
namespace RD
open PySem PySem.Spec PyProof.Rows L2 L2H
def bs0 (rs : Rows) : BS := ⟨rs, rs.map (·.1), List.replicate rs.length n0, List.replicate rs.length false, List.replicate rs.length (none, none)⟩
/-- a list keeps when the instance is written -/
theorem la_step {K : PySem.W.Frag} {Hc Hd : Hp} {a b C dx : Addr} {fs gs : List (Str × V)} {ds : List PyData} (h : LA K Hc a ds) (e : Ex Hc Hd) (hb : Hd b = some (.ins C dx fs)) : LA K (upd Hd b (.ins C dx gs)) a ds := by
  have tk : Tk K Hd (upd Hd b (.ins C dx gs)) := (Fr.upd (M := [b]) (by simp)).tk fun x hx => by
    have e : x = b := by simpa using hx
    rw [e]
    exact .inr (.inl ⟨_, _, _, hb⟩)
  obtain ⟨ys, h1, h2⟩ := h.ex e
  exact LA.keep tk (upd_ne fun z => by rw [z, hb] at h1; cases h1) ⟨ys, h1, h2⟩
theorem ld_step {K : PySem.W.Frag} {Hc Hd : Hp} {a b C dx : Addr} {fs gs : List (Str × V)} {ds : List PyData} (h : LA K Hc a ds) (e : Ex Hc Hd) (hb : Hd b = some (.ins C dx fs)) : LA K (upd Hd b (.ins C dx gs)) a ds := la_step h e hb
theorem rep_map {α β : Type} {n : Nat} {x : α} (f : α → β) : (List.range n).map (fun _ => f x) = (List.replicate n x).map f := by
  rw [List.map_replicate]
  exact List.map_const' .. |>.trans (by rw [List.length_range])
section
variable {P : Program} {w : World} {K : PySem.W.Frag} {mg : Str → Option Value} {base : Heap} {f : Addr} {fd : FuncData} {C : Addr}
def spInit : Sp := fun vs H Q _ => ∃ (b dx m : Addr) (rs : Rows), vs = [.ref b, .ref m] ∧ H b = some (.ins C dx []) ∧ LA K H m (rowsD rs) ∧ rs.length ≤ 5 ∧
  ∀ H' p F, BenchAt K H' C b dx p F [] (bs0 rs) [] → Fr [b] H H' → (∀ a ∈ p :: F.list, H a = none) → Q .non H'
theorem ok_init (T : Tx K mg) (c : BC K C) (F : FnP K "__init__" "Bench.__init__" s_Bench_init f fd) : FnOk P w K mg base CX0 1 f fd ["self", "machine"] (spInit (K := K) (C := C)) := by
  refine fn0 F sc_Bench_init (fun vs H Q E h => ?_) (fun cdv A outer s H vs Q E hr h => ?_)
  · obtain ⟨_, _, _, _, rfl, _⟩ := h
    rfl
  · obtain ⟨b, dx, m, rs, rfl, hb, hm, h5, k⟩ := h
    obtain ⟨an, hmn, hsn⟩ := T.nought
    obtain ⟨ys, m1, m2⟩ := id hm
    have hyl := rows_len m2
    have ne : ∀ {a c : Addr} {G : Hp} {o : HO}, G a = some o → G c = none → a ≠ c := fun {a c G o} h1 h2 z => by rw [z, h2] at h1; cases h1
    -- rows
    refine gb_cons (gs_fld (ge_callT T.list PyProof.Rows.boot_list (ga_cons (ge_var 1 rfl rfl (ga_nil (c1_listL (Evl.sq_of m1) fun q1 H1 hq1 e1 l1 => ?_))))))
    refine ge_var 0 rfl rfl ⟨b, C, dx, _, rfl, e1 _ _ hb, c.cls, c.rows, (by show 0 < 1000; decide), ?_⟩
    have hb1 := e1 _ _ hb
    have L1 : LA K H1 q1 (rowsD rs) := ⟨ys, l1, m2.ex e1⟩
    have fr1 : Fr [b] H (upd H1 b (.ins C dx (putF "rows" (.ref q1) []))) := (Fr.ex e1).trans (Fr.upd (by simp))
    have hm1 : LA K (upd H1 b (.ins C dx (putF "rows" (.ref q1) []))) m (rowsD rs) := la_step hm e1 hb1
    have L1' : LA K (upd H1 b (.ins C dx (putF "rows" (.ref q1) []))) q1 (rowsD rs) := la_step L1 (Evl.Ex.refl _) hb1
    have hI1 : (upd H1 b (.ins C dx (putF "rows" (.ref q1) []))) b = some (.ins C dx [("rows", .ref q1)]) := upd_same
    generalize upd H1 b (.ins C dx (putF "rows" (.ref q1) [])) = G1 at fr1 hm1 L1' hI1
    clear l1 e1 hb1 L1
    -- stood
    obtain ⟨y1, m3, m4⟩ := id hm1
    have hy1 := rows_len m4
    refine gb_cons (gs_fld (GL.ge <| gl_lcL rfl sc_Bench_init.nd (blkOk_by (N := n_Bench_init) (sc := defScope s_Bench_init) (by decide +kernel)) ?_ (fun _ _ _ _ _ => pg_name (i := 2) sc_Bench_init.nd rfl (Or.inl rfl))))
    refine ge_var 1 rfl rfl ⟨m, y1, fun i => nD (rs.getD i (n0, .src)).1, rfl, Evl.sq_of m3, by omega, fun i x H2 hx e2 => ⟨fun s0 H0 C cl fp => ?_⟩, fun q2 H2 z2 hq2 e2 h2 hz2 => ?_⟩
    · have hi : i < rs.length := by have := (List.getElem?_eq_some_iff.mp hx).1; omega
      obtain ⟨x', hx', hxd⟩ := rows_at m4 hi
      rw [hx] at hx'
      cases hx'
      obtain ⟨a, nm, x0, rest, rfl, ha, hx0, hrest, mk⟩ := (hxd.ex e2).rowW
      fail "rdk"
      refine i2_tup ha (atI_n (n := 1) rfl) ?_
      refine ⟨Evl.Ex.refl _, ?_⟩
      have : rs.getD i (n0, Row.src) = rs[i] := by rw [List.getD_eq_getElem?_getD, List.getElem?_eq_getElem hi]; rfl
      dsimp only
      rw [this]
      exact hx0
    have L2 : LA K H2 q2 (numsD (rs.map (·.1))) := by
      refine ⟨z2, h2, ?_⟩
      rw [kept_all, hy1] at hz2
      have e : (List.range rs.length).map (fun i => nD (rs.getD i (n0, .src)).1) = numsD (rs.map (·.1)) := by
        unfold numsD
        rw [List.map_map]
        exact range_map_get _ _ _ fun i x hx => by rw [List.getD_eq_getElem?_getD, hx]; rfl
      rw [e] at hz2
      exact hz2
    have hb2 := e2 _ _ hI1
    refine ge_var 0 rfl rfl ⟨b, C, dx, _, rfl, hb2, c.cls, c.stood, (by show 1 < 1000; decide), ?_⟩
    have f2 : H q2 = none := fr1.dom _ hq2
    have n12 : q1 ≠ q2 := ne L1'.choose_spec.1 hq2
    have fr2 : Fr [b] H (upd H2 b (.ins C dx (putF "stood" (.ref q2) [("rows", .ref q1)]))) := (fr1.trans (Fr.ex e2)).trans (Fr.upd (by simp))
    have hm2 : LA K (upd H2 b (.ins C dx (putF "stood" (.ref q2) [("rows", .ref q1)]))) m (rowsD rs) := la_step hm1 e2 hb2
    have A1 : LA K (upd H2 b (.ins C dx (putF "stood" (.ref q2) [("rows", .ref q1)]))) q1 (rowsD rs) := la_step L1' e2 hb2
    have A2 : LA K (upd H2 b (.ins C dx (putF "stood" (.ref q2) [("rows", .ref q1)]))) q2 (numsD (rs.map (·.1))) := la_step L2 (Evl.Ex.refl _) hb2
    have hI2 : (upd H2 b (.ins C dx (putF "stood" (.ref q2) [("rows", .ref q1)]))) b = some (.ins C dx [("rows", .ref q1), ("stood", .ref q2)]) := upd_same
    generalize upd H2 b (.ins C dx (putF "stood" (.ref q2) [("rows", .ref q1)])) = G2 at fr2 hm2 A1 A2 hI2
    clear h2 e2 hb2 L2 L1' hz2 fr1
    -- sums
    obtain ⟨y2, m5, m6⟩ := id hm2
    have hy2 := rows_len m6
    refine gb_cons (gs_fld (GL.ge <| gl_lcL rfl sc_Bench_init.nd (blkOk_by (N := n_Bench_init) (sc := defScope s_Bench_init) (by decide +kernel)) ?_ (fun _ _ _ _ _ => pg_name (i := 2) sc_Bench_init.nd rfl (Or.inl rfl))))
    refine ge_var 1 rfl rfl ⟨m, y2, fun _ => nD n0, rfl, Evl.sq_of m5, by omega, fun i x H3 hx e3 => ⟨fun s0 H0 C cl fp => ?_⟩, fun q3 H3 z3 hq3 e3 h3 hz3 => ?_⟩
    · refine ge_glob (v := .ref an) hmn rfl ?_
      exact ⟨Evl.Ex.refl _, TD.numI (n := n0) (hsn _)⟩
    have L3 : LA K H3 q3 (numsD (List.replicate rs.length n0)) := by
      refine ⟨z3, h3, ?_⟩
      rw [kept_all, hy2, rep_map nD] at hz3
      exact hz3
    have hb3 := e3 _ _ hI2
    refine ge_var 0 rfl rfl ⟨b, C, dx, _, rfl, hb3, c.cls, c.sums, (by show 2 < 1000; decide), ?_⟩
    have f3 : H q3 = none := fr2.dom _ hq3
    have n13 : q1 ≠ q3 := ne A1.choose_spec.1 hq3
    have n23 : q2 ≠ q3 := ne A2.choose_spec.1 hq3
    have fr3 : Fr [b] H (upd H3 b (.ins C dx (putF "sums" (.ref q3) [("rows", .ref q1), ("stood", .ref q2)]))) := (fr2.trans (Fr.ex e3)).trans (Fr.upd (by simp))
    have hm3 : LA K (upd H3 b (.ins C dx (putF "sums" (.ref q3) [("rows", .ref q1), ("stood", .ref q2)]))) m (rowsD rs) := la_step hm2 e3 hb3
    have B1 : LA K (upd H3 b (.ins C dx (putF "sums" (.ref q3) [("rows", .ref q1), ("stood", .ref q2)]))) q1 (rowsD rs) := la_step A1 e3 hb3
    have B2 : LA K (upd H3 b (.ins C dx (putF "sums" (.ref q3) [("rows", .ref q1), ("stood", .ref q2)]))) q2 (numsD (rs.map (·.1))) := la_step A2 e3 hb3
    have B3 : LA K (upd H3 b (.ins C dx (putF "sums" (.ref q3) [("rows", .ref q1), ("stood", .ref q2)]))) q3 (numsD (List.replicate rs.length n0)) := la_step L3 (Evl.Ex.refl _) hb3
    have hI3 : (upd H3 b (.ins C dx (putF "sums" (.ref q3) [("rows", .ref q1), ("stood", .ref q2)]))) b = some (.ins C dx [("rows", .ref q1), ("stood", .ref q2), ("sums", .ref q3)]) := upd_same
    generalize upd H3 b (.ins C dx (putF "sums" (.ref q3) [("rows", .ref q1), ("stood", .ref q2)])) = G3 at fr3 hm3 B1 B2 B3 hI3
    clear h3 e3 hb3 L3 A1 A2 hz3 fr2
    -- outs
    obtain ⟨y3, m7, m8⟩ := id hm3
    have hy3 := rows_len m8
    refine gb_cons (gs_fld (GL.ge <| gl_lcL rfl sc_Bench_init.nd (blkOk_by (N := n_Bench_init) (sc := defScope s_Bench_init) (by decide +kernel)) ?_ (fun _ _ _ _ _ => pg_name (i := 2) sc_Bench_init.nd rfl (Or.inl rfl))))
    refine ge_var 1 rfl rfl ⟨m, y3, fun _ => .bool false, rfl, Evl.sq_of m7, by omega, fun i x H4 hx e4 => ⟨fun s0 H0 C cl fp => ?_⟩, fun q4 H4 z4 hq4 e4 h4 hz4 => ?_⟩
    · fail "rdk"
      exact ⟨Evl.Ex.refl _, .bl false⟩
    have L4 : LA K H4 q4 (boolsD (List.replicate rs.length false)) := by
      refine ⟨z4, h4, ?_⟩
      rw [kept_all, hy3, rep_map PyData.bool] at hz4
      exact hz4
    have hb4 := e4 _ _ hI3
    refine ge_var 0 rfl rfl ⟨b, C, dx, _, rfl, hb4, c.cls, c.outs, (by show 3 < 1000; decide), ?_⟩
    have f4 : H q4 = none := fr3.dom _ hq4
    have n14 : q1 ≠ q4 := ne B1.choose_spec.1 hq4
    have n24 : q2 ≠ q4 := ne B2.choose_spec.1 hq4
    have n34 : q3 ≠ q4 := ne B3.choose_spec.1 hq4
    have fr4 : Fr [b] H (upd H4 b (.ins C dx (putF "outs" (.ref q4) [("rows", .ref q1), ("stood", .ref q2), ("sums", .ref q3)]))) := (fr3.trans (Fr.ex e4)).trans (Fr.upd (by simp))
    have hm4 : LA K (upd H4 b (.ins C dx (putF "outs" (.ref q4) [("rows", .ref q1), ("stood", .ref q2), ("sums", .ref q3)]))) m (rowsD rs) := la_step hm3 e4 hb4
    have C1 : LA K (upd H4 b (.ins C dx (putF "outs" (.ref q4) [("rows", .ref q1), ("stood", .ref q2), ("sums", .ref q3)]))) q1 (rowsD rs) := la_step B1 e4 hb4
    have C2 : LA K (upd H4 b (.ins C dx (putF "outs" (.ref q4) [("rows", .ref q1), ("stood", .ref q2), ("sums", .ref q3)]))) q2 (numsD (rs.map (·.1))) := la_step B2 e4 hb4
    have C3 : LA K (upd H4 b (.ins C dx (putF "outs" (.ref q4) [("rows", .ref q1), ("stood", .ref q2), ("sums", .ref q3)]))) q3 (numsD (List.replicate rs.length n0)) := la_step B3 e4 hb4
    have C4 : LA K (upd H4 b (.ins C dx (putF "outs" (.ref q4) [("rows", .ref q1), ("stood", .ref q2), ("sums", .ref q3)]))) q4 (boolsD (List.replicate rs.length false)) := la_step L4 (Evl.Ex.refl _) hb4
    have hI4 : (upd H4 b (.ins C dx (putF "outs" (.ref q4) [("rows", .ref q1), ("stood", .ref q2), ("sums", .ref q3)]))) b = some (.ins C dx [("rows", .ref q1), ("stood", .ref q2), ("sums", .ref q3), ("outs", .ref q4)]) := upd_same
    generalize upd H4 b (.ins C dx (putF "outs" (.ref q4) [("rows", .ref q1), ("stood", .ref q2), ("sums", .ref q3)])) = G4 at fr4 hm4 C1 C2 C3 C4 hI4
    clear h4 e4 hb4 L4 B1 B2 B3 hz4 fr3
    -- limits
    obtain ⟨y4, m9, m10⟩ := id hm4
    have hy4 := rows_len m10
    refine gb_cons (gs_fld (GL.ge <| gl_lcL rfl sc_Bench_init.nd (blkOk_by (N := n_Bench_init) (sc := defScope s_Bench_init) (by decide +kernel)) ?_ (fun _ _ _ _ _ => pg_name (i := 2) sc_Bench_init.nd rfl (Or.inl rfl))))
    refine ge_var 1 rfl rfl ⟨m, y4, fun _ => limD (none, none), rfl, Evl.sq_of m9, by omega, fun i x H5 hx e5 => ⟨fun s0 H0 C cl fp => ?_⟩, fun q5 H5 z5 hq5 e5 h5 hz5 => ?_⟩
    · fail "rdk"
      refine ⟨Nat.le_of_ble_eq_true rfl, fun t H6 ht e6 h6 => ⟨e6, .tup (Evl.st_of h6) (.cons .non (.cons .non .nil))⟩⟩
    have L5 : LA K H5 q5 ((List.replicate rs.length ((none, none) : Ends2)).map limD) := by
      refine ⟨z5, h5, ?_⟩
      rw [kept_all, hy4, rep_map limD] at hz5
      exact hz5
    have hb5 := e5 _ _ hI4
    refine ge_var 0 rfl rfl ⟨b, C, dx, _, rfl, hb5, c.cls, c.limits, (by show 4 < 1000; decide), ?_⟩
    have f5 : H q5 = none := fr4.dom _ hq5
    have n15 : q1 ≠ q5 := ne C1.choose_spec.1 hq5
    have n25 : q2 ≠ q5 := ne C2.choose_spec.1 hq5
    have n35 : q3 ≠ q5 := ne C3.choose_spec.1 hq5
    have n45 : q4 ≠ q5 := ne C4.choose_spec.1 hq5
    have fr5 : Fr [b] H (upd H5 b (.ins C dx (putF "limits" (.ref q5) [("rows", .ref q1), ("stood", .ref q2), ("sums", .ref q3), ("outs", .ref q4)]))) := (fr4.trans (Fr.ex e5)).trans (Fr.upd (by simp))
    have D1 : LA K (upd H5 b (.ins C dx (putF "limits" (.ref q5) [("rows", .ref q1), ("stood", .ref q2), ("sums", .ref q3), ("outs", .ref q4)]))) q1 (rowsD rs) := la_step C1 e5 hb5
    have D2 : LA K (upd H5 b (.ins C dx (putF "limits" (.ref q5) [("rows", .ref q1), ("stood", .ref q2), ("sums", .ref q3), ("outs", .ref q4)]))) q2 (numsD (rs.map (·.1))) := la_step C2 e5 hb5
    have D3 : LA K (upd H5 b (.ins C dx (putF "limits" (.ref q5) [("rows", .ref q1), ("stood", .ref q2), ("sums", .ref q3), ("outs", .ref q4)]))) q3 (numsD (List.replicate rs.length n0)) := la_step C3 e5 hb5
    have D4 : LA K (upd H5 b (.ins C dx (putF "limits" (.ref q5) [("rows", .ref q1), ("stood", .ref q2), ("sums", .ref q3), ("outs", .ref q4)]))) q4 (boolsD (List.replicate rs.length false)) := la_step C4 e5 hb5
    have D5 : LA K (upd H5 b (.ins C dx (putF "limits" (.ref q5) [("rows", .ref q1), ("stood", .ref q2), ("sums", .ref q3), ("outs", .ref q4)]))) q5 ((List.replicate rs.length ((none, none) : Ends2)).map limD) := la_step L5 (Evl.Ex.refl _) hb5
    have hI5 : (upd H5 b (.ins C dx (putF "limits" (.ref q5) [("rows", .ref q1), ("stood", .ref q2), ("sums", .ref q3), ("outs", .ref q4)]))) b = some (.ins C dx [("rows", .ref q1), ("stood", .ref q2), ("sums", .ref q3), ("outs", .ref q4), ("limits", .ref q5)]) := upd_same
    generalize upd H5 b (.ins C dx (putF "limits" (.ref q5) [("rows", .ref q1), ("stood", .ref q2), ("sums", .ref q3), ("outs", .ref q4)])) = G5 at fr5 D1 D2 D3 D4 D5 hI5
    clear h5 e5 hb5 L5 C1 C2 C3 C4 hz5 fr4
    -- past
    refine gb_one (gs_fld (lst_k (ga_nil ⟨Nat.le_of_ble_eq_true rfl, fun q6 H6 hq6 e6 h6 => ?_⟩)))
    have hb6 := e6 _ _ hI5
    refine ge_var 0 rfl rfl ⟨b, C, dx, _, rfl, hb6, c.cls, c.past, (by show 5 < 1000; decide), ?_⟩
    have f6 : H q6 = none := fr5.dom _ hq6
    have nb : ∀ {q : Addr}, H q = none → q ≠ b := fun {q} h z => by rw [z, hb] at h; cases h
    have n6 : q6 ∉ Fv.list ⟨q1, q2, q3, q4, q5⟩ := fun hm => by
      simp only [Fv.list, List.mem_cons, List.not_mem_nil, or_false] at hm
      rcases hm with rfl | rfl | rfl | rfl | rfl
      · exact ne D1.choose_spec.1 hq6 rfl
      · exact ne D2.choose_spec.1 hq6 rfl
      · exact ne D3.choose_spec.1 hq6 rfl
      · exact ne D4.choose_spec.1 hq6 rfl
      · exact ne D5.choose_spec.1 hq6 rfl
    have nbl : b ∉ Fv.list ⟨q1, q2, q3, q4, q5⟩ := fun hm => by
      simp only [Fv.list, List.mem_cons, List.not_mem_nil, or_false] at hm
      rcases hm with h | h | h | h | h
      · exact nb hq1 h.symm
      · exact nb f2 h.symm
      · exact nb f3 h.symm
      · exact nb f4 h.symm
      · exact nb f5 h.symm
    refine k _ q6 ⟨q1, q2, q3, q4, q5⟩ ⟨upd_same, ⟨la_step D1 e6 hb6, la_step D2 e6 hb6, la_step D3 e6 hb6, la_step D4 e6 hb6, la_step D5 e6 hb6⟩, ⟨[], (upd_ne (nb f6)).trans h6, rfl, fun i t Fi h => by simp at h⟩, fun i Fi Si h => by simp at h, rfl,
      fp_of (nb f6).symm nbl n6 (fv_nd.mpr ⟨⟨n12, n13, n14, n15⟩, ⟨n23, n24, n25⟩, ⟨n34, n35⟩, n45⟩) (fun a ha => by simp at ha) (by simp)⟩ ((fr5.trans (Fr.ex e6)).trans (Fr.upd (by simp))) fun a ha => ?_
    rcases List.mem_cons.mp ha with h | h
    · rw [h]; exact f6
    · simp only [Fv.list, List.mem_cons, List.not_mem_nil, or_false] at h
      rcases h with rfl | rfl | rfl | rfl | rfl <;> assumption
end
end RD
namespace RD
open PySem PySem.Spec PyProof.Rows L2 L2H
def zipN (xs ys : List Num) : List Num := (List.range xs.length).map fun i => addN (xs.getD i n0) (ys.getD i n0)
theorem zipN_len {xs ys : List Num} : (zipN xs ys).length = xs.length := by unfold zipN; simp
theorem zipN_get {xs ys : List Num} {i : Nat} (h : i < xs.length) : (zipN xs ys).getD i n0 = addN (xs.getD i n0) (ys.getD i n0) := by
  unfold zipN
  rw [List.getD_eq_getElem?_getD, List.getElem?_map, List.getElem?_range h]
  rfl
theorem fv_put_s {F : Fv} {q : Addr} (h : F.list.Nodup) (hq : q ∉ F.list) : (Fv.list { F with s := q }).Nodup := by
  obtain ⟨r, s, u, o, l⟩ := F
  have h2 := fv_nd.mp h
  simp only [Fv.list, List.mem_cons, List.not_mem_nil, or_false, not_or] at hq
  exact fv_nd.mpr ⟨⟨fun z => hq.1 z.symm, h2.1.2⟩, ⟨hq.2.2.1, hq.2.2.2.1, hq.2.2.2.2⟩, h2.2.2⟩
theorem fv_put_u {F : Fv} {q : Addr} (h : F.list.Nodup) (hq : q ∉ F.list) : (Fv.list { F with u := q }).Nodup := by
  obtain ⟨r, s, u, o, l⟩ := F
  have h2 := fv_nd.mp h
  simp only [Fv.list, List.mem_cons, List.not_mem_nil, or_false, not_or] at hq
  exact fv_nd.mpr ⟨⟨h2.1.1, fun z => hq.1 z.symm, h2.1.2.2⟩, ⟨fun z => hq.2.1 z.symm, h2.2.1.2⟩, ⟨hq.2.2.2.1, hq.2.2.2.2⟩, h2.2.2.2⟩
theorem zip_data {K : PySem.W.Frag} {H : Hp} {zs : List V} {xs ys : List Num} {n : Nat} (h : TDs K H zs (((List.range n).filter fun _ => true).map fun i => nD (addN (xs.getD i n0) (ys.getD i n0)))) (hn : n = xs.length) : TDs K H zs (numsD (zipN xs ys)) := by
  rw [kept_all, hn] at h
  unfold numsD zipN
  rw [List.map_map]
  exact h
theorem mem_h {b p a : Addr} {F : Fv} {Fs : List Fv} (h : a ∈ Fs.flatMap Fv.list) : a ∈ fpB b p F Fs := by
  unfold fpB
  exact List.mem_cons_of_mem _ (List.mem_cons_of_mem _ (List.mem_append_right _ h))
theorem fr_p {H H' : Hp} {b p : Addr} {F : Fv} {Fs : List Fv} (f : Fr [p] H H') : Fr (fpB b p F Fs) H H' := f.mono fun a ha => by
  have e : a = p := by simpa using ha
  rw [e]
  exact BenchAt.mem_p
section
variable {P : Program} {w : World} {K : PySem.W.Frag} {mg : Str → Option Value} {base : Heap} {f : Addr} {fd : FuncData} {C : Addr}
variable (DK : Mt P w K mg base CX0 1 C "keep" ["self"] (spKeep (K := K) (C := C)))
/-- the bench behind a click -/
def clickS (S : BS) (M : List Num) : BS := { S with stood := zipN S.stood M, sums := zipN S.sums M }
def spClick : Sp := fun vs H Q E => ∃ (b dx p : Addr) (F : Fv) (Fs : List Fv) (S : BS) (past : List BS) (n : Nat) (v : V) (m : Num), vs = [.ref b, v] ∧ BenchAt K H C b dx p F Fs S past ∧ past.length ≤ 1000 ∧ BOk S n ∧ TD K H v (nD m) ∧ Nz 4 m ∧ Red m ∧
  (∀ M, MovesOk S m M → (∀ k, k < n → Nz 200 (addN (S.stood.getD k n0) (M.getD k n0))) → (∀ x ∈ M, Red x ∧ 0 < x.2) → ∀ k, k < n → ∃ a b, Nz a (S.sums.getD k n0) ∧ Nz b (M.getD k n0) ∧ a + b ≤ 8998) ∧
  (∀ q H' F' Fs' M, MovesOk S m M → (∀ k, k < n → Nz 200 (addN (S.stood.getD k n0) (M.getD k n0))) → (∀ x ∈ M, Red x ∧ 0 < x.2) → BenchAt K H' C b dx p F' Fs' (clickS S M) (past ++ [S]) → Fr (fpB b p F Fs) H H' → Nf H (fpB b p F Fs) (fpB b p F' Fs') →
    H q = none → q ∉ fpB b p F' Fs' → LA K H' q (numsD M) → Q (.ref q) H') ∧ Ref K mg H E ["Stopped", "TooFar"]
include DK in
theorem ok_click (T : Tx K mg) (R : Errs P w K mg base) (c : BC K C) (F : FnP K "click" "Bench.click" s_Bench_click f fd) (DM : Mt P w K mg base CX0 5 C "moves_by" ["self", "number"] (spMovesBy (K := K) (C := C)))
    (DP : Df P w K mg base CX0 3 "plus" ["one", "other"] (spAdd (K := K))) (DB : Df P w K mg base CX0 2 "is_beyond" ["ends", "number"] (spBeyond (K := K))) (DL : Df P w K mg base CX0 1 "is_long" ["number"] (spLong (K := K))) :
    FnOk P w K mg base (L2N.CX P w) 6 f fd ["self", "number"] (spClick (K := K) (mg := mg) (C := C)) := by
  refine fnX F sc_Bench_click (fun vs H Q E h => ?_) (fun cdv A outer s H vs Q E hr h => ?_)
  · obtain ⟨_, _, _, _, _, _, _, _, _, _, rfl, _⟩ := h
    rfl
  · obtain ⟨b, dx, p, F, Fs, S, past, N, v, m, rfl, B, hpl, ok, hv, hm, hmr, hsum, k, kx⟩ := h
    obtain ⟨DS, ES, IS, nS⟩ := R.stopped
    obtain ⟨DT, ET, OT⟩ := R.tooFar
    have tk := L2N.takes_of (X := cxOf (L2N.CX P w) P w K mg base n_Bench_click "Bench.click" (defScope s_Bench_click) f cdv A outer s H E) rfl rfl rfl rfl
    have N5 := ok.n5
    refine gb_cons (gs_set 2 sc_Bench_click.nd rfl (ge_meth c.cls DM (hr.mono (by decide)) pass0 ?_))
    refine ge_var 0 rfl rfl ⟨b, dx, _, rfl, B.ins, by rfl, ?_⟩
    fail "rdk"
    refine ⟨b, dx, p, F, Fs, S, past, N, v, m, rfl, B, ok, hv, hm, hmr, fun q H1 M hq e1 hM mok hMz => ?_⟩
    have hMl : M.length = N := mok.1.trans ok.len.r
    have B1 := B.ex e1
    obtain ⟨ss, s1, s2⟩ := B1.cur.s
    obtain ⟨ms, m1, m2⟩ := id hM
    have hsl := nums_len s2
    have hml := nums_len m2
    have hSl := ok.len.s
    -- ahead
    refine gb_cons (gs_lc 3 rfl rfl (sw_true rfl rfl rfl (by decide +kernel)) (gl_lcZ rfl sc_Bench_click.nd T.zip (by decide) (blkOk_by (N := n_Bench_click) (sc := defScope s_Bench_click) (by decide +kernel)) ?_ (fun _ _ _ _ _ => pg_tup rfl (pgs_cons (pg_name (i := 5) sc_Bench_click.nd rfl (Or.inl rfl)) (pgs_cons (pg_name (i := 6) sc_Bench_click.nd rfl (Or.inl rfl)) pgs_nil)))))
    refine ge_self 0 rfl rfl c.cls B1.ins c.stood bf_stood (ge_var 2 rfl rfl ?_)
    refine ⟨F.s, q, ss, ms, fun i => nD (addN (S.stood.getD i n0) (M.getD i n0)), rfl, rfl, Evl.sq_of s1, Evl.sq_of m1, by omega, by omega, fun i x y H2 hx hy e2 => ⟨fun s0 H0 C cl fp => ?_⟩, fun q2 H2 zs hq2 e2 h2 hz => ?_⟩
    · have hi : i < S.stood.length := by have := (List.getElem?_eq_some_iff.mp hx).1; omega
      obtain ⟨x', hx', hxd⟩ := nums_at s2 hi
      rw [hx] at hx'
      cases hx'
      obtain ⟨y', hy', hyd⟩ := nums_at m2 (show i < M.length by omega)
      rw [hy] at hy'
      cases hy'
      refine ge_call DP (hr.mono (by decide)) pass0 ?_
      fail "rdk"
      exact ⟨x, y, _, _, 200, 6359, rfl, hxd.ex e2, hyd.ex e2, getD_all ok.st hi, (getD_all (p := fun x => Nz 6359 x ∧ Red x) hMz (by omega)).1, by decide, fun u H3 e3 hu => ⟨e3, hu⟩⟩
    have hA : TDs K H2 zs (numsD (zipN S.stood M)) := zip_data hz (by omega)
    have hAl : (zipN S.stood M).length = N := by rw [zipN_len]; exact hSl
    have hzl := nums_len hA
    -- ends
    refine gb_cons (gs_forR (L2.passes_of rfl) rfl T.range (pg_name (i := 4) sc_Bench_click.nd rfl (Or.inl rfl)) ?_)
    fail "rdk"
    refine ⟨zs.length, fun i σ H' => ∃ sh : Option V, σ = [some (.ref b), some v, some (.ref q), some (.ref q2), sh, none, none, none] ∧ Ex H2 H', rfl, by omega, ⟨_, rfl, Evl.Ex.refl _⟩, ?_, ?_⟩
    · rintro i σ H' hi ⟨sh, rfl, e⟩
      have B' := (B1.ex e2).ex e
      obtain ⟨ls, l1, l2⟩ := B'.cur.l
      have hil : i < S.lims.length := by rw [ok.len.l]; omega
      obtain ⟨x, hx, hxd⟩ := lims_at l2 hil
      have lok := ok.lim _ (List.getElem_mem hil)
      obtain ⟨y, hy, hyd⟩ := nums_at hA (show i < (zipN S.stood M).length by omega)
      refine gb_one (gs_if (gt_val (ge_call DB (hr.mono (by decide)) pass0 (ga_cons (ge_ix (ge_self 0 rfl rfl c.cls B'.ins c.limits bf_limits ?_))))))
      fail "rdk"
      refine i2_lst (Evl.sq_of l1) (atI_n hx) ?_
      fail "rdk"
      refine i2_lst (Evl.sq_of (e _ _ h2)) (atI_n hy) ?_
      fail "rdk"
      have hyz : Nz 6560 ((zipN S.stood M).getD i n0) := by
        rw [zipN_get (by omega)]
        exact addN_nz (a := 200) (b := 6359) (getD_all ok.st (by omega)) (getD_all (p := fun x => Nz 6359 x ∧ Red x) hMz (by omega)).1
      refine ⟨x, y, _, _, 6560, rfl, hxd, hyd.ex e, lok.1, lok.2, hyz, by decide, fun bb H3 e3 => ⟨bb, rfl, ite_b (fun _ => ?_) fun _ => ?_⟩⟩
      · refine gb_one (gs_raise rfl tk (gr_xini IS nS (hr.mono (by decide)) ?_))
        refine ge_var 4 rfl rfl fun d H4 hd e4 h4 => ?_
        exact kx "Stopped" DS (some d) H4 (by simp) ES ((((e1.trans e2).trans e).trans e3).trans e4) (xdf_stopped h4)
      · exact gb_nil ⟨_, rfl, e.trans e3⟩
    · rintro σ H3 ⟨sh, rfl, e3⟩
      have hq3 := e3 _ _ h2
      -- too long
      refine gb_cons (gs_if (gt_val (ge_callB T.any boot_any (ga_cons (GL.ge <| gl_lcL rfl sc_Bench_click.nd (blkOk_by (N := n_Bench_click) (sc := defScope s_Bench_click) (by decide +kernel)) ?_ (fun _ _ _ _ _ => pg_name (i := 5) sc_Bench_click.nd rfl (Or.inl rfl)))))))
      refine ge_var 3 rfl rfl ⟨q2, zs, fun i => .bool (longB ((zipN S.stood M).getD i n0)), rfl, Evl.sq_of hq3, by omega, fun i x H4 hx e4 => ⟨fun s0 H0 C cl fp => ?_⟩, fun q4 H4 bs hq4 e4 h4 hbs => ?_⟩
      · have hi : i < (zipN S.stood M).length := by have := (List.getElem?_eq_some_iff.mp hx).1; omega
        obtain ⟨x', hx', hxd⟩ := nums_at hA hi
        rw [hx] at hx'
        cases hx'
        refine ge_call DL (hr.mono (by decide)) pass0 ?_
        fail "rdk"
        exact ⟨x, _, rfl, (hxd.ex e3).ex e4, Evl.Ex.refl _, .bl _⟩
      · rw [kept_all] at hbs
        refine ga_nil (c1_any (bs := (List.range zs.length).map fun i => longB ((zipN S.stood M).getD i n0)) rfl (by rw [List.map_map]; exact hbs) h4 ⟨_, rfl, ite_b (fun _ => ?_) fun hlong => ?_⟩)
        · refine gb_one (gs_raise rfl tk (gr_own OT ?_))
          exact kx "TooFar" DT none H4 (by simp) ET (((e1.trans e2).trans e3).trans e4) (xdf_own (by decide) (by decide))
        · have e14 : Ex H H4 := ((e1.trans e2).trans e3).trans e4
          have hst : ∀ k, k < N → Nz 200 (addN (S.stood.getD k n0) (M.getD k n0)) := fun k hk => by
            have hl : longB (addN (S.stood.getD k n0) (M.getD k n0)) = false := by
              refine Bool.eq_false_iff.mpr fun hc => ?_
              have h2 : ((List.range zs.length).map fun i => longB ((zipN S.stood M).getD i n0)).any id = true := by
                rw [List.any_map]
                refine List.any_eq_true.mpr ⟨k, List.mem_range.mpr (by omega), ?_⟩
                show longB ((zipN S.stood M).getD k n0) = true
                rw [zipN_get (by omega)]
                exact hc
              rw [hlong] at h2
              cases h2
            exact long_nz hl (low_pos (Int.mul_pos (getD_all ok.st (by omega) : Nz 200 _).1 (getD_all (p := fun x => Nz 6359 x ∧ Red x) hMz (by omega)).1.1))
          have hMr : ∀ x ∈ M, Red x ∧ 0 < x.2 := fun x hx => ⟨(hMz x hx).2, (hMz x hx).1.1⟩
          have B4 := B.ex e14
          refine gb_nil (gb_cons (gs_expr (ge_meth0 c.cls DK (hr.mono (by decide)) pass0 ?_)))
          refine ge_var 0 rfl rfl ⟨b, dx, _, rfl, B4.ins, by rfl, ?_⟩
          refine ⟨b, dx, p, F, Fs, S, past, rfl, B4, hpl, fun H5 Fk B5 f5 fr5 => ?_⟩
          have qfp : ∀ a, H a = none → a ∉ fpB b p F Fs := fun a ha hm => (B.nt a hm).dom ha
          have hq2H : H q2 = none := Evl.fresh_back e1 hq2
          have tk5 := f_tk B4 f5
          have np : ∀ a, H a = none → a ≠ p := fun a ha z => qfp a ha (by rw [z]; exact BenchAt.mem_p)
          have nb : ∀ a, H a = none → a ≠ b := fun a ha z => qfp a ha (by rw [z]; exact BenchAt.mem_b)
          have hq4' : H4 q2 = some (.lst zs) := e4 _ _ hq3
          have hm4 : H4 q = some (.lst ms) := ((e2.trans e3).trans e4) _ _ m1
          have hq5 : H5 q2 = some (.lst zs) := f5.keep q2 _ hq4' (by simpa using np q2 hq2H)
          have hm5 : H5 q = some (.lst ms) := f5.keep q _ hm4 (by simpa using np q hq)
          have qFk : ∀ a o, H4 a = some o → a ∉ Fk.list := fun a o h1 h2 => by rw [fr5 a h2] at h1; cases h1
          have nfs : ∀ a, H a = none → a ∉ Fk.list → a ∉ (Fs ++ [Fk]).flatMap Fv.list := fun a ha h1 h2 => by
            rw [List.flatMap_append] at h2
            rcases List.mem_append.mp h2 with h | h
            · exact qfp a ha (by simp [fpB, h])
            · exact h1 (by simpa using h)
          obtain ⟨a1, a2, a3, a4, a5, a6⟩ := fp_apart B5.nd
          -- stood
          refine gb_cons (gs_fld (ge_var 3 rfl rfl ?_))
          refine ge_var 0 rfl rfl ⟨b, C, dx, _, rfl, B5.ins, c.cls, c.stood, (by show 6 < 1000; decide), ?_⟩
          rw [put_stood]
          have qF : q2 ∉ F.list := fun hm => qfp q2 hq2H (BenchAt.mem_f hm)
          have B6 : BenchAt K (upd H5 b (.ins C dx (bf { F with s := q2 } p))) C b dx p { F with s := q2 } (Fs ++ [Fk]) { S with stood := zipN S.stood M } (past ++ [S]) := by
            refine B5.fld ⟨B5.cur.r, ⟨zs, hq5, (hA.ex (e3.trans e4)).tk tk5⟩, B5.cur.u, B5.cur.o, B5.cur.l⟩ (fv_put_s a4 qF) fun a ha => ?_
            have ha2 : a = q2 ∨ a ∈ F.list := by
              simp only [Fv.list, List.mem_cons, List.not_mem_nil, or_false] at ha ⊢
              rcases ha with h | h | h | h | h <;> simp [h]
            rcases ha2 with h | h
            · rw [h]
              exact ⟨nb q2 hq2H, np q2 hq2H, nfs q2 hq2H (qFk q2 _ hq4')⟩
            · exact ⟨fun z => a2 (z ▸ h), fun z => a3 (z ▸ h), fun hm => (a5 a hm).2.2 h⟩
          have f6 : Fr (fpB b p F Fs) H (upd H5 b (.ins C dx (bf { F with s := q2 } p))) := ((Fr.ex e14).trans (fr_p f5)).trans (Fr.upd BenchAt.mem_b)
          have hm6 : (upd H5 b (.ins C dx (bf { F with s := q2 } p))) q = some (.lst ms) := (upd_ne (nb q hq)).trans hm5
          have hMd6 : TDs K (upd H5 b (.ins C dx (bf { F with s := q2 } p))) ms (numsD M) := by
            refine ((m2.ex ((e2.trans e3).trans e4)).tk tk5).tk ((Fr.upd (M := [b]) (by simp)).tk fun a ha => ?_)
            have e : a = b := by simpa using ha
            rw [e]
            exact B5.nt b BenchAt.mem_b
          have d6 : ∀ a, H5 a = none → H a = none := fun a ha => Evl.fresh_back e14 (f5.dom a ha)
          have hFkd : ∀ a ∈ Fk.list, (upd H5 b (.ins C dx (bf { F with s := q2 } p))) a ≠ none := fun a ha => by
            have := (B6.nt a (by simp [fpB, ha])).dom
            exact this
          have hq26 : (upd H5 b (.ins C dx (bf { F with s := q2 } p))) q2 ≠ none := by rw [upd_ne (nb q2 hq2H), hq5]; intro z; cases z
          generalize upd H5 b (.ins C dx (bf { F with s := q2 } p)) = H6 at B6 f6 hm6 hMd6 hFkd hq26
          -- sums
          obtain ⟨us, u1, u2⟩ := B6.cur.u
          have u2 : TDs K H6 us (numsD S.sums) := u2
          have hul := nums_len u2
          have hUl := ok.len.u
          refine gb_cons (gs_fld (GL.ge <| gl_lcZ rfl sc_Bench_click.nd T.zip (by decide) (blkOk_by (N := n_Bench_click) (sc := defScope s_Bench_click) (by decide +kernel)) ?_ (fun _ _ _ _ _ => pg_tup rfl (pgs_cons (pg_name (i := 7) sc_Bench_click.nd rfl (Or.inl rfl)) (pgs_cons (pg_name (i := 6) sc_Bench_click.nd rfl (Or.inl rfl)) pgs_nil)))))
          refine ge_self 0 rfl rfl c.cls B6.ins c.sums bf_sums (ge_var 2 rfl rfl ?_)
          refine ⟨F.u, q, us, ms, fun i => nD (addN (S.sums.getD i n0) (M.getD i n0)), rfl, rfl, Evl.sq_of u1, Evl.sq_of hm6, by omega, by omega, fun i x y H7 hx hy e7 => ⟨fun s0 H0 C cl fp => ?_⟩, fun q7 H7 vs hq7 e7 h7 hv7 => ?_⟩
          · have hi : i < S.sums.length := by have := (List.getElem?_eq_some_iff.mp hx).1; omega
            obtain ⟨x', hx', hxd⟩ := nums_at u2 hi
            rw [hx] at hx'
            cases hx'
            obtain ⟨y', hy', hyd⟩ := nums_at hMd6 (show i < M.length by omega)
            rw [hy] at hy'
            cases hy'
            obtain ⟨aa, bb, za, zb, hab⟩ := hsum M mok hst hMr i (by omega)
            refine ge_call DP (hr.mono (by decide)) pass0 ?_
            fail "rdk"
            exact ⟨x, y, _, _, aa, bb, rfl, hxd.ex e7, hyd.ex e7, za, zb, hab, fun u H8 e8 hu => ⟨e8, hu⟩⟩
          · have hU : TDs K H7 vs (numsD (zipN S.sums M)) := zip_data hv7 (by omega)
            have B7 := B6.ex e7
            refine ge_var 0 rfl rfl ⟨b, C, dx, _, rfl, B7.ins, c.cls, c.sums, (by show 6 < 1000; decide), ?_⟩
            rw [put_sums]
            have hq7H : H q7 = none := f6.dom _ hq7
            obtain ⟨c1, c2, c3, c4, c5, c6⟩ := fp_apart B7.nd
            have q7F : q7 ∉ Fv.list { F with s := q2 } := fun hm => (B6.nt q7 (BenchAt.mem_f hm)).dom hq7
            have hF7 : ∀ a ∈ Fv.list { F with s := q2, u := q7 }, a = q7 ∨ a ∈ Fv.list { F with s := q2 } := fun a ha => by
              simp only [Fv.list, List.mem_cons, List.not_mem_nil, or_false] at ha ⊢
              rcases ha with h | h | h | h | h <;> simp [h]
            have B8 : BenchAt K (upd H7 b (.ins C dx (bf { F with s := q2, u := q7 } p))) C b dx p { F with s := q2, u := q7 } (Fs ++ [Fk]) (clickS S M) (past ++ [S]) := by
              refine B7.fld ⟨B7.cur.r, B7.cur.s, ⟨vs, h7, hU⟩, B7.cur.o, B7.cur.l⟩ (fv_put_u c4 q7F) fun a ha => ?_
              rcases hF7 a ha with h | h
              · rw [h]
                exact ⟨nb q7 hq7H, np q7 hq7H, fun hm => (B6.nt q7 (mem_h hm)).dom hq7⟩
              · exact ⟨fun z => c2 (z ▸ h), fun z => c3 (z ▸ h), fun hm => (c5 a hm).2.2 h⟩
            refine gb_one (gs_ret (ge_var 2 rfl rfl ?_))
            have hmem : ∀ a ∈ fpB b p { F with s := q2, u := q7 } (Fs ++ [Fk]), a ∈ fpB b p F Fs ∨ a = q2 ∨ a = q7 ∨ a ∈ Fk.list := fun a ha => by
              unfold fpB at ha
              rw [List.flatMap_append] at ha
              simp only [List.mem_cons, List.mem_append] at ha
              rcases ha with h | h | h | h | h
              · exact .inl (by rw [h]; exact BenchAt.mem_b)
              · exact .inl (by rw [h]; exact BenchAt.mem_p)
              · simp only [Fv.list, List.mem_cons, List.not_mem_nil, or_false] at h
                rcases h with h | h | h | h | h
                · exact .inl (BenchAt.mem_f (by simp [Fv.list, h]))
                · exact .inr (.inl h)
                · exact .inr (.inr (.inl h))
                · exact .inl (BenchAt.mem_f (by simp [Fv.list, h]))
                · exact .inl (BenchAt.mem_f (by simp [Fv.list, h]))
              · exact .inl (by simp [fpB, h])
              · exact .inr (.inr (.inr (by simpa using h)))
            refine k q _ _ _ M mok hst hMr B8 ((f6.trans (Fr.ex e7)).trans (Fr.upd BenchAt.mem_b)) (fun a ha => ?_) hq (fun ha => ?_) ?_
            · rcases hmem a ha with h | h | h | h
              · exact .inl h
              · exact .inr (by rw [h]; exact hq2H)
              · exact .inr (by rw [h]; exact hq7H)
              · exact .inr (Evl.fresh_back e14 (fr5 a h))
            · rcases hmem q ha with h | h | h | h
              · exact qfp q hq h
              · rw [← h] at hq2
                rw [m1] at hq2
                cases hq2
              · rw [← h] at hq7
                rw [hm6] at hq7
                cases hq7
              · exact qFk q _ hm4 h
            · refine LA.keep ((Fr.upd (M := [b]) (by simp)).tk fun a ha => ?_) (upd_ne (nb q hq)) (LA.ex e7 ⟨ms, hm6, hMd6⟩)
              have e : a = b := by simpa using ha
              rw [e]
              exact B7.nt b BenchAt.mem_b
end
end RD
namespace RD
open PySem PySem.Spec PyProof.Rows L2 L2H
theorem hu64_of {k : Nat} {A : Around} (r : Room k A) : A.units + 64 < cLine := by have := r.un; omega
theorem nD_shaped (n : Num) : SeqAt.shaped (nD n) = true := by rfl
theorem nD_eqv (n : Num) : PyData.eqv (nD n) (nD n) = true := PySem.SeqAt.eqv_refl _ (SeqAt.canLay_of_shaped (nD_shaped n))
/-- the bag: not below 0, few steps -/
def BagAt (H : Hp) (b : Addr) (k : Nat) : Prop := ∃ x y z : Int, H b = some (.lst [.int x, .int y, .int z]) ∧ 0 ≤ x ∧ 0 ≤ y ∧ y < 2 ^ 33 ∧ 0 ≤ z ∧ z ≤ k
theorem BagAt.ex {H H' : Hp} {b : Addr} {k : Nat} (e : Ex H H') (h : BagAt H b k) : BagAt H' b k := let ⟨x, y, z, h1, h2⟩ := h; ⟨x, y, z, e _ _ h1, h2⟩
theorem BagAt.mono {H : Hp} {b : Addr} {j k : Nat} (h : BagAt H b j) (hk : j ≤ k) : BagAt H b k := let ⟨x, y, z, h1, h2, h3, h4, h5, h6⟩ := h; ⟨x, y, z, h1, h2, h3, h4, h5, by omega⟩
theorem BagAt.fr {M : List Addr} {H H' : Hp} {b : Addr} {k : Nat} (f : Fr M H H') (n : b ∉ M) (h : BagAt H b k) : BagAt H' b k := let ⟨x, y, z, h1, h2⟩ := h; ⟨x, y, z, f.keep _ _ h1 n, h2⟩
theorem BagAt.nt {H : Hp} {b : Addr} {k : Nat} (h : BagAt H b k) : NT H b := let ⟨x, y, z, h1, h2⟩ := h; .inl ⟨_, h1⟩
section
variable {P : Program} {w : World} {K : PySem.W.Frag} {mg : Str → Option Value} {base : Heap} {f : Addr} {fd : FuncData}
def spLow : Sp := fun vs H Q _ => ∃ (t b : Int) (k : Nat), vs = [.int t, .int b] ∧ 0 < b ∧ b.natAbs < 2 ^ k ∧ k ≤ 8999 ∧ ∀ v H', Ex H H' → TD K H' v (nD (low t b)) → Q v H'
theorem ok_low (T : Tx K mg) (F : FnP K "_law_low" "_law_low" s_L_low f fd) : FnOk P w K mg base CX0 1 f fd ["_law_top", "_law_below"] (spLow (K := K)) := by
  refine fn0 F sc_L_low (fun vs H Q E h => ?_) (fun cdv A outer s H vs Q E hr h => ?_)
  · obtain ⟨t, b, _, rfl, _⟩ := h
    rfl
  · obtain ⟨t, b0, n, rfl, hb0, hn, hn9, k⟩ := h
    obtain ⟨nb, rfl⟩ : ∃ nb : Nat, b0 = nb := ⟨b0.natAbs, by omega⟩
    refine gb_cons (gs_par 2 3 rfl sc_L_low.nd rfl rfl ?_)
    fail "rd"
    refine gs_while PassesOwn.never (fun m σ H' => ∃ a b : Nat, σ = [some (.int t), some (.int nb), some (.int a), some (.int b)] ∧ H' = H ∧ m = b ∧ Nat.gcd a b = t.gcd nb) nb ⟨t.natAbs, nb, rfl, rfl, rfl, rfl⟩ ?_
    rintro m σ H' ⟨a, b, rfl, rfl, rfl, hg⟩
    fail "rd"
    refine ⟨_, rfl, ite_d (fun hb => ?_) fun hb => ?_⟩
    · refine gb_one (gs_par 2 3 rfl sc_L_low.nd rfl rfl ?_)
      fail "rd"
      refine o2_mod hb ⟨a % m, Nat.mod_lt _ (by omega), m, a % m, by simp, rfl, rfl, ?_⟩
      rw [← hg, Nat.gcd_comm a m, Nat.gcd_rec m a, Nat.gcd_comm]
    · have e : m = 0 := by omega
      subst e
      rw [Nat.gcd_zero_right] at hg
      fail "rd"
      rw [hg]
      refine o2_div (wdiv hb0 hn hn9) ?_
      fail "rd"
      refine o2_div (wdiv hb0 hn hn9) ?_
      fail "rd"
      refine ⟨(by show 2 ≤ 100; decide), fun p H2 hp e h => ?_⟩
      exact k _ _ e (TD.numI (n := low t nb) (Evl.st_of h))
theorem ok_ladd (F : FnP K "_law_add" "_law_add" s_L_add f fd) (D : Df P w K mg base CX0 1 "_law_low" ["_law_top", "_law_below"] (spLow (K := K))) : FnOk P w K mg base CX0 2 f fd ["_law_one", "_law_other"] (spAdd (K := K)) := by
  refine fn0 F sc_L_add (fun vs H Q E h => ?_) (fun cdv A outer s H vs Q E hr h => ?_)
  · obtain ⟨_, _, _, _, _, _, rfl, _⟩ := h
    rfl
  · obtain ⟨v, w', n, m, a, b, rfl, hv, hw, hn, hm, hab, k⟩ := h
    obtain ⟨p, rfl, hp⟩ := hv.num
    obtain ⟨q, rfl, hq⟩ := hw.num
    refine gb_one (gs_ret (ge_call D hr pass0 ?_))
    fail "rd"
    refine (o2_mul (wmul hn.2.1 hm.2.2 (by omega)) ?_)
    fail "rd"
    refine (o2_mul (wmul hm.2.1 hn.2.2 (by omega)) ?_)
    fail "rd"
    refine (o2_mul (wmul hn.2.2 hm.2.2 (by omega)) ?_)
    fail "rd"
    exact ⟨_, _, a + b, rfl, Int.mul_pos hn.1 hm.1, by rw [Int.natAbs_mul]; exact pow_split hn.2.2 hm.2.2, by omega, k⟩
theorem ok_lmul (F : FnP K "_law_mul" "_law_mul" s_L_mul f fd) (D : Df P w K mg base CX0 1 "_law_low" ["_law_top", "_law_below"] (spLow (K := K))) : FnOk P w K mg base CX0 2 f fd ["_law_one", "_law_other"] (spMul (K := K)) := by
  refine fn0 F sc_L_mul (fun vs H Q E h => ?_) (fun cdv A outer s H vs Q E hr h => ?_)
  · obtain ⟨_, _, _, _, _, _, rfl, _⟩ := h
    rfl
  · obtain ⟨v, w', n, m, a, b, rfl, hv, hw, hn, hm, hab, k⟩ := h
    obtain ⟨p, rfl, hp⟩ := hv.num
    obtain ⟨q, rfl, hq⟩ := hw.num
    refine gb_one (gs_ret (ge_call D hr pass0 ?_))
    fail "rd"
    refine (o2_mul (wmul hn.2.1 hm.2.1 (by omega)) ?_)
    fail "rd"
    refine (o2_mul (wmul hn.2.2 hm.2.2 (by omega)) ?_)
    fail "rd"
    exact ⟨_, _, a + b, rfl, Int.mul_pos hn.1 hm.1, by rw [Int.natAbs_mul]; exact pow_split hn.2.2 hm.2.2, by omega, k⟩
theorem ok_lwhole (T : Tx K mg) (F : FnP K "_law_whole" "_law_whole" s_L_whole f fd) : FnOk P w K mg base CX0 1 f fd ["_law_thing"] spWhole := by
  refine fn0 F sc_L_whole (fun vs H Q E h => ?_) (fun cdv A outer s H vs Q E hr h => ?_)
  · obtain ⟨_, rfl, _⟩ := h
    rfl
  · obtain ⟨i, rfl, k⟩ := h
    fail "rdk"
    exact k
def spLNum : Sp := fun vs H Q _ => ∃ (v : V) (n : Num), vs = [v] ∧ TD K H v (nD n) ∧ Red n ∧ Nz 8000 n ∧ ∀ H', Ex H H' → Q (.bl true) H'
theorem ok_lisnum (T : Tx K mg) (F : FnP K "_law_is_number" "_law_is_number" s_L_is_number f fd) (D : Df P w K mg base CX0 1 "_law_whole" ["_law_thing"] spWhole) (D2 : Df P w K mg base CX0 1 "_law_low" ["_law_top", "_law_below"] (spLow (K := K))) : FnOk P w K mg base CX0 2 f fd ["_law_thing"] (spLNum (K := K)) := by
  refine fn0 F sc_L_is_number (fun vs H Q E h => ?_) (fun cdv A outer s H vs Q E hr h => ?_)
  · obtain ⟨_, _, rfl, _⟩ := h
    rfl
  · obtain ⟨v, n, rfl, hv, hred, hz, k⟩ := h
    obtain ⟨p, rfl, hp⟩ := hv.num
    fail "rdk"
    refine ge_call D (hr.mono (by decide)) pass0 ?_
    fail "rdk"
    refine ⟨_, rfl, ?_⟩
    fail "rdk"
    refine ge_call D (hr.mono (by decide)) pass0 ?_
    fail "rdk"
    refine ⟨_, rfl, ?_⟩
    fail "rdk"
    refine ite_d (fun h => ?_) fun h => absurd hz.1 h
    fail "rdk"
    refine ge_call D2 (hr.mono (by decide)) pass0 ?_
    fail "rdk"
    refine ⟨_, _, 8000, rfl, hz.1, hz.2.2, by decide, fun u H2 e2 hu => ?_⟩
    rw [low_of_red hred] at hu
    fail "rdk"
    refine o2_eqD (hu64_of hr) hu.dp (hv.ex e2).dp (nD_shaped n) (nD_shaped n) ?_
    rw [nD_eqv]
    exact k H2 e2
/-- one of so many, the bag goes on -/
def spTake : Sp := fun vs H Q _ => ∃ (b : Addr) (k : Nat) (m : Int), vs = [.ref b, .int m] ∧ BagAt H b k ∧ k < 10000 ∧ 0 < m ∧ m < 2 ^ 30 ∧ ∀ r H', Fr [b] H H' → BagAt H' b (k + 1) → 0 ≤ r → r < m → Q (.int r) H'
end
end RD
namespace RD
open PySem PySem.Spec PyProof.Rows L2 L2H
theorem base_lt {y st : Int} (h1 : 0 ≤ y) (h2 : y < 2 ^ 33) (h3 : 0 ≤ st) (h4 : st ≤ 10001) : ((y + 1) * (2 * st + 3) + 6007 * st * st).natAbs < 2 ^ 64 := by
  have a1 : 0 ≤ (y + 1) * (2 * st + 3) := Int.mul_nonneg (by omega) (by omega)
  have a2 : (y + 1) * (2 * st + 3) ≤ 2 ^ 33 * 20005 := Int.mul_le_mul (by omega) (by omega) (by omega) (by omega)
  have a3 : 0 ≤ 6007 * st * st := Int.mul_nonneg (by omega) h3
  have a4 : 6007 * st * st ≤ (6007 * 10001) * 10001 := Int.mul_le_mul (by omega) h4 h3 (by omega)
  omega
def primes : List V := [.int 2147483647, .int 2147483629, .int 2147483587, .int 2147483579, .int 2147483563, .int 2147483549, .int 2147483543, .int 2147483497]
theorem prime_at {j : Int} (h1 : 0 ≤ j) (h2 : j < 8) : ∃ p : Int, atI primes j = some (.int p) ∧ 0 < p ∧ p < 2 ^ 31 := by
  have h : j = 0 ∨ j = 1 ∨ j = 2 ∨ j = 3 ∨ j = 4 ∨ j = 5 ∨ j = 6 ∨ j = 7 := by omega
  rcases h with rfl | rfl | rfl | rfl | rfl | rfl | rfl | rfl
  · exact ⟨2147483647, rfl, by decide, by decide⟩
  · exact ⟨2147483629, rfl, by decide, by decide⟩
  · exact ⟨2147483587, rfl, by decide, by decide⟩
  · exact ⟨2147483579, rfl, by decide, by decide⟩
  · exact ⟨2147483563, rfl, by decide, by decide⟩
  · exact ⟨2147483549, rfl, by decide, by decide⟩
  · exact ⟨2147483543, rfl, by decide, by decide⟩
  · exact ⟨2147483497, rfl, by decide, by decide⟩
theorem ixN3 {j : Nat} (h : j < 3) : ixN 3 (j : Int) = some j := Evl.ixN_nat h
section
variable {P : Program} {w : World} {K : PySem.W.Frag} {mg : Str → Option Value} {base : Heap} {f : Addr} {fd : FuncData}
theorem ok_take (F : FnP K "_law_take" "_law_take" s_L_take f fd) : FnOk P w K mg base CX0 1 f fd ["_law_bag_here", "_law_many"] spTake := by
  refine fn0 F sc_L_take (fun vs H Q E h => ?_) (fun cdv A outer s H vs Q E hr h => ?_)
  · obtain ⟨_, _, _, rfl, _⟩ := h
    rfl
  · obtain ⟨b, n, m, rfl, ⟨x, y, z, hb, hx, hy, hy2, hz, hzn⟩, hn, hm, hm2, k⟩ := h
    refine gb_cons (gs_if (gt_cmp (ge_ix (ge_var 0 rfl rfl (ge_int (i2_lst (Evl.sq_of hb) (atI_n (n := 0) rfl) ?_))))))
    fail "rd"
    refine ⟨_, rfl, ite_d (fun hx0 => ?_) fun hx0 => ?_⟩
    · refine gb_cons (gs_set 2 sc_L_take.nd rfl (ge_bin (ge_ix (ge_var 0 rfl rfl (ge_int (i2_lst (Evl.sq_of hb) (atI_n (n := 0) rfl) ?_))))))
      fail "rd"
      refine o2_mod hm ?_
      refine gb_cons (gs_setL (ge_bin (ge_ix (ge_var 0 rfl rfl (ge_int (i2_lst (Evl.sq_of hb) (atI_n (n := 0) rfl) ?_))))))
      fail "rd"
      refine o2_div (wide_div hm (b := 30) (by omega) (by decide) (by decide)) ?_
      fail "rd"
      refine ⟨b, _, 0, 0, rfl, rfl, hb, ixN3 (j := 0) (by decide), ?_⟩
      fail "rd"
      refine k _ _ (Fr.upd (by simp)) ⟨x / m, y, z, upd_same, Int.ediv_nonneg hx (by omega), hy, hy2, hz, by omega⟩ (Int.emod_nonneg _ (by omega)) (Int.emod_lt_of_pos _ hm)
    · refine gb_nil (gb_cons (gs_set 3 sc_L_take.nd rfl (tup_k ?_)))
      fail "rd"
      refine ⟨Nat.le_of_ble_eq_true rfl, fun tp H1 htp e1 h1 => ?_⟩
      have hb1 := e1 _ _ hb
      refine gb_cons (gs_setL (ge_bin (ge_ix (ge_var 0 rfl rfl (ge_int (i2_lst (Evl.sq_of hb1) (atI_n (n := 2) rfl) ?_))))))
      fail "rd"
      refine ⟨b, _, 2, 2, rfl, rfl, hb1, ixN3 (j := 2) (by decide), ?_⟩
      have tpb : tp ≠ b := fun e => by rw [e, hb] at htp; cases htp
      have hb2 : (upd H1 b (.lst [.int x, .int y, .int (z + 1)])) b = some (.lst [.int x, .int y, .int (z + 1)]) := upd_same
      have fr : Fr [b] H (upd H1 b (.lst [.int x, .int y, .int (z + 1)])) := (Fr.ex e1).trans (Fr.upd (by simp))
      have ht2 : SqT K (upd H1 b (.lst [.int x, .int y, .int (z + 1)])) tp primes := Evl.st_of ((upd_ne tpb).trans h1)
      have bag : BagAt (upd H1 b (.lst [.int x, .int y, .int (z + 1)])) b (n + 1) := ⟨x, y, z + 1, hb2, hx, hy, hy2, by omega, by omega⟩
      show GB _ _ _ _ (upd H1 b (.lst [.int x, .int y, .int (z + 1)]))
      generalize upd H1 b (.lst [.int x, .int y, .int (z + 1)]) = H2 at hb2 fr ht2 bag
      refine gb_cons (gs_set 4 sc_L_take.nd rfl (ge_ix (ge_var 0 rfl rfl (ge_int (i2_lst (Evl.sq_of hb2) (atI_n (n := 2) rfl) ?_)))))
      have hst : (z + 1) ≤ 10001 := by omega
      generalize z + 1 = st at hst hb2
      have hst0 : 0 ≤ st := by
        obtain ⟨x', y', z', h1, _, _, _, h5, _⟩ := bag
        rw [hb2] at h1
        have := HO.lst.inj (Option.some.inj h1)
        injection this with _ h
        injection h with _ h
        injection h with h _
        have := V.int.inj h
        omega
      refine gb_cons (gs_set 5 sc_L_take.nd rfl (ge_bin (ge_bin (ge_bin (ge_ix (ge_var 0 rfl rfl (ge_int (i2_lst (Evl.sq_of hb2) (atI_n (n := 1) rfl) ?_))))))))
      fail "rd"
      refine o2_mulS (.inr ⟨by omega, by omega⟩) ?_
      fail "rd"
      refine o2_mulS (.inr ⟨by omega, by omega⟩) ?_
      fail "rd"
      refine o2_mulS (.inr ⟨by omega, by omega⟩) ?_
      fail "rd"
      refine o2_mulS (.inr ⟨by omega, by omega⟩) ?_
      fail "rd"
      have hbase := base_lt hy hy2 hst0 hst
      generalize (y + 1) * (2 * st + 3) + 6007 * st * st = bs at hbase
      obtain ⟨p1, hp1, hp10, hp11⟩ := prime_at (Int.emod_nonneg st (by decide : (8 : Int) ≠ 0)) (Int.emod_lt_of_pos st (by decide : (0 : Int) < 8))
      obtain ⟨p2, hp2, hp20, hp21⟩ := prime_at (Int.emod_nonneg (st + 3) (by decide : (8 : Int) ≠ 0)) (Int.emod_lt_of_pos (st + 3) (by decide : (0 : Int) < 8))
      refine gs_set 6 sc_L_take.nd rfl ?_
      fail "rd"
      have hc : CPow bs 3 := ⟨by decide, by decide, hbase⟩
      refine o2_pow hc ?_
      fail "rd"
      refine o2_mod (by decide) ?_
      refine i2_tup ht2 hp1 ?_
      refine o2_mod hp10 ?_
      have c1 := Int.emod_nonneg (bs ^ (3 : Int).toNat) (by omega : p1 ≠ 0)
      have c2 := Int.emod_lt_of_pos (bs ^ (3 : Int).toNat) hp10
      generalize bs ^ (3 : Int).toNat % p1 = hh at c1 c2
      fail "rd"
      refine o2_div (wide_div (by decide) (b := 14) (by decide) (by decide) (by decide)) ?_
      fail "rd"
      refine o2_mulS (.inl ⟨by omega, by omega⟩) ?_
      fail "rd"
      refine o2_mod (by decide) ?_
      refine i2_tup ht2 hp2 ?_
      refine o2_mod hp20 ?_
      fail "rd"
      refine o2_div (wide_div (by decide) (b := 6) (by decide) (by decide) (by decide)) ?_
      fail "rd"
      refine o2_mod hm ?_
      exact k _ _ fr bag (Int.emod_nonneg _ (by omega)) (Int.emod_lt_of_pos _ hm)
end
end RD
namespace RD
open PySem PySem.Spec PyProof.Rows L2 L2H
theorem BagAt.tk {K : PySem.W.Frag} {H H' : Hp} {b : Addr} {k : Nat} (h : BagAt H b k) (f : Fr [b] H H') : Tk K H H' := f.tk fun a ha => by
  have e : a = b := by simpa using ha
  rw [e]
  exact h.nt
section
variable {P : Program} {w : World} {K : PySem.W.Frag} {mg : Str → Option Value} {base : Heap} {f : Addr} {fd : FuncData}
def spBag : Sp := fun vs H Q _ => ∃ (sc : Addr) (ns : List Int) (at_ : Nat), vs = [.ref sc, .int at_] ∧ SqL K H sc (ns.map V.int) ∧ at_ ≤ 1 ∧ ∀ p H', H p = none → Ex H H' → BagAt H' p 0 → Q (.ref p) H'
theorem ok_bag (T : Tx K mg) (F : FnP K "_law_bag" "_law_bag" s_L_bag f fd) : FnOk P w K mg base CX0 1 f fd ["_law_script", "_law_at"] (spBag (K := K)) := by
  refine fn0 F sc_L_bag (fun vs H Q E h => ?_) (fun cdv A outer s H vs Q E hr h => ?_)
  · obtain ⟨_, _, _, rfl, _⟩ := h
    rfl
  · obtain ⟨sc, ns, at_, rfl, hs, ha, k⟩ := h
    have fin : ∀ c : Int, GB (cxOf CX0 P w K mg base n_L_bag "_law_bag" (defScope s_L_bag) f cdv A outer s H E).nox ((defBody s_L_bag).drop 2) { nx := fun _ H' => Q .non H', rt := Q } [some (.ref sc), some (.int at_), some (.int c)] H := fun c => by
      refine gb_one (gs_ret (lst_k (ga_cons (ge_bin ?_))))
      fail "rd"
      refine ge_callT T.int PyProof.Rows.boot_int ?_
      fail "rd"
      have hc : CPow 10 18 := ⟨by decide, by decide, by decide⟩
      refine o2_pow hc ?_
      fail "rd"
      refine c1_intB ?_
      have hb : 0 ≤ (c.natAbs : Int) * (if decide ((10 : Int) ^ (18 : Int).toNat ≤ (c.natAbs : Int)) = true then 1 else 0) := Int.mul_nonneg (by omega) (by split <;> omega)
      refine o2_mulS (.inr (by split <;> constructor <;> omega)) ?_
      fail "rd"
      refine o2_mod (by decide) ?_
      fail "rd"
      refine o2_mulS (.inl ⟨by decide, by decide⟩) ?_
      fail "rd"
      refine ⟨Nat.le_of_ble_eq_true rfl, fun p H2 hp e h => k p H2 hp e ⟨_, _, 0, h, hb, ?_, ?_, by decide, by decide⟩⟩
      · have := Int.emod_nonneg c (by decide : (2147483587 : Int) ≠ 0)
        omega
      · have := Int.emod_lt_of_pos c (by decide : (0 : Int) < 2147483587)
        omega
    refine gb_cons (gs_set 2 sc_L_bag.nd rfl ?_)
    fail "rd"
    refine o2_mulS (.inl ⟨by decide, by decide⟩) ?_
    fail "rd"
    refine ⟨_, rfl, ite_d (fun h => ?_) fun h => ?_⟩
    · refine gb_one (gs_set 2 sc_L_bag.nd rfl ?_)
      fail "rd"
      rw [List.length_map] at h
      have hat : (ns.map V.int)[at_]? = some (.int (ns[at_]'(by omega))) := by rw [List.getElem?_map, List.getElem?_eq_getElem (by omega)]; rfl
      refine i2_lst hs (atI_n hat) ?_
      exact fin _
    · exact gb_nil (fin _)
def spNumber : Sp := fun vs H Q _ => ∃ (b : Addr) (k : Nat) (kd : Int), vs = [.ref b, .int kd] ∧ BagAt H b k ∧ k + 2 < 10000 ∧ (kd = 0 ∨ kd = 1 ∨ kd = 3) ∧ ∀ v H' n, Fr [b] H H' → BagAt H' b (k + 2) → TD K H' v (nD n) → Nz 4 n → Red n → Q v H'
theorem red_one {x : Int} : Red (x, 1) := by
  show x.gcd 1 = 1
  exact Int.gcd_one
theorem ok_number (F : FnP K "_law_number" "_law_number" s_L_number f fd) (D : Df P w K mg base CX0 1 "_law_take" ["_law_bag_here", "_law_many"] spTake) (D2 : Df P w K mg base CX0 1 "_law_low" ["_law_top", "_law_below"] (spLow (K := K))) : FnOk P w K mg base CX0 2 f fd ["_law_bag_here", "_law_kind"] (spNumber (K := K)) := by
  refine fn0 F sc_L_number (fun vs H Q E h => ?_) (fun cdv A outer s H vs Q E hr h => ?_)
  · obtain ⟨_, _, _, rfl, _⟩ := h
    rfl
  · obtain ⟨b, n, kd, rfl, bag, hn, hk, k⟩ := h
    rcases hk with rfl | rfl | rfl
    · fail "rdk"
      refine ge_call D hr pass0 ?_
      fail "rdk"
      refine ⟨b, n, 13, rfl, bag, by omega, by decide, by decide, fun r H1 f1 bag1 h1 h2 => ?_⟩
      fail "rdk"
      refine ⟨Nat.le_of_ble_eq_true rfl, fun p H2 hp e h => k _ H2 (r - 6, 1) (f1.trans (Fr.ex e)) ((bag1.mono (by omega)).ex e) (TD.numI (n := (r - 6, 1)) (Evl.st_of h)) ⟨by show (0 : Int) < 1; decide, ?_, by show (1 : Int).natAbs < 2 ^ 4; decide⟩ red_one⟩
      show (r - 6).natAbs < 2 ^ 4
      omega
    · fail "rdk"
      refine ge_call D2 hr pass0 ?_
      refine ga_cons (ge_bin (ge_call D hr pass0 ?_))
      fail "rdk"
      refine ⟨b, n, 19, rfl, bag, by omega, by decide, by decide, fun r H1 f1 bag1 h1 h2 => ?_⟩
      fail "rdk"
      refine ge_call D hr pass0 ?_
      fail "rdk"
      refine ⟨b, n + 1, 6, rfl, bag1, by omega, by decide, by decide, fun r2 H2 f2 bag2 h3 h4 => ?_⟩
      fail "rdk"
      refine ⟨r - 9, 1 + r2, 4, rfl, by omega, by omega, by decide, fun v H3 e3 hv => k v H3 _ ((f1.trans f2).trans (Fr.ex e3)) (bag2.ex e3) hv (low_nz (by omega) (by omega) (by omega)) (low_red (by omega))⟩
    · fail "rdk"
      refine ge_call D hr pass0 ?_
      fail "rdk"
      refine ⟨b, n, 3, rfl, bag, by omega, by decide, by decide, fun r H1 f1 bag1 h1 h2 => ?_⟩
      fail "rdk"
      refine ⟨Nat.le_of_ble_eq_true rfl, fun p H2 hp e h => k _ H2 (r - 1, 1) (f1.trans (Fr.ex e)) ((bag1.mono (by omega)).ex e) (TD.numI (n := (r - 1, 1)) (Evl.st_of h)) ⟨by show (0 : Int) < 1; decide, ?_, by show (1 : Int).natAbs < 2 ^ 4; decide⟩ red_one⟩
      show (r - 1).natAbs < 2 ^ 4
      omega
def spTurned : Sp := fun vs H Q _ => ∃ (b : Addr) (k m : Nat), vs = [.ref b, .int m] ∧ BagAt H b k ∧ k + 5 < 10000 ∧ m ≤ 5 ∧ ∀ (p : Addr) (H' : Hp) (ns : List Nat), H p = none → Fr [b] H H' → BagAt H' b (k + 5) → H' p = some (.lst (ns.map fun (x : Nat) => V.int x)) → ns.Nodup → ns.length = m → (∀ x ∈ ns, x < m) → Q (.ref p) H'
theorem erase_perm {ls : List Nat} {j : Nat} (hj : j < ls.length) : List.Perm (ls[j] :: ls.eraseIdx j) ls := by
  rw [List.eraseIdx_eq_take_drop_succ]
  have h : ls = ls.take j ++ ls[j] :: ls.drop (j + 1) := by rw [← List.drop_eq_getElem_cons hj, List.take_append_drop]
  have h2 : List.Perm (ls.take j ++ ls[j] :: ls.drop (j + 1)) (ls[j] :: (ls.take j ++ ls.drop (j + 1))) := List.perm_middle
  rw [← h] at h2
  exact h2.symm
theorem erase_map {ls : List Nat} {j : Nat} : (ls.map fun (x : Nat) => V.int x).eraseIdx j = (ls.eraseIdx j).map fun (x : Nat) => V.int x := by
  induction ls generalizing j with
  | nil => simp
  | cons a r ih =>
    cases j with
    | zero => simp
    | succ j => simp [ih]
theorem ok_turned (T : Tx K mg) (F : FnP K "_law_turned" "_law_turned" s_L_turned f fd) (D : Df P w K mg base CX0 1 "_law_take" ["_law_bag_here", "_law_many"] spTake) : FnOk P w K mg base CX0 2 f fd ["_law_bag_here", "_law_many"] spTurned := by
  refine fn0 F sc_L_turned (fun vs H Q E h => ?_) (fun cdv A outer s H vs Q E hr h => ?_)
  · obtain ⟨_, _, _, rfl, _⟩ := h
    rfl
  · obtain ⟨b, n, m, rfl, bag, hn, hm, k⟩ := h
    refine gb_cons (gs_set 2 sc_L_turned.nd rfl (ge_listRange rfl T.list T.range ?_))
    fail "rd"
    refine ⟨m, rfl, by omega, fun l H1 hl e1 h1 => ?_⟩
    refine gb_cons (gs_set 3 sc_L_turned.nd rfl (lst_k (ga_nil ⟨Nat.le_of_ble_eq_true rfl, fun p H2 hp e2 h2 => ?_⟩)))
    have hl2 := e2 _ _ h1
    have lp : l ≠ p := fun z => by rw [z, hp] at h1; cases h1
    have bl : b ≠ l := fun z => by obtain ⟨_, _, _, hb, _⟩ := bag; rw [z, hl] at hb; cases hb
    have hp0 := Evl.fresh_back e1 hp
    have bp : b ≠ p := fun z => by obtain ⟨_, _, _, hb, _⟩ := bag; rw [z, hp0] at hb; cases hb
    refine gb_cons (gs_forR PassesOwn.never rfl T.range (pg_name (i := 4) sc_L_turned.nd rfl (Or.inl rfl)) ?_)
    fail "rd"
    refine ⟨m, fun i σ H' => ∃ (ls fs : List Nat) (st : Option V), σ = [some (.ref b), some (.int m), some (.ref l), some (.ref p), st] ∧ Fr [b] H H' ∧ BagAt H' b (n + i) ∧ H' l = some (.lst (ls.map fun (x : Nat) => V.int x)) ∧ H' p = some (.lst (fs.map fun (x : Nat) => V.int x)) ∧ (ls ++ fs).Nodup ∧ (∀ x ∈ ls ++ fs, x < m) ∧ ls.length + i = m ∧ fs.length = i, rfl, by omega, ?_, ?_, ?_⟩
    · refine ⟨List.range m, [], _, rfl, Fr.ex (e1.trans e2), bag.ex (e1.trans e2), hl2, h2, by simpa using List.nodup_range, by simp, by simp, rfl⟩
    · rintro i σ H' hi ⟨ls, fs, st, rfl, fr, bag', hl', hp', nd, hlt, hlen, hfl⟩
      refine gb_one (gs_expr (ge_append (ge_var 3 rfl rfl ⟨p, _, rfl, Evl.sq_of hp', ?_⟩)))
      refine ge_popAt (ge_var 2 rfl rfl ⟨l, _, rfl, Evl.sq_of hl', ?_⟩)
      refine ge_call D hr pass0 (ga_cons (ge_var 0 rfl rfl (ga_cons (ge_callB T.len boot_len (ga_cons (ge_var 2 rfl rfl (ga_nil (c1_lenL (Evl.sq_of hl') ?_))))))))
      rw [List.length_map]
      refine ga_nil ⟨b, n + i, ls.length, rfl, bag', by omega, by omega, by omega, fun r H3 f3 bag3 h1 h2 => ?_⟩
      obtain ⟨j, rfl⟩ : ∃ j : Nat, r = j := ⟨r.toNat, by omega⟩
      have hj : j < ls.length := by omega
      have hl3 : H3 l = some (.lst (ls.map fun (x : Nat) => V.int x)) := f3.keep l _ hl' (by simpa using bl.symm)
      have hp3 : H3 p = some (.lst (fs.map fun (x : Nat) => V.int x)) := f3.keep p _ hp' (by simpa using bp.symm)
      refine ⟨_, j, .int (ls[j] : Nat), rfl, hl3, by rw [List.length_map]; omega, by rw [List.getElem?_map, List.getElem?_eq_getElem hj]; rfl, ?_⟩
      rw [erase_map]
      have hp4 : (upd H3 l (.lst ((ls.eraseIdx j).map fun (x : Nat) => V.int x))) p = some (.lst (fs.map fun (x : Nat) => V.int x)) := (upd_ne lp.symm).trans hp3
      refine ⟨_, hp4, by rw [List.length_map]; omega, ?_⟩
      refine ⟨ls.eraseIdx j, fs ++ [ls[j]], _, rfl, ?_, ?_, ?_, ?_, ?_, ?_, ?_, ?_⟩
      · exact ((fr.trans f3).mut hl).mut hp0
      · obtain ⟨x, y, z, hb3, rest⟩ := bag3
        exact ⟨x, y, z, by rw [upd_ne bp, upd_ne bl]; exact hb3, rest⟩
      · rw [upd_ne lp, upd_same]
      · rw [upd_same, List.map_append]
        rfl
      · have hperm : List.Perm (ls.eraseIdx j ++ (fs ++ [ls[j]])) (ls ++ fs) := by
          have h1 : List.Perm (ls[j] :: ls.eraseIdx j) ls := erase_perm hj
          have h2 : List.Perm (ls.eraseIdx j ++ (fs ++ [ls[j]])) (ls[j] :: (ls.eraseIdx j ++ fs)) := by
            rw [← List.append_assoc]
            exact List.perm_append_singleton _ _
          exact h2.trans (List.Perm.append_right fs h1)
        exact hperm.symm.nodup nd
      · intro x hx
        refine hlt x ?_
        rcases List.mem_append.mp hx with h | h
        · exact List.mem_append_left _ (List.mem_of_mem_eraseIdx h)
        · rcases List.mem_append.mp h with h | h
          · exact List.mem_append_right _ h
          · have e : x = ls[j] := by simpa using h
            rw [e]
            exact List.mem_append_left _ (List.getElem_mem hj)
      · rw [List.length_eraseIdx_of_lt hj]
        omega
      · rw [List.length_append, hfl]
        rfl
    · rintro σ H' ⟨ls, fs, st, rfl, fr, bag', hl', hp', nd, hlt, hlen, hfl⟩
      refine gb_one (gs_ret (ge_var 3 rfl rfl ?_))
      refine k p H' fs hp0 fr (bag'.mono (by omega)) hp' (List.nodup_append.mp nd).2.1 hfl fun x hx => hlt x (List.mem_append_right _ hx)
end
end RD
namespace RD
open PySem PySem.Spec PyProof.Rows L2 L2H
/-- a machine as it is made -/
structure MOk (rs : Rows) : Prop where
  pos : 1 ≤ rs.length
  n5 : rs.length ≤ 5
  rows : ∀ y ∈ rs, RowOk rs.length y.2 ∧ Nz 4 y.1 ∧ Red y.1
  tp : ∃ L, Topo rs L ∧ L.length = rs.length
def optD : Option (Num × Row) → PyData
  | none => .none
  | some x => rowD x.1 x.2
/-- the rows so far -/
structure Mk5 (n : Nat) (ns : List Nat) (k : Nat) (ro : List (Option (Num × Row))) : Prop where
  len : ro.length = n
  ok : ∀ j i, ns[j]? = some i → j < k → ∃ x, ro[i]? = some (some x) ∧ RowOk n x.2 ∧ Nz 4 x.1 ∧ Red x.1 ∧ ∀ d ∈ x.2.drives, d ∈ ns.take j
theorem Mk5.start {n : Nat} {ns : List Nat} : Mk5 n ns 0 (List.replicate n none) := ⟨List.length_replicate, fun j i _ h => by omega⟩
theorem nodup_at {ns : List Nat} (nd : ns.Nodup) {i j x : Nat} (h1 : ns[i]? = some x) (h2 : ns[j]? = some x) : i = j := by
  have l1 := (List.getElem?_eq_some_iff.mp h1).1
  have l2 := (List.getElem?_eq_some_iff.mp h2).1
  have e1 := (List.getElem?_eq_some_iff.mp h1).2
  have e2 := (List.getElem?_eq_some_iff.mp h2).2
  rcases Nat.lt_trichotomy i j with h | h | h
  · exact absurd (e1.trans e2.symm) (List.pairwise_iff_getElem.mp nd i j l1 l2 h)
  · exact h
  · exact absurd (e2.trans e1.symm) (List.pairwise_iff_getElem.mp nd j i l2 l1 h)
theorem Mk5.put {n : Nat} {ns : List Nat} {k i : Nat} {ro : List (Option (Num × Row))} {x : Num × Row} (m : Mk5 n ns k ro) (nd : ns.Nodup) (hi : ns[k]? = some i) (hin : i < n) (h1 : RowOk n x.2) (h2 : Nz 4 x.1) (h3 : Red x.1) (h4 : ∀ d ∈ x.2.drives, d ∈ ns.take k) : Mk5 n ns (k + 1) (ro.set i (some x)) := by
  refine ⟨by rw [List.length_set]; exact m.len, fun j i' hj hk => ?_⟩
  by_cases e : j = k
  · subst e
    rw [hi] at hj
    cases hj
    exact ⟨x, by rw [List.getElem?_set_self (by rw [m.len]; exact hin)], h1, h2, h3, h4⟩
  · have hne : i' ≠ i := fun z => e (nodup_at nd hj (z ▸ hi))
    obtain ⟨y, a, b⟩ := m.ok j i' hj (by omega)
    exact ⟨y, by rw [List.getElem?_set_ne (Ne.symm hne)]; exact a, b⟩
theorem Mk5.done {n : Nat} {ns : List Nat} {ro : List (Option (Num × Row))} (m : Mk5 n ns n ro) (nd : ns.Nodup) (hl : ns.length = n) (hlt : ∀ x ∈ ns, x < n) (h1 : 1 ≤ n) (h5 : n ≤ 5) : ∃ rs : Rows, rs.length = n ∧ ro.map optD = rowsD rs ∧ MOk rs := by
  have all : ∀ i, i < n → ∃ j, ns[j]? = some i ∧ j < n := fun i hi => by
    have := full_all nd hlt hl i hi
    obtain ⟨j, hj⟩ := List.getElem?_of_mem this
    exact ⟨j, hj, by have := (List.getElem?_eq_some_iff.mp hj).1; omega⟩
  have ex : ∀ i, i < n → ∃ x, ro[i]? = some (some x) := fun i hi => by
    obtain ⟨j, hj, hjn⟩ := all i hi
    obtain ⟨x, hx, _⟩ := m.ok j i hj hjn
    exact ⟨x, hx⟩
  let rs : Rows := ro.map fun o => o.getD (n0, .src)
  have hrl : rs.length = n := by show (ro.map _).length = n; rw [List.length_map]; exact m.len
  have hat : ∀ (i : Nat) (x : Num × Row), ro[i]? = some (some x) → rs[i]? = some x := fun i x h => by
    show (ro.map _)[i]? = _
    rw [List.getElem?_map, h]
    rfl
  refine ⟨rs, hrl, ?_, ?_⟩
  · refine List.ext_getElem? fun i => ?_
    unfold rowsD
    rw [List.getElem?_map, List.getElem?_map]
    by_cases hi : i < n
    · obtain ⟨x, hx⟩ := ex i hi
      rw [hx, hat i x hx]
      rfl
    · rw [List.getElem?_eq_none (by rw [m.len]; omega), List.getElem?_eq_none (by rw [hrl]; omega)]
      rfl
  · refine ⟨by rw [hrl]; exact h1, by rw [hrl]; exact h5, fun y hy => ?_, ns, ⟨nd, fun k hk => by rw [hrl]; exact hlt k hk, fun i k hi d hd => ?_⟩, by rw [hl, hrl]⟩
    · obtain ⟨i, hi⟩ := List.getElem?_of_mem hy
      have hin : i < n := by rw [← hrl]; exact (List.getElem?_eq_some_iff.mp hi).1
      obtain ⟨j, hj, hjn⟩ := all i hin
      obtain ⟨x, hx, a, b, c, _⟩ := m.ok j i hj hjn
      rw [hat i x hx] at hi
      cases hi
      rw [hrl]
      exact ⟨a, b, c⟩
    · have hin : i < n := by rw [← hl]; exact (List.getElem?_eq_some_iff.mp hi).1
      obtain ⟨x, hx, _, _, _, e⟩ := m.ok i k hi hin
      unfold drivesAt at hd
      rw [hat k x hx] at hd
      exact e d hd
theorem opt_none : ∀ n : Nat, (List.replicate n (none : Option (Num × Row))).map optD = List.replicate n PyData.none := fun n => by rw [List.map_replicate]; rfl
theorem tds_rep {K : PySem.W.Frag} {H : Hp} : ∀ n : Nat, TDs K H (List.replicate n V.non) (List.replicate n PyData.none)
  | 0 => .nil
  | n + 1 => .cons .non (tds_rep n)
section
variable {P : Program} {w : World} {K : PySem.W.Frag} {mg : Str → Option Value} {base : Heap} {f : Addr} {fd : FuncData}
def spMach : Sp := fun vs H Q _ => ∃ (b : Addr) (k : Nat) (ev : Bool) (kd : Int), vs = [.ref b, .int 5, .bl ev, .int kd] ∧ BagAt H b k ∧ k + 60 < 10000 ∧ (kd = 0 ∨ kd = 1 ∨ kd = 3) ∧ ∀ (p : Addr) (H' : Hp) (rs : Rows), H p = none → Fr [b] H H' → BagAt H' b (k + 60) → LA K H' p (rowsD rs) → MOk rs → Q (.ref p) H'
theorem ok_mach (T : Tx K mg) (F : FnP K "_law_machine" "_law_machine" s_L_machine f fd) (D : Df P w K mg base CX0 1 "_law_take" ["_law_bag_here", "_law_many"] spTake) (DT : Df P w K mg base CX0 2 "_law_turned" ["_law_bag_here", "_law_many"] spTurned) (DN : Df P w K mg base CX0 2 "_law_number" ["_law_bag_here", "_law_kind"] (spNumber (K := K))) :
    FnOk P w K mg base CX0 3 f fd ["_law_bag_here", "_law_most", "_law_even", "_law_kind"] (spMach (K := K)) := by
  refine fn0 F sc_L_machine (fun vs H Q E h => ?_) (fun cdv A outer s H vs Q E hr h => ?_)
  · obtain ⟨_, _, _, _, rfl, _⟩ := h
    rfl
  · obtain ⟨b, n, ev, kd, rfl, bag, hn, hkd, k⟩ := h
    refine gb_cons (gs_set 4 sc_L_machine.nd rfl (ge_bin (ge_int (ge_call D (hr.mono (by decide)) pass0 ?_))))
    fail "rd"
    refine ⟨b, n, 5, rfl, bag, by omega, by decide, by decide, fun r H1 f1 bag1 h1 h2 => ?_⟩
    fail "rd"
    obtain ⟨m, hm⟩ : ∃ m : Nat, 1 + r = (m : Int) := ⟨(1 + r).toNat, by omega⟩
    rw [hm]
    refine gs_set 5 sc_L_machine.nd rfl (ge_call DT (hr.mono (by decide)) pass0 ?_)
    fail "rd"
    refine ⟨b, n + 1, m, rfl, bag1, by omega, by omega, fun nl H2 ns hnl f2 bag2 hns nd nlen nlt => ?_⟩
    refine gb_cons (gs_set 6 sc_L_machine.nd rfl (ge_bin (lst_k (ga_cons (ge_non (ga_nil ⟨Nat.le_of_ble_eq_true rfl, fun t H3 ht e3 h3 => ?_⟩))))))
    fail "rd"
    refine o2_rep h3 (by omega) fun p H4 hp e4 h4 => ?_
    have hp0 : H p = none := f1.dom _ (f2.dom _ (Evl.fresh_back e3 hp))
    have f4 : Fr [b] H H4 := (f1.trans f2).trans (Fr.ex (e3.trans e4))
    have bag4 : BagAt H4 b (n + 6) := bag2.ex (e3.trans e4)
    have nl4 : H4 nl = some (.lst (ns.map fun (x : Nat) => V.int x)) := (e3.trans e4) _ _ hns
    have nlp : nl ≠ p := fun z => by
      have := e3 _ _ hns
      rw [z, hp] at this
      cases this
    have bp : b ≠ p := fun z => by obtain ⟨_, _, _, hb, _⟩ := bag; rw [z, hp0] at hb; cases hb
    have bnl : b ≠ nl := fun z => by obtain ⟨_, _, _, hb, _⟩ := bag1; rw [z, hnl] at hb; cases hb
    refine gb_cons (gs_forR PassesOwn.never rfl T.range (pg_name (i := 7) sc_L_machine.nd rfl (Or.inl rfl)) ?_)
    fail "rd"
    refine ⟨m, fun i σ H' => ∃ (a7 a8 a9 a10 a11 a12 : Option V) (ro : List (Option (Num × Row))), σ = [some (.ref b), some (.int 5), some (.bl ev), some (.int kd), some (.int m), some (.ref nl), some (.ref p), a7, a8, a9, a10, a11, a12] ∧ Fr [b] H H' ∧ BagAt H' b (n + 6 + 8 * i) ∧ H' nl = some (.lst (ns.map fun (x : Nat) => V.int x)) ∧ LA K H' p (ro.map optD) ∧ Mk5 m ns i ro, rfl, by omega, ?_, ?_, ?_⟩
    · exact ⟨_, _, _, _, _, _, List.replicate m none, rfl, f4, bag4, nl4, ⟨_, h4, by rw [opt_none]; exact tds_rep m⟩, Mk5.start⟩
    · rintro i σ H5 hi ⟨a7, a8, a9, a10, a11, a12, ro, rfl, f5, bag5, nl5, la5, mk⟩
      have him : i < ns.length := by omega
      -- start
      refine gb_cons (gs_set 8 sc_L_machine.nd rfl (ge_call DN (hr.mono (by decide)) pass0 ?_))
      fail "rd"
      refine ⟨b, _, kd, rfl, bag5, by omega, hkd, fun v6 H6 st f6 bag6 hv6 hz6 hr6 => ?_⟩
      refine gb_cons (gs_set 9 sc_L_machine.nd rfl (ge_call D (hr.mono (by decide)) pass0 ?_))
      fail "rd"
      refine ⟨b, _, 6, rfl, bag6, by omega, by decide, by decide, fun way H7 f7 bag7 hw1 hw2 => ?_⟩
      have mx : max 1 (i : Int) < 2 ^ 30 := by omega
      refine gb_cons (gs_par 10 11 rfl sc_L_machine.nd rfl rfl (ge_call D (hr.mono (by decide)) pass0 (ga_cons (ge_var 0 rfl rfl (ga_cons (ge_callB T.max boot_max ?_))))))
      fail "rd"
      refine c1_max rfl (ga_nil ⟨b, _, max 1 (i : Int), rfl, bag7, by omega, by omega, mx, fun one H8 f8 bag8 ho1 ho2 => ?_⟩)
      refine ge_call D (hr.mono (by decide)) pass0 (ga_cons (ge_var 0 rfl rfl (ga_cons (ge_callB T.max boot_max ?_))))
      fail "rd"
      refine c1_max rfl (ga_nil ⟨b, _, max 1 (i : Int), rfl, bag8, by omega, by omega, mx, fun two H9 f9 bag9 ht1 ht2 => ?_⟩)
      have f69 : Fr [b] H6 H9 := (f7.trans f8).trans f9
      have f59 : Fr [b] H5 H9 := f6.trans f69
      have hv9 : TD K H9 v6 (nD st) := hv6.tk (bag6.tk f69)
      have nl9 : H9 nl = some (.lst (ns.map fun (x : Nat) => V.int x)) := f59.keep _ _ nl5 (by simpa using bnl.symm)
      have la9 : LA K H9 p (ro.map optD) := by
        obtain ⟨ys, y1, y2⟩ := la5
        exact ⟨ys, f59.keep _ _ y1 (by simpa using bp.symm), y2.tk (bag5.tk f59)⟩
      have f09 : Fr [b] H H9 := f5.trans f59
      have bag9' : BagAt H9 b (n + 6 + 8 * i + 5) := bag9
      clear f6 f7 f8 f9 f69 f59 bag6 bag7 bag8 bag9 hv6 nl5 la5 bag5
      obtain ⟨j1, rfl⟩ : ∃ j : Nat, one = j := ⟨one.toNat, by omega⟩
      obtain ⟨j2, rfl⟩ : ∃ j : Nat, two = j := ⟨two.toNat, by omega⟩
      have hni : ns[i]? = some ns[i] := List.getElem?_eq_getElem him
      have hnin : ns[i] < m := nlt _ (List.getElem_mem him)
      have hnv : (ns.map fun (x : Nat) => V.int x)[i]? = some (.int (ns[i] : Nat)) := by rw [List.getElem?_map, hni]; rfl
      -- the end of a turn
      have fin : ∀ (H' : Hp) (rv : V) (x : Num × Row) (o8 o9 o10 o11 : Option V), Fr [b] H9 H' → BagAt H' b (n + 6 + 8 * i + 8) → TD K H' rv (rowD x.1 x.2) → RowOk m x.2 → Nz 4 x.1 → Red x.1 → (∀ d ∈ x.2.drives, d ∈ ns.take i) →
          ∃ l xs kk j, V.ref p = .ref l ∧ V.int (ns[i] : Nat) = .int kk ∧ H' l = some (.lst xs) ∧ ixN xs.length kk = some j ∧ ∃ (a7 a8 a9 a10 a11 a12 : Option V) (ro : List (Option (Num × Row))), [some (V.ref b), some (.int 5), some (.bl ev), some (.int kd), some (.int m), some (.ref nl), some (.ref p), some (.int i), o8, o9, o10, o11, some rv] = [some (V.ref b), some (.int 5), some (.bl ev), some (.int kd), some (.int m), some (.ref nl), some (.ref p), a7, a8, a9, a10, a11, a12] ∧ Fr [b] H (upd H' l (.lst (xs.set j rv))) ∧ BagAt (upd H' l (.lst (xs.set j rv))) b (n + 6 + 8 * (i + 1)) ∧ (upd H' l (.lst (xs.set j rv))) nl = some (.lst (ns.map fun (x : Nat) => V.int x)) ∧ LA K (upd H' l (.lst (xs.set j rv))) p (ro.map optD) ∧ Mk5 m ns (i + 1) ro := by
        intro H' rv x o8 o9 o10 o11 fr bg hrv r1 r2 r3 r4
        obtain ⟨ys, y1, y2⟩ := la9
        have y1' := fr.keep _ _ y1 (by simpa using bp.symm)
        have y2' := y2.tk (bag9'.tk fr)
        have hyl : ys.length = m := by rw [y2.length, List.length_map, mk.len]
        refine ⟨p, ys, _, ns[i], rfl, rfl, y1', ixN_nat' (by rw [hyl]; exact hnin), ?_⟩
        refine ⟨_, _, _, _, _, _, ro.set ns[i] (some x), rfl, (f09.trans fr).mut hp0, ?_, ?_, ⟨_, upd_same, ?_⟩, mk.put nd hni hnin r1 r2 r3 r4⟩
        · obtain ⟨x, y, z, hb, rest⟩ := bg
          exact ⟨x, y, z, by rw [upd_ne bp]; exact hb, rest⟩
        · rw [upd_ne nlp]
          exact fr.keep _ _ nl9 (by simpa using bnl.symm)
        · have := (y2'.set (i := ns[i]) hrv).tk (tk_mut (ys := ys.set ns[i] rv) y1')
          rw [show rowD x.1 x.2 = optD (some x) from rfl, set_of] at this
          exact this
      have tkI : ∀ {d : Nat}, d ∈ ns.take i → d < m := fun {d} h => nlt d (List.mem_of_mem_take h)
      have nat : ∀ {j : Nat}, j < i → ∃ d, (ns.map fun (x : Nat) => V.int x)[j]? = some (.int (d : Nat)) ∧ d ∈ ns.take i := fun {j} hj => ⟨ns[j]'(by omega), by rw [List.getElem?_map, List.getElem?_eq_getElem (by omega)]; rfl, by
        rw [List.mem_take_iff_getElem]
        exact ⟨j, by omega, rfl⟩⟩
      -- source
      refine gb_cons (gs_set 12 sc_L_machine.nd rfl (tup_k ?_))
      fail "rd"
      refine ⟨Nat.le_of_ble_eq_true rfl, fun t10 H10 ht10 e10 h10 => ?_⟩
      have nl10 : H10 nl = some (.lst (ns.map fun (x : Nat) => V.int x)) := e10 _ _ nl9
      have hv10 := hv9.ex e10
      by_cases hi0 : i = 0
      · subst hi0
        fail "rdk"
        refine gs_setL (ge_var 12 rfl rfl (ge_var 6 rfl rfl (ge_ix (ge_var 5 rfl rfl (ge_var 7 rfl rfl (i2_lst (Evl.sq_of nl10) (atI_n hnv) ?_))))))
        exact fin H10 (.ref t10) (st, .src) _ _ _ _ (Fr.ex e10) ((bag9'.ex e10).mono (by omega)) (.tup (Evl.st_of h10) (.cons (.str _) (.cons hv10 .nil))) trivial hz6 hr6 fun d hd => by cases hd
      · have hi1 : (0 : Int) < i := by omega
        have mxi : max 1 (i : Int) = i := by omega
        rw [mxi] at ho2 ht2
        obtain ⟨d1, hd1, hm1⟩ := nat (show j1 < i by omega)
        obtain ⟨d2, hd2, hm2⟩ := nat (show j2 < i by omega)
        fail "rdk"
        refine ite_t (decide_eq_true hi1) ?_
        fail "rdk"
        refine ite_d (fun hw => ?_) fun hw => ?_
        · -- gear
          refine gb_one (gs_set 12 sc_L_machine.nd rfl (tup_k (ga_cons (ge_str (ga_cons (ge_var 8 rfl rfl (ga_cons (ge_call DN (hr.mono (by decide)) pass0 ?_))))))))
          fail "rd"
          refine ⟨b, _, kd, rfl, bag9'.ex e10, by omega, hkd, fun v11 H11 q f11 bag11 hv11 hz11 hr11 => ?_⟩
          have nl11 : H11 nl = some (.lst (ns.map fun (x : Nat) => V.int x)) := f11.keep _ _ nl10 (by simpa using bnl.symm)
          fail "rd"
          refine i2_lst (Evl.sq_of nl11) (atI_n hd1) ?_
          fail "rd"
          refine ⟨Nat.le_of_ble_eq_true rfl, fun t12 H12 ht12 e12 h12 => ?_⟩
          have nl12 := e12 _ _ nl11
          fail "rdk"
          refine ite_t (decide_eq_true hi1) ?_
          fail "rdk"
          refine ite_f (decide_eq_false (by omega)) ?_
          fail "rdk"
          refine ite_t (decide_eq_true hi1) ?_
          fail "rdk"
          refine ite_f (decide_eq_false (by omega)) ?_
          fail "rdk"
          refine gs_setL (ge_var 12 rfl rfl (ge_var 6 rfl rfl (ge_ix (ge_var 5 rfl rfl (ge_var 7 rfl rfl (i2_lst (Evl.sq_of nl12) (atI_n hnv) ?_))))))
          exact fin H12 (.ref t12) (st, .gear q d1) _ _ _ _ (((Fr.ex e10).trans f11).trans (Fr.ex e12)) ((bag11.ex e12).mono (by omega)) (.tup (Evl.st_of h12) (.cons (.str _) (.cons ((hv10.tk ((bag9'.ex e10).tk f11)).ex e12) (.cons (hv11.ex e12) (.cons (.int _) .nil))))) ⟨hz11, hr11, tkI hm1⟩ hz6 hr6 fun d hd => by
            have e : d = d1 := by simpa [Row.drives] using hd
            rw [e]; exact hm1
        · fail "rdk"
          refine ite_t (decide_eq_true hi1) ?_
          fail "rdk"
          refine ite_d (fun hw2 => ?_) fun hw2 => ?_
          · -- adder
            refine gb_one (gs_set 12 sc_L_machine.nd rfl (tup_k ?_))
            fail "rd"
            refine i2_lst (Evl.sq_of nl10) (atI_n hd1) ?_
            fail "rd"
            refine i2_lst (Evl.sq_of nl10) (atI_n hd2) ?_
            fail "rd"
            refine ⟨Nat.le_of_ble_eq_true rfl, fun t12 H12 ht12 e12 h12 => ?_⟩
            have nl12 := e12 _ _ nl10
            fail "rdk"
            refine ite_t (decide_eq_true hi1) ?_
            fail "rdk"
            refine ite_f (decide_eq_false (by omega)) ?_
            fail "rdk"
            refine gs_setL (ge_var 12 rfl rfl (ge_var 6 rfl rfl (ge_ix (ge_var 5 rfl rfl (ge_var 7 rfl rfl (i2_lst (Evl.sq_of nl12) (atI_n hnv) ?_))))))
            exact fin H12 (.ref t12) (st, .add d1 d2) _ _ _ _ (Fr.ex (e10.trans e12)) ((bag9'.ex (e10.trans e12)).mono (by omega)) (.tup (Evl.st_of h12) (.cons (.str _) (.cons (hv10.ex e12) (.cons (.int _) (.cons (.int _) .nil))))) ⟨tkI hm1, tkI hm2⟩ hz6 hr6 fun d hd => by
              have e : d = d1 ∨ d = d2 := by simpa [Row.drives] using hd
              rcases e with e | e <;> rw [e]
              · exact hm1
              · exact hm2
          · fail "rdk"
            refine ite_t (decide_eq_true hi1) ?_
            fail "rdk"
            refine ite_t (decide_eq_true (by omega)) ?_
            -- disc
            refine gb_one (gs_set 12 sc_L_machine.nd rfl (tup_k (ga_cons (ge_str (ga_cons (ge_var 8 rfl rfl (ga_cons (ge_ix (ge_var 5 rfl rfl (ge_call D (hr.mono (by decide)) pass0 ?_))))))))))
            fail "rd"
            refine ⟨b, _, (m : Int), rfl, bag9'.ex e10, by omega, by omega, by omega, fun r11 H11 f11 bag11 h1 h2 => ?_⟩
            obtain ⟨j3, rfl⟩ : ∃ j : Nat, r11 = j := ⟨r11.toNat, by omega⟩
            have nl11 : H11 nl = some (.lst (ns.map fun (x : Nat) => V.int x)) := f11.keep _ _ nl10 (by simpa using bnl.symm)
            have hj3 : j3 < ns.length := by omega
            have hd3 : (ns.map fun (x : Nat) => V.int x)[j3]? = some (.int (ns[j3] : Nat)) := by rw [List.getElem?_map, List.getElem?_eq_getElem hj3]; rfl
            refine i2_lst (Evl.sq_of nl11) (atI_n hd3) ?_
            refine ga_cons (ge_ix (ge_var 5 rfl rfl (ge_ix (lst_k ?_))))
            fail "rd"
            refine ⟨Nat.le_of_ble_eq_true rfl, fun t12 H12 ht12 e12 h12 => ?_⟩
            have nl12 := e12 _ _ nl11
            refine ge_callT T.int PyProof.Rows.boot_int (ga_cons (ge_var 2 rfl rfl (ga_nil (c1_intB ?_))))
            obtain ⟨d4, hd4, hm4⟩ : ∃ d, (∃ j : Nat, atI [V.int (j1 : Nat), V.int 0] (if ev = true then 1 else 0) = some (.int (j : Nat)) ∧ (ns.map fun (x : Nat) => V.int x)[j]? = some (.int (d : Nat))) ∧ d ∈ ns.take i := by
              cases ev with
              | true =>
                obtain ⟨d0, hd0, hm0⟩ := nat (show 0 < i by omega)
                exact ⟨d0, ⟨0, rfl, hd0⟩, hm0⟩
              | false => exact ⟨d1, ⟨j1, rfl, hd1⟩, hm1⟩
            obtain ⟨j4, hj4, hj5⟩ := hd4
            refine i2_lst (Evl.sq_of h12) hj4 ?_
            refine i2_lst (Evl.sq_of nl12) (atI_n hj5) ?_
            fail "rd"
            refine ⟨Nat.le_of_ble_eq_true rfl, fun t13 H13 ht13 e13 h13 => ?_⟩
            have nl13 := e13 _ _ nl12
            fail "rdk"
            refine gs_setL (ge_var 12 rfl rfl (ge_var 6 rfl rfl (ge_ix (ge_var 5 rfl rfl (ge_var 7 rfl rfl (i2_lst (Evl.sq_of nl13) (atI_n hnv) ?_))))))
            have e23 := e12.trans e13
            exact fin H13 (.ref t13) (st, .disc ns[j3] d4) _ _ _ _ (((Fr.ex e10).trans f11).trans (Fr.ex e23)) ((bag11.ex e23).mono (by omega)) (.tup (Evl.st_of h13) (.cons (.str _) (.cons ((hv10.tk ((bag9'.ex e10).tk f11)).ex e23) (.cons (.int _) (.cons (.int _) .nil))))) ⟨nlt _ (List.getElem_mem hj3), tkI hm4⟩ hz6 hr6 fun d hd => by
              have e : d = d4 := by simpa [Row.drives] using hd
              rw [e]; exact hm4
    · rintro σ H5 ⟨a7, a8, a9, a10, a11, a12, ro, rfl, f5, bag5, nl5, la5, mk⟩
      obtain ⟨rs, hl, hm2, mok⟩ := mk.done nd nlen nlt (by omega) (by omega)
      refine gb_one (gs_ret (ge_var 6 rfl rfl ?_))
      rw [hm2] at la5
      exact k p H5 rs hp0 f5 (bag5.mono (by omega)) la5 mok
end
end RD
namespace RD
open PySem PySem.Spec PyProof.Rows L2 L2H
inductive Deed where
  | click (n : Num) | out (i : Nat) | into (i : Nat) | put (i : Nat) (n : Num) | wire (i : Nat) (x : Num × Row) | gear (i : Nat) (n : Num) | ends (i : Nat) (l : Ends2) | undo
def deedD : Deed → PyData
  | .click n => .tuple [.str "click", nD n]
  | .out i => .tuple [.str "out", .int i]
  | .into i => .tuple [.str "into", .int i]
  | .put i n => .tuple [.str "put", .int i, nD n]
  | .wire i x => .tuple [.str "wire", .int i, rowD x.1 x.2]
  | .gear i n => .tuple [.str "gear", .int i, nD n]
  | .ends i l => .tuple [.str "ends", .int i, endD l.1, endD l.2]
  | .undo => .tuple [.str "undo"]
def DeedOk (n : Nat) : Deed → Prop
  | .click m => Nz 4 m ∧ Red m
  | .out i => i < n
  | .into i => i < n
  | .put i m => i < n ∧ Nz 4 m ∧ Red m
  | .wire i x => i < n ∧ RowOk n x.2 ∧ Nz 4 x.1
  | .gear i m => i < n ∧ Nz 4 m ∧ Red m
  | .ends i l => i < n ∧ EndOk l.1 ∧ EndOk l.2
  | .undo => True
section
variable {P : Program} {w : World} {K : PySem.W.Frag} {mg : Str → Option Value} {base : Heap} {f : Addr} {fd : FuncData}
def spAnyRow : Sp := fun vs H Q _ => ∃ (b : Addr) (k n : Nat) (v : V) (m : Num), vs = [.ref b, .int n, v] ∧ BagAt H b k ∧ k + 10 < 10000 ∧ 1 ≤ n ∧ n ≤ 5 ∧ TD K H v (nD m) ∧ ∀ v H' r, Fr [b] H H' → BagAt H' b (k + 10) → TD K H' v (rowD m r) → RowOk n r → Q v H'
theorem ok_any_row (F : FnP K "_law_any_row" "_law_any_row" s_L_any_row f fd) (D : Df P w K mg base CX0 1 "_law_take" ["_law_bag_here", "_law_many"] spTake) (DN : Df P w K mg base CX0 2 "_law_number" ["_law_bag_here", "_law_kind"] (spNumber (K := K))) :
    FnOk P w K mg base CX0 3 f fd ["_law_bag_here", "_law_many", "_law_number_here"] (spAnyRow (K := K)) := by
  refine fn0 F sc_L_any_row (fun vs H Q E h => ?_) (fun cdv A outer s H vs Q E hr h => ?_)
  · obtain ⟨_, _, _, _, _, rfl, _⟩ := h
    rfl
  · obtain ⟨b, k0, n, v, m, rfl, bag, hk, hn1, hn5, hv, k⟩ := h
    refine gb_cons (gs_par 3 4 rfl sc_L_any_row.nd rfl rfl (ge_call D (hr.mono (by decide)) pass0 ?_))
    fail "rd"
    refine ⟨b, _, (n : Int), rfl, bag, by omega, by omega, by omega, fun one H1 f1 bag1 o1 o2 => ?_⟩
    refine ge_call D (hr.mono (by decide)) pass0 ?_
    fail "rd"
    refine ⟨b, _, (n : Int), rfl, bag1, by omega, by omega, by omega, fun two H2 f2 bag2 o3 o4 => ?_⟩
    obtain ⟨j1, rfl⟩ : ∃ j : Nat, one = j := ⟨one.toNat, by omega⟩
    obtain ⟨j2, rfl⟩ : ∃ j : Nat, two = j := ⟨two.toNat, by omega⟩
    refine gb_cons (gs_set 5 sc_L_any_row.nd rfl (ge_call DN (hr.mono (by decide)) pass0 ?_))
    fail "rd"
    refine ⟨b, _, 1, rfl, bag2, by omega, .inr (.inl rfl), fun rv H3 q f3 bag3 hq hqz hqr => ?_⟩
    have f13 : Fr [b] H H3 := (f1.trans f2).trans f3
    have hv3 := hv.tk (bag.tk f13)
    refine gb_cons (gs_set 6 sc_L_any_row.nd rfl (lst_k (ga_cons (tup_k ?_))))
    fail "rd"
    refine ⟨Nat.le_of_ble_eq_true rfl, fun t1 H4 ht1 e4 h4 => ga_cons (tup_k ?_)⟩
    fail "rd"
    refine ⟨Nat.le_of_ble_eq_true rfl, fun t2 H5 ht2 e5 h5 => ga_cons (tup_k ?_)⟩
    fail "rd"
    refine ⟨Nat.le_of_ble_eq_true rfl, fun t3 H6 ht3 e6 h6 => ga_nil ⟨Nat.le_of_ble_eq_true rfl, fun l1 H7 hl1 e7 h7 => ?_⟩⟩
    refine gb_one (gs_ret (ge_ix (ge_bin (ge_bin (ge_var 6 rfl rfl (ge_var 6 rfl rfl (o2_cat h7 h7 (Nat.le_of_ble_eq_true rfl) fun l2 H8 hl2 e8 h8 => ?_)))))))
    refine lst_k (ga_cons (tup_k ?_))
    fail "rd"
    refine ⟨Nat.le_of_ble_eq_true rfl, fun t4 H9 ht4 e9 h9 => ga_nil ⟨Nat.le_of_ble_eq_true rfl, fun l3 H10 hl3 e10 h10 => ?_⟩⟩
    refine o2_cat ((e9.trans e10) _ _ h8) h10 (Nat.le_of_ble_eq_true rfl) fun l4 H11 hl4 e11 h11 => ?_
    have e411 : Ex H4 H11 := (((e5.trans e6).trans (e7.trans e8)).trans (e9.trans e10)).trans e11
    have e311 : Ex H3 H11 := e4.trans e411
    refine ge_call D (hr.mono (by decide)) pass0 ?_
    fail "rd"
    refine ⟨b, _, 7, rfl, bag3.ex e311, by omega, by decide, by decide, fun r H12 f12 bag12 r1 r2 => ?_⟩
    obtain ⟨j, rfl⟩ : ∃ j : Nat, r = j := ⟨r.toNat, by omega⟩
    have tk12 : Tk K H11 H12 := (bag3.ex e311).tk f12
    have nlb : l4 ≠ b := fun z => by
      obtain ⟨_, _, _, hb, _⟩ := bag3.ex (((e4.trans (e5.trans e6)).trans (e7.trans e8)).trans (e9.trans e10))
      rw [z, hb] at hl4
      cases hl4
    have h12 := f12.keep _ _ h11 (by simpa using nlb)
    have V3 := (hv3.ex e311).tk tk12
    have Q3 := (hq.ex e311).tk tk12
    have T1 : TD K H12 (.ref t1) (rowD m (.gear q j1)) := .tup (tk12 _ _ (Evl.ex_t e411 (Evl.st_of h4))) (.cons (.str _) (.cons V3 (.cons Q3 (.cons (.int _) .nil))))
    have T2 : TD K H12 (.ref t2) (rowD m (.add j1 j2)) := .tup (tk12 _ _ (Evl.ex_t (((e6.trans e7).trans (e8.trans e9)).trans (e10.trans e11)) (Evl.st_of h5))) (.cons (.str _) (.cons V3 (.cons (.int _) (.cons (.int _) .nil))))
    have T3 : TD K H12 (.ref t3) (rowD m (.disc j1 j2)) := .tup (tk12 _ _ (Evl.ex_t ((e7.trans (e8.trans e9)).trans (e10.trans e11)) (Evl.st_of h6))) (.cons (.str _) (.cons V3 (.cons (.int _) (.cons (.int _) .nil))))
    have T4 : TD K H12 (.ref t4) (rowD m .src) := .tup (tk12 _ _ (Evl.ex_t (e10.trans e11) (Evl.st_of h9))) (.cons (.str _) (.cons V3 .nil))
    have fr : Fr [b] H H12 := (f13.trans (Fr.ex e311)).trans f12
    have bg : BagAt H12 b (k0 + 10) := bag12.mono (by omega)
    have l1' : j1 < n := by omega
    have l2' : j2 < n := by omega
    have hj : j = 0 ∨ j = 1 ∨ j = 2 ∨ j = 3 ∨ j = 4 ∨ j = 5 ∨ j = 6 := by omega
    rcases hj with rfl | rfl | rfl | rfl | rfl | rfl | rfl
    · exact i2_lst (Evl.sq_of h12) (atI_n (n := 0) rfl) (k _ _ _ fr bg T1 ⟨hqz, hqr, l1'⟩)
    · exact i2_lst (Evl.sq_of h12) (atI_n (n := 1) rfl) (k _ _ _ fr bg T2 ⟨l1', l2'⟩)
    · exact i2_lst (Evl.sq_of h12) (atI_n (n := 2) rfl) (k _ _ _ fr bg T3 ⟨l1', l2'⟩)
    · exact i2_lst (Evl.sq_of h12) (atI_n (n := 3) rfl) (k _ _ _ fr bg T1 ⟨hqz, hqr, l1'⟩)
    · exact i2_lst (Evl.sq_of h12) (atI_n (n := 4) rfl) (k _ _ _ fr bg T2 ⟨l1', l2'⟩)
    · exact i2_lst (Evl.sq_of h12) (atI_n (n := 5) rfl) (k _ _ _ fr bg T3 ⟨l1', l2'⟩)
    · exact i2_lst (Evl.sq_of h12) (atI_n (n := 6) rfl) (k _ _ _ fr bg T4 trivial)
def spAnyDeed : Sp := fun vs H Q _ => ∃ (b ol : Addr) (k n : Nat) (os : List Nat), vs = [.ref b, .int n, .ref ol] ∧ BagAt H b k ∧ k + 30 < 10000 ∧ 1 ≤ n ∧ n ≤ 5 ∧ H ol = some (.lst (os.map fun (x : Nat) => V.int x)) ∧ ol ≠ b ∧ os.length ≤ 5 ∧ (∀ x ∈ os, x < n) ∧
  ∀ v H' d, Fr [b] H H' → BagAt H' b (k + 30) → TD K H' v (deedD d) → DeedOk n d → Q v H'
theorem ok_any_deed (T : Tx K mg) (F : FnP K "_law_any_deed" "_law_any_deed" s_L_any_deed f fd) (D : Df P w K mg base CX0 1 "_law_take" ["_law_bag_here", "_law_many"] spTake) (DN : Df P w K mg base CX0 2 "_law_number" ["_law_bag_here", "_law_kind"] (spNumber (K := K)))
    (DR : Df P w K mg base CX0 3 "_law_any_row" ["_law_bag_here", "_law_many", "_law_number_here"] (spAnyRow (K := K))) : FnOk P w K mg base CX0 4 f fd ["_law_bag_here", "_law_many", "_law_outs"] (spAnyDeed (K := K)) := by
  refine fn0 F sc_L_any_deed (fun vs H Q E h => ?_) (fun cdv A outer s H vs Q E hr h => ?_)
  · obtain ⟨_, _, _, _, _, rfl, _⟩ := h
    rfl
  · obtain ⟨b, ol, k0, n, os, rfl, bag, hk, hn1, hn5, hol, olb, ho5, hos, k⟩ := h
    refine gb_cons (gs_par 3 4 rfl sc_L_any_deed.nd rfl rfl (ge_call D (hr.mono (by decide)) pass0 ?_))
    fail "rd"
    refine ⟨b, _, 14, rfl, bag, by omega, by decide, by decide, fun way H1 f1 bag1 o1 o2 => ?_⟩
    refine ge_call D (hr.mono (by decide)) pass0 ?_
    fail "rd"
    refine ⟨b, _, (n : Int), rfl, bag1, by omega, by omega, by omega, fun two H2 f2 bag2 o3 o4 => ?_⟩
    obtain ⟨j, rfl⟩ : ∃ j : Nat, two = j := ⟨two.toNat, by omega⟩
    have fin : ∀ (H' : Hp) (i : Nat), Fr [b] H H' → BagAt H' b (k0 + 3) → i < n → GB (cxOf CX0 P w K mg base n_L_any_deed "_law_any_deed" (defScope s_L_any_deed) f cdv A outer s H E).nox ((defBody s_L_any_deed).drop 2) { nx := fun _ H' => Q .non H', rt := Q }
        [some (.ref b), some (.int n), some (.ref ol), some (.int way), some (.int i), none, none, none] H' := by
      intro H3 i f3 bag3 hi
      have cont : ∀ (H' : Hp) (v : V) (m : Num), Fr [b] H H' → BagAt H' b (k0 + 6) → TD K H' v (nD m) → Nz 4 m → Red m → GB (cxOf CX0 P w K mg base n_L_any_deed "_law_any_deed" (defScope s_L_any_deed) f cdv A outer s H E).nox ((defBody s_L_any_deed).drop 3) { nx := fun _ H' => Q .non H', rt := Q }
        [some (.ref b), some (.int n), some (.ref ol), some (.int way), some (.int i), some v, none, none] H' := by
        intro H4 v m f4 bag4 hv hz hrd
        refine gb_cons (gs_if ?_)
        fail "rdk"
        refine ite_d (fun h1 => ?_) fun h1 => ?_
        · fail "rdk"
          exact ⟨Nat.le_of_ble_eq_true rfl, fun t H5 ht e5 h5 => k _ H5 (.click m) (f4.trans (Fr.ex e5)) ((bag4.mono (by omega)).ex e5) (.tup (Evl.st_of h5) (.cons (.str _) (.cons (hv.ex e5) .nil))) ⟨hz, hrd⟩⟩
        fail "rdk"
        refine ite_d (fun h2 => ?_) fun h2 => ?_
        · fail "rdk"
          exact ⟨Nat.le_of_ble_eq_true rfl, fun t H5 ht e5 h5 => k _ H5 (.out i) (f4.trans (Fr.ex e5)) ((bag4.mono (by omega)).ex e5) (.tup (Evl.st_of h5) (.cons (.str _) (.cons (.int _) .nil))) hi⟩
        fail "rdk"
        refine ite_d (fun h3 => ?_) fun h3 => ?_
        · fail "rdk"
          exact ⟨Nat.le_of_ble_eq_true rfl, fun t H5 ht e5 h5 => k _ H5 (.gear i m) (f4.trans (Fr.ex e5)) ((bag4.mono (by omega)).ex e5) (.tup (Evl.st_of h5) (.cons (.str _) (.cons (.int _) (.cons (hv.ex e5) .nil)))) ⟨hi, hz, hrd⟩⟩
        fail "rdk"
        refine ite_d (fun h4 => ?_) fun h4 => ?_
        · fail "rdk"
          exact ⟨Nat.le_of_ble_eq_true rfl, fun t H5 ht e5 h5 => k _ H5 (.put i m) (f4.trans (Fr.ex e5)) ((bag4.mono (by omega)).ex e5) (.tup (Evl.st_of h5) (.cons (.str _) (.cons (.int _) (.cons (hv.ex e5) .nil)))) ⟨hi, hz, hrd⟩⟩
        fail "rdk"
        refine ite_d (fun h5 => ?_) fun h5 => ?_
        · fail "rdk"
          refine ge_call DR (hr.mono (by decide)) pass0 ?_
          fail "rdk"
          refine ⟨b, _, n, v, m, rfl, bag4, by omega, hn1, hn5, hv, fun rv H5 r f5 bag5 hrv hrok => ?_⟩
          fail "rdk"
          exact ⟨Nat.le_of_ble_eq_true rfl, fun t H6 ht e6 h6 => k _ H6 (.wire i (m, r)) ((f4.trans f5).trans (Fr.ex e6)) ((bag5.mono (by omega)).ex e6) (.tup (Evl.st_of h6) (.cons (.str _) (.cons (.int _) (.cons (hrv.ex e6) .nil)))) ⟨hi, hrok, hz⟩⟩
        fail "rdk"
        refine ite_d (fun h6 => ?_) fun h6 => ?_
        · fail "rdk"
          exact ⟨Nat.le_of_ble_eq_true rfl, fun t H5 ht e5 h5 => k _ H5 (.into i) (f4.trans (Fr.ex e5)) ((bag4.mono (by omega)).ex e5) (.tup (Evl.st_of h5) (.cons (.str _) (.cons (.int _) .nil))) hi⟩
        fail "rdk"
        refine gs_par 6 7 rfl sc_L_any_deed.nd rfl rfl (tup_k (ga_cons (ge_bin (ge_int (ge_call D (hr.mono (by decide)) pass0 ?_)))))
        fail "rd"
        refine ⟨b, _, 40, rfl, bag4, by omega, by decide, by decide, fun r5 H5 f5 bag5 c1 c2 => ?_⟩
        fail "rd"
        refine ⟨Nat.le_of_ble_eq_true rfl, fun t6 H6 ht6 e6 h6 => ?_⟩
        refine tup_k (ga_cons (ge_call D (hr.mono (by decide)) pass0 ?_))
        fail "rd"
        refine ⟨b, _, 40, rfl, bag5.ex e6, by omega, by decide, by decide, fun r7 H7 f7 bag7 c3 c4 => ?_⟩
        fail "rd"
        refine ⟨Nat.le_of_ble_eq_true rfl, fun t8 H8 ht8 e8 h8 => ?_⟩
        have tk67 : Tk K H6 H7 := (bag5.ex e6).tk f7
        have L6 : TD K H6 (.ref t6) (nD (0 - r5, 1)) := TD.numI (n := (0 - r5, 1)) (Evl.st_of h6)
        have L8 : TD K H8 (.ref t8) (nD (r7, 1)) := TD.numI (n := (r7, 1)) (Evl.st_of h8)
        have L68 := (L6.tk tk67).ex e8
        have f48 : Fr [b] H4 H8 := ((f5.trans (Fr.ex e6)).trans f7).trans (Fr.ex e8)
        have bag8 := bag7.ex e8
        refine gb_one (gs_ret (tup_k (ga_cons (ge_str (ga_cons (ge_var 4 rfl rfl (ga_cons (ge_ix (lst_k ?_)))))))))
        fail "rd"
        refine ⟨Nat.le_of_ble_eq_true rfl, fun l9 H9 hl9 e9 h9 => ?_⟩
        refine ge_call D (hr.mono (by decide)) pass0 ?_
        fail "rd"
        refine ⟨b, _, 2, rfl, bag8.ex e9, by omega, by decide, by decide, fun r10 H10 f10 bag10 c5 c6 => ?_⟩
        have nlb : l9 ≠ b := fun z => by
          obtain ⟨_, _, _, hb, _⟩ := bag8
          rw [z, hb] at hl9
          cases hl9
        have h10 := f10.keep _ _ h9 (by simpa using nlb)
        have tk10 : Tk K H9 H10 := (bag8.ex e9).tk f10
        obtain ⟨x1, en1, hx1, hxd1, hxo1⟩ : ∃ (x1 : V) (en : End), atI [V.non, V.ref t6] r10 = some x1 ∧ TD K H10 x1 (endD en) ∧ EndOk en := by
          have : r10 = 0 ∨ r10 = 1 := by omega
          rcases this with rfl | rfl
          · exact ⟨_, none, rfl, .non, fun _ h => by cases h⟩
          · refine ⟨_, some (0 - r5, 1), rfl, (L68.ex e9).tk tk10, fun q hq => ?_⟩
            cases hq
            exact ⟨by show (0 : Int) < 1; decide, by show (0 - r5).natAbs < 2 ^ 6; omega, by show (1 : Int).natAbs < 2 ^ 6; decide⟩
        refine i2_lst (Evl.sq_of h10) hx1 ?_
        refine ga_cons (ge_ix (lst_k ?_))
        fail "rd"
        refine ⟨Nat.le_of_ble_eq_true rfl, fun l11 H11 hl11 e11 h11 => ?_⟩
        refine ge_call D (hr.mono (by decide)) pass0 ?_
        fail "rd"
        refine ⟨b, _, 2, rfl, bag10.ex e11, by omega, by decide, by decide, fun r12 H12 f12 bag12 c7 c8 => ?_⟩
        have nlb2 : l11 ≠ b := fun z => by
          obtain ⟨_, _, _, hb, _⟩ := bag10
          rw [z, hb] at hl11
          cases hl11
        have h12 := f12.keep _ _ h11 (by simpa using nlb2)
        have tk12 : Tk K H11 H12 := (bag10.ex e11).tk f12
        obtain ⟨x2, en2, hx2, hxd2, hxo2⟩ : ∃ (x2 : V) (en : End), atI [V.non, V.ref t8] r12 = some x2 ∧ TD K H12 x2 (endD en) ∧ EndOk en := by
          have : r12 = 0 ∨ r12 = 1 := by omega
          rcases this with rfl | rfl
          · exact ⟨_, none, rfl, .non, fun _ h => by cases h⟩
          · refine ⟨_, some (r7, 1), rfl, ((((L8.ex e9).tk tk10).ex e11).tk tk12), fun q hq => ?_⟩
            cases hq
            exact ⟨by show (0 : Int) < 1; decide, by show r7.natAbs < 2 ^ 6; omega, by show (1 : Int).natAbs < 2 ^ 6; decide⟩
        refine i2_lst (Evl.sq_of h12) hx2 ?_
        fail "rd"
        refine ⟨Nat.le_of_ble_eq_true rfl, fun t13 H13 ht13 e13 h13 => ?_⟩
        exact k _ H13 (.ends i (en1, en2)) ((((f4.trans f48).trans ((Fr.ex e9).trans f10)).trans ((Fr.ex e11).trans f12)).trans (Fr.ex e13)) ((bag12.mono (by omega)).ex e13)
          (.tup (Evl.st_of h13) (.cons (.str _) (.cons (.int _) (.cons (((hxd1.ex e11).tk tk12).ex e13) (.cons (hxd2.ex e13) .nil))))) ⟨hi, hxo1, hxo2⟩
      refine gb_cons (gs_set 5 sc_L_any_deed.nd rfl (ge_call DN (hr.mono (by decide)) pass0 (ga_cons (ge_var 0 rfl rfl (ga_cons (ge_ix (lst_k ?_)))))))
      fail "rd"
      refine ⟨Nat.le_of_ble_eq_true rfl, fun l4 H4 hl4 e4 h4 => ?_⟩
      refine ge_call D (hr.mono (by decide)) pass0 ?_
      fail "rd"
      refine ⟨b, _, 3, rfl, bag3.ex e4, by omega, by decide, by decide, fun r5 H5 f5 bag5 c1 c2 => ?_⟩
      have nlb : l4 ≠ b := fun z => by
        obtain ⟨_, _, _, hb, _⟩ := bag3
        rw [z, hb] at hl4
        cases hl4
      have h5 := f5.keep _ _ h4 (by simpa using nlb)
      obtain ⟨kd, hkd, hkd2⟩ : ∃ kd : Int, atI [V.int 0, V.int 1, V.int 3] r5 = some (.int kd) ∧ (kd = 0 ∨ kd = 1 ∨ kd = 3) := by
        have : r5 = 0 ∨ r5 = 1 ∨ r5 = 2 := by omega
        rcases this with rfl | rfl | rfl
        · exact ⟨0, rfl, .inl rfl⟩
        · exact ⟨1, rfl, .inr (.inl rfl)⟩
        · exact ⟨3, rfl, .inr (.inr rfl)⟩
      refine i2_lst (Evl.sq_of h5) hkd ?_
      fail "rd"
      refine ⟨b, _, kd, rfl, bag5, by omega, hkd2, fun v H6 m f6 bag6 hv hz hrd => ?_⟩
      exact cont H6 v m (((f3.trans (Fr.ex e4)).trans f5).trans f6) bag6 hv hz hrd
    have ol2 : H2 ol = some (.lst (os.map fun (x : Nat) => V.int x)) := (f1.trans f2).keep _ _ hol (by simpa using olb)
    refine gb_cons (gs_if (gt_w (gw_and (gt_cmp (ge_var 2 rfl rfl (lst_k (ga_nil ⟨Nat.le_of_ble_eq_true rfl, fun l3 H3 hl3 e3 h3 => ?_⟩)))))))
    have ol3 := e3 _ _ ol2
    refine o2_neNil (Nat.lt_of_succ_lt (hu_of hr)) (Evl.sq_of ol3) (Evl.sq_of h3) ⟨_, rfl, ite_nb (fun he => ?_) fun he => ?_⟩
    · fail "rdk"
      refine ite_d (fun hw => ?_) fun hw => ?_
      · refine gb_one (gs_set 4 sc_L_any_deed.nd rfl (ge_ix (ge_var 2 rfl rfl (ge_call D (hr.mono (by decide)) pass0 (ga_cons (ge_var 0 rfl rfl (ga_cons (ge_callB T.len boot_len (ga_cons (ge_var 2 rfl rfl (ga_nil (c1_lenL (Evl.sq_of ol3) ?_))))))))))))
        rw [List.length_map]
        have hpos : 0 < os.length := by
          cases os with
          | nil => cases he
          | cons a r => simp
        refine ga_nil ⟨b, _, (os.length : Int), rfl, bag2.ex e3, by omega, by omega, by omega, fun r4 H4 f4 bag4 c1 c2 => ?_⟩
        obtain ⟨j4, rfl⟩ : ∃ j : Nat, r4 = j := ⟨r4.toNat, by omega⟩
        have ol4 := f4.keep _ _ ol3 (by simpa using olb)
        have hj4 : j4 < os.length := by omega
        refine i2_lst (Evl.sq_of ol4) (atI_n (v := .int (os[j4] : Nat)) (by rw [List.getElem?_map, List.getElem?_eq_getElem hj4]; rfl)) ?_
        exact fin H4 os[j4] (((f1.trans f2).trans (Fr.ex e3)).trans f4) bag4 (hos _ (List.getElem_mem hj4))
      · exact gb_nil (fin H3 j ((f1.trans f2).trans (Fr.ex e3)) ((bag2.mono (by omega)).ex e3) (by omega))
    · exact L2.iteF (gb_nil (fin H3 j ((f1.trans f2).trans (Fr.ex e3)) ((bag2.mono (by omega)).ex e3) (by omega)))
end
end RD
namespace RD
open PySem PySem.Spec PyProof.Rows L2 L2H
/-- a sum of moves against where the shaft stands -/
def SumOk (k : Nat) (s t : Num) : Prop := Red s ∧ 0 < s.2 ∧ ∃ N D : Int, 0 < D ∧ D.natAbs < 2 ^ (206 * (k + 1)) ∧ N.natAbs < 2 ^ (206 * (k + 1)) ∧ s.1 * (t.2 * D) = (t.1 * D + N * t.2) * s.2
structure SBk (S : BS) (n k : Nat) : Prop where
  ok : BOk S n
  sum : ∀ i, i < n → SumOk k (S.sums.getD i n0) (S.stood.getD i n0)
/-- what a deed does -/
inductive Eff (n : Nat) (S : BS) (past : List BS) : Deed → BS → List BS → Option (List Num) → Prop
  | click {m : Num} {M : List Num} : MovesOk S m M → (∀ k, k < n → Nz 200 (addN (S.stood.getD k n0) (M.getD k n0))) → (∀ x ∈ M, Red x ∧ 0 < x.2) → Eff n S past (.click m) (clickS S M) (past ++ [S]) (some M)
  | out {i : Nat} : S.outs.getD i false = false → Eff n S past (.out i) { S with outs := S.outs.set i true } (past ++ [S]) none
  | into {i : Nat} : S.outs.getD i false = true → Eff n S past (.into i) { S with outs := S.outs.set i false } (past ++ [S]) none
  | put {i : Nat} {m : Num} : Eff n S past (.put i m) { S with stood := S.stood.set i m } (past ++ [S]) none
  | wire {i : Nat} {x : Num × Row} {L : List Nat} : Topo (S.rows.set i x) L → L.length = n → Eff n S past (.wire i x) { S with rows := S.rows.set i x } (past ++ [S]) none
  | gear {i : Nat} {m : Num} {x : Num × Row} : S.rows[i]? = some x → isGear x.2 = true → Eff n S past (.gear i m) { S with rows := S.rows.set i (ratioR x m) } (past ++ [S]) none
  | ends {i : Nat} {l : Ends2} : Eff n S past (.ends i l) { S with lims := S.lims.set i l } (past ++ [S]) none
  | undo {past1 : List BS} {S1 : BS} : past = past1 ++ [S1] → Eff n S past .undo S1 past1 none
/-- what is told -/
def TV (K : PySem.W.Frag) (H H' : Hp) (fp' : List Addr) (tv : V) : Option (List Num) → Prop
  | none => tv = .non
  | some M => ∃ q, tv = .ref q ∧ H q = none ∧ q ∉ fp' ∧ LA K H' q (numsD M)
def allowed : Deed → List Str
  | .click _ => ["Stopped", "TooFar"]
  | .out _ => ["Held"]
  | .into _ => ["Held"]
  | .put _ _ => ["Held", "Stopped"]
  | .wire _ _ => ["Held", "NoMachine", "Ring"]
  | .gear _ _ => ["NoGear"]
  | .ends _ _ => ["Stopped"]
  | .undo => ["NoDeed"]
def isUndo : Deed → Bool
  | .undo => true
  | _ => false
theorem set_at {xs : List Num} {i j : Nat} {x : Num} (hi : i < xs.length) : (xs.set i x).getD j n0 = if j = i then x else xs.getD j n0 := getD_set hi
/-! sizes -/
theorem natAbs_mul_lt {a b : Int} {j k : Nat} (ha : a.natAbs < 2 ^ j) (hb : b.natAbs < 2 ^ k) : (a * b).natAbs < 2 ^ (j + k) := by
  rw [Int.natAbs_mul]; exact pow_split ha hb
theorem natAbs_add_lt {a b : Int} {j : Nat} (ha : a.natAbs < 2 ^ j) (hb : b.natAbs < 2 ^ j) : (a + b).natAbs < 2 ^ (j + 1) := by
  have := Int.natAbs_add_le a b
  rw [Nat.pow_succ]
  omega
theorem natAbs_sub_lt {a b : Int} {j : Nat} (ha : a.natAbs < 2 ^ j) (hb : b.natAbs < 2 ^ j) : (a - b).natAbs < 2 ^ (j + 1) := by
  have := Int.natAbs_sub_le a b
  rw [Nat.pow_succ]
  omega
/-- a reduced number is not above any of its forms -/
theorem red_le {s : Num} {X Y : Int} (hr : Red s) (h0 : 0 < s.2) (hY : 0 < Y) (h : s.1 * Y = X * s.2) {k : Nat} (h1 : X.natAbs < 2 ^ k) (h2 : Y.natAbs < 2 ^ k) : Nz k s := by
  have hd : s.2 ∣ Y := by
    have h3 : s.2 ∣ s.1 * Y := ⟨X, by rw [h, Int.mul_comm]⟩
    have hg : Nat.Coprime s.2.natAbs s.1.natAbs := by
      have : Int.gcd s.2 s.1 = 1 := by rw [Int.gcd_comm]; exact hr
      exact this
    have h4 := Int.natAbs_dvd_natAbs.mpr h3
    rw [Int.natAbs_mul] at h4
    exact Int.natAbs_dvd_natAbs.mp (Nat.Coprime.dvd_of_dvd_mul_left hg h4)
  obtain ⟨c, hc⟩ := hd
  have hc0 : 0 < c := by
    rcases Int.lt_trichotomy c 0 with h | h | h
    · have := Int.mul_neg_of_pos_of_neg h0 h
      omega
    · rw [h] at hc; simp at hc; omega
    · exact h
  have hX : X = s.1 * c := by
    rw [hc] at h
    have h5 : s.2 * (s.1 * c) = s.2 * X := by
      rw [show s.2 * (s.1 * c) = s.1 * (s.2 * c) by grind, h]
      grind
    exact (Int.eq_of_mul_eq_mul_left (by omega) h5).symm
  have l1 : s.1.natAbs ≤ X.natAbs := by
    rw [hX, Int.natAbs_mul]
    exact Nat.le_mul_of_pos_right _ (by omega)
  have l2 : s.2.natAbs ≤ Y.natAbs := by
    rw [hc, Int.natAbs_mul]
    exact Nat.le_mul_of_pos_right _ (by omega)
  exact ⟨h0, by omega, by omega⟩
theorem addN_eq {n m : Num} (hn : 0 < n.2) (hm : 0 < m.2) : (addN n m).1 * (n.2 * m.2) = (n.1 * m.2 + m.1 * n.2) * (addN n m).2 := by
  show (n.1 * m.2 + m.1 * n.2) / _ * (n.2 * m.2) = (n.1 * m.2 + m.1 * n.2) * (n.2 * m.2 / _)
  generalize hX : n.1 * m.2 + m.1 * n.2 = X
  have hY : 0 < n.2 * m.2 := Int.mul_pos hn hm
  generalize n.2 * m.2 = Y at hY
  have hg := gcd_pos_of (t := X) hY
  have hg0 : ((X.gcd Y : Nat) : Int) ≠ 0 := by omega
  obtain ⟨a, ha⟩ : ((X.gcd Y : Nat) : Int) ∣ X := Int.gcd_dvd_left ..
  obtain ⟨c, hc⟩ : ((X.gcd Y : Nat) : Int) ∣ Y := Int.gcd_dvd_right ..
  generalize ((X.gcd Y : Nat) : Int) = g at hg hg0 ha hc
  have e1 : X / g = a := by rw [ha]; exact Int.mul_ediv_cancel_left _ hg0
  have e2 : Y / g = c := by rw [hc]; exact Int.mul_ediv_cancel_left _ hg0
  rw [e1, e2, ha, hc]
  grind
/-- a move's size -/
theorem move_nz {h m : Num} (hh : Nz 200 h) (hA : Nz 200 (addN h m)) (hr : Red m) (h0 : 0 < m.2) : Nz 401 m := by
  have e := addN_eq hh.1 h0
  generalize addN h m = A at e hA
  refine red_le (X := A.1 * h.2 - h.1 * A.2) (Y := h.2 * A.2) hr h0 (Int.mul_pos hh.1 hA.1) ?_ ?_ ?_
  · have h2 : h.2 * (m.1 * (h.2 * A.2)) = h.2 * ((A.1 * h.2 - h.1 * A.2) * m.2) := by grind
    exact Int.eq_of_mul_eq_mul_left (by have := hh.1; omega) h2
  · exact natAbs_sub_lt (natAbs_mul_lt hA.2.1 hh.2.2) (natAbs_mul_lt hh.2.1 hA.2.2)
  · exact Nat.lt_of_lt_of_le (natAbs_mul_lt hh.2.2 hA.2.2) (Nat.pow_le_pow_right (by decide) (by decide))
/-- a sum's size -/
theorem SumOk.nz {k : Nat} {s t : Num} (h : SumOk k s t) (ht : Nz 200 t) : Nz (201 + 206 * (k + 1)) s := by
  obtain ⟨hr, h0, N, D, hD, hD2, hN, e⟩ := h
  refine red_le (X := t.1 * D + N * t.2) (Y := t.2 * D) hr h0 (Int.mul_pos ht.1 hD) e ?_ ?_
  · have h1 := natAbs_mul_lt ht.2.1 hD2
    have h2 := natAbs_mul_lt hN ht.2.2
    rw [Nat.add_comm (206 * (k + 1))] at h2
    rw [show 201 + 206 * (k + 1) = 200 + 206 * (k + 1) + 1 by omega]
    exact natAbs_add_lt h1 h2
  · exact Nat.lt_of_lt_of_le (natAbs_mul_lt ht.2.2 hD2) (Nat.pow_le_pow_right (by decide) (by omega))
theorem SumOk.mono {j k : Nat} {s t : Num} (h : SumOk j s t) (hk : j ≤ k) : SumOk k s t := by
  obtain ⟨hr, h0, N, D, hD, hD2, hN, e⟩ := h
  have : 2 ^ (206 * (j + 1)) ≤ 2 ^ (206 * (k + 1)) := Nat.pow_le_pow_right (by decide) (by omega)
  exact ⟨hr, h0, N, D, hD, by omega, by omega, e⟩
/-- a click -/
theorem SumOk.click {k : Nat} {s t m : Num} (h : SumOk k s t) (ht : 0 < t.2) (hm : 0 < m.2) : SumOk k (addN s m) (addN t m) := by
  obtain ⟨hr, h0, N, D, hD, hD2, hN, e⟩ := h
  refine ⟨addN_red h0 hm, low_pos (Int.mul_pos h0 hm), N, D, hD, hD2, hN, ?_⟩
  have e1 := addN_eq h0 hm
  have e2 := addN_eq ht hm
  generalize addN s m = U at e1
  generalize addN t m = V at e2
  have hne : s.2 * t.2 * m.2 * m.2 ≠ 0 := by
    have := Int.mul_pos (Int.mul_pos (Int.mul_pos h0 ht) hm) hm
    omega
  have h2 : (s.2 * t.2 * m.2 * m.2) * (U.1 * (V.2 * D)) = (s.2 * t.2 * m.2 * m.2) * ((V.1 * D + N * V.2) * U.2) := by grind
  exact Int.eq_of_mul_eq_mul_left hne h2
/-- a put -/
theorem SumOk.put {k : Nat} {s t m : Num} (h : SumOk k s t) (ht : Nz 200 t) (hm : Nz 4 m) : SumOk (k + 1) s m := by
  obtain ⟨hr, h0, N, D, hD, hD2, hN, e⟩ := h
  refine ⟨hr, h0, N * (t.2 * m.2) + D * (t.1 * m.2 - m.1 * t.2), D * (t.2 * m.2), Int.mul_pos hD (Int.mul_pos ht.1 hm.1), ?_, ?_, ?_⟩
  · have h1 := natAbs_mul_lt hD2 (natAbs_mul_lt ht.2.2 hm.2.2)
    exact Nat.lt_of_lt_of_le h1 (Nat.pow_le_pow_right (by decide) (by omega))
  · have h1 := natAbs_mul_lt hN (natAbs_mul_lt ht.2.2 hm.2.2)
    have h3 : (t.1 * m.2 - m.1 * t.2).natAbs < 2 ^ (204 + 1) := natAbs_sub_lt (natAbs_mul_lt ht.2.1 hm.2.2) (by have := natAbs_mul_lt hm.2.1 ht.2.2; exact this)
    have h2 := natAbs_mul_lt hD2 h3
    have h1' : (N * (t.2 * m.2)).natAbs < 2 ^ (206 * (k + 1) + (204 + 1)) := Nat.lt_of_lt_of_le h1 (Nat.pow_le_pow_right (by decide) (by omega))
    have h4 := natAbs_add_lt h1' h2
    exact Nat.lt_of_lt_of_le h4 (Nat.pow_le_pow_right (by decide) (by omega))
  · have hne : t.2 ≠ 0 := by have := ht.1; omega
    have h2 : t.2 * (s.1 * (m.2 * (D * (t.2 * m.2)))) = t.2 * ((m.1 * (D * (t.2 * m.2)) + (N * (t.2 * m.2) + D * (t.1 * m.2 - m.1 * t.2)) * m.2) * s.2) := by grind
    exact Int.eq_of_mul_eq_mul_left hne h2
theorem SumOk.start {t : Num} (ht : Nz 4 t) : SumOk 0 n0 t := by
  refine ⟨n0_red, by decide, 0 - t.1, t.2, ht.1, ?_, ?_, ?_⟩
  · exact Nat.lt_of_lt_of_le ht.2.2 (Nat.pow_le_pow_right (by decide) (by decide))
  · have : (0 - t.1).natAbs = t.1.natAbs := by omega
    rw [this]
    exact Nat.lt_of_lt_of_le ht.2.1 (Nat.pow_le_pow_right (by decide) (by decide))
  · show 0 * (t.2 * t.2) = (t.1 * t.2 + (0 - t.1) * t.2) * 1
    grind
end RD
namespace RD
open PySem PySem.Spec PyProof.Rows L2 L2H
def PastOk (n : Nat) (past : List BS) : Prop := ∀ (j : Nat) S, past[j]? = some S → SBk S n j
theorem PastOk.snoc {n : Nat} {past : List BS} {S : BS} (h : PastOk n past) (hs : SBk S n past.length) : PastOk n (past ++ [S]) := by
  intro j S' hj
  by_cases hl : j < past.length
  · rw [List.getElem?_append_left hl] at hj
    exact h j S' hj
  · have h1 := (List.getElem?_eq_some_iff.mp hj).1
    rw [List.length_append, List.length_singleton] at h1
    have e : j = past.length := by omega
    subst e
    rw [List.getElem?_append_right (Nat.le_refl _), Nat.sub_self] at hj
    cases hj
    exact hs
theorem SBk.mono {S : BS} {n j k : Nat} (h : SBk S n j) (hk : j ≤ k) : SBk S n k := ⟨h.ok, fun i hi => (h.sum i hi).mono hk⟩
theorem topo_ratio {rs : Rows} {i : Nat} {x : Num × Row} {m : Num} {L : List Nat} (h : rs[i]? = some x) (t : Topo rs L) : Topo (rs.set i (ratioR x m)) L := by
  have hd : ∀ k, drivesAt (rs.set i (ratioR x m)) k = drivesAt rs k := fun k => by
    unfold drivesAt
    by_cases hk : k = i
    · subst hk
      rw [List.getElem?_set_self (List.getElem?_eq_some_iff.mp h).1, h]
      obtain ⟨st, r⟩ := x
      cases r <;> rfl
    · rw [List.getElem?_set_ne (Ne.symm hk)]
  exact ⟨t.nd, fun k hk => by rw [List.length_set]; exact t.lt k hk, fun j k hj d hdd => t.dr j k hj d (by rw [hd] at hdd; exact hdd)⟩
theorem Eff.ok {n : Nat} {S S' : BS} {past past' : List BS} {d : Deed} {tM : Option (List Num)} (h : SBk S n past.length) (hp : PastOk n past) (hd : DeedOk n d) (e : Eff n S past d S' past' tM) : SBk S' n past'.length ∧ PastOk n past' := by
  have hl : (past ++ [S]).length = past.length + 1 := by rw [List.length_append]; rfl
  have hps := hp.snoc h
  obtain ⟨⟨len, n5, rows, tp, st, lim⟩, sum⟩ := id h
  cases e with
  | @click m M h1 h2 h3 =>
    have hMl : M.length = n := h1.1.trans len.r
    refine ⟨⟨⟨⟨len.r, by show (zipN _ _).length = n; rw [zipN_len]; exact len.s, by show (zipN _ _).length = n; rw [zipN_len]; exact len.u, len.o, len.l⟩, n5, rows, tp, fun x hx => ?_, lim⟩, fun i hi => ?_⟩, hps⟩
    · have hx : x ∈ zipN S.stood M := hx
      unfold zipN at hx
      obtain ⟨i, hi, rfl⟩ := List.mem_map.mp hx
      exact h2 i (by have := List.mem_range.mp hi; rw [len.s] at this; exact this)
    · rw [hl]
      show SumOk _ ((zipN S.sums M).getD i n0) ((zipN S.stood M).getD i n0)
      rw [zipN_get (by rw [len.u]; exact hi), zipN_get (by rw [len.s]; exact hi)]
      exact ((sum i hi).click (getD_all st (by rw [len.s]; exact hi) : Nz 200 _).1 (getD_all (p := fun x => Red x ∧ 0 < x.2) h3 (by omega)).2).mono (by omega)
  | out h1 => exact ⟨⟨⟨⟨len.r, len.s, len.u, by show (List.set _ _ _).length = n; rw [List.length_set]; exact len.o, len.l⟩, n5, rows, tp, st, lim⟩, fun i hi => by rw [hl]; exact (sum i hi).mono (by omega)⟩, hps⟩
  | into h1 => exact ⟨⟨⟨⟨len.r, len.s, len.u, by show (List.set _ _ _).length = n; rw [List.length_set]; exact len.o, len.l⟩, n5, rows, tp, st, lim⟩, fun i hi => by rw [hl]; exact (sum i hi).mono (by omega)⟩, hps⟩
  | @put i m =>
    obtain ⟨hi, hz, hr⟩ := hd
    refine ⟨⟨⟨⟨len.r, by show (List.set _ _ _).length = n; rw [List.length_set]; exact len.s, len.u, len.o, len.l⟩, n5, rows, tp, fun x hx => ?_, lim⟩, fun j hj => ?_⟩, hps⟩
    · rcases mem_set hx with h | h
      · rw [h]; exact hz.mono (by decide)
      · exact st x h
    · rw [hl]
      show SumOk _ _ ((S.stood.set i m).getD j n0)
      rw [getD_set (by rw [len.s]; exact hi)]
      by_cases e : j = i
      · rw [if_pos e]
        exact (sum j hj).put (getD_all st (by rw [len.s]; exact hj)) hz
      · rw [if_neg e]
        exact (sum j hj).mono (by omega)
  | @wire i x L t hL =>
    obtain ⟨hi, hx, hz⟩ := hd
    refine ⟨⟨⟨⟨by show (List.set _ _ _).length = n; rw [List.length_set]; exact len.r, len.s, len.u, len.o, len.l⟩, n5, fun y hy => ?_, ⟨L, t, hL⟩, st, lim⟩, fun i hi => by rw [hl]; exact (sum i hi).mono (by omega)⟩, hps⟩
    rcases List.mem_or_eq_of_mem_set hy with h | h
    · exact rows y h
    · rw [h]; exact ⟨hx, hz⟩
  | @gear i m x hx hg =>
    obtain ⟨hi, hz, hr⟩ := hd
    obtain ⟨L, t, hL⟩ := tp
    refine ⟨⟨⟨⟨by show (List.set _ _ _).length = n; rw [List.length_set]; exact len.r, len.s, len.u, len.o, len.l⟩, n5, fun y hy => ?_, ⟨L, topo_ratio hx t, hL⟩, st, lim⟩, fun i hi => by rw [hl]; exact (sum i hi).mono (by omega)⟩, hps⟩
    rcases List.mem_or_eq_of_mem_set hy with h | h
    · exact rows y h
    · have hx2 := rows x (List.mem_of_getElem? hx)
      rw [h]
      obtain ⟨s0, r⟩ := x
      cases r with
      | gear q s => exact ⟨⟨hz, hr, hx2.1.2.2⟩, hx2.2⟩
      | src => cases hg
      | add a b => cases hg
      | disc a b => cases hg
  | @ends i l =>
    obtain ⟨hi, h1, h2⟩ := hd
    refine ⟨⟨⟨⟨len.r, len.s, len.u, len.o, by show (List.set _ _ _).length = n; rw [List.length_set]; exact len.l⟩, n5, rows, tp, st, fun y hy => ?_⟩, fun i hi => by rw [hl]; exact (sum i hi).mono (by omega)⟩, hps⟩
    rcases List.mem_or_eq_of_mem_set hy with h | h
    · exact lim y h
    · rw [h]; exact ⟨h1, h2⟩
  | @undo past1 S1 e =>
    subst e
    refine ⟨hp past'.length S' (by rw [List.getElem?_append_right (Nat.le_refl _), Nat.sub_self]; rfl), fun j S'' hj => hp j S'' ?_⟩
    rw [List.getElem?_append_left (List.getElem?_eq_some_iff.mp hj).1]
    exact hj
theorem Eff.len {n : Nat} {S S' : BS} {past past' : List BS} {d : Deed} {tM : Option (List Num)} (e : Eff n S past d S' past' tM) : past'.length ≤ past.length + 1 := by
  cases e <;> first | (rw [List.length_append]; exact Nat.le_refl _) | skip
  rename_i h
  rw [h, List.length_append]
  omega
theorem SBk.hsum {S : BS} {n k : Nat} (h : SBk S n k) (hk : k ≤ 39) (M : List Num) (h1 : MovesOk S m M) (h2 : ∀ i, i < n → Nz 200 (addN (S.stood.getD i n0) (M.getD i n0))) (h3 : ∀ x ∈ M, Red x ∧ 0 < x.2) : ∀ i, i < n → ∃ a b, Nz a (S.sums.getD i n0) ∧ Nz b (M.getD i n0) ∧ a + b ≤ 8998 := by
  intro i hi
  have hs : Nz 200 (S.stood.getD i n0) := getD_all h.ok.st (by rw [h.ok.len.s]; exact hi)
  have hm := getD_all (p := fun x => Red x ∧ 0 < x.2) h3 (i := i) (by rw [h1.1, h.ok.len.r]; exact hi)
  exact ⟨_, 401, (h.sum i hi).nz hs, move_nz hs (h2 i hi) hm.1 hm.2, by omega⟩
section
variable {P : Program} {w : World} {K : PySem.W.Frag} {mg : Str → Option Value} {base : Heap} {f : Addr} {fd : FuncData} {C : Addr}
def spSaid : Sp := fun vs H Q E => ∃ (b dx p : Addr) (F : Fv) (Fs : List Fv) (S : BS) (past : List BS) (n : Nat) (v : V) (d : Deed), vs = [.ref b, v] ∧ BenchAt K H C b dx p F Fs S past ∧ past.length ≤ 39 ∧ SBk S n past.length ∧ TD K H v (deedD d) ∧ DeedOk n d ∧
  (∀ tv H' F' Fs' S' past' tM, Eff n S past d S' past' tM → BenchAt K H' C b dx p F' Fs' S' past' → Fr (fpB b p F Fs) H H' → Nf H (fpB b p F Fs) (fpB b p F' Fs') → TV K H H' (fpB b p F' Fs') tv tM → Q tv H') ∧
  ((isUndo d = true → past = []) → Ref K mg H E (allowed d))
structure Ms (P : Program) (w : World) (K : PySem.W.Frag) (mg : Str → Option Value) (base : Heap) (C : Addr) : Prop where
  cls : BC K C
  click : Mt P w K mg base (L2N.CX P w) 6 C "click" ["self", "number"] (spClick (K := K) (mg := mg) (C := C))
  out : Mt P w K mg base (L2N.CX P w) 2 C "out" ["self", "shaft"] (spOut (K := K) (mg := mg) (C := C) true)
  into : Mt P w K mg base (L2N.CX P w) 2 C "into" ["self", "shaft"] (spOut (K := K) (mg := mg) (C := C) false)
  put : Mt P w K mg base (L2N.CX P w) 3 C "put" ["self", "shaft", "number"] (spPut (K := K) (mg := mg) (C := C))
  wire : Mt P w K mg base (L2N.CX P w) 6 C "wire" ["self", "shaft", "thing"] (spWire (K := K) (mg := mg) (C := C))
  gear : Mt P w K mg base (L2N.CX P w) 2 C "gear" ["self", "shaft", "ratio"] (spGear (K := K) (mg := mg) (C := C))
  ends : Mt P w K mg base (L2N.CX P w) 3 C "ends" ["self", "shaft", "least", "greatest"] (spEnds (K := K) (mg := mg) (C := C))
  undo : Mt P w K mg base (L2N.CX P w) 1 C "undo" ["self"] (spUndo (K := K) (mg := mg) (C := C))
  stands : Mt P w K mg base CX0 1 C "stands" ["self"] (spStands (K := K) (C := C))
  machine : Mt P w K mg base CX0 1 C "machine" ["self"] (spMachine (K := K) (C := C))
  moved : Mt P w K mg base CX0 1 C "moved" ["self", "shaft"] (spMoved (K := K) (C := C))
  deeds : Mt P w K mg base CX0 1 C "deeds" ["self"] (spDeeds (K := K) (C := C))
theorem ok_said (Mz : Ms P w K mg base C) (F : FnP K "_law_said" "_law_said" s_L_said f fd) : FnOk P w K mg base (L2N.CX P w) 7 f fd ["_law_bench", "_law_deed"] (spSaid (K := K) (mg := mg) (C := C)) := by
  refine fnX F sc_L_said (fun vs H Q E h => ?_) (fun cdv A outer s H vs Q E hr h => ?_)
  · obtain ⟨_, _, _, _, _, _, _, _, _, _, rfl, _⟩ := h
    rfl
  · obtain ⟨b, dx, p, F, Fs, S, past, n, v, d, rfl, B, hpl, sb, hv, hd, k, kx⟩ := h
    have c := Mz.cls.cls
    have tk := L2N.takes_of (X := cxOf (L2N.CX P w) P w K mg base n_L_said "_law_said" (defScope s_L_said) f cdv A outer s H E) rfl rfl rfl rfl
    have ps := L2N.passes_call (X := cxOf (L2N.CX P w) P w K mg base n_L_said "_law_said" (defScope s_L_said) f cdv A outer s H E) (E := E) tk fun _ _ _ _ h => h
    have hp1000 : past.length ≤ 1000 := by omega
    cases d with
    | click m =>
      obtain ⟨a, xs, rfl, ha, hxs⟩ := hv.tupE
      obtain ⟨x, r, rfl, hx, hxs⟩ := hxs.consE
      obtain ⟨y, r, rfl, hy, hxs⟩ := hxs.consE
      cases hxs.nilE
      cases hx.strE
      fail "rdk"
      refine ge_meth c Mz.click (hr.mono (by decide)) ps (ge_var 0 rfl rfl ⟨b, dx, _, rfl, B.ins, by rfl, ?_⟩)
      fail "rdk"
      refine ⟨b, dx, p, F, Fs, S, past, n, y, m, rfl, B, hp1000, sb.ok, hy, hd.1, hd.2, fun M h1 h2 h3 => sb.hsum hpl M h1 h2 h3, fun q H' F' Fs' M h1 h2 h3 B' fr nf hq hqf hM => ?_, kx (by intro z; cases z)⟩
      exact k _ H' F' Fs' _ _ _ (.click h1 h2 h3) B' fr nf ⟨q, rfl, hq, hqf, hM⟩
    | out i =>
      obtain ⟨a, xs, rfl, ha, hxs⟩ := hv.tupE
      obtain ⟨x, r, rfl, hx, hxs⟩ := hxs.consE
      obtain ⟨y, r, rfl, hy, hxs⟩ := hxs.consE
      cases hxs.nilE
      cases hx.strE
      cases hy.intE
      fail "rdk"
      refine ge_meth c Mz.out (hr.mono (by decide)) ps (ge_var 0 rfl rfl ⟨b, dx, _, rfl, B.ins, by rfl, ?_⟩)
      fail "rdk"
      exact ⟨b, dx, p, F, Fs, S, past, i, n, rfl, B, hp1000, sb.ok.len, hd, fun ho H' F' Fs' B' fr nf => k _ H' F' Fs' _ _ _ (.out ho) B' fr nf rfl, kx (by intro z; cases z)⟩
    | into i =>
      obtain ⟨a, xs, rfl, ha, hxs⟩ := hv.tupE
      obtain ⟨x, r, rfl, hx, hxs⟩ := hxs.consE
      obtain ⟨y, r, rfl, hy, hxs⟩ := hxs.consE
      cases hxs.nilE
      cases hx.strE
      cases hy.intE
      fail "rdk"
      refine ge_meth c Mz.into (hr.mono (by decide)) ps (ge_var 0 rfl rfl ⟨b, dx, _, rfl, B.ins, by rfl, ?_⟩)
      fail "rdk"
      exact ⟨b, dx, p, F, Fs, S, past, i, n, rfl, B, hp1000, sb.ok.len, hd, fun ho H' F' Fs' B' fr nf => k _ H' F' Fs' _ _ _ (.into ho) B' fr nf rfl, kx (by intro z; cases z)⟩
    | put i m =>
      obtain ⟨a, xs, rfl, ha, hxs⟩ := hv.tupE
      obtain ⟨x, r, rfl, hx, hxs⟩ := hxs.consE
      obtain ⟨y, r, rfl, hy, hxs⟩ := hxs.consE
      obtain ⟨z, r, rfl, hz, hxs⟩ := hxs.consE
      cases hxs.nilE
      cases hx.strE
      cases hy.intE
      fail "rdk"
      refine ge_meth c Mz.put (hr.mono (by decide)) ps (ge_var 0 rfl rfl ⟨b, dx, _, rfl, B.ins, by rfl, ?_⟩)
      fail "rdk"
      exact ⟨b, dx, p, F, Fs, S, past, i, n, z, m, rfl, B, hp1000, sb.ok.len, hd.1, hz, hd.2.1, sb.ok.lim, fun ho H' F' Fs' B' fr nf => k _ H' F' Fs' _ _ _ .put B' fr nf rfl, kx (by intro z; cases z)⟩
    | wire i m =>
      obtain ⟨a, xs, rfl, ha, hxs⟩ := hv.tupE
      obtain ⟨x, r, rfl, hx, hxs⟩ := hxs.consE
      obtain ⟨y, r, rfl, hy, hxs⟩ := hxs.consE
      obtain ⟨z, r, rfl, hz, hxs⟩ := hxs.consE
      cases hxs.nilE
      cases hx.strE
      cases hy.intE
      fail "rdk"
      refine ge_meth c Mz.wire (hr.mono (by decide)) ps (ge_var 0 rfl rfl ⟨b, dx, _, rfl, B.ins, by rfl, ?_⟩)
      fail "rdk"
      exact ⟨b, dx, p, F, Fs, S, past, i, n, z, m, rfl, B, hp1000, sb.ok.len, hd.1, sb.ok.n5, hz, hd.2.1, fun y hy => (sb.ok.rows y hy).1, fun ho L t hL H' F' Fs' B' fr nf => k _ H' F' Fs' _ _ _ (.wire t hL) B' fr nf rfl, kx (by intro z; cases z)⟩
    | gear i m =>
      obtain ⟨a, xs, rfl, ha, hxs⟩ := hv.tupE
      obtain ⟨x, r, rfl, hx, hxs⟩ := hxs.consE
      obtain ⟨y, r, rfl, hy, hxs⟩ := hxs.consE
      obtain ⟨z, r, rfl, hz, hxs⟩ := hxs.consE
      cases hxs.nilE
      cases hx.strE
      cases hy.intE
      fail "rdk"
      refine ge_meth c Mz.gear (hr.mono (by decide)) ps (ge_var 0 rfl rfl ⟨b, dx, _, rfl, B.ins, by rfl, ?_⟩)
      fail "rdk"
      exact ⟨b, dx, p, F, Fs, S, past, i, n, z, m, rfl, B, hp1000, sb.ok.len, hd.1, hz, fun x h1 h2 H' F' Fs' B' fr nf => k _ H' F' Fs' _ _ _ (.gear h1 h2) B' fr nf rfl, kx (by intro z; cases z)⟩
    | ends i l =>
      obtain ⟨a, xs, rfl, ha, hxs⟩ := hv.tupE
      obtain ⟨x, r, rfl, hx, hxs⟩ := hxs.consE
      obtain ⟨y, r, rfl, hy, hxs⟩ := hxs.consE
      obtain ⟨z, r, rfl, hz, hxs⟩ := hxs.consE
      obtain ⟨u, r, rfl, hu, hxs⟩ := hxs.consE
      cases hxs.nilE
      cases hx.strE
      cases hy.intE
      fail "rdk"
      refine ge_meth c Mz.ends (hr.mono (by decide)) ps (ge_var 0 rfl rfl ⟨b, dx, _, rfl, B.ins, by rfl, ?_⟩)
      fail "rdk"
      exact ⟨b, dx, p, F, Fs, S, past, i, n, z, u, l, rfl, B, hp1000, sb.ok.len, hd.1, hz, hu, hd.2.1, hd.2.2, sb.ok.st, fun H' F' Fs' B' fr nf => k _ H' F' Fs' _ _ _ .ends B' fr nf rfl, kx (by intro z; cases z)⟩
    | undo =>
      obtain ⟨a, xs, rfl, ha, hxs⟩ := hv.tupE
      obtain ⟨x, r, rfl, hx, hxs⟩ := hxs.consE
      cases hxs.nilE
      cases hx.strE
      fail "rdk"
      refine ge_meth0 c Mz.undo (hr.mono (by decide)) ps (ge_var 0 rfl rfl ⟨b, dx, _, rfl, B.ins, by rfl, ?_⟩)
      exact ⟨b, dx, p, F, Fs, S, past, rfl, B, fun past1 S1 e H' F' Fs' B' fr nf => k _ H' F' Fs' _ _ _ (.undo e) B' fr nf rfl, fun e => kx fun _ => e⟩
end
end RD
namespace RD
open PySem PySem.Spec PyProof.Rows L2 L2H
theorem er_unique {K : PySem.W.Frag} {mg : Str → Option Value} {x : Str} {D D' : Addr} (h : Er K mg x D) (h' : Er K mg x D') : D = D' := by
  have := h.get.symm.trans h'.get
  have := Option.some.inj this
  exact Value.ref.inj this
theorem xdf_ok {x : Str} {d : Option Addr} {H : Hp} (h : XdF x d H) : XdOk H d := by
  by_cases h1 : x = "Stopped"
  · obtain ⟨dd, v, e, g⟩ := h.1 h1
    exact .inr ⟨dd, _, e, g⟩
  · by_cases h2 : x = "Ring"
    · obtain ⟨dd, v, e, g⟩ := h.2.1 h2
      exact .inr ⟨dd, _, e, g⟩
    · exact .inl (h.2.2 h1 h2)
theorem roomH_mark5 {k : Nat} {A : Around} (r : Room k A) (h : Option Value) : RoomH k (A.mark h) := ⟨r.dp, r.un⟩
theorem allowed_five {d : Deed} {x : Str} (h : x ∈ allowed d) (h1 : x ≠ "Stopped") (h2 : x ≠ "Ring") : x ∈ five := by
  cases d with
  | click => exact (by decide +kernel : ∀ x ∈ (["Stopped", "TooFar"] : List Str), x ≠ "Stopped" → x ≠ "Ring" → x ∈ five) x h h1 h2
  | out => exact (by decide +kernel : ∀ x ∈ (["Held"] : List Str), x ≠ "Stopped" → x ≠ "Ring" → x ∈ five) x h h1 h2
  | into => exact (by decide +kernel : ∀ x ∈ (["Held"] : List Str), x ≠ "Stopped" → x ≠ "Ring" → x ∈ five) x h h1 h2
  | put => exact (by decide +kernel : ∀ x ∈ (["Held", "Stopped"] : List Str), x ≠ "Stopped" → x ≠ "Ring" → x ∈ five) x h h1 h2
  | wire => exact (by decide +kernel : ∀ x ∈ (["Held", "NoMachine", "Ring"] : List Str), x ≠ "Stopped" → x ≠ "Ring" → x ∈ five) x h h1 h2
  | gear => exact (by decide +kernel : ∀ x ∈ (["NoGear"] : List Str), x ≠ "Stopped" → x ≠ "Ring" → x ∈ five) x h h1 h2
  | ends => exact (by decide +kernel : ∀ x ∈ (["Stopped"] : List Str), x ≠ "Stopped" → x ≠ "Ring" → x ∈ five) x h h1 h2
  | undo => exact (by decide +kernel : ∀ x ∈ (["NoDeed"] : List Str), x ≠ "Stopped" → x ≠ "Ring" → x ∈ five) x h h1 h2
section
variable {P : Program} {w : World} {K : PySem.W.Frag} {mg : Str → Option Value} {base : Heap} {f : Addr} {fd : FuncData} {C : Addr}
def spGot : Sp := fun vs H Q _ => ∃ (b dx p : Addr) (F : Fv) (Fs : List Fv) (S : BS) (past : List BS) (n : Nat) (v : V) (d : Deed), vs = [.ref b, v] ∧ BenchAt K H C b dx p F Fs S past ∧ past.length ≤ 39 ∧ SBk S n past.length ∧ TD K H v (deedD d) ∧ DeedOk n d ∧
  (∀ t tv H' F' Fs' S' past' tM, Eff n S past d S' past' tM → BenchAt K H' C b dx p F' Fs' S' past' → Fr (fpB b p F Fs) H H' → Nf H (fpB b p F Fs) (fpB b p F' Fs') → TV K H H' (fpB b p F' Fs') tv tM → SqT K H' t [.str "told", tv] → Q (.ref t) H') ∧
  ∀ t H' x rest, x ∈ allowed d → (isUndo d = true → past = []) → Ex H H' → SqT K H' t (.str x :: rest) → Q (.ref t) H'
theorem TV.ex {H H1 H2 : Hp} {fp : List Addr} {tv : V} {tM : Option (List Num)} (h : TV K H H1 fp tv tM) (e : Ex H1 H2) : TV K H H2 fp tv tM := by
  cases tM with
  | none => exact h
  | some M =>
    obtain ⟨q, h1, h2, h3, h4⟩ := h
    exact ⟨q, h1, h2, h3, h4.ex e⟩
theorem ok_got (R : Errs P w K mg base) (DS : Df P w K mg base (L2N.CX P w) 7 "_law_said" ["_law_bench", "_law_deed"] (spSaid (K := K) (mg := mg) (C := C))) (DA : DfE P w K mg base 1 "_law_alone" ["_law_e"] (spAlone (K := K) (mg := mg))) (DR : DfE P w K mg base 2 "_law_refusal" ["_law_e"] (spRefusal (K := K) (mg := mg)))
    (F : FnP K "_law_got" "_law_got" s_L_got f fd) : FnOk P w K mg base CX0 8 f fd ["_law_bench", "_law_deed"] (spGot (K := K) (C := C)) := by
  refine fn0 F sc_L_got (fun vs H Q E h => ?_) (fun cdv A outer s H vs Q E hr h => ?_)
  · obtain ⟨_, _, _, _, _, _, _, _, _, _, rfl, _⟩ := h
    rfl
  · obtain ⟨b, dx, p, F, Fs, S, past, n, v, d, rfl, B, hpl, sb, hv, hd, k, kx⟩ := h
    obtain ⟨Ds, Es, Is, nS⟩ := R.stopped
    obtain ⟨Dr, Erg, Ir, nR⟩ := R.ring
    obtain ⟨C1, C2, C3, g1, g2, g3, _⟩ := Es.isH
    refine gb_cons (gs_tryAs (Wout := fun _ _ _ _ => False) rfl rfl sc_L_got.nd takes_none
      (.cons (i := 3) (c := .ref C1) rfl rfl ⟨rfl, by decide, .inl g1⟩ gSuite.ok (.cons (i := 4) (c := .ref C2) rfl rfl ⟨rfl, by decide, .inl g2⟩ gSuite.ok (.cons (i := 5) (c := .ref C3) rfl rfl ⟨rfl, by decide, .inl g3⟩ gSuite.ok .nil))) (fun pn xe tk ps => ?_))
    refine gb_one (gs_set 2 sc_L_got.nd rfl (ge_callS DS (hr.mono (by decide)) tk ?_))
    fail "rd"
    refine ⟨b, dx, p, F, Fs, S, past, n, v, d, rfl, B, hpl, sb, hv, hd, fun tv H1 F' Fs' S' past' tM ef B' fr nf ht => ?_, fun hu x D dd H1 hx hE e1 hxd => ?_⟩
    · refine gb_one (gs_ret (tup_k ?_))
      fail "rd"
      exact ⟨Nat.le_of_ble_eq_true rfl, fun t H2 ht2 e2 h2 => k t tv H2 F' Fs' S' past' tM ef (B'.ex e2) (fr.trans (Fr.ex e2)) nf (ht.ex e2) (Evl.st_of h2)⟩
    · obtain ⟨C1', C2', C3', g1', g2', g3', x1, x2, x3⟩ := hE.isH
      have q1 : C1' = C1 := Value.ref.inj (Option.some.inj (g1'.symm.trans g1))
      have q2 : C2' = C2 := Value.ref.inj (Option.some.inj (g2'.symm.trans g2))
      have q3 : C3' = C3 := Value.ref.inj (Option.some.inj (g3'.symm.trans g3))
      subst q1 q2 q3
      refine ⟨_, x1, fun hb a ha oe pn' hz hf => ?_, fun hb => ⟨_, x2, fun hb2 a ha oe pn' hz hf => ?_, fun hb2 => ⟨_, x3, fun _ a ha oe pn' hz hf => ?_, fun h => by cases h⟩⟩⟩
      · -- Stopped
        have hxs := of_decide_eq_true hb
        subst hxs
        obtain ⟨dd', u, rfl, hdd⟩ := hxd.1 rfl
        obtain rfl := er_unique hE Es
        have ce : Ce K mg H1 (a, oe) "Stopped" := ⟨D, some dd', hE, hz, hf, xdf_ok hxd⟩
        obtain ⟨vs, hvs⟩ := id hf
        refine gb_one (gs_ret (ge_if (gt_val (ge_callE (p := (a, oe)) DA ⟨rfl, vs, hvs, hz.2.2 vs hvs⟩ List.mem_cons_self (roomH_mark5 (hr.mono (by decide)) _) (ga_cons (ge_var 3 rfl rfl (ga_nil ?_)))))))
        refine ⟨_, rfl, ce, fun H2 e2 => ⟨true, rfl, iteT (tup_k (ga_cons (ge_str (ga_cons ?_))))⟩⟩
        refine ge_xf ⟨hE.exc.hg, hE.exc.hk, hE.exc.hs, hE.exc.hd⟩ nS hz hf (ge_var 3 rfl rfl ⟨rfl, dd', _, u, rfl, e2 _ _ hdd, rfl, ga_nil ⟨Nat.le_of_ble_eq_true rfl, fun t H3 ht e3 h3 => ?_⟩⟩)
        exact kx t H3 _ _ hx hu ((e1.trans e2).trans e3) (Evl.st_of h3)
      · -- Ring
        have hxs := of_decide_eq_true hb2
        subst hxs
        obtain ⟨dd', u, rfl, hdd⟩ := hxd.2.1 rfl
        obtain rfl := er_unique hE Erg
        have ce : Ce K mg H1 (a, oe) "Ring" := ⟨D, some dd', hE, hz, hf, xdf_ok hxd⟩
        obtain ⟨vs, hvs⟩ := id hf
        refine gb_one (gs_ret (ge_if (gt_val (ge_callE (p := (a, oe)) DA ⟨rfl, vs, hvs, hz.2.2 vs hvs⟩ List.mem_cons_self (roomH_mark5 (hr.mono (by decide)) _) (ga_cons (ge_var 4 rfl rfl (ga_nil ?_)))))))
        refine ⟨_, rfl, ce, fun H2 e2 => ⟨true, rfl, iteT (tup_k (ga_cons (ge_str (ga_cons ?_))))⟩⟩
        refine ge_xf ⟨hE.exc.hg, hE.exc.hk, hE.exc.hs, hE.exc.hd⟩ nR hz hf (ge_var 4 rfl rfl ⟨rfl, dd', _, u, rfl, e2 _ _ hdd, rfl, ga_nil ⟨Nat.le_of_ble_eq_true rfl, fun t H3 ht e3 h3 => ?_⟩⟩)
        exact kx t H3 _ _ hx hu ((e1.trans e2).trans e3) (Evl.st_of h3)
      · have h1 : x ≠ "Stopped" := of_decide_eq_false hb
        have h2 : x ≠ "Ring" := of_decide_eq_false hb2
        have ce : Ce K mg H1 (a, oe) x := ⟨D, dd, hE, hz, hf, xdf_ok hxd⟩
        obtain ⟨vs, hvs⟩ := id hf
        refine gb_one (gs_ret (tup_k (ga_cons (ge_callE (p := (a, oe)) DR ⟨rfl, vs, hvs, hz.2.2 vs hvs⟩ List.mem_cons_self (roomH_mark5 (hr.mono (by decide)) _) (ga_cons (ge_var 5 rfl rfl (ga_nil ?_)))))))
        refine ⟨x, rfl, ce, allowed_five hx h1 h2, fun H2 e2 => ga_nil ⟨Nat.le_of_ble_eq_true rfl, fun t H3 ht e3 h3 => ?_⟩⟩
        exact kx t H3 x [] hx hu ((e1.trans e2).trans e3) (Evl.st_of h3)
end
end RD
namespace RD
open PySem PySem.Spec PyProof.Rows L2 L2H
mutual
theorem dp_ex {K : PySem.W.Frag} {H H' : Hp} (e : Ex H H') : ∀ {v : V} {d : PyData}, Dp K H v d → Dp K H' v d
  | _, _, .non => .non
  | _, _, .bl b => .bl b
  | _, _, .int i => .int i
  | _, _, .str x => .str x
  | _, _, .lst h hs => .lst (Evl.ex_l e h) (dps_ex e hs)
  | _, _, .tup h hs => .tup (Evl.ex_t e h) (dps_ex e hs)
theorem dps_ex {K : PySem.W.Frag} {H H' : Hp} (e : Ex H H') : ∀ {v : List V} {d : List PyData}, DpAll K H v d → DpAll K H' v d
  | _, _, .nil => .nil
  | _, _, .cons h hs => .cons (dp_ex e h) (dps_ex e hs)
end
theorem dps_len {K : PySem.W.Frag} {H : Hp} : ∀ {vs : List V} {ds : List PyData}, DpAll K H vs ds → vs.length = ds.length
  | _, _, .nil => rfl
  | _, _, .cons _ hs => by rw [List.length_cons, List.length_cons, dps_len hs]
theorem dps_get {K : PySem.W.Frag} {H : Hp} : ∀ {vs : List V} {ds : List PyData} {i : Nat} {v : V}, DpAll K H vs ds → vs[i]? = some v → ∃ d, ds[i]? = some d ∧ Dp K H v d
  | _, _, _, _, .nil, h => by simp at h
  | _, _, 0, _, .cons hd hs, h => by
    simp at h
    subst h
    exact ⟨_, rfl, hd⟩
  | _, _, i + 1, _, .cons hd hs, h => by
    simp at h
    obtain ⟨d, h1, h2⟩ := dps_get hs h
    exact ⟨d, by simpa using h1, h2⟩
/-- whole numbers and texts, in tuples and lists -/
inductive Sh : Nat → PyData → Prop
  | int {j : Nat} (i : Int) : Sh j (.int i)
  | str {j : Nat} (i : Str) : Sh j (.str i)
  | tup {j : Nat} {ds : List PyData} : ds.length ≤ 1000 → (∀ x ∈ ds, Sh j x) → Sh (j + 1) (.tuple ds)
  | lst {j : Nat} {ds : List PyData} : ds.length ≤ 1000 → (∀ x ∈ ds, Sh j x) → Sh (j + 1) (.list ds)
section
variable {P : Program} {w : World} {K : PySem.W.Frag} {mg : Str → Option Value} {base : Heap} {f : Addr} {fd : FuncData}
def spSame (j : Nat) : Sp := fun vs H Q _ => ∃ v w d, vs = [v, w] ∧ Dp K H v d ∧ Dp K H w d ∧ Sh j d ∧ ∀ H', Ex H H' → Q (.bl true) H'
theorem all_true (n : Nat) : ((List.range n).map fun _ => true).all id = true := by
  rw [List.all_map]
  exact List.all_eq_true.mpr fun _ _ => rfl
theorem ok_same (T : Tx K mg) (F : FnP K "_law_same" "_law_same" s_L_same f fd) (hm : mg "_law_same" = some (.ref f)) (bind : ∀ (kV doc pm : Value) (an : Option Addr) (cdv ct : Value) (us : List Value), us.length = 2 → bindArgs (PySem.W.fnOf "_law_same" "_law_same" (defArgs s_L_same) (defBody s_L_same) (defScope s_L_same) .none kV doc pm an cdv ct) ⟨us, []⟩ = pure ((["_law_one", "_law_other"] : List Str).zip us)) :
    ∀ j, Df P w K mg base CX0 (j + 1) "_law_same" ["_law_one", "_law_other"] (spSame (K := K) j) := by
  have leafI : ∀ j k, FnOk P w K mg base CX0 (k + 1) f fd ["_law_one", "_law_other"] (fun vs H Q _ => ∃ v w d, vs = [v, w] ∧ Dp K H v d ∧ Dp K H w d ∧ Sh j d ∧ ((∃ i, d = .int i) ∨ ∃ x, d = .str x) ∧ ∀ H', Ex H H' → Q (.bl true) H') := by
    intro j k
    refine fn0 F sc_L_same (fun vs H Q E h => ?_) (fun cdv A outer s H vs Q E hr h => ?_)
    · obtain ⟨_, _, _, rfl, _⟩ := h
      rfl
    · obtain ⟨v, w', d, rfl, hv, hw, hs, hd, k⟩ := h
      rcases hd with ⟨i, rfl⟩ | ⟨x, rfl⟩
      · cases hv
        cases hw
        fail "rdk"
        rw [decide_eq_true rfl]
        exact k H (Evl.Ex.refl _)
      · cases hv
        cases hw
        fail "rdk"
        rw [decide_eq_true rfl]
        exact k H (Evl.Ex.refl _)
  intro j
  induction j with
  | zero =>
    refine .mk' F hm ((leafI 0 0).imp fun vs H Q E h => ?_) bind
    obtain ⟨v, w', d, rfl, hv, hw, hs, k⟩ := h
    refine ⟨v, w', d, rfl, hv, hw, hs, ?_, k⟩
    cases hs with
    | int i => exact .inl ⟨i, rfl⟩
    | str i => exact .inr ⟨i, rfl⟩
  | succ j ih =>
    refine .mk' F hm ?_ bind
    refine fn0 F sc_L_same (fun vs H Q E h => ?_) (fun cdv A outer s H vs Q E hr h => ?_)
    · obtain ⟨_, _, _, rfl, _⟩ := h
      rfl
    · obtain ⟨v, w', d, rfl, hv, hw, hs, k⟩ := h
      cases hs with
      | int i =>
        cases hv
        cases hw
        fail "rdk"
        rw [decide_eq_true rfl]
        exact k H (Evl.Ex.refl _)
      | str x =>
        cases hv
        cases hw
        fail "rdk"
        rw [decide_eq_true rfl]
        exact k H (Evl.Ex.refl _)
      | tup hl hx =>
        cases hv with
        | tup h1 h2 =>
        cases hw with
        | tup h3 h4 =>
        rename_i ds a xs b ys
        have l1 := dps_len h2
        have l2 := dps_len h4
        fail "rdk"
        refine ite_t (decide_eq_true (by omega)) ?_
        fail "rdk"
        refine ge_callB T.all boot_all (ga_cons (GL.ge <| gl_lcZA rfl sc_L_same.nd T.zip (by decide) (blkOk_by (N := n_L_same) (sc := defScope s_L_same) (by decide +kernel)) ?_ (fun _ _ _ _ _ => pg_tup rfl (pgs_cons (pg_name (i := 2) sc_L_same.nd rfl (Or.inl rfl)) (pgs_cons (pg_name (i := 3) sc_L_same.nd rfl (Or.inl rfl)) pgs_nil)))))
        refine ge_var 0 rfl rfl (ge_var 1 rfl rfl ?_)
        refine ⟨a, b, xs, ys, fun _ => .bool true, rfl, rfl, .inr ⟨h1, h3⟩, by omega, by omega, fun i x y H2 hx2 hy2 e2 => ⟨fun s0 H0 C cl fp => ?_⟩, fun q H2 zs hq e2 hh hz => ?_⟩
        · obtain ⟨dx, g1, g2⟩ := dps_get h2 hx2
          obtain ⟨dy, g3, g4⟩ := dps_get h4 hy2
          rw [g1] at g3
          cases g3
          refine ge_call ih hr pass0 ?_
          fail "rdk"
          exact ⟨x, y, dx, rfl, dp_ex e2 g2, dp_ex e2 g4, hx _ (List.mem_of_getElem? g1), fun H3 e3 => ⟨e3, .bl true⟩⟩
        · rw [kept_all] at hz
          refine ga_nil (c1_all (bs := (List.range xs.length).map fun _ => true) rfl (by rw [List.map_map]; exact hz) hh ?_)
          rw [all_true]
          exact k H2 e2
      | lst hl hx =>
        cases hv with
        | lst h1 h2 =>
        cases hw with
        | lst h3 h4 =>
        rename_i ds a xs b ys
        have l1 := dps_len h2
        have l2 := dps_len h4
        fail "rdk"
        refine ite_t (decide_eq_true (by omega)) ?_
        fail "rdk"
        refine ge_callB T.all boot_all (ga_cons (GL.ge <| gl_lcZA rfl sc_L_same.nd T.zip (by decide) (blkOk_by (N := n_L_same) (sc := defScope s_L_same) (by decide +kernel)) ?_ (fun _ _ _ _ _ => pg_tup rfl (pgs_cons (pg_name (i := 2) sc_L_same.nd rfl (Or.inl rfl)) (pgs_cons (pg_name (i := 3) sc_L_same.nd rfl (Or.inl rfl)) pgs_nil)))))
        refine ge_var 0 rfl rfl (ge_var 1 rfl rfl ?_)
        refine ⟨a, b, xs, ys, fun _ => .bool true, rfl, rfl, .inl ⟨h1, h3⟩, by omega, by omega, fun i x y H2 hx2 hy2 e2 => ⟨fun s0 H0 C cl fp => ?_⟩, fun q H2 zs hq e2 hh hz => ?_⟩
        · obtain ⟨dx, g1, g2⟩ := dps_get h2 hx2
          obtain ⟨dy, g3, g4⟩ := dps_get h4 hy2
          rw [g1] at g3
          cases g3
          refine ge_call ih hr pass0 ?_
          fail "rdk"
          exact ⟨x, y, dx, rfl, dp_ex e2 g2, dp_ex e2 g4, hx _ (List.mem_of_getElem? g1), fun H3 e3 => ⟨e3, .bl true⟩⟩
        · rw [kept_all] at hz
          refine ga_nil (c1_all (bs := (List.range xs.length).map fun _ => true) rfl (by rw [List.map_map]; exact hz) hh ?_)
          rw [all_true]
          exact k H2 e2
end
end RD
namespace RD
open PySem PySem.Spec PyProof.Rows L2 L2H
/-- what is told of all -/
def shotD (S : BS) (k : Nat) : PyData := .list [.list (numsD S.stood), .list (rowsD (standR S.rows S.stood)), .list (numsD S.sums), .int k]
def ShotAt (K : PySem.W.Frag) (H : Hp) (N : Addr → Prop) (a : Addr) (S : BS) (k : Nat) : Prop := ∃ s m u, H a = some (.lst [.ref s, .ref m, .ref u, .int k]) ∧ LA K H s (numsD S.stood) ∧ LA K H m (rowsD (standR S.rows S.stood)) ∧ LA K H u (numsD S.sums) ∧ N a ∧ N s ∧ N m ∧ N u
section
variable {K : PySem.W.Frag} {H H' : Hp} {N N' : Addr → Prop} {a : Addr} {S : BS} {k : Nat}
theorem LA.dp {ds : List PyData} (h : LA K H a ds) : Dp K H (.ref a) (.list ds) := let ⟨ys, h1, h2⟩ := h; .lst (Evl.sq_of h1) h2.dp
theorem ShotAt.dp (h : ShotAt K H N a S k) : Dp K H (.ref a) (shotD S k) := let ⟨s, m, u, h1, h2, h3, h4, _⟩ := h; .lst (Evl.sq_of h1) (.cons h2.dp (.cons h3.dp (.cons h4.dp (.cons (.int _) .nil))))
theorem ShotAt.ex (h : ShotAt K H N a S k) (e : Ex H H') : ShotAt K H' N a S k := let ⟨s, m, u, h1, h2, h3, h4, h5⟩ := h; ⟨s, m, u, e _ _ h1, h2.ex e, h3.ex e, h4.ex e, h5⟩
theorem ShotAt.imp (h : ShotAt K H N a S k) (i : ∀ x, H x ≠ none → N x → N' x) : ShotAt K H N' a S k := by
  obtain ⟨s, m, u, h1, h2, h3, h4, n1, n2, n3, n4⟩ := h
  exact ⟨s, m, u, h1, h2, h3, h4, i _ (by rw [h1]; intro z; cases z) n1, i _ h2.nt.dom n2, i _ h3.nt.dom n3, i _ h4.nt.dom n4⟩
/-- what does not change is told on -/
theorem ShotAt.fr {M : List Addr} (h : ShotAt K H N a S k) (f : Fr M H H') (t : Tk K H H') (n : ∀ x, N x → x ∉ M) : ShotAt K H' N a S k := by
  obtain ⟨s, m, u, h1, h2, h3, h4, n1, n2, n3, n4⟩ := h
  have same : ∀ {x : Addr} {ds : List PyData}, N x → LA K H x ds → LA K H' x ds := fun {x ds} hx ⟨ys, y1, y2⟩ => ⟨ys, f.keep _ _ y1 (n x hx), y2.tk t⟩
  exact ⟨s, m, u, f.keep _ _ h1 (n a n1), same n2 h2, same n3 h3, same n4 h4, n1, n2, n3, n4⟩
end
theorem sh_num {j : Nat} (n : Num) : Sh (j + 1) (nD n) := .tup (by show 2 ≤ 1000; decide) fun x hx => by
  simp only [List.mem_cons, List.not_mem_nil, or_false] at hx
  rcases hx with rfl | rfl <;> exact .int _
theorem sh_row {j : Nat} (st : Num) (r : Row) : Sh (j + 2) (rowD st r) := by
  cases r with
  | src => 
    refine .tup (by show 2 ≤ 1000; decide) fun x hx => ?_
    simp only [List.mem_cons, List.not_mem_nil, or_false] at hx
    rcases hx with rfl | rfl
    · exact .str _
    · exact sh_num _
  | gear q s => 
    refine .tup (by show 4 ≤ 1000; decide) fun x hx => ?_
    simp only [List.mem_cons, List.not_mem_nil, or_false] at hx
    rcases hx with rfl | rfl | rfl | rfl
    · exact .str _
    · exact sh_num _
    · exact sh_num _
    · exact .int _
  | add q s => 
    refine .tup (by show 4 ≤ 1000; decide) fun x hx => ?_
    simp only [List.mem_cons, List.not_mem_nil, or_false] at hx
    rcases hx with rfl | rfl | rfl | rfl
    · exact .str _
    · exact sh_num _
    · exact .int _
    · exact .int _
  | disc q s => 
    refine .tup (by show 4 ≤ 1000; decide) fun x hx => ?_
    simp only [List.mem_cons, List.not_mem_nil, or_false] at hx
    rcases hx with rfl | rfl | rfl | rfl
    · exact .str _
    · exact sh_num _
    · exact .int _
    · exact .int _
theorem shot_sh {S : BS} {n k : Nat} (l : BLen S n) (h5 : n ≤ 5) : Sh 4 (shotD S k) := by
  have nums : ∀ xs : List Num, xs.length ≤ 5 → Sh 3 (.list (numsD xs)) := fun xs h => .lst (by unfold numsD; rw [List.length_map]; omega) fun x hx => by
    unfold numsD at hx
    obtain ⟨n, _, rfl⟩ := List.mem_map.mp hx
    exact sh_num n
  refine .lst (by show 4 ≤ 1000; decide) fun x hx => ?_
  simp only [List.mem_cons, List.not_mem_nil, or_false] at hx
  rcases hx with rfl | rfl | rfl | rfl
  · exact nums _ (by rw [l.s]; exact h5)
  · refine .lst (by unfold rowsD standR; simp; rw [l.r]; omega) fun x hx => ?_
    unfold rowsD at hx
    obtain ⟨p, _, rfl⟩ := List.mem_map.mp hx
    exact sh_row _ _
  · exact nums _ (by rw [l.u]; exact h5)
  · exact .int _
section
variable {P : Program} {w : World} {K : PySem.W.Frag} {mg : Str → Option Value} {base : Heap} {f : Addr} {fd : FuncData} {C : Addr}
def spTold : Sp := fun vs H Q _ => ∃ (b dx p : Addr) (F : Fv) (Fs : List Fv) (S : BS) (past : List BS) (n : Nat), vs = [.ref b, .int n] ∧ BenchAt K H C b dx p F Fs S past ∧ BLen S n ∧ n ≤ 5 ∧ ∀ a H', Ex H H' → ShotAt K H' (fun x => H x = none) a S past.length → Q (.ref a) H'
theorem ok_told (T : Tx K mg) (Mz : Ms P w K mg base C) (F : FnP K "_law_all_told" "_law_all_told" s_L_all_told f fd) : FnOk P w K mg base CX0 2 f fd ["_law_bench", "_law_many"] (spTold (K := K) (C := C)) := by
  refine fn0 F sc_L_all_told (fun vs H Q E h => ?_) (fun cdv A outer s H vs Q E hr h => ?_)
  · obtain ⟨_, _, _, _, _, _, _, _, rfl, _⟩ := h
    rfl
  · obtain ⟨b, dx, p, F, Fs, S, past, n, rfl, B, L, h5, k⟩ := h
    have c := Mz.cls.cls
    refine gb_one (gs_ret (lst_k (ga_cons (ge_meth0 c Mz.stands (hr.mono (by decide)) pass0 (ge_var 0 rfl rfl ⟨b, dx, _, rfl, B.ins, by rfl, ?_⟩)))))
    refine ⟨b, dx, p, F, Fs, S, past, rfl, B, fun s H1 hs e1 la1 => ?_⟩
    have B1 := B.ex e1
    refine ga_cons (ge_meth0 c Mz.machine (hr.mono (by decide)) pass0 (ge_var 0 rfl rfl ⟨b, dx, _, rfl, B1.ins, by rfl, ?_⟩))
    refine ⟨b, dx, p, F, Fs, S, past, rfl, B1, L.s.trans L.r.symm, by rw [L.r]; exact h5, fun m H2 hm e2 la2 => ?_⟩
    have B2 := B1.ex e2
    refine ga_cons (GL.ge <| gl_lcR rfl sc_L_all_told.nd T.range (blkOk_by (N := n_L_all_told) (sc := defScope s_L_all_told) (by decide +kernel)) (ge_var 1 rfl rfl ?_) (fun _ _ _ _ _ => pg_name (i := 2) sc_L_all_told.nd rfl (Or.inl rfl)))
    refine ⟨n, fun i => nD (S.sums.getD i n0), rfl, by omega, fun i H3 hi e3 => ⟨fun s0 H0 C' cl fp => ?_⟩, fun u H3 ys hu e3 h3 hy => ?_⟩
    · refine ge_meth c Mz.moved (hr.mono (by decide)) pass0 (ge_var 0 rfl rfl ⟨b, dx, _, rfl, (B2.ex e3).ins, by rfl, ?_⟩)
      fail "rdk"
      exact ⟨b, dx, p, F, Fs, S, past, i, rfl, B2.ex e3, by rw [L.u]; exact hi, fun v hv => ⟨Evl.Ex.refl _, hv⟩⟩
    · have hyd : TDs K H3 ys (numsD S.sums) := by
        rw [kept_all] at hy
        have e : (List.range n).map (fun i => nD (S.sums.getD i n0)) = numsD S.sums := by
          unfold numsD
          rw [← L.u]
          exact range_map_get _ _ _ fun i x hx => by rw [List.getD_eq_getElem?_getD, hx]; rfl
        rw [e] at hy
        exact hy
      have B3 := B2.ex e3
      refine ga_cons (ge_meth0 c Mz.deeds (hr.mono (by decide)) pass0 (ge_var 0 rfl rfl ⟨b, dx, _, rfl, B3.ins, by rfl, ?_⟩))
      refine ⟨b, dx, p, F, Fs, S, past, rfl, B3, ga_nil ⟨Nat.le_of_ble_eq_true rfl, fun a H4 ha e4 h4 => ?_⟩⟩
      refine k a H4 (((e1.trans e2).trans e3).trans e4) ⟨s, m, u, h4, la1.ex ((e2.trans e3).trans e4), la2.ex (e3.trans e4), ⟨ys, e4 _ _ h3, hyd.ex e4⟩, Evl.fresh_back ((e1.trans e2).trans e3) ha, hs, Evl.fresh_back e1 hm, Evl.fresh_back (e1.trans e2) hu⟩
/-- a refusal that may be -/
def spKnown : Sp := fun vs H Q _ => ∃ (v : V) (d : Deed) (t : Addr) (x : Str) (rest : List V), vs = [v, .ref t] ∧ TD K H v (deedD d) ∧ SqT K H t (.str x :: rest) ∧ x ∈ allowed d ∧ ∀ H', Ex H H' → Q (.bl true) H'
def dname : Deed → Str
  | .click _ => "click" | .out _ => "out" | .into _ => "into" | .put _ _ => "put" | .wire _ _ => "wire" | .gear _ _ => "gear" | .ends _ _ => "ends" | .undo => "undo"
theorem deed_hd {H : Hp} {v : V} {d : Deed} (h : TD K H v (deedD d)) : ∃ a rest, v = .ref a ∧ SqT K H a (.str (dname d) :: rest) := by
  cases d <;> (obtain ⟨a, xs, rfl, ha, hxs⟩ := h.tupE; obtain ⟨x, r, rfl, hx, hxs⟩ := hxs.consE; cases hx.strE; exact ⟨a, r, rfl, ha⟩)
theorem inV_strs {x : Str} {l : List Str} (h : x ∈ l) : inV (.str x) (l.map V.str) = true := by
  unfold inV
  rw [List.any_map]
  refine List.any_eq_true.mpr ⟨x, h, ?_⟩
  show (x == x) = true
  simp
theorem flat_strs (L : List Str) : (L.map V.str).all flatV = true := by
  rw [List.all_eq_true]
  intro x hx
  obtain ⟨n, _, rfl⟩ := List.mem_map.mp hx
  rfl
theorem ok_known (F : FnP K "_law_known" "_law_known" s_L_known f fd) : FnOk P w K mg base CX0 1 f fd ["_law_deed", "_law_got_here"] (spKnown (K := K)) := by
  refine fn0 F sc_L_known (fun vs H Q E h => ?_) (fun cdv A outer s H vs Q E hr h => ?_)
  · obtain ⟨_, _, _, _, _, rfl, _⟩ := h
    rfl
  · obtain ⟨v, d, t, x, rest, rfl, hv, ht, hx, k⟩ := h
    refine gb_cons (gs_set 2 sc_L_known.nd rfl (ge_disp fun p hp => ?_))
    show GE _ _ _ _ _
    refine ge_str ?_
    show GE _ _ _ _ _
    refine lst_k (ga_cons (ge_str (ga_cons (ge_str (ga_nil ⟨Nat.le_of_ble_eq_true rfl, fun l1 H1 hl1 e1 h1 => ?_⟩)))))
    show GE _ _ _ _ _
    refine ge_str ?_
    show GE _ _ _ _ _
    refine lst_k (ga_cons (ge_str (ga_nil ⟨Nat.le_of_ble_eq_true rfl, fun l2 H2 hl2 e2 h2 => ?_⟩)))
    show GE _ _ _ _ _
    refine ge_str ?_
    show GE _ _ _ _ _
    refine lst_k (ga_cons (ge_str (ga_nil ⟨Nat.le_of_ble_eq_true rfl, fun l3 H3 hl3 e3 h3 => ?_⟩)))
    show GE _ _ _ _ _
    refine ge_str ?_
    show GE _ _ _ _ _
    refine lst_k (ga_cons (ge_str (ga_cons (ge_str (ga_nil ⟨Nat.le_of_ble_eq_true rfl, fun l4 H4 hl4 e4 h4 => ?_⟩)))))
    show GE _ _ _ _ _
    refine ge_str ?_
    show GE _ _ _ _ _
    refine lst_k (ga_cons (ge_str (ga_cons (ge_str (ga_cons (ge_str (ga_nil ⟨Nat.le_of_ble_eq_true rfl, fun l5 H5 hl5 e5 h5 => ?_⟩)))))))
    show GE _ _ _ _ _
    refine ge_str ?_
    show GE _ _ _ _ _
    refine lst_k (ga_cons (ge_str (ga_nil ⟨Nat.le_of_ble_eq_true rfl, fun l6 H6 hl6 e6 h6 => ?_⟩)))
    show GE _ _ _ _ _
    refine ge_str ?_
    show GE _ _ _ _ _
    refine lst_k (ga_cons (ge_str (ga_nil ⟨Nat.le_of_ble_eq_true rfl, fun l7 H7 hl7 e7 h7 => ?_⟩)))
    show GE _ _ _ _ _
    refine ge_str ?_
    show GE _ _ _ _ _
    refine lst_k (ga_cons (ge_str (ga_nil ⟨Nat.le_of_ble_eq_true rfl, fun l8 H8 hl8 e8 h8 => ?_⟩)))
    have e18 : Ex (upd H p (.dK [])) H8 := ((((((e1.trans e2).trans e3).trans e4).trans e5).trans e6).trans e7).trans e8
    refine ⟨e18 _ _ upd_same, [(Sum.inr "click", .ref l1), (Sum.inr "out", .ref l2), (Sum.inr "into", .ref l3), (Sum.inr "put", .ref l4), (Sum.inr "wire", .ref l5), (Sum.inr "gear", .ref l6), (Sum.inr "ends", .ref l7), (Sum.inr "undo", .ref l8)], rfl, Nat.le_of_ble_eq_true rfl, ?_⟩
    have g1 := e8 _ _ (e7 _ _ (e6 _ _ (e5 _ _ (e4 _ _ (e3 _ _ (e2 _ _ (h1)))))))
    have g2 := e8 _ _ (e7 _ _ (e6 _ _ (e5 _ _ (e4 _ _ (e3 _ _ (h2))))))
    have g3 := e8 _ _ (e7 _ _ (e6 _ _ (e5 _ _ (e4 _ _ (h3)))))
    have g4 := e8 _ _ (e7 _ _ (e6 _ _ (e5 _ _ (h4))))
    have g5 := e8 _ _ (e7 _ _ (e6 _ _ (h5)))
    have g6 := e8 _ _ (e7 _ _ (h6))
    have g7 := e8 _ _ (h7)
    have g8 := h8
    have pn : ∀ {l : Addr} {xs : List V} {G : Hp}, Ex (upd H p (.dK [])) G → G l = none → l ≠ p := fun {l xs G} e h z => by
      rw [z, e _ _ upd_same] at h
      cases h
    have fr : Ex H (upd H8 p (.dK (mergeK [] [(Sum.inr "click", .ref l1), (Sum.inr "out", .ref l2), (Sum.inr "into", .ref l3), (Sum.inr "put", .ref l4), (Sum.inr "wire", .ref l5), (Sum.inr "gear", .ref l6), (Sum.inr "ends", .ref l7), (Sum.inr "undo", .ref l8)]))) := Evl.Ex.mut ((Evl.Ex.new hp).trans e18) hp
    obtain ⟨a, rs, rfl, ha⟩ := deed_hd hv
    have key : ∃ l, valV (mergeK [] [((Sum.inr "click" : Key), V.ref l1), ((Sum.inr "out" : Key), V.ref l2), ((Sum.inr "into" : Key), V.ref l3), ((Sum.inr "put" : Key), V.ref l4), ((Sum.inr "wire" : Key), V.ref l5), ((Sum.inr "gear" : Key), V.ref l6), ((Sum.inr "ends" : Key), V.ref l7), ((Sum.inr "undo" : Key), V.ref l8)]) (Sum.inr (dname d)) = some (.ref l) ∧ H8 l = some (.lst ((allowed d).map V.str)) ∧ l ≠ p := by
      cases d with
      | click _ => exact ⟨l1, by kernel_rfl, g1, pn (xs := []) (Evl.Ex.refl _) hl1⟩
      | out _ => exact ⟨l2, by kernel_rfl, g2, pn (xs := []) (e1) hl2⟩
      | into _ => exact ⟨l3, by kernel_rfl, g3, pn (xs := []) ((e1).trans e2) hl3⟩
      | put _ _ => exact ⟨l4, by kernel_rfl, g4, pn (xs := []) (((e1).trans e2).trans e3) hl4⟩
      | wire _ _ => exact ⟨l5, by kernel_rfl, g5, pn (xs := []) ((((e1).trans e2).trans e3).trans e4) hl5⟩
      | gear _ _ => exact ⟨l6, by kernel_rfl, g6, pn (xs := []) (((((e1).trans e2).trans e3).trans e4).trans e5) hl6⟩
      | ends _ _ => exact ⟨l7, by kernel_rfl, g7, pn (xs := []) ((((((e1).trans e2).trans e3).trans e4).trans e5).trans e6) hl7⟩
      | undo => exact ⟨l8, by kernel_rfl, g8, pn (xs := []) (((((((e1).trans e2).trans e3).trans e4).trans e5).trans e6).trans e7) hl8⟩
    obtain ⟨l, hval, hl, hlp⟩ := key
    have hdict := (upd_same : (upd H8 p (.dK (mergeK [] [((Sum.inr "click" : Key), V.ref l1), ((Sum.inr "out" : Key), V.ref l2), ((Sum.inr "into" : Key), V.ref l3), ((Sum.inr "put" : Key), V.ref l4), ((Sum.inr "wire" : Key), V.ref l5), ((Sum.inr "gear" : Key), V.ref l6), ((Sum.inr "ends" : Key), V.ref l7), ((Sum.inr "undo" : Key), V.ref l8)]))) p = _)
    have hl9 : (upd H8 p (.dK (mergeK [] [((Sum.inr "click" : Key), V.ref l1), ((Sum.inr "out" : Key), V.ref l2), ((Sum.inr "into" : Key), V.ref l3), ((Sum.inr "put" : Key), V.ref l4), ((Sum.inr "wire" : Key), V.ref l5), ((Sum.inr "gear" : Key), V.ref l6), ((Sum.inr "ends" : Key), V.ref l7), ((Sum.inr "undo" : Key), V.ref l8)])) ) l = some (.lst ((allowed d).map V.str)) := (upd_ne hlp).trans hl
    show GB _ _ _ _ (upd H8 p (.dK (mergeK [] [((Sum.inr "click" : Key), V.ref l1), ((Sum.inr "out" : Key), V.ref l2), ((Sum.inr "into" : Key), V.ref l3), ((Sum.inr "put" : Key), V.ref l4), ((Sum.inr "wire" : Key), V.ref l5), ((Sum.inr "gear" : Key), V.ref l6), ((Sum.inr "ends" : Key), V.ref l7), ((Sum.inr "undo" : Key), V.ref l8)])))
    generalize upd H8 p (.dK (mergeK [] [((Sum.inr "click" : Key), V.ref l1), ((Sum.inr "out" : Key), V.ref l2), ((Sum.inr "into" : Key), V.ref l3), ((Sum.inr "put" : Key), V.ref l4), ((Sum.inr "wire" : Key), V.ref l5), ((Sum.inr "gear" : Key), V.ref l6), ((Sum.inr "ends" : Key), V.ref l7), ((Sum.inr "undo" : Key), V.ref l8)])) = H9 at fr hdict hl9
    refine gb_one (gs_ret (ge_cmp (ge_ix (ge_var 1 rfl rfl (ge_int (i2_tup (Evl.ex_t fr ht) (atI_n (n := 0) rfl) ?_))))))
    refine ge_dget (hu_of hr) (ge_var 2 rfl rfl (ge_ix (ge_var 0 rfl rfl (ge_int (i2_tup (Evl.ex_t fr ha) (atI_n (n := 0) rfl) ?_)))))
    refine ⟨p, .ref l, rfl, by rw [← hval]; exact DGet.k (k := Sum.inr (dname d)) hdict, ?_⟩
    refine o2_in (.inl (Evl.sq_of hl9)) rfl (flat_strs _) ?_
    rw [inV_strs hx]
    exact k H9 fr
end
end RD
namespace RD
open PySem PySem.Spec PyProof.Rows L2 L2H
def forBody : Option Stmt → List Stmt
  | some (Stmt.For (body := bd) ..) => bd
  | _ => []
/-- if x[0] == "..": .. -/
theorem gs_nmif {X : Cx} (i : Nat) {x : Str} {D : Ends} {A B : List Stmt} {σ : St} {H : Hp} {ra : Addr} {nm c : Str} {rest : List V} {p1 p2 p3 p4 p5 pos : Pos} {j1 j2 : Nat} (hN : X.N[i]? = some x) (hi : σ[i]? = some (some (.ref ra))) (hra : SqT X.K H ra (.str nm :: rest))
    (h : if decide (nm = c) = true then GB X A D σ H else GB X B D σ H) (hv : Vis X.env.scope x := by first | exact Or.inl rfl | exact Or.inr (Or.inl rfl) | exact Or.inr (Or.inr rfl)) (hd : (x == ("__debug__" : Str)) = false := by decide) (hcd : (x == ("__classdict__" : Str)) = false := by decide)
    (hm : behindInMarks .Eq (.Constant (.str c) j2 p4) = false := by first | rfl | with_unfolding_all rfl) : GS X (.If (.Compare (.Subscript (.Name x p1) (.Constant (.int 0) j1 p2) p3) [.Eq] [.Constant (.str c) j2 p4] p5) A B pos) D σ H :=
  gs_if (gt_cmp (ge_ix (ge_var i hN hi (ge_int (i2_tup hra (atI_n (n := 0) rfl) (ge_str (o2_eqs ⟨_, rfl, h⟩)))) hv hd hcd)) hm)
theorem stand_len {rs : Rows} {S : List Num} : (standR rs S).length = rs.length := by unfold standR; simp
theorem stand_at {rs : Rows} {S : List Num} {i : Nat} (hi : i < rs.length) : (standR rs S)[i]'(by rw [stand_len]; exact hi) = (S.getD i n0, (rs.getD i (n0, .src)).2) := by
  unfold standR
  simp
section
variable {P : Program} {w : World} {K : PySem.W.Frag} {mg : Str → Option Value} {base : Heap} {f : Addr} {fd : FuncData}
def spLMoved : Sp := fun vs H Q _ => ∃ (N : Addr → Prop) (a q o : Addr) (nv : V) (S : BS) (k n : Nat) (m : Num) (M : List Num), vs = [.ref a, .ref q, .ref o, nv] ∧ ShotAt K H N a S k ∧ LA K H q (numsD M) ∧ LA K H o (boolsD S.outs) ∧ TD K H nv (nD m) ∧ BOk S n ∧ MovesOk S m M ∧ (∀ x ∈ M, Red x ∧ Nz 401 x) ∧ ∀ H', Ex H H' → Q (.bl true) H'
theorem ok_lmoved (T : Tx K mg) (F : FnP K "_law_moved" "_law_moved" s_L_moved f fd) (DI : Df P w K mg base CX0 2 "_law_is_number" ["_law_thing"] (spLNum (K := K))) (DM : Df P w K mg base CX0 2 "_law_mul" ["_law_one", "_law_other"] (spMul (K := K))) (DA : Df P w K mg base CX0 2 "_law_add" ["_law_one", "_law_other"] (spAdd (K := K))) :
    FnOk P w K mg base CX0 3 f fd ["_law_ahead", "_law_moves", "_law_outs", "_law_number_here"] (spLMoved (K := K)) := by
  refine fn0 F sc_L_moved (fun vs H Q E h => ?_) (fun cdv A outer s H vs Q E hr h => ?_)
  · obtain ⟨_, _, _, _, _, _, _, _, _, _, rfl, _⟩ := h
    rfl
  · obtain ⟨N, a, q, o, nv, S, kk, n, m, M, rfl, ⟨sl, ml, ul, a1, ⟨ss, s1, s2⟩, ⟨rs, r1, r2⟩, _, _⟩, ⟨ms, m1, m2⟩, ⟨os, o1, o2⟩, hnv, ok, mok, hM, k⟩ := h
    have hMl : M.length = n := mok.1.trans ok.len.r
    have hml := nums_len m2
    have hol : os.length = n := by have := o2.length; unfold boolsD at this; rw [List.length_map, ok.len.o] at this; exact this
    have hsl := ok.len.s
    have hrl : rs.length = n := by rw [rows_len r2, stand_len, ok.len.r]
    have n5 := ok.n5
    have main : ∀ H1, Ex H H1 → GB (cxOf CX0 P w K mg base n_L_moved "_law_moved" (defScope s_L_moved) f cdv A outer s H E).nox ((defBody s_L_moved).drop 1) { nx := fun _ H' => Q .non H', rt := Q } (L2.start n_L_moved [.ref a, .ref q, .ref o, nv]) H1 := by
      intro H1 e1
      refine gb_cons (gs_par 4 5 rfl sc_L_moved.nd rfl rfl (ge_ix (ge_var 0 rfl rfl (ge_int (i2_lst (Evl.sq_of (e1 _ _ a1)) (atI_n (n := 0) rfl) ?_)))))
      refine ge_ix (ge_var 0 rfl rfl (ge_int (i2_lst (Evl.sq_of (e1 _ _ a1)) (atI_n (n := 1) rfl) ?_)))
      refine gb_cons (gs_forE PassesOwn.never rfl T.enumerate (pg_tup rfl (pgs_cons (pg_name (i := 6) sc_L_moved.nd rfl (Or.inl rfl)) (pgs_cons (pg_name (i := 7) sc_L_moved.nd rfl (Or.inl rfl)) pgs_nil))) ?_)
      refine ge_var 5 rfl rfl ⟨ml, rs, fun i σ H' => ∃ (o6 o7 o8 : Option V), σ = [some (.ref a), some (.ref q), some (.ref o), some nv, some (.ref sl), some (.ref ml), o6, o7, o8, none] ∧ Ex H H', rfl, Evl.sq_of (e1 _ _ r1), ⟨_, _, _, rfl, e1⟩, fun i σ H' _ ⟨_, _, _, _, e⟩ => Evl.sq_of (e _ _ r1), ?_, ?_⟩
      · rintro i x σ H2 t H3 hx ⟨o6, o7, o8, rfl, e2⟩ ht2 e3 ht
        have e03 := e2.trans e3
        have hi : i < n := by have := (List.getElem?_eq_some_iff.mp hx).1; omega
        have hir : i < S.rows.length := by rw [ok.len.r]; exact hi
        obtain ⟨x', hx', hxd⟩ := rows_at r2 (show i < (standR S.rows S.stood).length by rw [stand_len]; exact hir)
        rw [hx] at hx'
        cases hx'
        rw [stand_at hir] at hxd
        have hra : (S.rows.getD i (n0, Row.src)).2 = rowAt S i := rfl
        rw [hra] at hxd
        have hxd := hxd.ex e03
        refine ⟨t, _, rfl, Evl.st_of ht, rfl, .int i, [x], rfl, x, [], rfl, rfl, ?_⟩
        refine gb_cons (gs_set 8 sc_L_moved.nd rfl (ge_var 3 rfl rfl ?_))
        have rok : RowOk n (rowAt S i) := by rw [rowAt_eq hir]; exact (ok.rows _ (List.getElem_mem hir)).1
        have hm3 := e03 _ _ m1
        have hm3d := m2.ex e03
        have due := mok.2 i hir
        have hMi : i < M.length := by omega
        -- the end of a turn
        have fin : ∀ (D : Ends) (H4 : Hp) (dv : V) (dn : Num), Ex H3 H4 → TD K H4 dv (nD dn) → (S.outs.getD i false = false → M.getD i n0 = dn) → (∀ H5, Ex H3 H5 → D.nx [some (.ref a), some (.ref q), some (.ref o), some nv, some (.ref sl), some (.ref ml), some (.int i), some x, some dv, none] H5) →
            GS (cxOf CX0 P w K mg base n_L_moved "_law_moved" (defScope s_L_moved) f cdv A outer s H E).nox ((forBody ((defBody s_L_moved)[2]?)).getD 4 (.Pass ⟨0, 0, 0, 0⟩)) D
              [some (.ref a), some (.ref q), some (.ref o), some nv, some (.ref sl), some (.ref ml), some (.int i), some x, some dv, none] H4 := by
          intro D H4 dv dn e4 hdv hdn hD
          obtain ⟨y, hy, hyd⟩ := nums_at (m2.ex (e03.trans e4)) hMi
          refine gs_if (gt_cmp (ge_ix (ge_var 1 rfl rfl (ge_var 6 rfl rfl (i2_lst (Evl.sq_of ((e03.trans e4) _ _ m1)) (atI_n hy) ?_)))))
          refine ge_if (gt_val (ge_ix (ge_var 2 rfl rfl (ge_var 6 rfl rfl (i2_lst (Evl.sq_of ((e03.trans e4) _ _ o1)) (atI_n (bools_at o2 (show i < S.outs.length by rw [ok.len.o]; exact hi))) ⟨_, rfl, ?_⟩)))))
          cases ho : S.outs.getD i false with
          | true =>
            refine iteT (tup_k (ga_cons (ge_int (ga_cons (ge_int (ga_nil ⟨Nat.le_of_ble_eq_true rfl, fun t5 H5 ht5 e5 h5 => ?_⟩))))))
            rw [due, if_pos ho] at hyd
            refine o2_neD (hu64_of hr) (hyd.ex e5).dp (TD.numI (K := K) (n := n0) (Evl.st_of h5)).dp (nD_shaped _) (nD_shaped _) ⟨_, rfl, ?_⟩
            rw [nD_eqv]
            exact ite_nt (gb_nil (hD H5 (e4.trans e5)))
          | false =>
            refine iteF (ge_var 8 rfl rfl ?_)
            rw [hdn ho] at hyd
            refine o2_neD (hu64_of hr) hyd.dp hdv.dp (nD_shaped _) (nD_shaped _) ⟨_, rfl, ?_⟩
            rw [nD_eqv]
            exact ite_nt (gb_nil (hD H4 e4))
        have due2 : S.outs.getD i false = false → M.getD i n0 = dueN (rowAt S i) S.stood M m := fun h => by rw [due, if_neg (by rw [h]; decide)]
        clear due
        generalize rowAt S i = rr at rok hxd due2
        obtain ⟨ra, rp, rfl, hrp, hr2⟩ := hxd.row
        have he3 := e03 _ _ s1
        cases rr with
        | src =>
          have hra : SqT K H3 ra [.str "source", .ref rp] := hr2
          refine gb_cons (gs_nmif 7 rfl rfl hra ?_)
          refine ite_f (by decide +kernel) (gb_nil ?_)
          refine gb_cons (gs_nmif 7 rfl rfl hra ?_)
          refine ite_f (by decide +kernel) (gb_nil ?_)
          refine gb_cons (gs_nmif 7 rfl rfl hra ?_)
          refine ite_f (by decide +kernel) (gb_nil ?_)
          refine gb_one ?_
          refine fin _ H3 nv m (Evl.Ex.refl _) (hnv.ex e03) due2 ?_
          exact fun H5 e5 => ⟨_, _, _, rfl, e03.trans e5⟩
        | gear g d =>
          obtain ⟨gq, hra, hgq⟩ := hr2
          refine gb_cons (gs_nmif 7 rfl rfl hra ?_)
          refine ite_t (by decide +kernel) (gb_one ?_)
          refine gs_set 8 sc_L_moved.nd rfl (ge_call DM (hr.mono (by decide)) pass0 ?_)
          fail "rdk"
          obtain ⟨y, hy, hyd⟩ := nums_at hm3d (show d < M.length by rw [hMl]; exact rok.2.2)
          refine i2_lst (Evl.sq_of hm3) (atI_n hy) ?_
          fail "rdk"
          refine ⟨_, _, g, _, 4, 401, rfl, TD.numI hgq, hyd, rok.1, (getD_all (p := fun x => Red x ∧ Nz 401 x) hM (by rw [hMl]; exact rok.2.2)).2, by decide, fun dv H4 e4 hdv => ?_⟩
          have hra4 := Evl.ex_t e4 hra
          refine gb_cons (gs_nmif 7 rfl rfl hra4 ?_)
          refine ite_f (by decide +kernel) (gb_nil ?_)
          refine gb_cons (gs_nmif 7 rfl rfl hra4 ?_)
          refine ite_f (by decide +kernel) (gb_nil ?_)
          refine gb_one ?_
          refine fin _ H4 dv _ e4 hdv due2 ?_
          exact fun H5 e5 => ⟨_, _, _, rfl, e03.trans e5⟩
        | add c d =>
          have hra : SqT K H3 ra [.str "adder", .ref rp, .int c, .int d] := hr2
          refine gb_cons (gs_nmif 7 rfl rfl hra ?_)
          refine ite_f (by decide +kernel) (gb_nil ?_)
          refine gb_cons (gs_nmif 7 rfl rfl hra ?_)
          refine ite_t (by decide +kernel) (gb_one ?_)
          refine gs_set 8 sc_L_moved.nd rfl (ge_call DA (hr.mono (by decide)) pass0 ?_)
          fail "rdk"
          obtain ⟨y, hy, hyd⟩ := nums_at hm3d (show c < M.length by rw [hMl]; exact rok.1)
          obtain ⟨z, hz, hzd⟩ := nums_at hm3d (show d < M.length by rw [hMl]; exact rok.2)
          refine i2_lst (Evl.sq_of hm3) (atI_n hy) ?_
          fail "rdk"
          refine i2_lst (Evl.sq_of hm3) (atI_n hz) ?_
          fail "rdk"
          refine ⟨_, _, _, _, 401, 401, rfl, hyd, hzd, (getD_all (p := fun x => Red x ∧ Nz 401 x) hM (by rw [hMl]; exact rok.1)).2, (getD_all (p := fun x => Red x ∧ Nz 401 x) hM (by rw [hMl]; exact rok.2)).2, by decide, fun dv H4 e4 hdv => ?_⟩
          have hra4 := Evl.ex_t e4 hra
          refine gb_cons (gs_nmif 7 rfl rfl hra4 ?_)
          refine ite_f (by decide +kernel) (gb_nil ?_)
          refine gb_one ?_
          refine fin _ H4 dv _ e4 hdv due2 ?_
          exact fun H5 e5 => ⟨_, _, _, rfl, e03.trans e5⟩
        | disc c d =>
          have hra : SqT K H3 ra [.str "disc", .ref rp, .int c, .int d] := hr2
          refine gb_cons (gs_nmif 7 rfl rfl hra ?_)
          refine ite_f (by decide +kernel) (gb_nil ?_)
          refine gb_cons (gs_nmif 7 rfl rfl hra ?_)
          refine ite_f (by decide +kernel) (gb_nil ?_)
          refine gb_cons (gs_nmif 7 rfl rfl hra ?_)
          refine ite_t (by decide +kernel) (gb_one ?_)
          refine gs_set 8 sc_L_moved.nd rfl (ge_call DM (hr.mono (by decide)) pass0 ?_)
          fail "rdk"
          obtain ⟨y, hy, hyd⟩ := nums_at (s2.ex e03) (show c < S.stood.length by rw [hsl]; exact rok.1)
          obtain ⟨z, hz, hzd⟩ := nums_at hm3d (show d < M.length by rw [hMl]; exact rok.2)
          refine i2_lst (Evl.sq_of he3) (atI_n hy) ?_
          fail "rdk"
          refine i2_lst (Evl.sq_of hm3) (atI_n hz) ?_
          fail "rdk"
          refine ⟨_, _, _, _, 200, 401, rfl, hyd, hzd, getD_all ok.st (by rw [hsl]; exact rok.1), (getD_all (p := fun x => Red x ∧ Nz 401 x) hM (by rw [hMl]; exact rok.2)).2, by decide, fun dv H4 e4 hdv => ?_⟩
          have hra4 := Evl.ex_t e4 hra
          refine gb_one ?_
          refine fin _ H4 dv _ e4 hdv due2 ?_
          exact fun H5 e5 => ⟨_, _, _, rfl, e03.trans e5⟩
      · rintro σ H2 ⟨o6, o7, o8, rfl, e2⟩
        fail "rdk"
        exact k H2 e2
    fail "rdk"
    refine ite_nd (fun h => absurd (by omega) h) fun _ => ?_
    fail "rdk"
    refine ge_callB T.all boot_all (ga_cons (GL.ge <| gl_lcL rfl sc_L_moved.nd (blkOk_by (N := n_L_moved) (sc := defScope s_L_moved) (by decide +kernel)) (ge_var 1 rfl rfl ?_) (fun _ _ _ _ _ => pg_name (i := 9) sc_L_moved.nd rfl (Or.inl rfl))))
    refine ⟨q, ms, fun _ => .bool true, rfl, Evl.sq_of m1, by omega, fun i x H2 hx e2 => ⟨fun s0 H0 C cl fp => ?_⟩, fun t H2 ys ht e2 h2 hy => ?_⟩
    · have hi : i < M.length := by have := (List.getElem?_eq_some_iff.mp hx).1; omega
      obtain ⟨x', hx', hxd⟩ := nums_at m2 hi
      rw [hx] at hx'
      cases hx'
      have hMi := getD_all (p := fun x => Red x ∧ Nz 401 x) hM hi
      refine ge_call DI (hr.mono (by decide)) pass0 ?_
      fail "rdk"
      exact ⟨x, _, rfl, hxd.ex e2, hMi.1, hMi.2.mono (by decide), fun H3 e3 => ⟨e3, .bl true⟩⟩
    · rw [kept_all] at hy
      refine ga_nil (c1_all (bs := (List.range ms.length).map fun _ => true) rfl (by rw [List.map_map]; exact hy) h2 ⟨_, rfl, ?_⟩)
      rw [all_true]
      exact ite_nt (gb_nil (main H2 e2))
end
end RD
namespace RD
open PySem PySem.Spec PyProof.Rows L2 L2H
theorem stand_eq {rs rs' : Rows} {S : List Num} (hl : rs'.length = rs.length) (h : ∀ i, i < rs.length → (rs'.getD i (n0, .src)).2 = (rs.getD i (n0, .src)).2) : standR rs' S = standR rs S := by
  unfold standR
  rw [hl]
  refine List.map_congr_left fun i hi => ?_
  rw [h i (List.mem_range.mp hi)]
theorem splice {α : Type} {ds : List α} {i : Nat} {d : α} (h : i < ds.length) : (ds.take i ++ [d]) ++ ds.drop (i + 1) = ds.set i d := by
  rw [List.set_eq_take_append_cons_drop, if_pos h, List.append_assoc]
  rfl
theorem nums_set {ns : List Num} {i : Nat} {m : Num} : (numsD ns).set i (nD m) = numsD (ns.set i m) := by unfold numsD; rw [set_of]
theorem rows_set {rs : Rows} {i : Nat} {x : Num × Row} : (rowsD rs).set i (rowD x.1 x.2) = rowsD (rs.set i x) := by
  unfold rowsD
  rw [show rowD x.1 x.2 = (fun p : Num × Row => rowD p.1 p.2) x from rfl, set_of]
theorem getD_set' {rs : Rows} {i j : Nat} {x : Num × Row} (hi : i < rs.length) : (rs.set i x).getD j (n0, .src) = if j = i then x else rs.getD j (n0, .src) := by
  rw [List.getD_eq_getElem?_getD, List.getD_eq_getElem?_getD]
  by_cases h : j = i
  · rw [if_pos h, h, List.getElem?_set_self hi]; rfl
  · rw [if_neg h, List.getElem?_set_ne (Ne.symm h)]
theorem stand_getD {rs : Rows} {S : List Num} {i : Nat} (hi : i < rs.length) : (standR rs S).getD i (n0, .src) = (S.getD i n0, (rs.getD i (n0, .src)).2) := by
  rw [List.getD_eq_getElem?_getD, List.getElem?_eq_getElem (by rw [stand_len]; exact hi)]
  exact stand_at hi
section
variable {P : Program} {w : World} {K : PySem.W.Frag} {mg : Str → Option Value} {base : Heap} {f : Addr} {fd : FuncData}
def spBehind : Sp := fun vs H Q _ => ∃ (N : Addr → Prop) (a : Addr) (dv tv : V) (S S' : BS) (past past' : List BS) (n : Nat) (d : Deed) (tM : Option (List Num)), vs = [.ref a, dv, tv] ∧ ShotAt K H N a S past.length ∧ past.length ≤ 39 ∧ SBk S n past.length ∧ TD K H dv (deedD d) ∧ DeedOk n d ∧ Eff n S past d S' past' tM ∧ isUndo d = false ∧
  (∀ M, tM = some M → ∃ q, tv = .ref q ∧ LA K H q (numsD M)) ∧ ∀ z H', Ex H H' → ShotAt K H' (fun x => N x ∨ H x = none) z S' (past.length + 1) → Q (.ref z) H'
theorem ok_behind (T : Tx K mg) (F : FnP K "_law_behind" "_law_behind" s_L_behind f fd) (DA : Df P w K mg base CX0 2 "_law_add" ["_law_one", "_law_other"] (spAdd (K := K))) :
    FnOk P w K mg base CX0 3 f fd ["_law_ahead", "_law_deed", "_law_told"] (spBehind (K := K)) := by
  refine fn0 F sc_L_behind (fun vs H Q E h => ?_) (fun cdv A outer s H vs Q E hr h => ?_)
  · obtain ⟨_, _, _, _, _, _, _, _, _, _, _, rfl, _⟩ := h
    rfl
  · obtain ⟨N, a, dv, tv, S, S', past, past', n, d, tM, rfl, ⟨sl, ml, ul, a1, ⟨ss, s1, s2⟩, ⟨rs, r1, r2⟩, ⟨us, u1, u2⟩, na, ns, nm, nu⟩, hpl, sb, hdv, hd, ef, hnu, htv, k⟩ := h
    have ok := sb.ok
    have n5 := ok.n5
    have hssl : ss.length = n := by rw [nums_len s2, ok.len.s]
    have husl : us.length = n := by rw [nums_len u2, ok.len.u]
    have hrsl : rs.length = n := by rw [rows_len r2, stand_len, ok.len.r]
    -- the end
    have fin : ∀ (H1 : Hp) (hl rl ul : Addr) (o7 : Option V) (St Su : List Num) (rs' : Rows), Ex H H1 → LA K H1 hl (numsD St) → LA K H1 rl (rowsD rs') → LA K H1 ul (numsD Su) → (N hl ∨ H hl = none) → (N rl ∨ H rl = none) → (N ul ∨ H ul = none) → St.length = n → rs'.length = n → St = S'.stood → Su = S'.sums → standR rs' St = standR S'.rows S'.stood →
        GB (cxOf CX0 P w K mg base n_L_behind "_law_behind" (defScope s_L_behind) f cdv A outer s H E).nox ((defBody s_L_behind).drop 5) { nx := fun _ H' => Q .non H', rt := Q }
          [some (.ref a), some dv, some tv, some (.ref hl), some (.ref rl), some (.ref ul), some (.int past.length), o7, none, none, none] H1 := by
      intro H1 hl rl ul o7 St Su rs' e1 ⟨hs, hs1', hs2⟩ ⟨rws, rw1', rw2⟩ ⟨uu, uu1, uu2⟩ c1 c2 c3 l1 l2 eS eU eR
      have hs1 := Evl.sq_of (K := K) hs1'
      have rw1 := Evl.sq_of (K := K) rw1'
      have k1 := nums_len hs2
      have k2 := rows_len rw2
      refine gb_one (gs_ret (lst_k (ga_cons (ge_var 3 rfl rfl (ga_cons (GL.ge <| gl_lcZ rfl sc_L_behind.nd T.zip (by decide) (blkOk_by (N := n_L_behind) (sc := defScope s_L_behind) (by decide +kernel)) (ge_var 4 rfl rfl (ge_var 3 rfl rfl ?_)) (fun _ _ _ _ _ => pg_tup rfl (pgs_cons (pg_name (i := 7) sc_L_behind.nd rfl (Or.inl rfl)) (pgs_cons (pg_name (i := 10) sc_L_behind.nd rfl (Or.inl rfl)) pgs_nil)))))))))
      refine ⟨rl, hl, rws, hs, fun i => (rowsD (standR rs' St)).getD i .none, rfl, rfl, rw1, hs1, by omega, by omega, fun i x y H2 hx hy e2 => ⟨fun s0 H0 C cl fp => ?_⟩, fun q H2 ys hq e2 h2 hyy => ?_⟩
      · have hi : i < rs'.length := by have := (List.getElem?_eq_some_iff.mp hx).1; omega
        obtain ⟨x', hx', hxd⟩ := rows_at rw2 hi
        rw [hx] at hx'
        cases hx'
        obtain ⟨y', hy', hyd⟩ := nums_at hs2 (show i < St.length by omega)
        rw [hy] at hy'
        cases hy'
        have hde : (rowsD (standR rs' St)).getD i .none = rowD (St.getD i n0) rs'[i].2 := by
          unfold rowsD
          rw [List.getD_eq_getElem?_getD, List.getElem?_map, List.getElem?_eq_getElem (by rw [stand_len]; exact hi), stand_at hi]
          show rowD _ (rs'.getD i (n0, Row.src)).2 = _
          rw [List.getD_eq_getElem?_getD (l := rs'), List.getElem?_eq_getElem hi]
          rfl
        obtain ⟨ra, nm, x0, rest, rfl, hra, hx0, hrest, mk⟩ := (hxd.ex e2).rowW
        refine ge_bin (ge_bin (ge_slT (ge_var 7 rfl rfl (go_none (go_some (ge_int ⟨1, rfl, ra, _, rfl, hra, ?_, fun t1 H3 ht1 e3 h3 => ?_⟩))))))
        · rw [show (1 : Int) = ((1 : Nat) : Int) from rfl, HT.sIx_nat]
          simp
        rw [show (1 : Int) = ((1 : Nat) : Int) from rfl, cut_to (by simp)] at h3
        have h3' : H3 t1 = some (.tup [.str nm]) := h3
        fail "rdk"
        refine ⟨Nat.le_of_ble_eq_true rfl, fun t2 H4 ht2 e4 h4 => ?_⟩
        refine o2_catT (Evl.st_of (e4 _ _ h3')) (Evl.st_of h4) (by simp) (Nat.le_of_ble_eq_true rfl) fun t3 H5 e5 h5 => ?_
        have e25 := (e3.trans e4).trans e5
        refine ge_slT (ge_var 7 rfl rfl (go_some (ge_int ⟨2, rfl, go_none ⟨ra, _, rfl, Evl.ex_t e25 hra, cut2_ne (by simp), fun t6 H6 ht6 e6 h6 => ?_⟩⟩)))
        rw [show (2 : Int) = ((2 : Nat) : Int) from rfl, cut_from (by simp)] at h6
        have h6' : H6 t6 = some (.tup rest) := h6
        refine o2_catT (Evl.ex_t e6 h5) (Evl.st_of h6') (by simp) (by simp; omega) fun t H7 e7 h7 => ?_
        have e27 := (e25.trans e6).trans e7
        exact ⟨e27, by dsimp only; rw [hde]; exact mk H7 t y _ (Ex.tk e27) h7 ((hyd.ex e2).ex e27)⟩
      · have e6 : ((List.range rws.length).filter fun _ => true).map (fun i => (rowsD (standR rs' St)).getD i .none) = rowsD (standR rs' St) := by
          rw [kept_all]
          refine List.ext_getElem? fun i => ?_
          rw [List.getElem?_map]
          have hlen : (rowsD (standR rs' St)).length = rs'.length := by unfold rowsD; rw [List.length_map, stand_len]
          by_cases hi : i < rs'.length
          · rw [List.getElem?_range (by omega)]
            show some ((rowsD (standR rs' St)).getD i .none) = _
            rw [List.getD_eq_getElem?_getD, List.getElem?_eq_getElem (by omega)]
            rfl
          · rw [List.getElem?_eq_none (by simp; omega), List.getElem?_eq_none (by omega)]
            rfl
        rw [e6, eR] at hyy
        fail "rdk"
        refine ⟨Nat.le_of_ble_eq_true rfl, fun z H3 hz e3 h3 => k z H3 ((e1.trans e2).trans e3) ?_⟩
        have ee := e2.trans e3
        refine ⟨hl, q, ul, h3, ⟨hs, ee _ _ hs1', ?_⟩, ⟨ys, e3 _ _ h2, hyy.ex e3⟩, ⟨uu, ee _ _ uu1, ?_⟩, .inr (Evl.fresh_back (e1.trans e2) hz), c1, .inr (Evl.fresh_back e1 hq), c3⟩
        · rw [← eS]; exact hs2.ex ee
        · rw [← eU]; exact uu2.ex ee
    have L1 : LA K H sl (numsD S.stood) := ⟨ss, s1, s2⟩
    have L2' : LA K H ml (rowsD (standR S.rows S.stood)) := ⟨rs, r1, r2⟩
    have L3 : LA K H ul (numsD S.sums) := ⟨us, u1, u2⟩
    have self : ∀ (rr : Rows) (st : List Num), rr.length = n → standR (standR rr S.stood) st = standR rr st := fun rr st hl => stand_eq stand_len fun i hi => by rw [stand_getD hi]
    have hstl : (standR S.rows S.stood).length = n := by rw [stand_len, ok.len.r]
    refine gb_cons (gs_asg (pg_lst rfl (pgs_cons (pg_name (i := 3) sc_L_behind.nd rfl (Or.inl rfl)) (pgs_cons (pg_name (i := 4) sc_L_behind.nd rfl (Or.inl rfl)) (pgs_cons (pg_name (i := 5) sc_L_behind.nd rfl (Or.inl rfl)) (pgs_cons (pg_name (i := 6) sc_L_behind.nd rfl (Or.inl rfl)) pgs_nil))))) (ge_var 0 rfl rfl ?_))
    refine ⟨a, _, rfl, Evl.sq_of a1, rfl, _, _, rfl, _, _, rfl, _, _, rfl, _, _, rfl, rfl, ?_⟩
    -- the four questions
    have skip : ∀ (c1 c2 c3 c4 : Bool), True := fun _ _ _ _ => trivial
    cases ef with
    | @out i h1 =>
      obtain ⟨da, rest, rfl, hda⟩ := deed_hd hdv
      change SqT K H da (.str "out" :: rest) at hda
      refine gb_cons (gs_nmif 1 rfl rfl hda ?_); refine ite_f (by decide +kernel) (gb_nil ?_)
      refine gb_cons (gs_nmif 1 rfl rfl hda ?_); refine ite_f (by decide +kernel) (gb_nil ?_)
      refine gb_cons (gs_nmif 1 rfl rfl hda ?_); refine ite_f (by decide +kernel) (gb_nil ?_)
      refine gb_cons (gs_nmif 1 rfl rfl hda ?_); refine ite_f (by decide +kernel) (gb_nil ?_)
      exact fin H sl ml ul _ _ _ _ (Evl.Ex.refl _) L1 L2' L3 (.inl ns) (.inl nm) (.inl nu) ok.len.s hstl rfl rfl (self _ _ ok.len.r)
    | @into i h1 =>
      obtain ⟨da, rest, rfl, hda⟩ := deed_hd hdv
      change SqT K H da (.str "into" :: rest) at hda
      refine gb_cons (gs_nmif 1 rfl rfl hda ?_); refine ite_f (by decide +kernel) (gb_nil ?_)
      refine gb_cons (gs_nmif 1 rfl rfl hda ?_); refine ite_f (by decide +kernel) (gb_nil ?_)
      refine gb_cons (gs_nmif 1 rfl rfl hda ?_); refine ite_f (by decide +kernel) (gb_nil ?_)
      refine gb_cons (gs_nmif 1 rfl rfl hda ?_); refine ite_f (by decide +kernel) (gb_nil ?_)
      exact fin H sl ml ul _ _ _ _ (Evl.Ex.refl _) L1 L2' L3 (.inl ns) (.inl nm) (.inl nu) ok.len.s hstl rfl rfl (self _ _ ok.len.r)
    | @ends i l =>
      obtain ⟨da, rest, rfl, hda⟩ := deed_hd hdv
      change SqT K H da (.str "ends" :: rest) at hda
      refine gb_cons (gs_nmif 1 rfl rfl hda ?_); refine ite_f (by decide +kernel) (gb_nil ?_)
      refine gb_cons (gs_nmif 1 rfl rfl hda ?_); refine ite_f (by decide +kernel) (gb_nil ?_)
      refine gb_cons (gs_nmif 1 rfl rfl hda ?_); refine ite_f (by decide +kernel) (gb_nil ?_)
      refine gb_cons (gs_nmif 1 rfl rfl hda ?_); refine ite_f (by decide +kernel) (gb_nil ?_)
      exact fin H sl ml ul _ _ _ _ (Evl.Ex.refl _) L1 L2' L3 (.inl ns) (.inl nm) (.inl nu) ok.len.s hstl rfl rfl (self _ _ ok.len.r)
    | undo _ => cases hnu
    | @put i m =>
      obtain ⟨da, xs, rfl, hda, hxs⟩ := hdv.tupE
      obtain ⟨x, r, rfl, hx, hxs⟩ := hxs.consE
      obtain ⟨y, r, rfl, hy, hxs⟩ := hxs.consE
      obtain ⟨z, r, rfl, hz, hxs⟩ := hxs.consE
      cases hxs.nilE
      cases hx.strE
      cases hy.intE
      have hi := hd.1
      refine gb_cons (gs_nmif 1 rfl rfl hda ?_); refine ite_f (by decide +kernel) (gb_nil ?_)
      refine gb_cons (gs_nmif 1 rfl rfl hda ?_); refine ite_t (by decide +kernel) ?_
      refine gb_one (gs_set 3 sc_L_behind.nd rfl (ge_bin (ge_bin (ge_slL (ge_var 3 rfl rfl (go_none (go_some (ge_ix (ge_var 1 rfl rfl (ge_int (i2_tup hda (atI_n (n := 1) rfl) ⟨_, rfl, sl, ss, rfl, Evl.sq_of s1, fun p1 H1 hp1 e1 h1 => ?_⟩)))))))))))
      rw [cut_to (by omega)] at h1
      fail "rdk"
      refine ⟨Nat.le_of_ble_eq_true rfl, fun p2 H2 hp2 e2 h2 => ?_⟩
      refine o2_cat (e2 _ _ h1) h2 (by rw [List.length_take]; simp; omega) fun p3 H3 hp3 e3 h3 => ?_
      have e13 := (e1.trans e2).trans e3
      refine ge_slL (ge_var 3 rfl rfl (go_some (ge_bin (ge_ix (ge_var 1 rfl rfl (ge_int (i2_tup (Evl.ex_t e13 hda) (atI_n (n := 1) rfl) (ge_int (o2_add ⟨_, rfl, go_none ⟨sl, ss, rfl, Evl.sq_of (e13 _ _ s1), fun p4 H4 hp4 e4 h4 => ?_⟩⟩)))))))))
      rw [show (i : Int) + 1 = ((i + 1 : Nat) : Int) by omega, cut_from (by omega)] at h4
      refine o2_cat (e4 _ _ h3) h4 (by rw [List.length_append, List.length_take, List.length_drop]; simp; omega) fun p5 H5 hp5 e5 h5 => ?_
      have e15 := (e13.trans e4).trans e5
      have hnew : LA K H5 p5 (numsD (S.stood.set i m)) := by
        refine ⟨_, h5, ?_⟩
        have := ((s2.ex e15).take (i := i)).append (.cons (hz.ex e15) .nil) |>.append ((s2.ex e15).drop (i := i + 1))
        rw [splice (ds := numsD S.stood) (by unfold numsD; rw [List.length_map, ok.len.s]; exact hi), nums_set] at this
        exact this
      have hda5 := Evl.ex_t e15 hda
      refine gb_cons (gs_nmif 1 rfl rfl hda5 ?_); refine ite_f (by decide +kernel) (gb_nil ?_)
      refine gb_cons (gs_nmif 1 rfl rfl hda5 ?_); refine ite_f (by decide +kernel) (gb_nil ?_)
      exact fin H5 p5 ml ul _ _ _ _ e15 hnew (L2'.ex e15) (L3.ex e15) (.inr (Evl.fresh_back (e13.trans e4) hp5)) (.inl nm) (.inl nu) (by rw [List.length_set]; exact ok.len.s) hstl rfl rfl (self _ _ ok.len.r)
    | @wire i x L t hL =>
      obtain ⟨da, xs, rfl, hda, hxs⟩ := hdv.tupE
      obtain ⟨x', r, rfl, hx, hxs⟩ := hxs.consE
      obtain ⟨y, r, rfl, hy, hxs⟩ := hxs.consE
      obtain ⟨z, r, rfl, hz, hxs⟩ := hxs.consE
      cases hxs.nilE
      cases hx.strE
      cases hy.intE
      have hi := hd.1
      refine gb_cons (gs_nmif 1 rfl rfl hda ?_); refine ite_f (by decide +kernel) (gb_nil ?_)
      refine gb_cons (gs_nmif 1 rfl rfl hda ?_); refine ite_f (by decide +kernel) (gb_nil ?_)
      refine gb_cons (gs_nmif 1 rfl rfl hda ?_); refine ite_t (by decide +kernel) ?_
      refine gb_one (gs_set 4 sc_L_behind.nd rfl (ge_bin (ge_bin (ge_slL (ge_var 4 rfl rfl (go_none (go_some (ge_ix (ge_var 1 rfl rfl (ge_int (i2_tup hda (atI_n (n := 1) rfl) ⟨_, rfl, ml, rs, rfl, Evl.sq_of r1, fun p1 H1 hp1 e1 h1 => ?_⟩)))))))))))
      rw [cut_to (by omega)] at h1
      fail "rdk"
      refine ⟨Nat.le_of_ble_eq_true rfl, fun p2 H2 hp2 e2 h2 => ?_⟩
      refine o2_cat (e2 _ _ h1) h2 (by rw [List.length_take]; simp; omega) fun p3 H3 hp3 e3 h3 => ?_
      have e13 := (e1.trans e2).trans e3
      refine ge_slL (ge_var 4 rfl rfl (go_some (ge_bin (ge_ix (ge_var 1 rfl rfl (ge_int (i2_tup (Evl.ex_t e13 hda) (atI_n (n := 1) rfl) (ge_int (o2_add ⟨_, rfl, go_none ⟨ml, rs, rfl, Evl.sq_of (e13 _ _ r1), fun p4 H4 hp4 e4 h4 => ?_⟩⟩)))))))))
      rw [show (i : Int) + 1 = ((i + 1 : Nat) : Int) by omega, cut_from (by omega)] at h4
      refine o2_cat (e4 _ _ h3) h4 (by rw [List.length_append, List.length_take, List.length_drop]; simp; omega) fun p5 H5 hp5 e5 h5 => ?_
      have e15 := (e13.trans e4).trans e5
      have hnew : LA K H5 p5 (rowsD ((standR S.rows S.stood).set i x)) := by
        refine ⟨_, h5, ?_⟩
        have := ((r2.ex e15).take (i := i)).append (.cons (hz.ex e15) .nil) |>.append ((r2.ex e15).drop (i := i + 1))
        rw [splice (ds := rowsD (standR S.rows S.stood)) (by unfold rowsD; rw [List.length_map, hstl]; exact hi), rows_set] at this
        exact this
      have hda5 := Evl.ex_t e15 hda
      refine gb_cons (gs_nmif 1 rfl rfl hda5 ?_); refine ite_f (by decide +kernel) (gb_nil ?_)
      refine fin H5 sl p5 ul _ _ _ _ e15 (L1.ex e15) hnew (L3.ex e15) (.inl ns) (.inr (Evl.fresh_back (e13.trans e4) hp5)) (.inl nu) ok.len.s (by rw [List.length_set]; exact hstl) rfl rfl ?_
      refine stand_eq (by rw [List.length_set, List.length_set, stand_len]) fun j hj => ?_
      rw [List.length_set] at hj
      rw [getD_set' (by rw [hstl]; exact hi), getD_set' (by rw [ok.len.r]; exact hi)]
      by_cases e : j = i
      · rw [if_pos e, if_pos e]
      · rw [if_neg e, if_neg e, stand_getD hj]
    | @gear i m x hx0 hg =>
      obtain ⟨da, xs, rfl, hda, hxs⟩ := hdv.tupE
      obtain ⟨x', r, rfl, hx, hxs⟩ := hxs.consE
      obtain ⟨y, r, rfl, hy, hxs⟩ := hxs.consE
      obtain ⟨z, r, rfl, hz, hxs⟩ := hxs.consE
      cases hxs.nilE
      cases hx.strE
      cases hy.intE
      have hi := hd.1
      have hir : i < S.rows.length := by rw [ok.len.r]; exact hi
      refine gb_cons (gs_nmif 1 rfl rfl hda ?_); refine ite_f (by decide +kernel) (gb_nil ?_)
      refine gb_cons (gs_nmif 1 rfl rfl hda ?_); refine ite_f (by decide +kernel) (gb_nil ?_)
      refine gb_cons (gs_nmif 1 rfl rfl hda ?_); refine ite_f (by decide +kernel) (gb_nil ?_)
      refine gb_cons (gs_nmif 1 rfl rfl hda ?_); refine ite_t (by decide +kernel) ?_
      obtain ⟨rv, hrv, hrd⟩ := rows_at r2 (show i < (standR S.rows S.stood).length by rw [hstl]; exact hi)
      rw [stand_at hir] at hrd
      have hxe : S.rows.getD i (n0, .src) = x := by rw [List.getD_eq_getElem?_getD, hx0]; rfl
      rw [hxe] at hrd
      obtain ⟨st0, rr⟩ := x
      cases rr with
      | src => cases hg
      | add _ _ => cases hg
      | disc _ _ => cases hg
      | gear q0 d0 =>
        obtain ⟨ra, rp, rfl, hrp, rq, hra, hrq⟩ := hrd.row
        refine gb_cons (gs_set 7 sc_L_behind.nd rfl (ge_ix (ge_var 4 rfl rfl (ge_ix (ge_var 1 rfl rfl (ge_int (i2_tup hda (atI_n (n := 1) rfl) (i2_lst (Evl.sq_of r1) (atI_n hrv) ?_))))))))
        refine gb_one (gs_set 4 sc_L_behind.nd rfl (ge_bin (ge_bin (ge_slL (ge_var 4 rfl rfl (go_none (go_some (ge_ix (ge_var 1 rfl rfl (ge_int (i2_tup hda (atI_n (n := 1) rfl) ⟨_, rfl, ml, rs, rfl, Evl.sq_of r1, fun p1 H1 hp1 e1 h1 => ?_⟩)))))))))))
        rw [cut_to (by omega)] at h1
        refine lst_k (ga_cons (ge_bin (ge_slT (ge_var 7 rfl rfl (go_none (go_some (ge_int ⟨2, rfl, ra, _, rfl, Evl.ex_t e1 hra, ?_, fun t1 G1 ht1 f1 g1 => ?_⟩)))))))
        · show ¬ (HT.sIx 4 0 none = 0 ∧ HT.sIx 4 4 (some 2) = 4); decide +kernel
        have g1' : G1 t1 = some (.tup [.str "gear", .ref rp]) := g1
        have hra1 : SqT K G1 ra [.str "gear", .ref rp, .ref rq, .int (d0 : Nat)] := Evl.ex_t (e1.trans f1) hra
        have hda1 := Evl.ex_t (e1.trans f1) hda
        fail "rdk"
        refine ⟨Nat.le_of_ble_eq_true rfl, fun t2 G2 ht2 f2 g2 => ?_⟩
        refine o2_catT (Evl.st_of (f2 _ _ g1')) (Evl.st_of g2) (by simp) (Nat.le_of_ble_eq_true rfl) fun t3 G3 f3 g3 => ?_
        refine ga_nil ⟨Nat.le_of_ble_eq_true rfl, fun p2 H2 hp2 e2 h2 => ?_⟩
        have e12 : Ex H1 H2 := ((f1.trans f2).trans f3).trans e2
        have rowNew : TD K H2 (.ref t3) (rowD (S.stood.getD i n0) (.gear m d0)) := .tup (Evl.ex_t e2 g3) (.cons (.str _) (.cons ((TD.numI hrp).ex (e1.trans e12)) (.cons (hz.ex (e1.trans e12)) (.cons (.int _) .nil))))
        refine o2_cat (e12 _ _ h1) h2 (by rw [List.length_take]; simp; omega) fun p3 H3 hp3 e3 h3 => ?_
        have e13 := (e1.trans e12).trans e3
        refine ge_slL (ge_var 4 rfl rfl (go_some (ge_bin (ge_ix (ge_var 1 rfl rfl (ge_int (i2_tup (Evl.ex_t e13 hda) (atI_n (n := 1) rfl) (ge_int (o2_add ⟨_, rfl, go_none ⟨ml, rs, rfl, Evl.sq_of (e13 _ _ r1), fun p4 H4 hp4 e4 h4 => ?_⟩⟩)))))))))
        rw [show (i : Int) + 1 = ((i + 1 : Nat) : Int) by omega, cut_from (by omega)] at h4
        refine o2_cat (e4 _ _ h3) h4 (by rw [List.length_append, List.length_take, List.length_drop]; simp; omega) fun p5 H5 hp5 e5 h5 => ?_
        have e15 := (e13.trans e4).trans e5
        have hnew : LA K H5 p5 (rowsD ((standR S.rows S.stood).set i (S.stood.getD i n0, .gear m d0))) := by
          refine ⟨_, h5, ?_⟩
          have := ((r2.ex e15).take (i := i)).append (.cons (rowNew.ex ((e3.trans e4).trans e5)) .nil) |>.append ((r2.ex e15).drop (i := i + 1))
          rw [splice (ds := rowsD (standR S.rows S.stood)) (by unfold rowsD; rw [List.length_map, hstl]; exact hi)] at this
          rw [← rows_set]
          exact this
        refine fin H5 sl p5 ul _ _ _ _ e15 (L1.ex e15) hnew (L3.ex e15) (.inl ns) (.inr (Evl.fresh_back (e13.trans e4) hp5)) (.inl nu) ok.len.s (by rw [List.length_set]; exact hstl) rfl rfl ?_
        refine stand_eq (by rw [List.length_set, List.length_set, stand_len]) fun j hj => ?_
        rw [List.length_set] at hj
        rw [getD_set' (by rw [hstl]; exact hi), getD_set' (by rw [ok.len.r]; exact hi)]
        by_cases e : j = i
        · rw [if_pos e, if_pos e]; rfl
        · rw [if_neg e, if_neg e, stand_getD hj]
    | @click m M h1 h2 h3 =>
      obtain ⟨q, rfl, ms, m1, m2⟩ := htv M rfl
      obtain ⟨da, rest, rfl, hda⟩ := deed_hd hdv
      change SqT K H da (.str "click" :: rest) at hda
      have hMl : M.length = n := h1.1.trans ok.len.r
      have hml := nums_len m2
      have hsn : ∀ {j}, j < n → Nz 200 (S.stood.getD j n0) := fun {j} hj => getD_all ok.st (by rw [ok.len.s]; exact hj)
      have hmn : ∀ {j}, j < n → Nz 401 (M.getD j n0) := fun {j} hj => by
        have := getD_all (p := fun x => Red x ∧ 0 < x.2) h3 (i := j) (by omega)
        exact move_nz (hsn hj) (h2 j hj) this.1 this.2
      refine gb_cons (gs_nmif 1 rfl rfl hda ?_); refine ite_t (by decide +kernel) ?_
      refine gb_cons (gs_lc 3 rfl rfl (sw_true rfl rfl rfl (by decide +kernel)) (gl_lcZ rfl sc_L_behind.nd T.zip (by decide) (blkOk_by (N := n_L_behind) (sc := defScope s_L_behind) (by decide +kernel)) (ge_var 3 rfl rfl (ge_var 2 rfl rfl ?_)) (fun _ _ _ _ _ => pg_tup rfl (pgs_cons (pg_name (i := 8) sc_L_behind.nd rfl (Or.inl rfl)) (pgs_cons (pg_name (i := 9) sc_L_behind.nd rfl (Or.inl rfl)) pgs_nil)))))
      refine ⟨sl, q, ss, ms, fun i => nD (addN (S.stood.getD i n0) (M.getD i n0)), rfl, rfl, Evl.sq_of s1, Evl.sq_of m1, by omega, by omega, fun i x y H2 hx hy e2 => ⟨fun s0 H0 C cl fp => ?_⟩, fun p1 H1 zs hp1 e1 hh1 hz1 => ?_⟩
      · have hi : i < n := by have := (List.getElem?_eq_some_iff.mp hx).1; omega
        obtain ⟨x', hx', hxd⟩ := nums_at s2 (show i < S.stood.length by rw [ok.len.s]; exact hi)
        rw [hx] at hx'
        cases hx'
        obtain ⟨y', hy', hyd⟩ := nums_at m2 (show i < M.length by omega)
        rw [hy] at hy'
        cases hy'
        refine ge_call DA (hr.mono (by decide)) pass0 ?_
        fail "rdk"
        exact ⟨x, y, _, _, 200, 401, rfl, hxd.ex e2, hyd.ex e2, hsn hi, hmn hi, by decide, fun u H3 e3 hu => ⟨e3, hu⟩⟩
      have hA : TDs K H1 zs (numsD (zipN S.stood M)) := zip_data hz1 (by rw [ok.len.s]; exact hssl)
      refine gb_one (gs_lc 5 rfl rfl (sw_true rfl rfl rfl (by decide +kernel)) (gl_lcZ rfl sc_L_behind.nd T.zip (by decide) (blkOk_by (N := n_L_behind) (sc := defScope s_L_behind) (by decide +kernel)) (ge_var 5 rfl rfl (ge_var 2 rfl rfl ?_)) (fun _ _ _ _ _ => pg_tup rfl (pgs_cons (pg_name (i := 8) sc_L_behind.nd rfl (Or.inl rfl)) (pgs_cons (pg_name (i := 9) sc_L_behind.nd rfl (Or.inl rfl)) pgs_nil)))))
      refine ⟨ul, q, us, ms, fun i => nD (addN (S.sums.getD i n0) (M.getD i n0)), rfl, rfl, Evl.sq_of (e1 _ _ u1), Evl.sq_of (e1 _ _ m1), by omega, by omega, fun i x y H2 hx hy e2 => ⟨fun s0 H0 C cl fp => ?_⟩, fun p2 H2 vs hp2 e2 hh2 hz2 => ?_⟩
      · have hi : i < n := by have := (List.getElem?_eq_some_iff.mp hx).1; omega
        obtain ⟨x', hx', hxd⟩ := nums_at u2 (show i < S.sums.length by rw [ok.len.u]; exact hi)
        rw [hx] at hx'
        cases hx'
        obtain ⟨y', hy', hyd⟩ := nums_at m2 (show i < M.length by omega)
        rw [hy] at hy'
        cases hy'
        refine ge_call DA (hr.mono (by decide)) pass0 ?_
        fail "rdk"
        exact ⟨x, y, _, _, _, 401, rfl, hxd.ex (e1.trans e2), hyd.ex (e1.trans e2), (sb.sum i hi).nz (hsn hi), hmn hi, by omega, fun u H3 e3 hu => ⟨e3, hu⟩⟩
      have hU : TDs K H2 vs (numsD (zipN S.sums M)) := zip_data hz2 (by rw [ok.len.u]; exact husl)
      have e12 := e1.trans e2
      have hda2 := Evl.ex_t e12 hda
      refine gb_cons (gs_nmif 1 rfl rfl hda2 ?_); refine ite_f (by decide +kernel) (gb_nil ?_)
      refine gb_cons (gs_nmif 1 rfl rfl hda2 ?_); refine ite_f (by decide +kernel) (gb_nil ?_)
      refine gb_cons (gs_nmif 1 rfl rfl hda2 ?_); refine ite_f (by decide +kernel) (gb_nil ?_)
      refine fin H2 p1 ml p2 _ _ _ _ e12 ⟨zs, e2 _ _ hh1, hA.ex e2⟩ (L2'.ex e12) ⟨vs, hh2, hU⟩ (.inr hp1) (.inl nm) (.inr (Evl.fresh_back e1 hp2)) (by rw [zipN_len]; exact ok.len.s) hstl rfl rfl (self _ _ ok.len.r)
end
end RD
namespace RD
open PySem PySem.Spec PyProof.Rows L2 L2H
/-! ### a place -/
structure PlA where
  pl : Addr
  lp : Addr
  o : Addr
  sh : Addr
  b : Addr
  dx : Addr
  p : Addr
  F : Fv
  Fs : List Fv
def PlA.fb (z : PlA) : List Addr := fpB z.b z.p z.F z.Fs
def PlA.fp (z : PlA) : List Addr := z.pl :: z.lp :: z.fb
def PlA.N (z : PlA) (R : List Addr) : Addr → Prop := fun x => x ∉ z.fp ∧ x ∉ R
def kvP (b o sh lp : Addr) : List (Key × V) := [(Sum.inr "bench", .ref b), (Sum.inr "outs", .ref o), (Sum.inr "shot", .ref sh), (Sum.inr "past", .ref lp)]
section
variable {b o sh lp x : Addr}
theorem kv_bench : valV (kvP b o sh lp) (Sum.inr "bench") = some (.ref b) := by kernel_rfl
theorem kv_outs : valV (kvP b o sh lp) (Sum.inr "outs") = some (.ref o) := by kernel_rfl
theorem kv_shot : valV (kvP b o sh lp) (Sum.inr "shot") = some (.ref sh) := by kernel_rfl
theorem kv_past : valV (kvP b o sh lp) (Sum.inr "past") = some (.ref lp) := by kernel_rfl
theorem kv_puto : putK (kvP b o sh lp) (Sum.inr "outs") (.ref x) = kvP b x sh lp := by kernel_rfl
theorem kv_puts : putK (kvP b o sh lp) (Sum.inr "shot") (.ref x) = kvP b o x lp := by kernel_rfl
end
/-- the bench stands so, the place's clutches and what it keeps so -/
structure PlC (K : PySem.W.Frag) (H : Hp) (C : Addr) (R : List Addr) (z : PlA) (Sb : BS) (pb : List BS) (So : List Bool) (L : List BS) : Prop where
  dict : H z.pl = some (.dK (kvP z.b z.o z.sh z.lp))
  bench : BenchAt K H C z.b z.dx z.p z.F z.Fs Sb pb
  outs : LA K H z.o (boolsD So)
  outn : z.N R z.o
  lst : ∃ ts : List Addr, H z.lp = some (.lst (ts.map V.ref)) ∧ ts.length = L.length ∧ ∀ (i : Nat) t Si, ts[i]? = some t → L[i]? = some Si → ∃ sh o, SqT K H t [.ref sh, .ref o] ∧ ShotAt K H (z.N R) sh Si i ∧ LA K H o (boolsD Si.outs) ∧ z.N R o
  ap : z.pl ≠ z.lp ∧ z.pl ∉ z.fb ∧ z.lp ∉ z.fb
section
variable {K : PySem.W.Frag} {H H' : Hp} {C : Addr} {R R' : List Addr} {z : PlA} {Sb : BS} {pb L : List BS} {So : List Bool}
theorem PlC.nt (h : PlC K H C R z Sb pb So L) : ∀ a ∈ z.fp, NT H a := by
  intro a ha
  rcases List.mem_cons.mp ha with rfl | ha
  · exact .inr (.inr ⟨_, h.dict⟩)
  · rcases List.mem_cons.mp ha with rfl | ha
    · obtain ⟨ts, h1, _⟩ := h.lst
      exact .inl ⟨_, h1⟩
    · exact h.bench.nt a ha
theorem LA.fr {M : List Addr} {a : Addr} {ds : List PyData} (h : LA K H a ds) (f : Fr M H H') (t : Tk K H H') (n : a ∉ M) : LA K H' a ds := let ⟨ys, h1, h2⟩ := h; ⟨ys, f.keep _ _ h1 n, h2.tk t⟩
/-- the kept data, when only mutable things change -/
theorem past_fr {M : List Addr} {ts : List Addr} {N : Addr → Prop} (f : Fr M H H') (t : Tk K H H') (n : ∀ x, N x → x ∉ M)
    (h : ∀ (i : Nat) t Si, ts[i]? = some t → L[i]? = some Si → ∃ sh o, SqT K H t [.ref sh, .ref o] ∧ ShotAt K H N sh Si i ∧ LA K H o (boolsD Si.outs) ∧ N o) :
    ∀ (i : Nat) t Si, ts[i]? = some t → L[i]? = some Si → ∃ sh o, SqT K H' t [.ref sh, .ref o] ∧ ShotAt K H' N sh Si i ∧ LA K H' o (boolsD Si.outs) ∧ N o := fun i t' Si c1 c2 => by
  obtain ⟨sh, o, a1, a2, a3, a4⟩ := h i t' Si c1 c2
  exact ⟨sh, o, t _ _ a1, a2.fr f t n, a3.fr f t (n o a4), a4⟩
/-- by what is done elsewhere -/
theorem PlC.fr {M : List Addr} (h : PlC K H C R z Sb pb So L) (f : Fr M H H') (nt : ∀ a ∈ M, NT H a) (sub : ∀ a ∈ M, a ∈ R) (dj : ∀ a ∈ z.fp, a ∉ R) : PlC K H' C R z Sb pb So L := by
  have tk : Tk K H H' := f.tk nt
  have nm : ∀ a ∈ z.fp, a ∉ M := fun a ha hm => dj a ha (sub a hm)
  have nn : ∀ x, z.N R x → x ∉ M := fun x hx hm => hx.2 (sub x hm)
  refine ⟨f.keep _ _ h.dict (nm _ List.mem_cons_self), h.bench.fr f nt fun a ha => nm a (List.mem_cons_of_mem _ (List.mem_cons_of_mem _ ha)), h.outs.fr f tk (nn _ h.outn), h.outn, ?_, h.ap⟩
  obtain ⟨ts, h1, h2, h3⟩ := h.lst
  exact ⟨ts, f.keep _ _ h1 (nm _ (List.mem_cons_of_mem _ List.mem_cons_self)), h2, past_fr f tk nn h3⟩
theorem PlC.ex (h : PlC K H C R z Sb pb So L) (e : Ex H H') : PlC K H' C R z Sb pb So L := by
  refine ⟨e _ _ h.dict, h.bench.ex e, h.outs.ex e, h.outn, ?_, h.ap⟩
  obtain ⟨ts, h1, h2, h3⟩ := h.lst
  refine ⟨ts, e _ _ h1, h2, fun i t Si c1 c2 => ?_⟩
  obtain ⟨sh, o, a1, a2, a3, a4⟩ := h3 i t Si c1 c2
  exact ⟨sh, o, Evl.ex_t e a1, a2.ex e, a3.ex e, a4⟩
theorem shot_n {N N' : Addr → Prop} {a : Addr} {S : BS} {k : Nat} (h : ShotAt K H N a S k) (i : ∀ x, H x ≠ none → N x → N' x) : ShotAt K H N' a S k := h.imp i
/-- others may be written -/
theorem PlC.setN {z' : PlA} (h : PlC K H C R z Sb pb So L) (e1 : z'.pl = z.pl) (e2 : z'.lp = z.lp) (e3 : z'.o = z.o) (e4 : z'.sh = z.sh) (e5 : z'.b = z.b) (hb : BenchAt K H C z'.b z'.dx z'.p z'.F z'.Fs Sb pb) (n : ∀ x, H x ≠ none → z.N R x → z'.N R' x) (ap : z'.pl ∉ z'.fb ∧ z'.lp ∉ z'.fb) : PlC K H C R' z' Sb pb So L := by
  obtain ⟨ts, h1, h2, h3⟩ := h.lst
  refine ⟨by rw [e1, e2, e3, e4, e5]; exact h.dict, hb, by rw [e3]; exact h.outs, by rw [e3]; exact n _ h.outs.nt.dom h.outn, ⟨ts, by rw [e2]; exact h1, h2, fun i t Si c1 c2 => ?_⟩, by rw [e1, e2]; exact h.ap.1, ap⟩
  obtain ⟨sh, o, a1, a2, a3, a4⟩ := h3 i t Si c1 c2
  exact ⟨sh, o, a1, a2.imp n, a3, n o a3.nt.dom a4⟩
/-- the bench has done a deed -/
def PlA.wB (z : PlA) (F' : Fv) (Fs' : List Fv) : PlA := { z with F := F', Fs := Fs' }
theorem wB_fp {F' : Fv} {Fs' : List Fv} (nf : Nf H z.fb (fpB z.b z.p F' Fs')) : ∀ a ∈ (z.wB F' Fs').fp, a ∈ z.fp ∨ H a = none := by
  intro a ha
  rcases List.mem_cons.mp ha with h | ha
  · exact .inl (by rw [h]; exact List.mem_cons_self)
  · rcases List.mem_cons.mp ha with h | ha
    · exact .inl (by rw [h]; exact List.mem_cons_of_mem _ List.mem_cons_self)
    · rcases nf a ha with h | h
      · exact .inl (List.mem_cons_of_mem _ (List.mem_cons_of_mem _ h))
      · exact .inr h
theorem wB_N {F' : Fv} {Fs' : List Fv} (nf : Nf H z.fb (fpB z.b z.p F' Fs')) : ∀ x, H x ≠ none → z.N R x → (z.wB F' Fs').N R x := fun x hx hn => ⟨fun hm => (wB_fp nf x hm).elim hn.1 hx, hn.2⟩
theorem PlC.deed {S' : BS} {p' : List BS} {F' : Fv} {Fs' : List Fv} (h : PlC K H C R z Sb pb So L) (B' : BenchAt K H' C z.b z.dx z.p F' Fs' S' p') (f : Fr z.fb H H') (nf : Nf H z.fb (fpB z.b z.p F' Fs')) : PlC K H' C R (z.wB F' Fs') S' p' So L := by
  have tk : Tk K H H' := f.tk h.bench.nt
  have nn : ∀ x, z.N R x → x ∉ z.fb := fun x hx hm => hx.1 (List.mem_cons_of_mem _ (List.mem_cons_of_mem _ hm))
  obtain ⟨a0, a1, a2⟩ := h.ap
  obtain ⟨ts, h1, h2, h3⟩ := h.lst
  have dpl : H z.pl ≠ none := (h.nt _ List.mem_cons_self).dom
  have dlp : H z.lp ≠ none := (h.nt _ (List.mem_cons_of_mem _ List.mem_cons_self)).dom
  refine ⟨f.keep _ _ h.dict a1, B', h.outs.fr f tk (nn _ h.outn), wB_N nf _ h.outs.nt.dom h.outn, ⟨ts, f.keep _ _ h1 a2, h2, fun i t Si c1 c2 => ?_⟩, a0, fun hm => ?_, fun hm => ?_⟩
  · obtain ⟨sh, o, b1, b2, b3, b4⟩ := h3 i t Si c1 c2
    have b2' : ShotAt K H (fun x => z.N R x ∧ (z.wB F' Fs').N R x) sh Si i := b2.imp fun x hx hn => ⟨hn, wB_N nf x hx hn⟩
    exact ⟨sh, o, tk _ _ b1, (b2'.fr f tk fun x hx => nn x hx.1).imp fun x _ hx => hx.2, b3.fr f tk (nn o b4), wB_N nf o b3.nt.dom b4⟩
  · rcases nf _ hm with h | h
    · exact a1 h
    · exact dpl h
  · rcases nf _ hm with h | h
    · exact a2 h
    · exact dlp h
/-- the shot, behind a deed of the bench -/
theorem shot_deed {S : BS} {k a : Nat} {F' : Fv} {Fs' : List Fv} (h : PlC K H C R z Sb pb So L) (b2 : ShotAt K H (z.N R) a S k) (f : Fr z.fb H H') (nf : Nf H z.fb (fpB z.b z.p F' Fs')) : ShotAt K H' ((z.wB F' Fs').N R) a S k := by
  have tk : Tk K H H' := f.tk h.bench.nt
  have b2' : ShotAt K H (fun x => z.N R x ∧ (z.wB F' Fs').N R x) a S k := b2.imp fun x hx hn => ⟨hn, wB_N nf x hx hn⟩
  exact (b2'.fr f tk fun x hx hm => hx.1.1 (List.mem_cons_of_mem _ (List.mem_cons_of_mem _ hm))).imp fun x _ hx => hx.2
/-- one of the place's own objects is written -/
theorem fp_tk {a : Addr} {o : HO} (h : PlC K H C R z Sb pb So L) (ha : a ∈ z.fp) : Tk K H (upd H a o) := (Fr.upd (M := [a]) (by simp)).tk fun x hx => by
  have e : x = a := by simpa using hx
  rw [e]
  exact h.nt a ha
theorem shot_upd {S : BS} {k s a : Nat} {o : HO} (h : PlC K H C R z Sb pb So L) (ha : a ∈ z.fp) (b2 : ShotAt K H (z.N R) s S k) : ShotAt K (upd H a o) (z.N R) s S k := b2.fr (Fr.upd (M := [a]) (by simp)) (fp_tk h ha) fun x hx hm => by
  have e : x = a := by simpa using hm
  exact hx.1 (by rw [e]; exact ha)
theorem la_upd {x a : Addr} {o : HO} {ds : List PyData} (h : PlC K H C R z Sb pb So L) (ha : a ∈ z.fp) (b2 : LA K H x ds) (hx : x ≠ a) : LA K (upd H a o) x ds := b2.fr (Fr.upd (M := [a]) (by simp)) (fp_tk h ha) (by simpa using hx)
theorem lp_mem : z.lp ∈ z.fp := List.mem_cons_of_mem _ List.mem_cons_self
theorem pl_mem : z.pl ∈ z.fp := List.mem_cons_self
/-- the list of what was is written -/
theorem PlC.lput {ts' : List Addr} {L' : List BS} (h : PlC K H C R z Sb pb So L) (hl : ts'.length = L'.length)
    (hd : ∀ (i : Nat) t Si, ts'[i]? = some t → L'[i]? = some Si → ∃ sh o, SqT K H t [.ref sh, .ref o] ∧ ShotAt K H (z.N R) sh Si i ∧ LA K H o (boolsD Si.outs) ∧ z.N R o) : PlC K (upd H z.lp (.lst (ts'.map V.ref))) C R z Sb pb So L' := by
  obtain ⟨a0, a1, a2⟩ := h.ap
  have tk := fp_tk (o := .lst (ts'.map V.ref)) h lp_mem
  refine ⟨(upd_ne a0).trans h.dict, h.bench.keep tk fun a ha => upd_ne fun z => a2 (z ▸ ha), la_upd h lp_mem h.outs fun e => h.outn.1 (e ▸ lp_mem), h.outn, ⟨ts', upd_same, hl, fun i t Si c1 c2 => ?_⟩, h.ap⟩
  obtain ⟨sh, o, b1, b2, b3, b4⟩ := hd i t Si c1 c2
  exact ⟨sh, o, tk _ _ b1, shot_upd h lp_mem b2, la_upd h lp_mem b3 fun e => b4.1 (e ▸ lp_mem), b4⟩
/-- the place itself is written -/
theorem PlC.dput {o' sh' : Addr} {So' : List Bool} (h : PlC K H C R z Sb pb So L) (ho : LA K H o' (boolsD So')) (hn : z.N R o') : PlC K (upd H z.pl (.dK (kvP z.b o' sh' z.lp))) C R { z with o := o', sh := sh' } Sb pb So' L := by
  obtain ⟨a0, a1, a2⟩ := h.ap
  have tk := fp_tk (o := .dK (kvP z.b o' sh' z.lp)) h pl_mem
  obtain ⟨ts, h1, h2, h3⟩ := h.lst
  refine ⟨upd_same, h.bench.keep tk fun a ha => upd_ne fun z => a1 (z ▸ ha), la_upd h pl_mem ho (fun (e : o' = z.pl) => hn.1 (by rw [e]; exact pl_mem)), hn, ⟨ts, (upd_ne a0.symm).trans h1, h2, fun i t Si c1 c2 => ?_⟩, h.ap⟩
  obtain ⟨sh, o, b1, b2, b3, b4⟩ := h3 i t Si c1 c2
  exact ⟨sh, o, tk _ _ b1, shot_upd (z := z) h pl_mem b2, la_upd (z := z) h pl_mem b3 (fun (e : o = z.pl) => b4.1 (by rw [e]; exact pl_mem)), b4⟩
end
mutual
/-- data do not see a dict that is written -/
theorem dp_updD {K : PySem.W.Frag} {H : Hp} {a : Addr} {kvs kvs' : List (Key × V)} (h : H a = some (.dK kvs)) : ∀ {v : V} {d : PyData}, Dp K H v d → Dp K (upd H a (.dK kvs')) v d
  | _, _, .non => .non
  | _, _, .bl b => .bl b
  | _, _, .int i => .int i
  | _, _, .str x => .str x
  | _, _, .lst hl hs => .lst (by
      rcases hl with (hl | ⟨o, hl⟩) | hl
      · exact .inl (.inl ((upd_ne (ne_of hl h (by intro z; cases z))).trans hl))
      · exact .inl (.inr ⟨o, (upd_ne (ne_of hl h (by intro z; cases z))).trans hl⟩)
      · exact .inr hl) (dps_updD h hs)
  | _, _, .tup hl hs => .tup (by
      rcases hl with (hl | ⟨o, hl⟩) | hl
      · exact .inl (.inl ((upd_ne (ne_of hl h (by intro z; cases z))).trans hl))
      · exact .inl (.inr ⟨o, (upd_ne (ne_of hl h (by intro z; cases z))).trans hl⟩)
      · exact .inr hl) (dps_updD h hs)
theorem dps_updD {K : PySem.W.Frag} {H : Hp} {a : Addr} {kvs kvs' : List (Key × V)} (h : H a = some (.dK kvs)) : ∀ {v : List V} {d : List PyData}, DpAll K H v d → DpAll K (upd H a (.dK kvs')) v d
  | _, _, .nil => .nil
  | _, _, .cons hd hs => .cons (dp_updD h hd) (dps_updD h hs)
end
end RD
namespace RD
open PySem PySem.Spec PyProof.Rows L2 L2H
theorem told_na (d : Deed) : (Str.ofString "told") ∉ allowed d := by
  cases d with
  | click => exact (by decide +kernel : (Str.ofString "told") ∉ (["Stopped", "TooFar"] : List Str))
  | out => exact (by decide +kernel : (Str.ofString "told") ∉ (["Held"] : List Str))
  | into => exact (by decide +kernel : (Str.ofString "told") ∉ (["Held"] : List Str))
  | put => exact (by decide +kernel : (Str.ofString "told") ∉ (["Held", "Stopped"] : List Str))
  | wire => exact (by decide +kernel : (Str.ofString "told") ∉ (["Held", "NoMachine", "Ring"] : List Str))
  | gear => exact (by decide +kernel : (Str.ofString "told") ∉ (["NoGear"] : List Str))
  | ends => exact (by decide +kernel : (Str.ofString "told") ∉ (["Stopped"] : List Str))
  | undo => exact (by decide +kernel : (Str.ofString "told") ∉ (["NoDeed"] : List Str))
theorem undo_of {d : Deed} (h : dname d = "undo") : isUndo d = true := by
  cases d with
  | click => exact absurd h (by decide +kernel : ¬ (Str.ofString "click" = Str.ofString "undo"))
  | out => exact absurd h (by decide +kernel : ¬ (Str.ofString "out" = Str.ofString "undo"))
  | into => exact absurd h (by decide +kernel : ¬ (Str.ofString "into" = Str.ofString "undo"))
  | put => exact absurd h (by decide +kernel : ¬ (Str.ofString "put" = Str.ofString "undo"))
  | wire => exact absurd h (by decide +kernel : ¬ (Str.ofString "wire" = Str.ofString "undo"))
  | gear => exact absurd h (by decide +kernel : ¬ (Str.ofString "gear" = Str.ofString "undo"))
  | ends => exact absurd h (by decide +kernel : ¬ (Str.ofString "ends" = Str.ofString "undo"))
  | undo => rfl
theorem undo_ne {d : Deed} (h : isUndo d = false) : dname d ≠ "undo" := fun e => by rw [undo_of e] at h; cases h
theorem click_of {d : Deed} (h : dname d = "click") : ∃ m, d = .click m := by
  cases d with
  | click m => exact ⟨m, rfl⟩
  | out => exact absurd h (by decide +kernel : ¬ (Str.ofString "out" = Str.ofString "click"))
  | into => exact absurd h (by decide +kernel : ¬ (Str.ofString "into" = Str.ofString "click"))
  | put => exact absurd h (by decide +kernel : ¬ (Str.ofString "put" = Str.ofString "click"))
  | wire => exact absurd h (by decide +kernel : ¬ (Str.ofString "wire" = Str.ofString "click"))
  | gear => exact absurd h (by decide +kernel : ¬ (Str.ofString "gear" = Str.ofString "click"))
  | ends => exact absurd h (by decide +kernel : ¬ (Str.ofString "ends" = Str.ofString "click"))
  | undo => exact absurd h (by decide +kernel : ¬ (Str.ofString "undo" = Str.ofString "click"))
theorem Eff.clickE {n : Nat} {S S' : BS} {past past' : List BS} {m : Num} {tM : Option (List Num)} (e : Eff n S past (.click m) S' past' tM) : ∃ M, tM = some M ∧ MovesOk S m M ∧ (∀ k, k < n → Nz 200 (addN (S.stood.getD k n0) (M.getD k n0))) ∧ ∀ x ∈ M, Red x ∧ 0 < x.2 := by
  cases e with
  | click h1 h2 h3 => exact ⟨_, rfl, h1, h2, h3⟩
def ifElse : Option Stmt → List Stmt
  | some (Stmt.If _ _ e _) => e
  | _ => []
theorem bools_set {bs : List Bool} {i : Nat} {b : Bool} : (boolsD bs).set i (PyData.bool b) = boolsD (bs.set i b) := by unfold boolsD; rw [set_of]
theorem dget_of {H : Hp} {a : Addr} {kvs : List (Key × V)} {x : Str} {v : V} (h : H a = some (.dK kvs)) (hv : valV kvs (Sum.inr x) = some v) : DGet H a (.str x) (some v) := by
  have := DGet.k (k := (Sum.inr x : Key)) h
  rw [hv] at this
  exact this
theorem dput_of {H : Hp} {a : Addr} {kvs kvs' : List (Key × V)} {x : Str} {v : V} (h : H a = some (.dK kvs)) (hl : kvs.length ≤ 1000) (hv : putK kvs (Sum.inr x) v = kvs') : DPut H a (.str x) v (upd H a (.dK kvs')) := by
  have := DPut.k (k := (Sum.inr x : Key)) (v := v) h (small1000 hl)
  rw [hv] at this
  exact this
section
variable {P : Program} {w : World} {K : PySem.W.Frag} {mg : Str → Option Value} {base : Heap} {f : Addr} {fd : FuncData} {C : Addr}
def spDone : Sp := fun vs H Q _ => ∃ (bag : Addr) (k : Nat) (R : List Addr) (z : PlA) (S : BS) (past : List BS) (n : Nat), vs = [.ref bag, .ref z.pl] ∧ BagAt H bag k ∧ k + 40 < 10000 ∧ bag ∈ R ∧ (∀ a ∈ R, H a ≠ none) ∧ (∀ a ∈ z.fp, a ∉ R) ∧ PlC K H C R z S past S.outs past ∧ ShotAt K H (z.N R) z.sh S past.length ∧ past.length ≤ 39 ∧ 1 ≤ n ∧ SBk S n past.length ∧ PastOk n past ∧
  ∀ H' z' S' past', z'.pl = z.pl → PlC K H' C R z' S' past' S'.outs past' → ShotAt K H' (z'.N R) z'.sh S' past'.length → past'.length ≤ past.length + 1 → SBk S' n past'.length → PastOk n past' → Fr (bag :: z.fp) H H' → (∀ a ∈ z'.fp, a ∈ z.fp ∨ H a = none) → BagAt H' bag (k + 40) → Q (.bl true) H'
theorem ok_done (T : Tx K mg)
    (DD : Df P w K mg base CX0 4 "_law_any_deed" ["_law_bag_here", "_law_many", "_law_outs"] (spAnyDeed (K := K))) (DT : Df P w K mg base CX0 1 "_law_take" ["_law_bag_here", "_law_many"] spTake)
    (DG : Df P w K mg base CX0 8 "_law_got" ["_law_bench", "_law_deed"] (spGot (K := K) (C := C))) (DK : Df P w K mg base CX0 1 "_law_known" ["_law_deed", "_law_got_here"] (spKnown (K := K)))
    (DM : Df P w K mg base CX0 3 "_law_moved" ["_law_ahead", "_law_moves", "_law_outs", "_law_number_here"] (spLMoved (K := K))) (DB : Df P w K mg base CX0 3 "_law_behind" ["_law_ahead", "_law_deed", "_law_told"] (spBehind (K := K)))
    (DA : Df P w K mg base CX0 2 "_law_all_told" ["_law_bench", "_law_many"] (spTold (K := K) (C := C))) (DS : Df P w K mg base CX0 5 "_law_same" ["_law_one", "_law_other"] (spSame (K := K) 4))
    (F : FnP K "_law_done" "_law_done" s_L_done f fd) : FnOk P w K mg base CX0 9 f fd ["_law_bag_here", "_law_place"] (spDone (K := K) (C := C)) := by
  refine fn0 F sc_L_done (fun vs H Q E h => ?_) (fun cdv A outer s H vs Q E hr h => ?_)
  · obtain ⟨_, _, _, _, _, _, _, rfl, _⟩ := h
    rfl
  · obtain ⟨bag, k0, R, z, S, past, n, rfl, hbag, hk0, hbR, hR, hzR, pc, hshot, hpl, hn1, sb, po, k⟩ := h
    have hu := hu_of hr
    have ok := sb.ok
    have n5 := ok.n5
    have bagM : bag ∉ z.fp := fun h => hzR bag h hbR
    -- what stands in the place
    refine gb_cons (gs_asg (pg_tup rfl (pgs_cons (pg_name (i := 2) sc_L_done.nd rfl (Or.inl rfl)) (pgs_cons (pg_name (i := 3) sc_L_done.nd rfl (by first | exact Or.inl rfl | exact Or.inr rfl)) pgs_nil))) (tup_k (ga_cons (ge_dget hu (ge_var 1 rfl rfl (ge_str ⟨z.pl, _, rfl, dget_of pc.dict kv_bench, ?_⟩))))))
    refine ga_cons (ge_dget hu (ge_var 1 rfl rfl (ge_str ⟨z.pl, _, rfl, dget_of pc.dict kv_outs, ga_nil ⟨Nat.le_of_ble_eq_true rfl, fun t1 H1 ht1 e1 h1 => ?_⟩⟩)))
    refine ⟨t1, _, rfl, Evl.st_of h1, rfl, _, _, rfl, _, _, rfl, rfl, ?_⟩
    have pc1 := pc.ex e1
    refine gb_cons (gs_par 4 5 rfl sc_L_done.nd rfl rfl (ge_dget hu (ge_var 1 rfl rfl (ge_str ⟨z.pl, _, rfl, dget_of pc1.dict kv_shot, ?_⟩))))
    refine ge_dget hu (ge_var 1 rfl rfl (ge_str ⟨z.pl, _, rfl, dget_of pc1.dict kv_past, ?_⟩))
    -- the deed
    obtain ⟨os, o1, o2⟩ := id pc1.outs
    have hol : os.length = n := by have := o2.length; unfold boolsD at this; rw [List.length_map, ok.len.o] at this; exact this
    refine gb_cons (gs_set 6 sc_L_done.nd rfl (ge_call DD (hr.mono (by decide)) pass0 (ga_cons (ge_var 0 rfl rfl (ga_cons (ge_callB T.len boot_len (ga_cons (ge_var 3 rfl rfl (ga_nil (c1_lenL (Evl.sq_of o1) ?_))))))))))
    refine ga_cons (GL.ge <| gl_lcRI rfl sc_L_done.nd T.range (blkOk_by (N := n_L_done) (sc := defScope s_L_done) (by decide +kernel)) (ge_callB T.len boot_len (ga_cons (ge_var 3 rfl rfl (ga_nil (c1_lenL (Evl.sq_of o1) ?_))))) (fun _ _ _ _ _ => pg_name (i := 10) sc_L_done.nd rfl (Or.inl rfl)))
    refine ⟨os.length, fun i => S.outs.getD i false, fun i => .int (i : Nat), rfl, by omega, fun i H2 hi e2 => ⟨fun s0 H0 C' cl fp => ?_⟩, fun q2 H2 ys hq2 e2 h2 hy => ?_⟩
    · refine gt_val (ge_ix (ge_var 3 rfl rfl (ge_var 10 rfl rfl (i2_lst (Evl.sq_of (e2 _ _ o1)) (atI_n (bools_at o2 (show i < S.outs.length by rw [ok.len.o]; omega))) ⟨_, rfl, Evl.Ex.refl _, rfl, fun _ => ⟨fun s0 H0 C' cl fp => ge_var 10 rfl rfl ⟨Evl.Ex.refl _, .int _⟩⟩⟩))))
    have hys := ints_of hy
    subst hys
    have e12 := e1.trans e2
    have bag2 := hbag.ex e12
    have pc2 := pc1.ex e2
    have q2b : q2 ≠ bag := fun e => by
      obtain ⟨_, _, _, hb, _⟩ := hbag.ex e1
      rw [e, hb] at hq2
      cases hq2
    refine ga_nil ⟨bag, q2, k0, os.length, _, rfl, bag2, by omega, by omega, by omega, h2, q2b, ?_, fun x hx => ?_, fun v H3 d0 f3 bag3 hv hd0 => ?_⟩
    · have := List.length_filter_le (fun i => S.outs.getD i false) (List.range os.length)
      rw [List.length_range] at this
      omega
    · exact List.mem_range.mp (List.mem_filter.mp hx).1
    rw [hol] at hd0
    have nb : ∀ a ∈ ([bag] : List Addr), NT H2 a := fun a ha => by
      have e : a = bag := by simpa using ha
      rw [e]; exact bag2.nt
    have sR : ∀ a ∈ ([bag] : List Addr), a ∈ R := fun a ha => by
      have e : a = bag := by simpa using ha
      rw [e]; exact hbR
    have pc3 := pc2.fr f3 nb sR hzR
    have tk3 : Tk K H2 H3 := f3.tk nb
    have shot3 : ShotAt K H3 (z.N R) z.sh S past.length := (hshot.ex e12).fr f3 tk3 fun x hx hm => hx.2 (sR x hm)
    refine gb_cons (gs_if (gt_cmp (ge_call DT (hr.mono (by decide)) pass0 (ga_cons (ge_var 0 rfl rfl (ga_cons (ge_int (ga_nil ?_))))))))
    refine ⟨bag, _, 5, rfl, bag3, by omega, by decide, by decide, fun r H4 f4 bag4 r1 r2 => ?_⟩
    have nb3 : ∀ a ∈ ([bag] : List Addr), NT H3 a := fun a ha => by
      have e : a = bag := by simpa using ha
      rw [e]; exact bag3.nt
    have pc4 := pc3.fr f4 nb3 sR hzR
    have tk4 : Tk K H3 H4 := f4.tk nb3
    have shot4 : ShotAt K H4 (z.N R) z.sh S past.length := shot3.fr f4 tk4 fun x hx hm => hx.2 (sR x hm)
    have fr4 : Fr (bag :: z.fp) H H4 := ((Fr.ex e12).trans (f3.trans f4)).mono fun a ha => by
      have e : a = bag := by simpa using ha
      rw [e]; exact List.mem_cons_self
    have hv4 := hv.tk tk4
    have main : ∀ (H5 : Hp) (v : V) (d : Deed), Ex H4 H5 → TD K H5 v (deedD d) → DeedOk n d → GB (cxOf CX0 P w K mg base n_L_done "_law_done" (defScope s_L_done) f cdv A outer s H E).nox ((defBody s_L_done).drop 4) { nx := fun _ H' => Q .non H', rt := Q }
        [some (.ref bag), some (.ref z.pl), some (.ref z.b), some (.ref z.o), some (.ref z.sh), some (.ref z.lp), some v, none, none, none, none] H5 := by
      intro H5 v d e5 hv hd
      have pc5 := pc4.ex e5
      have shot5 := shot4.ex e5
      have bag5 := bag4.ex e5
      have fr5 : Fr (bag :: z.fp) H H5 := fr4.trans (Fr.ex e5)
      -- the end
      have fin : ∀ (H7 : Hp) (z' : PlA) (S' : BS) (past' : List BS) (dv : V) (o7 o9 o10 : Option V) (ds : List PyData), z'.pl = z.pl → z'.b = z.b → PlC K H7 C R z' S' past' S'.outs past' → Dp K H7 dv (shotD S' past'.length) → LA K H7 z.o ds → ds.length = n → Fr (bag :: z.fp) H H7 →
          (∀ a ∈ z'.fp, a ∈ z.fp ∨ H a = none) → BagAt H7 bag (k0 + 40) → SBk S' n past'.length → PastOk n past' → past'.length ≤ past.length + 1 → GB (cxOf CX0 P w K mg base n_L_done "_law_done" (defScope s_L_done) f cdv A outer s H E).nox ((defBody s_L_done).drop 7) { nx := fun _ H' => Q .non H', rt := Q }
          [some (.ref bag), some (.ref z.pl), some (.ref z.b), some (.ref z.o), some (.ref z.sh), some (.ref z.lp), some v, o7, some dv, o9, o10] H7 := by
        intro H7 z' S' past' dv o7 o9 o10 ds epl eb pc7 hdv hou hdl fr7 nf7 bag7 sb7 po7 hl7
        obtain ⟨yo, y1, y2⟩ := hou
        have hyl : yo.length = n := by rw [y2.length]; exact hdl
        refine gb_cons (gs_dput hu (ge_call DA (hr.mono (by decide)) pass0 (ga_cons (ge_var 2 rfl rfl (ga_cons (ge_callB T.len boot_len (ga_cons (ge_var 3 rfl rfl (ga_nil (c1_lenL (Evl.sq_of y1) ?_))))))))))
        rw [hyl]
        refine ga_nil ⟨z.b, z'.dx, z'.p, z'.F, z'.Fs, S', past', n, rfl, by rw [← eb]; exact pc7.bench, sb7.ok.len, n5, fun a8 H8 e8 sh8 => ?_⟩
        have pc8 := pc7.ex e8
        refine ge_var 1 rfl rfl (ge_str ⟨z.pl, _, rfl, dput_of (kvs := kvP z'.b z'.o z'.sh z'.lp) (by rw [← epl]; exact pc8.dict) (by show 4 ≤ 1000; decide) kv_puts, ?_⟩)
        have dom7 : ∀ x, x ∈ R → H7 x ≠ none := fun x hx h => hR x hx (fr7.dom x h)
        have shN : ShotAt K H8 (z'.N R) a8 S' past'.length := sh8.imp fun x _ hx => ⟨fun hm => (pc7.nt x hm).dom hx, fun hm => dom7 x hm hx⟩
        have sh9 := shot_upd (o := .dK (kvP z'.b z'.o a8 z'.lp)) pc8 pl_mem shN
        have pc9 := pc8.dput (o' := z'.o) (sh' := a8) pc8.outs pc8.outn
        have dv9 := dp_updD (kvs' := kvP z'.b z'.o a8 z'.lp) pc8.dict (dp_ex e8 hdv)
        have fr9 : Fr (bag :: z.fp) H (upd H8 z'.pl (.dK (kvP z'.b z'.o a8 z'.lp))) := (fr7.trans (Fr.ex e8)).trans (Fr.upd (by rw [epl]; exact List.mem_cons_of_mem _ pl_mem))
        have bag9 : BagAt (upd H8 z'.pl (.dK (kvP z'.b z'.o a8 z'.lp))) bag (k0 + 40) := (bag7.ex e8).fr (Fr.upd (M := [z'.pl]) (by simp)) (by
          have : bag ≠ z.pl := fun e => bagM (by rw [e]; exact pl_mem)
          rw [epl]
          simpa using this)
        rw [← epl]
        show GB _ _ _ _ (upd H8 z'.pl (.dK (kvP z'.b z'.o a8 z'.lp)))
        generalize upd H8 z'.pl (.dK (kvP z'.b z'.o a8 z'.lp)) = H9 at sh9 pc9 dv9 fr9 bag9
        refine gb_one (gs_ret (ge_call DS (hr.mono (by decide)) pass0 (ga_cons (ge_dget hu (ge_var 1 rfl rfl (ge_str ⟨z'.pl, _, by rw [epl], dget_of pc9.dict kv_shot, ?_⟩))))))
        refine ga_cons (ge_var 8 rfl rfl (ga_nil ⟨_, _, shotD S' past'.length, rfl, sh9.dp, dv9, shot_sh sb7.ok.len n5, fun H10 e10 => ?_⟩))
        exact k H10 { z' with o := z'.o, sh := a8 } S' past' epl (pc9.ex e10) (sh9.ex e10) hl7 sb7 po7 (fr9.trans (Fr.ex e10)) nf7 (bag9.ex e10)
      refine gb_cons (gs_set 7 sc_L_done.nd rfl (ge_call DG (hr.mono (by decide)) pass0 (ga_cons (ge_var 2 rfl rfl (ga_cons (ge_var 6 rfl rfl (ga_nil ?_)))))))
      refine ⟨z.b, z.dx, z.p, z.F, z.Fs, S, past, n, v, d, rfl, pc5.bench, hpl, sb, hv, hd, fun t tv H6 F' Fs' S' past' tM ef B' f6 nf6 htv ht => ?_, fun t H6 x rest hx hux e6 ht => ?_⟩
      · -- told
        have tk6 : Tk K H5 H6 := f6.tk pc5.bench.nt
        have pc6 := pc5.deed B' f6 nf6
        have shot6 := shot_deed pc5 shot5 f6 nf6
        have hv6 := hv.tk tk6
        have bag6 : BagAt H6 bag (k0 + 30 + 1) := bag5.fr f6 fun hm => bagM (List.mem_cons_of_mem _ (List.mem_cons_of_mem _ hm))
        have fr6 : Fr (bag :: z.fp) H H6 := fr5.trans (f6.mono fun a ha => List.mem_cons_of_mem _ (List.mem_cons_of_mem _ (List.mem_cons_of_mem _ ha)))
        have nfz : ∀ a ∈ (z.wB F' Fs').fp, a ∈ z.fp ∨ H a = none := fun a ha => (wB_fp nf6 a ha).imp id fun h => fr5.dom a h
        obtain ⟨sb', po'⟩ := ef.ok sb po hd
        have hlen := ef.len
        have outs6 : LA K H6 z.o (boolsD S.outs) := pc6.outs
        have hbl : (boolsD S.outs).length = n := by unfold boolsD; rw [List.length_map]; exact ok.len.o
        refine gb_cons (gs_set 8 sc_L_done.nd rfl (ge_var 4 rfl rfl ?_))
        refine gb_cons (gs_if (gt_cmp (ge_ix (ge_var 7 rfl rfl (ge_int (i2_tup ht (atI_n (n := 0) rfl) (ge_str (o2_nes ⟨_, rfl, ?_⟩))))))))
        rw [decide_eq_true rfl]
        refine ite_nt (gb_one ?_)
        obtain ⟨da, dr, rfl, hda⟩ := deed_hd hv6
        cases hud : isUndo d with
        | true =>
          have hdn : d = .undo := by cases d <;> first | rfl | cases hud
          subst hdn
          change SqT K H6 da (.str "undo" :: dr) at hda
          cases ef with
          | undo hpast =>
          refine gs_nmif 6 rfl rfl hda ?_
          refine ite_t (by decide +kernel) ?_
          obtain ⟨ts, l1, l2, l3⟩ := pc6.lst
          refine gb_cons (gs_if (gt_cmp (ge_var 5 rfl rfl (lst_k (ga_nil ⟨Nat.le_of_ble_eq_true rfl, fun q7 H7 hq7 e7 h7 => ?_⟩)))))
          refine o2_eqNil (Nat.lt_of_succ_lt hu) (Evl.sq_of (e7 _ _ l1)) (Evl.sq_of h7) ⟨_, rfl, ?_⟩
          have htl : ts.length = past'.length + 1 := by rw [l2, hpast, List.length_append]; rfl
          have htne : ts ≠ [] := fun e => by rw [e] at htl; simp at htl
          obtain ⟨ts1, tl, rfl⟩ : ∃ ts1 tl, ts = ts1 ++ [tl] := ⟨ts.dropLast, ts.getLast htne, (List.dropLast_concat_getLast htne).symm⟩
          have hl1 : ts1.length = past'.length := by rw [List.length_append] at htl; exact Nat.succ.inj htl
          have hne2 : ((ts1 ++ [tl]).map V.ref).isEmpty = false := by simp
          rw [hne2]
          refine iteF (gb_nil (gb_one ?_))
          have l1' : H6 z.lp = some (.lst (ts1.map V.ref ++ [.ref tl])) := by rw [← List.map_singleton (f := V.ref), ← List.map_append]; exact l1
          have pc7 := pc6.ex e7
          obtain ⟨shi, oi, b1, b2, b3, b4⟩ := l3 ts1.length tl S' (by rw [List.getElem?_append_right (Nat.le_refl _), Nat.sub_self]; rfl) (by rw [hpast, hl1, List.getElem?_append_right (Nat.le_refl _), Nat.sub_self]; rfl)
          refine gs_asg (pg_tup rfl (pgs_cons (pg_name (i := 8) sc_L_done.nd rfl (Or.inl rfl)) (pgs_cons (pg_sub GE.pe GE.pe (set_dict hu)) pgs_nil))) (ge_pop (ge_var 5 rfl rfl ⟨z.lp, _, .ref tl, rfl, e7 _ _ l1', by simp, ?_⟩))
          rw [List.dropLast_concat]
          have pc8 : PlC K (upd H7 z.lp (.lst (ts1.map V.ref))) C R (z.wB F' Fs') S' past' S.outs past' := pc7.lput (ts' := ts1) (L' := past') hl1 (fun i t' Si c1 c2 => by
            obtain ⟨s', o', d1, d2, d3, d4⟩ := l3 i t' Si (by rw [List.getElem?_append_left (List.getElem?_eq_some_iff.mp c1).1]; exact c1) (by rw [hpast, List.getElem?_append_left (List.getElem?_eq_some_iff.mp c2).1]; exact c2)
            exact ⟨s', o', Evl.ex_t e7 d1, d2.ex e7, d3.ex e7, d4⟩)
          have tk78 : Tk K H7 (upd H7 z.lp (.lst (ts1.map V.ref))) := fp_tk (a := z.lp) (o := .lst (ts1.map V.ref)) pc7 lp_mem
          have hl : ∀ {x : Addr} {ds : List PyData}, (z.wB F' Fs').N R x → LA K H7 x ds → LA K (upd H7 z.lp (.lst (ts1.map V.ref))) x ds := fun {x ds} hx h => la_upd pc7 lp_mem h fun e => hx.1 (by rw [e]; exact lp_mem)
          have due8 : ShotAt K (upd H7 z.lp (.lst (ts1.map V.ref))) ((z.wB F' Fs').N R) shi S' ts1.length := shot_upd (o := .lst (ts1.map V.ref)) pc7 lp_mem (b2.ex e7)
          have oi8 := hl b4 (b3.ex e7)
          have zo8 : LA K (upd H7 z.lp (.lst (ts1.map V.ref))) z.o (boolsD S.outs) := hl pc6.outn (outs6.ex e7)
          have tl8 := tk78 _ _ (Evl.ex_t e7 b1)
          have fr8 : Fr (bag :: z.fp) H (upd H7 z.lp (.lst (ts1.map V.ref))) := (fr6.trans (Fr.ex e7)).trans (Fr.upd (List.mem_cons_of_mem _ lp_mem))
          have bag8 : BagAt (upd H7 z.lp (.lst (ts1.map V.ref))) bag (k0 + 30 + 1) := (bag6.ex e7).fr (Fr.upd (M := [z.lp]) (by simp)) (by
            have : bag ≠ z.lp := fun e => bagM (by rw [e]; exact lp_mem)
            simpa using this)
          show gTup _ _ _ _ _ (upd H7 z.lp (.lst (ts1.map V.ref))) _
          generalize upd H7 z.lp (.lst (ts1.map V.ref)) = H8 at pc8 tk78 due8 oi8 zo8 tl8 fr8 bag8 hl
          refine ⟨tl, _, rfl, tl8, rfl, .ref shi, [.ref oi], rfl, .ref oi, [], rfl, ge_var 1 rfl rfl (ge_str ⟨z.pl, _, rfl, dput_of pc8.dict (by show 4 ≤ 1000; decide) kv_puto, rfl, ?_⟩)⟩
          have pc9 : PlC K (upd H8 z.pl (.dK (kvP z.b oi z.sh z.lp))) C R { (z.wB F' Fs') with o := oi, sh := z.sh } S' past' S'.outs past' := pc8.dput (o' := oi) (sh' := z.sh) oi8 b4
          have due9 : ShotAt K (upd H8 z.pl (.dK (kvP z.b oi z.sh z.lp))) ((z.wB F' Fs').N R) shi S' ts1.length := shot_upd (o := .dK (kvP z.b oi z.sh z.lp)) pc8 pl_mem due8
          have zo9 : LA K (upd H8 z.pl (.dK (kvP z.b oi z.sh z.lp))) z.o (boolsD S.outs) := la_upd (o := .dK (kvP z.b oi z.sh z.lp)) pc8 pl_mem zo8 (fun (e : z.o = z.pl) => pc6.outn.1 (by show z.o ∈ (z.wB F' Fs').fp; rw [e]; exact pl_mem (z := z.wB F' Fs')))
          exact fin _ { (z.wB F' Fs') with o := oi, sh := z.sh } S' past' (.ref shi) _ _ _ (boolsD S.outs) rfl rfl pc9 (by rw [← hl1]; exact due9.dp) zo9 hbl (fr8.trans (Fr.upd (List.mem_cons_of_mem _ pl_mem))) nfz ((bag8.fr (Fr.upd (M := [z.pl]) (by simp)) (by
            have : bag ≠ z.pl := fun e => bagM (by rw [e]; exact pl_mem)
            simpa using this)).mono (by omega)) sb' po' hlen
        | false =>
          have hpe : past' = past ++ [S] := by
            cases ef <;> first | rfl | cases hud
          -- what may be written: the told list too
          obtain ⟨R1, r1, pc51, shot51, rq, ra, rd⟩ : ∃ R1 : List Addr, (∀ a ∈ R, a ∈ R1) ∧ PlC K H5 C R1 z S past S.outs past ∧ ShotAt K H5 (z.N R1) z.sh S past.length ∧ (∀ M, tM = some M → ∃ q, tv = .ref q ∧ q ∈ R1 ∧ H5 q = none ∧ LA K H6 q (numsD M)) ∧ (∀ a ∈ R1, H6 a ≠ none) ∧ ∀ a ∈ (z.wB F' Fs').fp, a ∉ R1 := by
            have hR6 : ∀ a ∈ R, H6 a ≠ none := fun a ha h => hR a ha (fr6.dom a h)
            have dj : ∀ a ∈ (z.wB F' Fs').fp, a ∉ R := fun a ha hm => (nfz a ha).elim (fun h => hzR a h hm) fun h => hR a hm h
            cases tM with
            | none => exact ⟨R, fun a h => h, pc5, shot5, (fun M h => by cases h), hR6, dj⟩
            | some M =>
              obtain ⟨q, hq, q5, qf, qM⟩ := htv
              have n5' : ∀ x, H5 x ≠ none → z.N R x → z.N (q :: R) x := fun x hx hn => ⟨hn.1, fun hm => by
                rcases List.mem_cons.mp hm with h | h
                · rw [h] at hx; exact hx q5
                · exact hn.2 h⟩
              refine ⟨q :: R, fun a h => List.mem_cons_of_mem _ h, pc5.setN rfl rfl rfl rfl rfl pc5.bench n5' pc5.ap.2, shot5.imp n5', fun M' h => ?_, fun a ha => ?_, fun a ha hm => ?_⟩
              · cases h
                exact ⟨q, hq, List.mem_cons_self, q5, qM⟩
              · rcases List.mem_cons.mp ha with h | h
                · rw [h]; exact qM.nt.dom
                · exact hR6 a h
              · rcases List.mem_cons.mp hm with h | h
                · rw [h] at ha
                  rcases List.mem_cons.mp ha with e | ha
                  · have := (pc5.nt z.pl pl_mem).dom
                    rw [← show q = z.pl from e] at this
                    exact this q5
                  · rcases List.mem_cons.mp ha with e | ha
                    · have := (pc5.nt z.lp lp_mem).dom
                      rw [← show q = z.lp from e] at this
                      exact this q5
                    · exact qf ha
                · exact dj a ha h
          have pc61 : PlC K H6 C R1 (z.wB F' Fs') S' past' S.outs past := pc51.deed B' f6 nf6
          have shot61 : ShotAt K H6 ((z.wB F' Fs').N R1) z.sh S past.length := shot_deed pc51 shot51 f6 nf6
          refine gs_nmif 6 rfl rfl hda ?_
          refine ite_f (decide_eq_false (undo_ne hud)) ?_
          -- what was is kept
          obtain ⟨ts, l1, l2, l3⟩ := pc61.lst
          obtain ⟨oo, oo1, oo2⟩ := id outs6
          refine gb_cons (gs_expr (ge_append (ge_var 5 rfl rfl ⟨z.lp, _, rfl, Evl.sq_of l1, tup_k (ga_cons (ge_var 4 rfl rfl (ga_cons (ge_callT T.list PyProof.Rows.boot_list (ga_cons (ge_var 3 rfl rfl (ga_nil (c1_listL (Evl.sq_of oo1) fun o7 H7 ho7 e7 h7 => ?_))))))))⟩)))
          refine ga_nil ⟨Nat.le_of_ble_eq_true rfl, fun t8 H8 ht8 e8 h8 => ?_⟩
          have e68 := e7.trans e8
          refine ⟨_, e68 _ _ l1, by rw [List.length_map, l2]; omega, ?_⟩
          have pc8 := pc61.ex e68
          have N7 : (z.wB F' Fs').N R1 o7 := ⟨fun hm => (pc61.nt o7 hm).dom ho7, fun hm => ra o7 hm ho7⟩
          have lo7 : LA K H8 o7 (boolsD S.outs) := ⟨oo, e8 _ _ h7, oo2.ex e68⟩
          have pc9 : PlC K (upd H8 z.lp (.lst ((ts ++ [t8]).map V.ref))) C R1 (z.wB F' Fs') S' past' S.outs past' := pc8.lput (ts' := ts ++ [t8]) (L' := past') (by rw [hpe, List.length_append, List.length_append, l2]; rfl) (fun i t' Si c1 c2 => by
            rw [hpe] at c2
            by_cases hi : i < ts.length
            · obtain ⟨s', o', d1, d2, d3, d4⟩ := l3 i t' Si (by rw [List.getElem?_append_left hi] at c1; exact c1) (by rw [List.getElem?_append_left (by omega)] at c2; exact c2)
              exact ⟨s', o', Evl.ex_t e68 d1, d2.ex e68, d3.ex e68, d4⟩
            · have hl := (List.getElem?_eq_some_iff.mp c1).1
              rw [List.length_append, List.length_singleton] at hl
              have ei : i = ts.length := by omega
              subst ei
              rw [List.getElem?_append_right (Nat.le_refl _), Nat.sub_self] at c1
              rw [List.getElem?_append_right (by omega), l2, Nat.sub_self] at c2
              cases c1
              cases c2
              exact ⟨z.sh, o7, Evl.st_of h8, by rw [l2]; exact shot61.ex e68, lo7, N7⟩)
          have tk89 : Tk K H8 (upd H8 z.lp (.lst ((ts ++ [t8]).map V.ref))) := fp_tk pc8 lp_mem
          have shot9 : ShotAt K (upd H8 z.lp (.lst ((ts ++ [t8]).map V.ref))) ((z.wB F' Fs').N R1) z.sh S past.length := shot_upd pc8 lp_mem (shot61.ex e68)
          have fr9 : Fr (bag :: z.fp) H (upd H8 z.lp (.lst ((ts ++ [t8]).map V.ref))) := (fr6.trans (Fr.ex e68)).trans (Fr.upd (List.mem_cons_of_mem _ lp_mem))
          have bag9 : BagAt (upd H8 z.lp (.lst ((ts ++ [t8]).map V.ref))) bag (k0 + 30 + 1) := (bag6.ex e68).fr (Fr.upd (M := [z.lp]) (by simp)) (by
            have : bag ≠ z.lp := fun e => bagM (by rw [e]; exact lp_mem)
            simpa using this)
          have rq9 : ∀ M, tM = some M → ∃ q, tv = .ref q ∧ q ∈ R1 ∧ H q = none ∧ LA K (upd H8 z.lp (.lst ((ts ++ [t8]).map V.ref))) q (numsD M) := fun M hM => by
            obtain ⟨q, a1, a2, a3, a4⟩ := rq M hM
            exact ⟨q, a1, a2, fr5.dom q a3, la_upd pc8 lp_mem (a4.ex e68) fun e => rd _ (lp_mem (z := z.wB F' Fs')) (by show z.lp ∈ R1; rw [← show q = z.lp from e]; exact a2)⟩
          have ht9 := tk89 _ _ (Evl.ex_t e68 ht)
          have hda9 := tk89 _ _ (Evl.ex_t e68 hda)
          have hv9 := (hv6.ex e68).tk tk89
          have ra9 : ∀ a ∈ R1, (upd H8 z.lp (.lst ((ts ++ [t8]).map V.ref))) a ≠ none := fun a ha h => ra a ha (by
            by_cases e : a = z.lp
            · rw [e, upd_same] at h; cases h
            · rw [upd_ne e] at h; exact Evl.fresh_back e68 h)
          have hmapEq : ts.map V.ref ++ [V.ref t8] = (ts ++ [t8]).map V.ref := by rw [List.map_append]; rfl
          rw [hmapEq]
          show GB _ _ _ _ (upd H8 z.lp (.lst ((ts ++ [t8]).map V.ref)))
          generalize upd H8 z.lp (.lst ((ts ++ [t8]).map V.ref)) = H9 at pc9 tk89 shot9 fr9 bag9 rq9 ht9 hda9 hv9 ra9
          refine gb_cons (gs_set 9 sc_L_done.nd rfl (ge_ix (ge_var 7 rfl rfl (ge_int (i2_tup ht9 (atI_n (n := 1) rfl) ?_)))))
          have hp1 : past'.length = past.length + 1 := by rw [hpe, List.length_append]; rfl
          have hbl' : (boolsD S.outs).length = n := hbl
          have outs9 : LA K H9 z.o (boolsD S.outs) := pc9.outs
          -- behind it
          have step2 : ∀ (D : Ends) (H10 : Hp), (∀ σ G, GB (cxOf CX0 P w K mg base n_L_done "_law_done" (defScope s_L_done) f cdv A outer s H E).nox ((defBody s_L_done).drop 7) { nx := fun _ H' => Q .non H', rt := Q } σ G → D.nx σ G) → Ex H9 H10 →
              GB (cxOf CX0 P w K mg base n_L_done "_law_done" (defScope s_L_done) f cdv A outer s H E).nox ((ifElse ((ifElse ((defBody s_L_done)[6]?))[0]?)).drop 3) D
                [some (.ref bag), some (.ref z.pl), some (.ref z.b), some (.ref z.o), some (.ref z.sh), some (.ref z.lp), some (.ref da), some (.ref t), some (.ref z.sh), some tv, none] H10 := by
            intro D H10 hD e10
            have hda' := hda9
            refine gb_cons (gs_set 8 sc_L_done.nd rfl (ge_call DB (hr.mono (by decide)) pass0 (ga_cons (ge_var 4 rfl rfl (ga_cons (ge_var 6 rfl rfl (ga_cons (ge_var 9 rfl rfl (ga_nil ?_)))))))))
            refine ⟨(z.wB F' Fs').N R1, z.sh, .ref da, tv, S, S', past, past', n, d, tM, rfl, shot9.ex e10, hpl, sb, hv9.ex e10, hd, ef, hud, fun M hM => ?_, fun z8 H11 e11 due11 => ?_⟩
            · obtain ⟨q, a1, _, _, a4⟩ := rq9 M hM
              exact ⟨q, a1, a4.ex e10⟩
            have e911 := e10.trans e11
            have pc11 := pc9.ex e911
            have bag11 := bag9.ex e911
            have fr11 := fr9.trans (Fr.ex e911)
            have hda11 := Evl.ex_t e911 hda'
            have ra11 : ∀ a ∈ R1, H10 a ≠ none := fun a ha h => ra9 a ha (Evl.fresh_back e10 h)
            have last : ∀ (H12 : Hp) (z2 : PlA) (o10 : Option V), z2.pl = z.pl → z2.b = z.b → z2.fp = (z.wB F' Fs').fp → PlC K H12 C R1 z2 S' past' S'.outs past' → Dp K H12 (.ref z8) (shotD S' (past.length + 1)) → LA K H12 z.o (boolsD S.outs) → Fr (bag :: z.fp) H H12 → BagAt H12 bag (k0 + 30 + 1) →
                GB (cxOf CX0 P w K mg base n_L_done "_law_done" (defScope s_L_done) f cdv A outer s H E).nox ((defBody s_L_done).drop 7) { nx := fun _ H' => Q .non H', rt := Q }
                  [some (.ref bag), some (.ref z.pl), some (.ref z.b), some (.ref z.o), some (.ref z.sh), some (.ref z.lp), some (.ref da), some (.ref t), some (.ref z8), some tv, o10] H12 := by
              intro H12 z2 o10 q1 q2 q3 pcz dz oz frz bgz
              have pcR : PlC K H12 C R z2 S' past' S'.outs past' := pcz.setN rfl rfl rfl rfl rfl pcz.bench (fun x _ h => ⟨h.1, fun hm => h.2 (r1 x hm)⟩) pcz.ap.2
              exact fin H12 z2 S' past' (.ref z8) _ _ _ (boolsD S.outs) q1 q2 pcR (by rw [hp1]; exact dz) oz hbl frz (by rw [q3]; exact nfz) (bgz.mono (by omega)) sb' po' hlen
            have skip : ∀ (H12 : Hp) (b : Bool), H12 = H11 → True := fun _ _ _ => trivial
            cases ef with
            | undo _ => cases hud
            | @click m M h1 h2 h3 =>
              change SqT K H9 da (.str "click" :: dr) at hda'
              change SqT K H11 da (.str "click" :: dr) at hda11
              obtain ⟨q, rfl, hqR, hqH, ys, y1, y2⟩ := rq9 M rfl
              refine gb_cons (gs_nmif 6 rfl rfl hda11 ?_)
              refine ite_t (by decide +kernel) ?_
              have hq11 := e911 _ _ y1
              refine gb_one (gs_expr (ge_clear (ge_var 9 rfl rfl ⟨q, ys, rfl, hq11, ?_⟩)))
              have ntq : ∀ a ∈ ([q] : List Addr), NT H11 a := fun a ha => by
                have e : a = q := by simpa using ha
                rw [e]; exact .inl ⟨_, hq11⟩
              have sq : ∀ a ∈ ([q] : List Addr), a ∈ R1 := fun a ha => by
                have e : a = q := by simpa using ha
                rw [e]; exact hqR
              have fq : Fr [q] H11 (upd H11 q (.lst [])) := Fr.upd (by simp)
              have tkq : Tk K H11 (upd H11 q (.lst [])) := fq.tk ntq
              have pc12 := pc11.fr fq ntq sq rd
              have due12 := due11.fr fq tkq (fun x hx hm => by
                have e : x = q := by simpa using hm
                rcases hx with hx | hx
                · exact hx.2 (by rw [e]; exact hqR)
                · rw [e] at hx; exact ra11 q hqR hx)
              have o12 : LA K (upd H11 q (.lst [])) z.o (boolsD S.outs) := (outs9.ex e911).fr fq tkq (fun hm => pc9.outn.2 (sq _ hm))
              have bag12 : BagAt (upd H11 q (.lst [])) bag (k0 + 30 + 1) := bag11.fr fq (fun hm => by
                have e : bag = q := by simpa using hm
                obtain ⟨_, _, _, hb, _⟩ := hbag
                rw [← e, hb] at hqH
                cases hqH)
              have fr12 : Fr (bag :: z.fp) H (upd H11 q (.lst [])) := fr11.mut hqH
              have hda12 := tkq _ _ hda11
              show GB _ _ _ _ (upd H11 q (.lst []))
              generalize upd H11 q (.lst []) = H12 at pc12 due12 o12 bag12 fr12 hda12
              refine gb_one (gs_if (gt_cmp (ge_ix (ge_var 6 rfl rfl (ge_int (i2_tup hda12 (atI_n (n := 0) rfl) (lst_k (ga_cons (ge_str (ga_cons (ge_str (ga_nil ⟨Nat.le_of_ble_eq_true rfl, fun l13 H13 hl13 e13 h13 => ?_⟩))))))))))))
              refine o2_in (.inl (Evl.sq_of h13)) rfl rfl ⟨_, rfl, ?_⟩
              refine ite_f (by decide +kernel) (gb_nil (hD _ _ ?_))
              exact last H13 (z.wB F' Fs') _ rfl rfl rfl (pc12.ex e13) (due12.ex e13).dp (o12.ex e13) (fr12.trans (Fr.ex e13)) (bag12.ex e13)
            | @put i m =>
              have hda12 : SqT K H11 da (.str "put" :: dr) := hda11
              refine gb_cons (gs_nmif 6 rfl rfl hda12 ?_)
              refine ite_f (by decide +kernel) (gb_nil ?_)
              refine gb_one (gs_if (gt_cmp (ge_ix (ge_var 6 rfl rfl (ge_int (i2_tup hda12 (atI_n (n := 0) rfl) (lst_k (ga_cons (ge_str (ga_cons (ge_str (ga_nil ⟨Nat.le_of_ble_eq_true rfl, fun l13 H13 hl13 e13 h13 => ?_⟩))))))))))))
              refine o2_in (.inl (Evl.sq_of h13)) rfl rfl ⟨_, rfl, ?_⟩
              refine ite_f (by decide +kernel) (gb_nil (hD _ _ ?_))
              exact last H13 (z.wB F' Fs') _ rfl rfl rfl (pc11.ex e13) (due11.ex e13).dp ((outs9.ex e911).ex e13) (fr11.trans (Fr.ex e13)) (bag11.ex e13)
            | @wire i x L tp hL =>
              have hda12 : SqT K H11 da (.str "wire" :: dr) := hda11
              refine gb_cons (gs_nmif 6 rfl rfl hda12 ?_)
              refine ite_f (by decide +kernel) (gb_nil ?_)
              refine gb_one (gs_if (gt_cmp (ge_ix (ge_var 6 rfl rfl (ge_int (i2_tup hda12 (atI_n (n := 0) rfl) (lst_k (ga_cons (ge_str (ga_cons (ge_str (ga_nil ⟨Nat.le_of_ble_eq_true rfl, fun l13 H13 hl13 e13 h13 => ?_⟩))))))))))))
              refine o2_in (.inl (Evl.sq_of h13)) rfl rfl ⟨_, rfl, ?_⟩
              refine ite_f (by decide +kernel) (gb_nil (hD _ _ ?_))
              exact last H13 (z.wB F' Fs') _ rfl rfl rfl (pc11.ex e13) (due11.ex e13).dp ((outs9.ex e911).ex e13) (fr11.trans (Fr.ex e13)) (bag11.ex e13)
            | @gear i m x hx hg =>
              have hda12 : SqT K H11 da (.str "gear" :: dr) := hda11
              refine gb_cons (gs_nmif 6 rfl rfl hda12 ?_)
              refine ite_f (by decide +kernel) (gb_nil ?_)
              refine gb_one (gs_if (gt_cmp (ge_ix (ge_var 6 rfl rfl (ge_int (i2_tup hda12 (atI_n (n := 0) rfl) (lst_k (ga_cons (ge_str (ga_cons (ge_str (ga_nil ⟨Nat.le_of_ble_eq_true rfl, fun l13 H13 hl13 e13 h13 => ?_⟩))))))))))))
              refine o2_in (.inl (Evl.sq_of h13)) rfl rfl ⟨_, rfl, ?_⟩
              refine ite_f (by decide +kernel) (gb_nil (hD _ _ ?_))
              exact last H13 (z.wB F' Fs') _ rfl rfl rfl (pc11.ex e13) (due11.ex e13).dp ((outs9.ex e911).ex e13) (fr11.trans (Fr.ex e13)) (bag11.ex e13)
            | @ends i l =>
              have hda12 : SqT K H11 da (.str "ends" :: dr) := hda11
              refine gb_cons (gs_nmif 6 rfl rfl hda12 ?_)
              refine ite_f (by decide +kernel) (gb_nil ?_)
              refine gb_one (gs_if (gt_cmp (ge_ix (ge_var 6 rfl rfl (ge_int (i2_tup hda12 (atI_n (n := 0) rfl) (lst_k (ga_cons (ge_str (ga_cons (ge_str (ga_nil ⟨Nat.le_of_ble_eq_true rfl, fun l13 H13 hl13 e13 h13 => ?_⟩))))))))))))
              refine o2_in (.inl (Evl.sq_of h13)) rfl rfl ⟨_, rfl, ?_⟩
              refine ite_f (by decide +kernel) (gb_nil (hD _ _ ?_))
              exact last H13 (z.wB F' Fs') _ rfl rfl rfl (pc11.ex e13) (due11.ex e13).dp ((outs9.ex e911).ex e13) (fr11.trans (Fr.ex e13)) (bag11.ex e13)
            | @out i ho =>
              have hda12 : SqT K H11 da (.str "out" :: dr) := hda11
              have hi : i < n := hd
              refine gb_cons (gs_nmif 6 rfl rfl hda12 ?_)
              refine ite_f (by decide +kernel) (gb_nil ?_)
              refine gb_one (gs_if (gt_cmp (ge_ix (ge_var 6 rfl rfl (ge_int (i2_tup hda12 (atI_n (n := 0) rfl) (lst_k (ga_cons (ge_str (ga_cons (ge_str (ga_nil ⟨Nat.le_of_ble_eq_true rfl, fun l13 H13 hl13 e13 h13 => ?_⟩))))))))))))
              refine o2_in (.inl (Evl.sq_of h13)) rfl rfl ⟨_, rfl, ?_⟩
              refine ite_t (by decide +kernel) ?_
              have hv13 := (hv9.ex e911).ex e13
              obtain ⟨da', xs, hdae, hdx, hxs⟩ := hv13.tupE
              cases hdae
              obtain ⟨xa, r, rfl, hxa, hxs⟩ := hxs.consE
              obtain ⟨ya, r, rfl, hya, hxs⟩ := hxs.consE
              cases hxs.nilE
              cases hxa.strE
              cases hya.intE
              have pc13 := pc11.ex e13
              obtain ⟨ob, ob1, ob2⟩ := (outs9.ex e911).ex e13
              have obl : ob.length = n := by rw [ob2.length]; exact hbl
              refine gb_one (gs_dput hu (ge_bin (ge_bin (ge_slL (ge_var 3 rfl rfl (go_none (go_some (ge_ix (ge_var 6 rfl rfl (ge_int (i2_tup hdx (atI_n (n := 1) rfl) ⟨_, rfl, z.o, ob, rfl, Evl.sq_of ob1, fun p1 G1 hp1 g1 k1 => ?_⟩)))))))))))
              rw [cut_to (by omega)] at k1
              refine lst_k (ga_cons (ge_cmp (ge_ix (ge_var 6 rfl rfl (ge_int (i2_tup (Evl.ex_t g1 hdx) (atI_n (n := 0) rfl) (ge_str (o2_eqs ?_))))))))
              refine ga_nil ⟨Nat.le_of_ble_eq_true rfl, fun p2 G2 hp2 g2 k2 => ?_⟩
              refine o2_cat (g2 _ _ k1) k2 (by rw [List.length_take]; simp; omega) fun p3 G3 hp3 g3 k3 => ?_
              have g13 := (g1.trans g2).trans g3
              refine ge_slL (ge_var 3 rfl rfl (go_some (ge_bin (ge_ix (ge_var 6 rfl rfl (ge_int (i2_tup (Evl.ex_t g13 hdx) (atI_n (n := 1) rfl) (ge_int (o2_add ⟨_, rfl, go_none ⟨z.o, ob, rfl, Evl.sq_of (g13 _ _ ob1), fun p4 G4 hp4 g4 k4 => ?_⟩⟩)))))))))
              rw [show (i : Int) + 1 = ((i + 1 : Nat) : Int) by omega, cut_from (by omega)] at k4
              refine o2_cat (g4 _ _ k3) k4 (by rw [List.length_append, List.length_take, List.length_drop]; simp; omega) fun p5 G5 hp5 g5 k5 => ?_
              have g15 := (g13.trans g4).trans g5
              have pc15 := pc13.ex g15
              have e15 := e13.trans g15
              have new5 : LA K G5 p5 (boolsD (S.outs.set i true)) := by
                refine ⟨_, k5, ?_⟩
                have := ((ob2.ex g15).take (i := i)).append (.cons (TD.bl (K := K) (H := G5) (decide ((Str.ofString "out") = (Str.ofString "out")))) .nil) |>.append ((ob2.ex g15).drop (i := i + 1))
                rw [splice (ds := boolsD S.outs) (by rw [hbl]; exact hi), bools_set, show decide ((Str.ofString "out") = (Str.ofString "out")) = true by decide +kernel] at this
                exact this
              have np5 : (z.wB F' Fs').N R1 p5 := ⟨fun hm => (pc13.nt p5 hm).dom (Evl.fresh_back (g13.trans g4) hp5), fun hm => ra9 p5 hm (Evl.fresh_back (((e911.trans e13).trans g13).trans g4) hp5)⟩
              refine ge_var 1 rfl rfl (ge_str ⟨z.pl, _, rfl, dput_of pc15.dict (by show 4 ≤ 1000; decide) kv_puto, hD _ _ ?_⟩)
              have pc16 : PlC K (upd G5 z.pl (.dK (kvP z.b p5 z.sh z.lp))) C R1 { (z.wB F' Fs') with o := p5, sh := z.sh } _ (past ++ [S]) (S.outs.set i true) (past ++ [S]) := pc15.dput (o' := p5) (sh' := z.sh) new5 np5
              have fpl : Fr [z.pl] G5 (upd G5 z.pl (.dK (kvP z.b p5 z.sh z.lp))) := Fr.upd (by simp)
              have tkp : Tk K G5 (upd G5 z.pl (.dK (kvP z.b p5 z.sh z.lp))) := fp_tk pc15 pl_mem
              have due16 := (due11.ex e15).fr fpl tkp (fun x hx hm => by
                have e : x = z.pl := by simpa using hm
                rcases hx with hx | hx
                · exact hx.1 (by rw [e]; exact pl_mem (z := z.wB F' Fs'))
                · rw [e] at hx
                  exact (pc9.nt z.pl pl_mem).dom (Evl.fresh_back e10 hx))
              have o16 : LA K (upd G5 z.pl (.dK (kvP z.b p5 z.sh z.lp))) z.o (boolsD S.outs) := LA.fr ⟨ob, g15 _ _ ob1, ob2.ex g15⟩ fpl tkp (fun hm => by
                have e : z.o = z.pl := by simpa using hm
                exact pc9.outn.1 (by show z.o ∈ (z.wB F' Fs').fp; rw [e]; exact pl_mem (z := z.wB F' Fs')))
              have bag16 : BagAt (upd G5 z.pl (.dK (kvP z.b p5 z.sh z.lp))) bag (k0 + 30 + 1) := (bag11.ex e15).fr fpl (by
                have : bag ≠ z.pl := fun e => bagM (by rw [e]; exact pl_mem)
                simpa using this)
              exact last _ { (z.wB F' Fs') with o := p5, sh := z.sh } _ rfl rfl rfl pc16 due16.dp o16 ((fr11.trans (Fr.ex e15)).trans (Fr.upd (List.mem_cons_of_mem _ pl_mem))) bag16
            | @into i ho =>
              have hda12 : SqT K H11 da (.str "into" :: dr) := hda11
              have hi : i < n := hd
              refine gb_cons (gs_nmif 6 rfl rfl hda12 ?_)
              refine ite_f (by decide +kernel) (gb_nil ?_)
              refine gb_one (gs_if (gt_cmp (ge_ix (ge_var 6 rfl rfl (ge_int (i2_tup hda12 (atI_n (n := 0) rfl) (lst_k (ga_cons (ge_str (ga_cons (ge_str (ga_nil ⟨Nat.le_of_ble_eq_true rfl, fun l13 H13 hl13 e13 h13 => ?_⟩))))))))))))
              refine o2_in (.inl (Evl.sq_of h13)) rfl rfl ⟨_, rfl, ?_⟩
              refine ite_t (by decide +kernel) ?_
              have hv13 := (hv9.ex e911).ex e13
              obtain ⟨da', xs, hdae, hdx, hxs⟩ := hv13.tupE
              cases hdae
              obtain ⟨xa, r, rfl, hxa, hxs⟩ := hxs.consE
              obtain ⟨ya, r, rfl, hya, hxs⟩ := hxs.consE
              cases hxs.nilE
              cases hxa.strE
              cases hya.intE
              have pc13 := pc11.ex e13
              obtain ⟨ob, ob1, ob2⟩ := (outs9.ex e911).ex e13
              have obl : ob.length = n := by rw [ob2.length]; exact hbl
              refine gb_one (gs_dput hu (ge_bin (ge_bin (ge_slL (ge_var 3 rfl rfl (go_none (go_some (ge_ix (ge_var 6 rfl rfl (ge_int (i2_tup hdx (atI_n (n := 1) rfl) ⟨_, rfl, z.o, ob, rfl, Evl.sq_of ob1, fun p1 G1 hp1 g1 k1 => ?_⟩)))))))))))
              rw [cut_to (by omega)] at k1
              refine lst_k (ga_cons (ge_cmp (ge_ix (ge_var 6 rfl rfl (ge_int (i2_tup (Evl.ex_t g1 hdx) (atI_n (n := 0) rfl) (ge_str (o2_eqs ?_))))))))
              refine ga_nil ⟨Nat.le_of_ble_eq_true rfl, fun p2 G2 hp2 g2 k2 => ?_⟩
              refine o2_cat (g2 _ _ k1) k2 (by rw [List.length_take]; simp; omega) fun p3 G3 hp3 g3 k3 => ?_
              have g13 := (g1.trans g2).trans g3
              refine ge_slL (ge_var 3 rfl rfl (go_some (ge_bin (ge_ix (ge_var 6 rfl rfl (ge_int (i2_tup (Evl.ex_t g13 hdx) (atI_n (n := 1) rfl) (ge_int (o2_add ⟨_, rfl, go_none ⟨z.o, ob, rfl, Evl.sq_of (g13 _ _ ob1), fun p4 G4 hp4 g4 k4 => ?_⟩⟩)))))))))
              rw [show (i : Int) + 1 = ((i + 1 : Nat) : Int) by omega, cut_from (by omega)] at k4
              refine o2_cat (g4 _ _ k3) k4 (by rw [List.length_append, List.length_take, List.length_drop]; simp; omega) fun p5 G5 hp5 g5 k5 => ?_
              have g15 := (g13.trans g4).trans g5
              have pc15 := pc13.ex g15
              have e15 := e13.trans g15
              have new5 : LA K G5 p5 (boolsD (S.outs.set i false)) := by
                refine ⟨_, k5, ?_⟩
                have := ((ob2.ex g15).take (i := i)).append (.cons (TD.bl (K := K) (H := G5) (decide ((Str.ofString "into") = (Str.ofString "out")))) .nil) |>.append ((ob2.ex g15).drop (i := i + 1))
                rw [splice (ds := boolsD S.outs) (by rw [hbl]; exact hi), bools_set, show decide ((Str.ofString "into") = (Str.ofString "out")) = false by decide +kernel] at this
                exact this
              have np5 : (z.wB F' Fs').N R1 p5 := ⟨fun hm => (pc13.nt p5 hm).dom (Evl.fresh_back (g13.trans g4) hp5), fun hm => ra9 p5 hm (Evl.fresh_back (((e911.trans e13).trans g13).trans g4) hp5)⟩
              refine ge_var 1 rfl rfl (ge_str ⟨z.pl, _, rfl, dput_of pc15.dict (by show 4 ≤ 1000; decide) kv_puto, hD _ _ ?_⟩)
              have pc16 : PlC K (upd G5 z.pl (.dK (kvP z.b p5 z.sh z.lp))) C R1 { (z.wB F' Fs') with o := p5, sh := z.sh } _ (past ++ [S]) (S.outs.set i false) (past ++ [S]) := pc15.dput (o' := p5) (sh' := z.sh) new5 np5
              have fpl : Fr [z.pl] G5 (upd G5 z.pl (.dK (kvP z.b p5 z.sh z.lp))) := Fr.upd (by simp)
              have tkp : Tk K G5 (upd G5 z.pl (.dK (kvP z.b p5 z.sh z.lp))) := fp_tk pc15 pl_mem
              have due16 := (due11.ex e15).fr fpl tkp (fun x hx hm => by
                have e : x = z.pl := by simpa using hm
                rcases hx with hx | hx
                · exact hx.1 (by rw [e]; exact pl_mem (z := z.wB F' Fs'))
                · rw [e] at hx
                  exact (pc9.nt z.pl pl_mem).dom (Evl.fresh_back e10 hx))
              have o16 : LA K (upd G5 z.pl (.dK (kvP z.b p5 z.sh z.lp))) z.o (boolsD S.outs) := LA.fr ⟨ob, g15 _ _ ob1, ob2.ex g15⟩ fpl tkp (fun hm => by
                have e : z.o = z.pl := by simpa using hm
                exact pc9.outn.1 (by show z.o ∈ (z.wB F' Fs').fp; rw [e]; exact pl_mem (z := z.wB F' Fs')))
              have bag16 : BagAt (upd G5 z.pl (.dK (kvP z.b p5 z.sh z.lp))) bag (k0 + 30 + 1) := (bag11.ex e15).fr fpl (by
                have : bag ≠ z.pl := fun e => bagM (by rw [e]; exact pl_mem)
                simpa using this)
              exact last _ { (z.wB F' Fs') with o := p5, sh := z.sh } _ rfl rfl rfl pc16 due16.dp o16 ((fr11.trans (Fr.ex e15)).trans (Fr.upd (List.mem_cons_of_mem _ pl_mem))) bag16
          refine gb_cons (gs_if (gt_w (gw_and (gt_cmp (ge_ix (ge_var 6 rfl rfl (ge_int (i2_tup hda9 (atI_n (n := 0) rfl) (ge_str (o2_eqs ⟨_, rfl, ?_⟩))))))))))
          by_cases hck : dname d = "click"
          · rw [decide_eq_true hck]
            refine iteT (gw_and1 (gt_not (gt_val (ge_call DM (hr.mono (by decide)) pass0 (ga_cons (ge_var 4 rfl rfl (ga_cons (ge_var 9 rfl rfl ?_))))))))
            obtain ⟨m, rfl⟩ : ∃ m, d = .click m := click_of hck
            obtain ⟨M, hM, h1, h2, h3⟩ := ef.clickE
            obtain ⟨q, rfl, hqR, hqH, hqM⟩ := rq9 M hM
            obtain ⟨da', xs, hdae, hdx, hxs⟩ := hv9.tupE
            cases hdae
            obtain ⟨xa, r, rfl, hxa, hxs⟩ := hxs.consE
            obtain ⟨ya, r, rfl, hya, hxs⟩ := hxs.consE
            cases hxs.nilE
            refine ga_cons (ge_var 3 rfl rfl (ga_cons (ge_ix (ge_var 6 rfl rfl (ge_int (i2_tup hdx (atI_n (n := 1) rfl) ?_))))))
            have hMl : M.length = n := h1.1.trans ok.len.r
            have hM2 : ∀ x ∈ M, Red x ∧ Nz 401 x := fun x hx => by
              obtain ⟨j, hj, rfl⟩ := List.getElem_of_mem hx
              have hjn : j < n := by omega
              have h4 := h3 _ (List.getElem_mem hj)
              have h5 := h2 j hjn
              rw [show M.getD j n0 = M[j] by rw [List.getD_eq_getElem?_getD, List.getElem?_eq_getElem hj]; rfl] at h5
              exact ⟨h4.1, move_nz (getD_all ok.st (by rw [ok.len.s]; exact hjn)) h5 h4.1 h4.2⟩
            refine ga_nil ⟨_, z.sh, q, z.o, ya, S, _, n, m, M, rfl, shot9, hqM, outs9, hya, ok, h1, hM2, fun H10 e10 => ⟨true, rfl, ?_⟩⟩
            refine ite_nt (gb_nil ?_)
            refine step2 _ H10 ?_ e10
            exact fun σ H h => h
          · rw [decide_eq_false hck]
            refine iteF (iteF (gb_nil ?_))
            refine step2 _ H9 ?_ (Evl.Ex.refl _)
            exact fun σ H h => h
      · -- refused
        have pc6 := pc5.ex e6
        have shot6 := shot5.ex e6
        have hv6 := hv.ex e6
        have hne : x ≠ "told" := by
          intro e
          subst e
          exact told_na d hx
        refine gb_cons (gs_set 8 sc_L_done.nd rfl (ge_var 4 rfl rfl ?_))
        refine gb_cons (gs_if (gt_cmp (ge_ix (ge_var 7 rfl rfl (ge_int (i2_tup ht (atI_n (n := 0) rfl) (ge_str (o2_nes ⟨_, rfl, ?_⟩))))))))
        rw [decide_eq_false hne]
        refine ite_nf (gb_one (gs_if (gt_w (gw_or (gt_not (gt_val (ge_call DK (hr.mono (by decide)) pass0 (ga_cons (ge_var 6 rfl rfl (ga_cons (ge_var 7 rfl rfl (ga_nil ?_)))))))))))) 
        refine ⟨v, d, t, x, rest, rfl, hv6, ht, hx, fun H7 e7 => ⟨true, rfl, ite_nt (gw_or1 (gt_w (gw_and ?_)))⟩⟩
        obtain ⟨da, dr, rfl, hda⟩ := deed_hd (hv6.ex e7)
        have pc7 := pc6.ex e7
        have last : ∀ H8, Ex H7 H8 → GB (cxOf CX0 P w K mg base n_L_done "_law_done" (defScope s_L_done) f cdv A outer s H E).nox ((defBody s_L_done).drop 7) { nx := fun _ H' => Q .non H', rt := Q }
            [some (.ref bag), some (.ref z.pl), some (.ref z.b), some (.ref z.o), some (.ref z.sh), some (.ref z.lp), some (.ref da), some (.ref t), some (.ref z.sh), none, none] H8 := fun H8 e8 =>
          fin H8 z S past (.ref z.sh) _ _ _ (boolsD S.outs) rfl rfl (pc7.ex e8) ((shot6.ex e7).ex e8).dp (pc7.ex e8).outs (by unfold boolsD; rw [List.length_map]; exact ok.len.o) (fr5.trans (Fr.ex ((e6.trans e7).trans e8))) (fun a ha => .inl ha) ((bag5.ex ((e6.trans e7).trans e8)).mono (by omega)) sb po (by omega)
        refine gt_cmp (ge_ix (ge_var 6 rfl rfl (ge_int (i2_tup hda (atI_n (n := 0) rfl) (ge_str (o2_eqs ⟨_, rfl, ?_⟩))))))
        by_cases hun : dname d = "undo"
        · rw [decide_eq_true hun]
          have hud : isUndo d = true := undo_of hun
          have hpe := hux hud
          subst hpe
          obtain ⟨ts, l1, l2, l3⟩ := pc7.lst
          have hts : ts = [] := List.length_eq_zero_iff.mp l2
          subst hts
          refine iteT (gw_and1 (gt_cmp (ge_var 5 rfl rfl (lst_k (ga_nil ⟨Nat.le_of_ble_eq_true rfl, fun q8 H8 hq8 e8 h8 => ?_⟩)))))
          refine o2_neNil (Nat.lt_of_succ_lt hu) (Evl.sq_of (e8 _ _ l1)) (Evl.sq_of h8) ⟨_, rfl, ?_⟩
          exact ite_nt (gb_nil (last H8 e8))
        · rw [decide_eq_false hun]
          exact iteF (iteF (gb_nil (last H7 (Evl.Ex.refl _))))
    refine ge_int (o2_eqi ⟨_, rfl, ite_d (fun h0 => ?_) fun h0 => ?_⟩)
    · refine gb_one (gs_set 6 sc_L_done.nd rfl (tup_k (ga_cons (ge_str (ga_nil ⟨Nat.le_of_ble_eq_true rfl, fun t5 H5 ht5 e5 h5 => ?_⟩)))))
      exact main H5 (.ref t5) .undo e5 (.tup (Evl.st_of h5) (.cons (.str _) .nil)) trivial
    · exact gb_nil (main H4 v d0 (Evl.Ex.refl _) hv4 hd0)
end
end RD
namespace RD
open PySem PySem.Spec PyProof.Rows L2 L2H
/-- a place as the law keeps it -/
def PlS (K : PySem.W.Frag) (H : Hp) (C : Addr) (R : List Addr) (z : PlA) (n j : Nat) : Prop := ∃ S past, PlC K H C R z S past S.outs past ∧ ShotAt K H (z.N R) z.sh S past.length ∧ past.length ≤ j ∧ SBk S n past.length ∧ PastOk n past ∧ 1 ≤ n
/-- two places -/
structure Two (K : PySem.W.Frag) (H : Hp) (C bag plc : Addr) (ps : List V) (z1 z2 : PlA) (n1 n2 k j : Nat) : Prop where
  bg : BagAt H bag k
  lst : H plc = some (.lst ps)
  p1 : PlS K H C (bag :: z2.fp) z1 n1 j
  p2 : PlS K H C (bag :: z1.fp) z2 n2 j
  b1 : bag ∉ z1.fp
  b2 : bag ∉ z2.fp
  c0 : plc ≠ bag
  c1 : plc ∉ z1.fp
  c2 : plc ∉ z2.fp
  dj : ∀ a ∈ z1.fp, a ∉ z2.fp
section
variable {K : PySem.W.Frag} {H H' : Hp} {C bag plc : Addr} {ps : List V} {z1 z2 z1' z2' : PlA} {n1 n2 k k' j j' : Nat} {R R' : List Addr} {z : PlA} {n : Nat}
theorem Two.swap (t : Two K H C bag plc ps z1 z2 n1 n2 k j) : Two K H C bag plc ps z2 z1 n2 n1 k j := ⟨t.bg, t.lst, t.p2, t.p1, t.b2, t.b1, t.c0, t.c2, t.c1, fun a h1 h2 => t.dj a h2 h1⟩
theorem PlS.ex (h : PlS K H C R z n j) (e : Ex H H') : PlS K H' C R z n j := let ⟨S, past, h1, h2, h3⟩ := h; ⟨S, past, h1.ex e, h2.ex e, h3⟩
theorem PlS.nt (h : PlS K H C R z n j) : ∀ a ∈ z.fp, NT H a := let ⟨_, _, h1, _⟩ := h; h1.nt
theorem PlS.mono (h : PlS K H C R z n j) (hj : j ≤ j') : PlS K H C R z n j' := let ⟨S, past, h1, h2, h3, h4⟩ := h; ⟨S, past, h1, h2, by omega, h4⟩
theorem Two.ex (t : Two K H C bag plc ps z1 z2 n1 n2 k j) (e : Ex H H') : Two K H' C bag plc ps z1 z2 n1 n2 k j := ⟨t.bg.ex e, e _ _ t.lst, t.p1.ex e, t.p2.ex e, t.b1, t.b2, t.c0, t.c1, t.c2, t.dj⟩
theorem PlS.setN (h : PlS K H C R z n j) (i : ∀ x, H x ≠ none → z.N R x → z.N R' x) : PlS K H C R' z n j := by
  obtain ⟨S, past, h1, h2, h3⟩ := h
  exact ⟨S, past, h1.setN rfl rfl rfl rfl rfl h1.bench i h1.ap.2, h2.imp i, h3⟩
theorem PlS.fr {M : List Addr} (h : PlS K H C R z n j) (f : Fr M H H') (nt : ∀ a ∈ M, NT H a) (sub : ∀ a ∈ M, a ∈ R) (dj : ∀ a ∈ z.fp, a ∉ R) : PlS K H' C R z n j := by
  obtain ⟨S, past, h1, h2, h3⟩ := h
  exact ⟨S, past, h1.fr f nt sub dj, h2.fr f (f.tk nt) fun x hx hm => hx.2 (sub x hm), h3⟩
/-- a deed on the first place -/
theorem Two.step (t : Two K H C bag plc ps z1 z2 n1 n2 k j) (hj : j ≤ j') (f : Fr (bag :: z1.fp) H H') (p1' : PlS K H' C (bag :: z2.fp) z1' n1 j') (nf : ∀ a ∈ z1'.fp, a ∈ z1.fp ∨ H a = none) (bg : BagAt H' bag k') : Two K H' C bag plc ps z1' z2 n1 n2 k' j' := by
  have nt1 := t.p1.nt
  have nt2 := t.p2.nt
  have ntM : ∀ a ∈ bag :: z1.fp, NT H a := fun a ha => by
    rcases List.mem_cons.mp ha with h | h
    · rw [h]; exact t.bg.nt
    · exact nt1 a h
  have out : ∀ x, H x ≠ none → x ∉ z1.fp → x ∉ z1'.fp := fun x hx h1 h2 => (nf x h2).elim h1 hx
  have d2 : ∀ a ∈ z2.fp, a ∉ bag :: (z1.fp ++ z1'.fp) := fun a ha hm => by
    rcases List.mem_cons.mp hm with h | h
    · exact t.b2 (h ▸ ha)
    · rcases List.mem_append.mp h with h | h
      · exact t.dj a h ha
      · exact out a (nt2 a ha).dom (fun h => t.dj a h ha) h
  have q1 : PlS K H C (bag :: (z1.fp ++ z1'.fp)) z2 n2 j := t.p2.setN fun x hx hn => ⟨hn.1, fun hm => by
    rcases List.mem_cons.mp hm with h | h
    · exact hn.2 (by rw [h]; exact List.mem_cons_self)
    · rcases List.mem_append.mp h with h | h
      · exact hn.2 (List.mem_cons_of_mem _ h)
      · exact out x hx (fun h => hn.2 (List.mem_cons_of_mem _ h)) h⟩
  have q2 := q1.fr f ntM (fun a ha => by
    rcases List.mem_cons.mp ha with h | h
    · rw [h]; exact List.mem_cons_self
    · exact List.mem_cons_of_mem _ (List.mem_append_left _ h)) d2
  have q3 : PlS K H' C (bag :: z1'.fp) z2 n2 j := q2.setN fun x _ hn => ⟨hn.1, fun hm => hn.2 (by
    rcases List.mem_cons.mp hm with h | h
    · rw [h]; exact List.mem_cons_self
    · exact List.mem_cons_of_mem _ (List.mem_append_right _ h))⟩
  have plcd : H plc ≠ none := by rw [t.lst]; intro z; cases z
  exact ⟨bg, f.keep _ _ t.lst (fun hm => (List.mem_cons.mp hm).elim t.c0 t.c1), p1', q3.mono hj, out bag t.bg.nt.dom t.b1, t.b2, t.c0, out plc plcd t.c1, t.c2, fun a h1 h2 => out a (nt2 a h2).dom (fun h => t.dj a h h2) h1⟩
theorem stand_self {rs : Rows} : standR rs (rs.map (·.1)) = rs := by
  refine List.ext_getElem? fun i => ?_
  by_cases hi : i < rs.length
  · rw [List.getElem?_eq_getElem (by rw [stand_len]; exact hi), stand_at hi, List.getElem?_eq_getElem hi]
    rw [List.getD_eq_getElem?_getD, List.getElem?_map, List.getD_eq_getElem?_getD, List.getElem?_eq_getElem hi]
    rfl
  · rw [List.getElem?_eq_none (by rw [stand_len]; omega), List.getElem?_eq_none (by omega)]
theorem bs0_ok {rs : Rows} (m : MOk rs) : SBk (bs0 rs) rs.length 0 := by
  refine ⟨⟨⟨rfl, by show (List.map _ _).length = _; rw [List.length_map], by show (List.replicate _ _).length = _; rw [List.length_replicate], by show (List.replicate _ _).length = _; rw [List.length_replicate], by show (List.replicate _ _).length = _; rw [List.length_replicate]⟩, m.n5, fun y hy => ⟨(m.rows y hy).1, (m.rows y hy).2.1⟩, m.tp, fun x hx => ?_, fun l hl => ?_⟩, fun i hi => ?_⟩
  · obtain ⟨y, hy, rfl⟩ := List.mem_map.mp hx
    exact (m.rows y hy).2.1.mono (by decide)
  · rw [(List.mem_replicate.mp hl).2]
    exact ⟨(fun _ h => by cases h), (fun _ h => by cases h)⟩
  · show SumOk 0 ((List.replicate rs.length n0).getD i n0) ((rs.map (·.1)).getD i n0)
    have e1 : (List.replicate rs.length n0).getD i n0 = n0 := by rw [List.getD_eq_getElem?_getD, List.getElem?_replicate, if_pos hi]; rfl
    have e2 : (rs.map (·.1)).getD i n0 = rs[i].1 := by rw [List.getD_eq_getElem?_getD, List.getElem?_map, List.getElem?_eq_getElem hi]; rfl
    rw [e1, e2]
    exact SumOk.start (m.rows _ (List.getElem_mem hi)).2.1
end
end RD
namespace RD
open PySem PySem.Spec PyProof.Rows L2 L2H
section
variable {P : Program} {w : World} {K : PySem.W.Frag} {mg : Str → Option Value} {base : Heap} {f : Addr} {fd : FuncData} {C : Addr}
/-- a place that is made -/
theorem new_place {H9 : Hp} {R : List Addr} {z : PlA} {rs : Rows} (mok : MOk rs) (dict : H9 z.pl = some (.dK (kvP z.b z.o z.sh z.lp))) (B : BenchAt K H9 C z.b z.dx z.p z.F [] (bs0 rs) []) (hFs : z.Fs = []) (ho : LA K H9 z.o (boolsD (List.replicate rs.length false))) (hlp : H9 z.lp = some (.lst []))
    (hs : ShotAt K H9 (z.N R) z.sh (bs0 rs) 0) (on : z.N R z.o) (ap : z.pl ≠ z.lp ∧ z.pl ∉ z.fb ∧ z.lp ∉ z.fb) : PlS K H9 C R z rs.length 0 := by
  refine ⟨bs0 rs, [], ⟨dict, by rw [hFs]; exact B, ho, on, ⟨[], hlp, rfl, fun i t Si h => by simp at h⟩, ap⟩, hs, Nat.le_refl _, bs0_ok mok, fun j S h => by simp at h, mok.pos⟩
theorem kv_merge {b o sh lp : Addr} : mergeK [] [((Sum.inr "bench" : Key), V.ref b), (Sum.inr "outs", .ref o), (Sum.inr "shot", .ref sh), (Sum.inr "past", .ref lp)] = kvP b o sh lp := by kernel_rfl
/-- the body that makes a place -/
def bodyTurn : List Stmt := forBody ((forBody ((defBody s_law)[0]?))[2]?)
theorem turn_walk (T : Tx K mg) (DT : Df P w K mg base CX0 1 "_law_take" ["_law_bag_here", "_law_many"] spTake) (DM : Df P w K mg base CX0 3 "_law_machine" ["_law_bag_here", "_law_most", "_law_even", "_law_kind"] (spMach (K := K)))
    (DB : Mn P w K mg base CX0 1 "Bench" C ["self", "machine"] (spInit (K := K) (C := C))) {cdv : Value} {A : Around} {outer : List Env} {s : Shared} {H0 : Hp} {E : XK} (hr : Room 9 (A.deeper (envOfC "law" (defScope s_law) s.heap.objs.size f cdv)))
    {D : Ends} {H : Hp} {sc bag plc : Addr} {at_ tn : Int} {zs : List V} {k : Nat} {o5 o6 o7 o8 o9 o10 : Option V} (hbag : BagAt H bag k) (hk : k + 100 < 10000) (hp : H plc = some (.lst zs)) (hpb : plc ≠ bag) (hz : zs.length ≤ 10)
    (hD : ∀ (H' : Hp) (z : PlA) (n : Nat) (m6 s6 : V), Fr [bag, plc] H H' → BagAt H' bag (k + 70) → H' plc = some (.lst (zs ++ [.ref z.pl])) → (∀ R, (∀ a ∈ R, H a ≠ none) → PlS K H' C R z n 0) → (∀ a ∈ z.fp, H a = none) → D.nx [some (.ref sc), some (.int at_), some (.ref bag), some (.ref plc), some (.int tn), some m6, some s6, o7, o8, o9, o10] H') :
    GB (cxOf CX0 P w K mg base n_law "law" (defScope s_law) f cdv A outer s H0 E).nox bodyTurn D [some (.ref sc), some (.int at_), some (.ref bag), some (.ref plc), some (.int tn), o5, o6, o7, o8, o9, o10] H := by
  -- the machine
  refine gb_cons (gs_set 5 sc_law.nd rfl (ge_call DM (hr.mono (by decide)) pass0 (ga_cons (ge_var 2 rfl rfl (ga_cons (ge_int (ga_cons (ge_cmp (ge_call DT (hr.mono (by decide)) pass0 ?_)))))))))
  fail "rd"
  refine ⟨bag, k, 2, rfl, hbag, by omega, by decide, by decide, fun r1 H1 f1 bag1 c1 c2 => ?_⟩
  fail "rd"
  refine ⟨Nat.le_of_ble_eq_true rfl, fun l2 H2 hl2 e2 h2 => ?_⟩
  refine ge_call DT (hr.mono (by decide)) pass0 ?_
  fail "rd"
  refine ⟨bag, _, 3, rfl, bag1.ex e2, by omega, by decide, by decide, fun r3 H3 f3 bag3 c3 c4 => ?_⟩
  have nlb : l2 ≠ bag := fun z => by
    obtain ⟨_, _, _, hb, _⟩ := bag1
    rw [z, hb] at hl2
    cases hl2
  have h3 := f3.keep _ _ h2 (by simpa using nlb)
  obtain ⟨kd, hkd, hkd2⟩ : ∃ kd : Int, atI [V.int 0, V.int 1, V.int 3] r3 = some (.int kd) ∧ (kd = 0 ∨ kd = 1 ∨ kd = 3) := by
    have : r3 = 0 ∨ r3 = 1 ∨ r3 = 2 := by omega
    rcases this with rfl | rfl | rfl
    · exact ⟨0, rfl, .inl rfl⟩
    · exact ⟨1, rfl, .inr (.inl rfl)⟩
    · exact ⟨3, rfl, .inr (.inr rfl)⟩
  refine i2_lst (Evl.sq_of h3) hkd ?_
  refine ga_nil ⟨bag, _, _, kd, rfl, bag3, by omega, hkd2, fun m H4 rs hm f4 bag4 la4 mok => ?_⟩
  have f04 : Fr [bag] H H4 := ((f1.trans (Fr.ex e2)).trans f3).trans f4
  have hp4 := f04.keep _ _ hp (by simpa using hpb)
  -- the shot
  obtain ⟨ms, m1, m2⟩ := id la4
  have hml := rows_len m2
  have n5 := mok.n5
  refine gb_cons (gs_set 6 sc_law.nd rfl (lst_k (ga_cons (GL.ge <| gl_lcL rfl sc_law.nd (blkOk_by (N := n_law) (sc := defScope s_law) (by decide +kernel)) (ge_var 5 rfl rfl ?_) (fun _ _ _ _ _ => pg_name (i := 10) sc_law.nd rfl (Or.inl rfl))))))
  refine ⟨m, ms, fun i => nD (rs.getD i (n0, .src)).1, rfl, Evl.sq_of m1, by omega, fun i x H5 hx e5 => ⟨fun s0 G0 C' cl fp => ?_⟩, fun s5 H5 ys hs5 e5 h5 hy5 => ?_⟩
  · have hi : i < rs.length := by have := (List.getElem?_eq_some_iff.mp hx).1; omega
    obtain ⟨x', hx', hxd⟩ := rows_at m2 hi
    rw [hx] at hx'
    cases hx'
    obtain ⟨a, nm, x0, rest, rfl, ha, hx0, hrest, mk⟩ := (hxd.ex e5).rowW
    refine ge_ix (ge_var 10 rfl rfl (ge_int (i2_tup ha (atI_n (n := 1) rfl) ?_)))
    have : rs.getD i (n0, Row.src) = rs[i] := by rw [List.getD_eq_getElem?_getD, List.getElem?_eq_getElem hi]; rfl
    dsimp only
    rw [this]
    exact ⟨Evl.Ex.refl _, hx0⟩
  have la5 : LA K H5 s5 (numsD (rs.map (·.1))) := by
    refine ⟨ys, h5, ?_⟩
    rw [kept_all, hml] at hy5
    have e : (List.range rs.length).map (fun i => nD (rs.getD i (n0, .src)).1) = numsD (rs.map (·.1)) := by
      unfold numsD
      rw [List.map_map]
      exact range_map_get _ _ _ fun i x hx => by rw [List.getD_eq_getElem?_getD, hx]; rfl
    rw [e] at hy5
    exact hy5
  refine ga_cons (ge_var 5 rfl rfl (ga_cons (ge_bin (lst_k (ga_cons (tup_k ?_))))))
  fail "rd"
  refine ⟨Nat.le_of_ble_eq_true rfl, fun t6 H6 ht6 e6 h6 => ga_nil ⟨Nat.le_of_ble_eq_true rfl, fun l7 H7 hl7 e7 h7 => ?_⟩⟩
  refine ge_callB T.len boot_len (ga_cons (ge_var 5 rfl rfl (ga_nil (c1_lenL (Evl.sq_of ((e5.trans e6).trans e7 _ _ m1)) ?_))))
  rw [hml]
  refine o2_rep h7 (by omega) fun u8 H8 hu8 e8 h8 => ?_
  have e48 : Ex H4 H8 := ((e5.trans e6).trans e7).trans e8
  have la8u : LA K H8 u8 (numsD (List.replicate rs.length n0)) := by
    refine ⟨_, h8, ?_⟩
    have ht8 : TD K H8 (.ref t6) (nD n0) := TD.numI (n := n0) (Evl.st_of ((e7.trans e8) _ _ h6))
    have : ∀ j, TDs K H8 (List.replicate j (.ref t6)) (numsD (List.replicate j n0)) := fun j => by
      induction j with
      | zero => exact .nil
      | succ j ih => exact .cons ht8 ih
    exact this _
  refine ga_cons (ge_int (ga_nil ⟨Nat.le_of_ble_eq_true rfl, fun sh H9 hsh e9 h9 => ?_⟩))
  have e49 := e48.trans e9
  have fsh : H sh = none := f04.dom _ (Evl.fresh_back e48 hsh)
  have fs5 : H s5 = none := f04.dom _ hs5
  have fu8 : H u8 = none := f04.dom _ (Evl.fresh_back ((e5.trans e6).trans e7) hu8)
  have f09 : Fr [bag] H H9 := f04.trans (Fr.ex e49)
  have hp9 := e49 _ _ hp4
  have bag9 := bag4.ex e49
  have sh9 : ShotAt K H9 (fun x => H x = none ∧ H9 x ≠ none) sh (bs0 rs) 0 := by
    refine ⟨s5, m, u8, h9, la5.ex (((e6.trans e7).trans e8).trans e9), ?_, la8u.ex e9, ⟨fsh, by rw [h9]; intro z; cases z⟩, ⟨fs5, (la5.ex (((e6.trans e7).trans e8).trans e9)).nt.dom⟩, ⟨((f1.trans (Fr.ex e2)).trans f3).dom _ hm, (la4.ex e49).nt.dom⟩, ⟨fu8, (la8u.ex e9).nt.dom⟩⟩
    show LA K H9 m (rowsD (standR rs (rs.map (·.1))))
    rw [stand_self]
    exact la4.ex e49
  -- the place
  refine gb_one (gs_expr (ge_append (ge_var 3 rfl rfl ⟨plc, zs, rfl, Evl.sq_of hp9, ge_disp fun pl hpl => ?_⟩)))
  have eA : Ex H9 (upd H9 pl (.dK [])) := Evl.Ex.new hpl
  have plA : (upd H9 pl (.dK [])) pl = some (.dK []) := upd_same
  show GE _ _ _ (upd H9 pl (.dK [])) _
  generalize upd H9 pl (.dK []) = HA at eA plA
  refine ge_str ?_
  show GE _ _ _ _ _
  refine ge_make DB (hr.mono (by decide)) pass0 (ga_cons (ge_var 5 rfl rfl (ga_nil fun b dx hb hdx hdb => ?_)))
  have eB : Ex HA (upd (upd HA dx (.own b)) b (.ins C dx [])) := Evl.Ex.mut (Evl.Ex.new hdx) hb
  refine ⟨b, dx, m, rs, rfl, upd_same, la4.ex ((e49.trans eA).trans eB), n5, fun H11 p F B11 f11 nf11 => ⟨rfl, ?_⟩⟩
  have hbB : (upd (upd HA dx (.own b)) b (.ins C dx [])) b = some (.ins C dx []) := upd_same
  generalize upd (upd HA dx (.own b)) b (.ins C dx []) = HB at eB f11 nf11 hbB
  have kB : ∀ {a : Addr} {o : HO}, HA a = some o → H11 a = some o := fun {a o} h => f11.keep _ _ (eB _ _ h) (fun hm => by
    have e : a = b := by simpa using hm
    rw [e, hb] at h
    cases h)
  have eA11 : Ex HA H11 := fun a o h => kB h
  show GE _ _ _ _ _
  refine ge_str ?_
  show GE _ _ _ _ _
  refine ge_bin (lst_k (ga_cons (ge_bl (ga_nil ⟨Nat.le_of_ble_eq_true rfl, fun l12 H12 hl12 e12 h12 => ?_⟩))))
  have e4_12 : Ex H4 H12 := ((e49.trans eA).trans eA11).trans e12
  refine ge_callB T.len boot_len (ga_cons (ge_var 5 rfl rfl (ga_nil (c1_lenL (Evl.sq_of (e4_12 _ _ m1)) ?_))))
  rw [hml]
  refine o2_rep h12 (by omega) fun o H13 ho13 e13 h13 => ?_
  have la13 : LA K H13 o (boolsD (List.replicate rs.length false)) := by
    refine ⟨_, h13, ?_⟩
    have : ∀ j, TDs K H13 (List.replicate j (.bl false)) (boolsD (List.replicate j false)) := fun j => by
      induction j with
      | zero => exact .nil
      | succ j ih => exact .cons (.bl _) ih
    exact this _
  show GE _ _ _ _ _
  refine ge_str ?_
  show GE _ _ _ _ _
  refine ge_var 6 rfl rfl ?_
  show GE _ _ _ _ _
  refine ge_str ?_
  show GE _ _ _ _ _
  refine lst_k (ga_nil ⟨Nat.le_of_ble_eq_true rfl, fun lp H14 hlp e14 h14 => ?_⟩)
  have e11_14 : Ex H11 H14 := (e12.trans e13).trans e14
  have eA14 : Ex HA H14 := eA11.trans e11_14
  refine ⟨eA14 _ _ plA, [(Sum.inr "bench", .ref b), (Sum.inr "outs", .ref o), (Sum.inr "shot", .ref sh), (Sum.inr "past", .ref lp)], rfl, Nat.le_of_ble_eq_true rfl, ?_⟩
  rw [kv_merge]
  have e9_14 : Ex H9 H14 := eA.trans eA14
  have hp14 := e9_14 _ _ hp9
  have plp : pl ≠ plc := fun e => by rw [e, hp9] at hpl; cases hpl
  -- fresh ones
  have d9 : ∀ {a : Addr}, H9 a = none → H a = none := fun {a} h => f09.dom a h
  have fpl := d9 hpl
  have fb : H b = none := d9 (Evl.fresh_back eA hb)
  have d11 : ∀ {a : Addr}, H11 a = none → HA a = none := fun {a} h => Evl.fresh_back eA11 h
  have fo : H o = none := d9 (Evl.fresh_back eA (d11 (Evl.fresh_back e12 ho13)))
  have flp : H lp = none := d9 (Evl.fresh_back eA (d11 (Evl.fresh_back (e12.trans e13) hlp)))
  have fpF : ∀ a ∈ p :: F.list, HA a = none := fun a ha => Evl.fresh_back eB (nf11 a ha)
  have nb11 : ∀ a ∈ fpB b p F [], NT H11 a := B11.nt
  have fbs : ∀ a ∈ fpB b p F [], H a = none ∧ HA a = none := fun a ha => by
    rcases List.mem_cons.mp ha with h | h
    · rw [h]; exact ⟨fb, hb⟩
    · have h' : a ∈ p :: F.list := by simpa [fpB] using h
      exact ⟨d9 (Evl.fresh_back eA (fpF a h')), fpF a h'⟩
  refine ⟨zs, (upd_ne plp.symm).trans hp14, by omega, ?_⟩
  have pl14 := eA14 _ _ plA
  have h11lp : H11 lp = none := Evl.fresh_back (e12.trans e13) hlp
  have h11o : H11 o = none := Evl.fresh_back e12 ho13
  have nlb : lp ∉ fpB b p F [] := fun hm => (nb11 lp hm).dom h11lp
  have nob : o ∉ fpB b p F [] := fun hm => (nb11 o hm).dom h11o
  have npb : pl ∉ fpB b p F [] := fun hm => by rw [(fbs pl hm).2] at plA; cases plA
  have ncb : plc ∉ fpB b p F [] := fun hm => by rw [(fbs plc hm).1] at hp; cases hp
  have pll : pl ≠ lp := fun e => by
    have h := (eA11.trans (e12.trans e13)) _ _ plA
    rw [e, hlp] at h; cases h
  have plo : o ≠ pl := fun e => by rw [← e, d11 h11o] at plA; cases plA
  have oc : o ≠ plc := fun e => by rw [e] at fo; rw [fo] at hp; cases hp
  have lc' : lp ≠ plc := fun e => by rw [e] at flp; rw [flp] at hp; cases hp
  have ol : o ≠ lp := fun e => by rw [e, hlp] at h13; cases h13
  have nt14 : ∀ a ∈ [pl, plc], NT H14 a := fun a ha => by
    simp only [List.mem_cons, List.not_mem_nil, or_false] at ha
    rcases ha with h | h
    · rw [h]; exact .inr (.inr ⟨_, pl14⟩)
    · rw [h]; exact .inl ⟨_, hp14⟩
  have frF : Fr [pl, plc] H14 (upd (upd H14 pl (.dK (kvP b o sh lp))) plc (.lst (zs ++ [.ref pl]))) := (Fr.upd (by simp)).trans (Fr.upd (by simp))
  have tkF : Tk K H14 (upd (upd H14 pl (.dK (kvP b o sh lp))) plc (.lst (zs ++ [.ref pl]))) := frF.tk nt14
  have bag14 := bag9.ex e9_14
  have bgF : BagAt (upd (upd H14 pl (.dK (kvP b o sh lp))) plc (.lst (zs ++ [.ref pl]))) bag (k + 70) := (bag14.fr frF (fun hm => by
    simp only [List.mem_cons, List.not_mem_nil, or_false] at hm
    rcases hm with h | h
    · obtain ⟨_, _, _, hb', _⟩ := hbag
      rw [h, fpl] at hb'
      cases hb'
    · exact hpb h.symm)).mono (by omega)
  have hfr : Fr [bag, plc] H (upd (upd H14 pl (.dK (kvP b o sh lp))) plc (.lst (zs ++ [.ref pl]))) := (((f09.trans (Fr.ex e9_14)).mono (N := [bag, plc]) (fun a ha => by
    have e : a = bag := by simpa using ha
    rw [e]; simp)).mut fpl).trans (Fr.upd (by simp))
  refine hD _ ⟨pl, lp, o, sh, b, dx, p, F, []⟩ rs.length _ _ hfr bgF upd_same (fun R hR => ?_) fun a ha => ?_
  · have hRn : ∀ x, H x = none → x ∉ R := fun x hx hm => hR x hm hx
    have f9 : ∀ x ∈ (⟨pl, lp, o, sh, b, dx, p, F, []⟩ : PlA).fp, H9 x = none := fun x hx => by
      rcases List.mem_cons.mp hx with h | hx
      · rw [show x = pl from h]; exact hpl
      · rcases List.mem_cons.mp hx with h | hx
        · rw [show x = lp from h]; exact Evl.fresh_back eA (d11 h11lp)
        · exact Evl.fresh_back eA (fbs x hx).2
    refine new_place mok ?_ ?_ rfl ?_ ?_ ?_ ?_ ⟨pll, npb, nlb⟩
    · exact (upd_ne plp).trans upd_same
    · refine (B11.ex e11_14).keep tkF fun a ha => ?_
      rw [upd_ne (fun (e : a = plc) => ncb (by rw [← e]; exact ha)), upd_ne (fun (e : a = pl) => npb (by rw [← e]; exact ha))]
    · exact (la13.ex e14).keep tkF (by rw [upd_ne oc, upd_ne plo])
    · show (upd (upd H14 pl (.dK (kvP b o sh lp))) plc (.lst (zs ++ [.ref pl]))) lp = _
      rw [upd_ne lc', upd_ne pll.symm]
      exact h14
    · refine ((sh9.ex e9_14).fr frF tkF fun x hx hm => ?_).imp fun x _ hx => ⟨fun hm => hx.2 (f9 x hm), hRn x hx.1⟩
      simp only [List.mem_cons, List.not_mem_nil, or_false] at hm
      rcases hm with h | h
      · rw [h] at hx; exact hx.2 hpl
      · rw [h, hp] at hx; exact absurd hx.1 (by intro z; cases z)
    · refine ⟨fun hm => ?_, hRn o fo⟩
      rcases List.mem_cons.mp hm with h | hm
      · exact plo h
      · rcases List.mem_cons.mp hm with h | hm
        · exact ol h
        · exact nob hm
  · rcases List.mem_cons.mp ha with h | ha
    · rw [show a = pl from h]; exact fpl
    · rcases List.mem_cons.mp ha with h | ha
      · rw [show a = lp from h]; exact flp
      · exact (fbs a ha).1
end
end RD
namespace RD
open PySem PySem.Spec PyProof.Rows L2 L2H
theorem ex_fr {M : List Addr} {H0 H H' : Hp} (e : Ex H0 H) (f : Fr M H H') (n : ∀ a ∈ M, H0 a = none) : Ex H0 H' := fun a o h => f.keep a o (e a o h) fun hm => by rw [n a hm] at h; cases h
/-- what the steps keep -/
def Run (K : PySem.W.Frag) (Ha H : Hp) (C bag plc : Addr) (pl1 pl2 : Addr) (k j : Nat) : Prop := ∃ z1 z2 n1 n2, z1.pl = pl1 ∧ z2.pl = pl2 ∧ Two K H C bag plc [.ref pl1, .ref pl2] z1 z2 n1 n2 k j ∧ Ex Ha H ∧ (∀ a ∈ z1.fp, Ha a = none) ∧ (∀ a ∈ z2.fp, Ha a = none) ∧ Ha bag = none
theorem Run.ex {K : PySem.W.Frag} {Ha H H' : Hp} {C bag plc pl1 pl2 : Addr} {k j : Nat} (r : Run K Ha H C bag plc pl1 pl2 k j) (e : Ex H H') : Run K Ha H' C bag plc pl1 pl2 k j := by
  obtain ⟨z1, z2, n1, n2, a1, a2, t, a3, a4⟩ := r
  exact ⟨z1, z2, n1, n2, a1, a2, t.ex e, a3.trans e, a4⟩
theorem Run.take {K : PySem.W.Frag} {Ha H H' : Hp} {C bag plc pl1 pl2 : Addr} {k k' j : Nat} (r : Run K Ha H C bag plc pl1 pl2 k j) (f : Fr [bag] H H') (b : BagAt H' bag k') : Run K Ha H' C bag plc pl1 pl2 k' j := by
  obtain ⟨z1, z2, n1, n2, a1, a2, t, a3, a4, a5, a6⟩ := r
  have nb : ∀ a ∈ ([bag] : List Addr), NT H a := fun a ha => by
    have e : a = bag := by simpa using ha
    rw [e]; exact t.bg.nt
  have sb : ∀ {R : List Addr}, ∀ a ∈ ([bag] : List Addr), a ∈ bag :: R := fun {R} a ha => by
    have e : a = bag := by simpa using ha
    rw [e]; exact List.mem_cons_self
  refine ⟨z1, z2, n1, n2, a1, a2, ⟨b, f.keep _ _ t.lst (by simpa using t.c0), t.p1.fr f nb sb ?_, t.p2.fr f nb sb ?_, t.b1, t.b2, t.c0, t.c1, t.c2, t.dj⟩, ex_fr a3 f (fun a ha => by
    have e : a = bag := by simpa using ha
    rw [e]; exact a6), a4, a5, a6⟩
  · intro a ha hm
    rcases List.mem_cons.mp hm with h | h
    · exact t.b1 (h ▸ ha)
    · exact t.dj a ha h
  · intro a ha hm
    rcases List.mem_cons.mp hm with h | h
    · exact t.b2 (h ▸ ha)
    · exact t.dj a h ha
end RD
namespace RD
open PySem PySem.Spec PyProof.Rows L2 L2H
section
variable {P : Program} {w : World} {K : PySem.W.Frag} {mg : Str → Option Value} {base : Heap} {f : Addr} {fd : FuncData} {C : Addr}
theorem Run.swap {Ha H : Hp} {bag plc pl1 pl2 : Addr} {k j : Nat} (h : ∃ z1 z2 n1 n2, z1.pl = pl1 ∧ z2.pl = pl2 ∧ Two K H C bag plc [.ref pl1, .ref pl2] z1 z2 n1 n2 k j ∧ Ex Ha H ∧ (∀ a ∈ z1.fp, Ha a = none) ∧ (∀ a ∈ z2.fp, Ha a = none) ∧ Ha bag = none) : Run K Ha H C bag plc pl1 pl2 k j := h
/-- a deed on a place: what the def is given, and what comes -/
theorem done_of {Ha H : Hp} {bag plc : Addr} {ps : List V} {z1 z2 : PlA} {n1 n2 k j : Nat} {Q : VK} {E : XK} (t : Two K H C bag plc ps z1 z2 n1 n2 k j) (hk : k + 40 < 10000) (hj : j ≤ 39) (e : Ex Ha H) (f1 : ∀ a ∈ z1.fp, Ha a = none) (fb : Ha bag = none)
    (hQ : ∀ H' z1', z1'.pl = z1.pl → Two K H' C bag plc ps z1' z2 n1 n2 (k + 40) (j + 1) → Ex Ha H' → (∀ a ∈ z1'.fp, Ha a = none) → Q (.bl true) H') : spDone (K := K) (C := C) [.ref bag, .ref z1.pl] H Q E := by
  obtain ⟨S, past, pc, sh, hl, sb, po, hn⟩ := t.p1
  refine ⟨bag, k, bag :: z2.fp, z1, S, past, n1, rfl, t.bg, hk, List.mem_cons_self, fun a ha => ?_, fun a ha hm => ?_, pc, sh, by omega, hn, sb, po, fun H' z1' S' past' e1 pc' sh' hl' sb' po' fr nf bg => ?_⟩
  · rcases List.mem_cons.mp ha with h | h
    · rw [h]; exact t.bg.nt.dom
    · exact (t.p2.nt a h).dom
  · rcases List.mem_cons.mp hm with h | h
    · exact t.b1 (h ▸ ha)
    · exact t.dj a ha h
  · refine hQ H' z1' e1 (t.step (Nat.le_succ _) fr ⟨S', past', pc', sh', by omega, sb', po', hn⟩ nf bg) (ex_fr e fr fun a ha => ?_) fun a ha => ?_
    · rcases List.mem_cons.mp ha with h | h
      · rw [h]; exact fb
      · exact f1 a h
    · rcases nf a ha with h | h
      · exact f1 a h
      · exact Evl.fresh_back e h
def spLaw : Sp := fun vs H Q _ => ∃ (sc : Addr) (ns : List Int), vs = [.ref sc] ∧ SqL K H sc (ns.map V.int) ∧ ns.length ≤ 63 ∧ ∀ H', Q (.bl true) H'
theorem Run.mono {Ha H : Hp} {bag plc pl1 pl2 : Addr} {k k' j : Nat} (r : Run K Ha H C bag plc pl1 pl2 k j) (h : k ≤ k') : Run K Ha H C bag plc pl1 pl2 k' j := by
  obtain ⟨z1, z2, n1, n2, a1, a2, t, a3⟩ := r
  exact ⟨z1, z2, n1, n2, a1, a2, ⟨t.bg.mono h, t.lst, t.p1, t.p2, t.b1, t.b2, t.c0, t.c1, t.c2, t.dj⟩, a3⟩
theorem done_run {Ha H : Hp} {bag plc pl1 pl2 x : Addr} {k j : Nat} {Q : VK} {E : XK} (r : Run K Ha H C bag plc pl1 pl2 k j) (hk : k + 40 < 10000) (hj : j ≤ 39) (hx : x = pl1 ∨ x = pl2)
    (hQ : ∀ H', Run K Ha H' C bag plc pl1 pl2 (k + 40) (j + 1) → Q (.bl true) H') : spDone (K := K) (C := C) [.ref bag, .ref x] H Q E := by
  obtain ⟨z1, z2, n1, n2, a1, a2, t, a3, a4, a5, a6⟩ := r
  rcases hx with h | h
  · rw [h, ← a1]
    exact done_of t hk hj a3 a4 a6 fun H' z1' e t' e' f' => hQ H' ⟨z1', z2, n1, n2, e.trans a1, a2, t', e', f', a5, a6⟩
  · rw [h, ← a2]
    exact done_of t.swap hk hj a3 a5 a6 fun H' z2' e t' e' f' => hQ H' ⟨z1, z2', n1, n2, a1, e.trans a2, t'.swap, e', a4, f', a6⟩
theorem Run.place {Ha H : Hp} {bag plc pl1 pl2 x : Addr} {k j : Nat} (r : Run K Ha H C bag plc pl1 pl2 k j) (hx : x = pl1 ∨ x = pl2) : ∃ (z : PlA) (R : List Addr) (n : Nat), z.pl = x ∧ PlS K H C R z n j := by
  obtain ⟨z1, z2, n1, n2, a1, a2, t, _⟩ := r
  rcases hx with h | h
  · exact ⟨z1, _, n1, a1.trans h.symm, t.p1⟩
  · exact ⟨z2, _, n2, a2.trans h.symm, t.p2⟩
/-- the body of a step -/
def bodyStep : List Stmt := forBody ((forBody ((defBody s_law)[0]?))[3]?)
theorem step_walk (T : Tx K mg) (DT : Df P w K mg base CX0 1 "_law_take" ["_law_bag_here", "_law_many"] spTake) (DD : Df P w K mg base CX0 9 "_law_done" ["_law_bag_here", "_law_place"] (spDone (K := K) (C := C)))
    (DA : Df P w K mg base CX0 2 "_law_all_told" ["_law_bench", "_law_many"] (spTold (K := K) (C := C))) (DS : Df P w K mg base CX0 5 "_law_same" ["_law_one", "_law_other"] (spSame (K := K) 4))
    {cdv : Value} {A : Around} {outer : List Env} {s : Shared} {H0 : Hp} {E : XK} (hr : Room 9 (A.deeper (envOfC "law" (defScope s_law) s.heap.objs.size f cdv)))
    {D : Ends} {Ha H : Hp} {sc bag plc pl1 pl2 : Addr} {at_ : Int} {k j : Nat} {o4 o5 o6 o7 o8 o9 o10 : Option V} (r : Run K Ha H C bag plc pl1 pl2 k j) (hk : k + 100 < 10000) (hj : j ≤ 39)
    (hD : ∀ (H' : Hp) (o8 o9 : Option V), Run K Ha H' C bag plc pl1 pl2 (k + 50) (j + 1) → D.nx [some (.ref sc), some (.int at_), some (.ref bag), some (.ref plc), o4, o5, o6, o7, o8, o9, o10] H') :
    GB (cxOf CX0 P w K mg base n_law "law" (defScope s_law) f cdv A outer s H0 E).nox bodyStep D [some (.ref sc), some (.int at_), some (.ref bag), some (.ref plc), o4, o5, o6, o7, o8, o9, o10] H := by
  have bgr : BagAt H bag k := by
    obtain ⟨_, _, _, _, _, _, t, _⟩ := id r
    exact t.bg
  refine gb_cons (gs_set 8 sc_law.nd rfl (ge_ix (ge_var 3 rfl rfl (ge_call DT (hr.mono (by decide)) pass0 (ga_cons (ge_var 2 rfl rfl (ga_cons (ge_int (ga_nil ?_)))))))))
  refine ⟨bag, k, 2, rfl, bgr, by omega, by decide, by decide, fun x H1 f1 bag1 c1 c2 => ?_⟩
  have r1 := r.take f1 bag1
  have hl : H1 plc = some (.lst [.ref pl1, .ref pl2]) := by
    obtain ⟨_, _, _, _, _, _, t, _⟩ := id r1
    exact t.lst
  have key : ∀ y : Addr, y = pl1 ∨ y = pl2 → GB (cxOf CX0 P w K mg base n_law "law" (defScope s_law) f cdv A outer s H0 E).nox (bodyStep.drop 1) D [some (.ref sc), some (.int at_), some (.ref bag), some (.ref plc), o4, o5, o6, o7, some (.ref y), o9, o10] H1 := by
    intro y hy
    refine gb_cons (gs_if (gt_not (gt_val (ge_call DD (hr.mono (by decide)) pass0 (ga_cons (ge_var 2 rfl rfl (ga_cons (ge_var 8 rfl rfl (ga_nil ?_)))))))))
    refine done_run r1 (by omega) hj hy fun H2 r2 => ?_
    refine ⟨true, rfl, ite_nt (gb_nil ?_)⟩
    have hl2 : H2 plc = some (.lst [.ref pl1, .ref pl2]) := by
      obtain ⟨_, _, _, _, _, _, t, _⟩ := id r2
      exact t.lst
    refine gb_one (gs_forL PassesOwn.never rfl (pg_name (i := 9) sc_law.nd rfl (Or.inl rfl)) (ge_var 3 rfl rfl ?_))
    refine ⟨plc, _, fun _ σ H' => ∃ o9 : Option V, σ = [some (.ref sc), some (.int at_), some (.ref bag), some (.ref plc), o4, o5, o6, o7, some (.ref y), o9, o10] ∧ Run K Ha H' C bag plc pl1 pl2 (k + 50) (j + 1) ∧ H' plc = some (.lst [.ref pl1, .ref pl2]), rfl, Evl.sq_of hl2, ⟨_, rfl, r2.mono (by omega), hl2⟩, ?_, ?_, ?_⟩
    · rintro i σ H' _ ⟨_, _, _, h⟩
      exact Evl.sq_of h
    · rintro i v σ H3 hi ⟨o9, rfl, r3, hl3⟩
      have : ∃ q : Addr, v = .ref q ∧ (q = pl1 ∨ q = pl2) := by
        match i, hi with
        | 0, hi => cases hi; exact ⟨_, rfl, .inl rfl⟩
        | 1, hi => cases hi; exact ⟨_, rfl, .inr rfl⟩
      obtain ⟨q, rfl, hq⟩ := this
      obtain ⟨z, R, n, ez, S, past, pc, sh, hle, sb, po, hn⟩ := r3.place hq
      subst ez
      have hu := hu_of hr
      have ok := sb.ok
      have n5 := ok.n5
      obtain ⟨os, o1, o2⟩ := id pc.outs
      have hol : os.length = n := by have := o2.length; unfold boolsD at this; rw [List.length_map, ok.len.o] at this; exact this
      refine gb_one (gs_if (gt_not (gt_val (ge_call DS (hr.mono (by decide)) pass0 (ga_cons (ge_call DA (hr.mono (by decide)) pass0 ?_))))))
      refine ga_cons (ge_dget hu (ge_var 9 rfl rfl (ge_str ⟨z.pl, _, rfl, dget_of pc.dict kv_bench, ?_⟩)))
      refine ga_cons (ge_callB T.len boot_len (ga_cons (ge_dget hu (ge_var 9 rfl rfl (ge_str ⟨z.pl, _, rfl, dget_of pc.dict kv_outs, ga_nil (c1_lenL (Evl.sq_of o1) (ga_nil ?_))⟩)))))
      rw [hol]
      refine ⟨z.b, z.dx, z.p, z.F, z.Fs, S, past, n, rfl, pc.bench, ok.len, n5, fun a H4 e4 sh4 => ?_⟩
      have pc4 := pc.ex e4
      refine ga_cons (ge_dget hu (ge_var 9 rfl rfl (ge_str ⟨z.pl, _, rfl, dget_of pc4.dict kv_shot, ga_nil ?_⟩)))
      refine ⟨_, _, _, rfl, sh4.dp, (sh.ex e4).dp, shot_sh ok.len n5, fun H5 e5 => ⟨true, rfl, ite_nt (gb_nil ⟨_, rfl, r3.ex (e4.trans e5), e5 _ _ (e4 _ _ hl3)⟩)⟩⟩
    · rintro σ H' ⟨_, rfl, r4, _⟩
      exact hD _ _ _ r4
  have h2 : x = 0 ∨ x = 1 := by omega
  rcases h2 with h | h
  · rw [h]
    exact i2_lst (Evl.sq_of hl) (atI_n (n := 0) rfl) (key _ (.inl rfl))
  · rw [h]
    exact i2_lst (Evl.sq_of hl) (atI_n (n := 1) rfl) (key _ (.inr rfl))
theorem ok_law (T : Tx K mg) (DT : Df P w K mg base CX0 1 "_law_take" ["_law_bag_here", "_law_many"] spTake) (DM : Df P w K mg base CX0 3 "_law_machine" ["_law_bag_here", "_law_most", "_law_even", "_law_kind"] (spMach (K := K)))
    (DBg : Df P w K mg base CX0 1 "_law_bag" ["_law_script", "_law_at"] (spBag (K := K))) (DB : Mn P w K mg base CX0 1 "Bench" C ["self", "machine"] (spInit (K := K) (C := C))) (DD : Df P w K mg base CX0 9 "_law_done" ["_law_bag_here", "_law_place"] (spDone (K := K) (C := C)))
    (DA : Df P w K mg base CX0 2 "_law_all_told" ["_law_bench", "_law_many"] (spTold (K := K) (C := C))) (DS : Df P w K mg base CX0 5 "_law_same" ["_law_one", "_law_other"] (spSame (K := K) 4))
    (F : FnP K "law" "law" s_law f fd) : FnOk P w K mg base CX0 10 f fd ["_law_script"] (spLaw (K := K)) := by
  refine fn0 F sc_law (fun vs H Q E h => ?_) (fun cdv A outer s H vs Q E hr h => ?_)
  · obtain ⟨_, _, rfl, _⟩ := h
    rfl
  · obtain ⟨sc, ns, rfl, hs, hn63, k⟩ := h
    have hu := hu_of hr
    refine gb_cons (gs_forR PassesOwn.never rfl T.range (pg_name (i := 1) sc_law.nd rfl (Or.inl rfl)) ?_)
    refine ge_callB T.max boot_max (ga_cons (ge_int (ga_cons (ge_callB T.min boot_min (ga_cons (ge_int (ga_cons (ge_callB T.len boot_len (ga_cons (ge_var 0 rfl rfl (ga_nil (c1_lenL hs ?_))))))))))))
    refine ga_nil (c1_min rfl (ga_nil (c1_max rfl ?_)))
    rw [List.length_map]
    refine ⟨(max 1 (min 2 (ns.length : Int))).toNat, fun i σ H' => ∃ o1 o2 o3 o4 o5 o6 o7 o8 o9 o10 : Option V, σ = [some (.ref sc), o1, o2, o3, o4, o5, o6, o7, o8, o9, o10] ∧ Ex H H', by congr 1; omega, by omega, ⟨_, _, _, _, _, _, _, _, _, _, rfl, Evl.Ex.refl _⟩, ?_, ?_⟩
    · rintro i σ Ha hi ⟨o1, o2, o3, o4, o5, o6, o7, o8, o9, o10, rfl, ea⟩
      have hi2 : i ≤ 1 := by omega
      refine gb_cons (gs_set 2 sc_law.nd rfl (ge_call DBg (hr.mono (by decide)) pass0 (ga_cons (ge_var 0 rfl rfl (ga_cons (ge_var 1 rfl rfl (ga_nil ?_)))))))
      refine ⟨sc, ns, i, rfl, Evl.ex_l ea hs, hi2, fun bag H1 hbag e1 bag1 => ?_⟩
      refine gb_cons (gs_set 3 sc_law.nd rfl (lst_k (ga_nil ⟨Nat.le_of_ble_eq_true rfl, fun plc H2 hplc e2 h2 => ?_⟩)))
      have fbag : Ha bag = none := hbag
      have fplc : Ha plc = none := Evl.fresh_back e1 hplc
      have pb : plc ≠ bag := fun e => by
        obtain ⟨_, _, _, hb, _⟩ := bag1
        rw [e, hb] at hplc
        cases hplc
      have bag2 : BagAt H2 bag 0 := bag1.ex e2
      have nM : ∀ a ∈ [bag, plc], Ha a = none := fun a ha => by
        simp only [List.mem_cons, List.not_mem_nil, or_false] at ha
        rcases ha with h | h <;> rw [h] <;> assumption
      refine gb_cons (gs_forR PassesOwn.never rfl T.range (pg_name (i := 4) sc_law.nd rfl (Or.inl rfl)) (ge_int ?_))
      refine ⟨2, fun j σ H' => ∃ o4 o5 o6 : Option V, σ = [some (.ref sc), some (.int i), some (.ref bag), some (.ref plc), o4, o5, o6, o7, o8, o9, o10] ∧ Ex Ha H' ∧ Fr [bag, plc] H2 H' ∧ BagAt H' bag (70 * j) ∧
        ((j = 0 ∧ H' plc = some (.lst [])) ∨ (j = 1 ∧ ∃ z1 n1, H' plc = some (.lst [.ref z1.pl]) ∧ PlS K H' C [bag, plc] z1 n1 0 ∧ (∀ a ∈ z1.fp, H2 a = none)) ∨ (j = 2 ∧ ∃ pl1 pl2, Run K Ha H' C bag plc pl1 pl2 140 0)), rfl, by omega, ⟨_, _, _, rfl, e1.trans e2, Fr.refl, bag2, .inl ⟨rfl, h2⟩⟩, ?_, ?_⟩
      · rintro j σ Hc hj ⟨o4, o5, o6, rfl, eC, fC, bagC, hT⟩
        have dC : ∀ {a : Addr}, Hc a = none → H2 a = none := fun {a} h => fC.dom a h
        have d2 : ∀ {a : Addr}, H2 a = none → Ha a = none := fun {a} h => Evl.fresh_back (e1.trans e2) h
        have plcd : Hc plc ≠ none := fun h => by rw [dC h] at h2; cases h2
        rcases hT with ⟨rfl, hp⟩ | ⟨rfl, z1, n1, hp, p1, fz1⟩ | ⟨rfl, _⟩
        · refine turn_walk T DT DM DB hr (bagC.mono (Nat.le_refl _)) (by omega) hp pb (by decide) (fun H' z n m6 s6 f' bg' hp' hP hfz => ?_)
          refine ⟨_, _, _, rfl, ex_fr eC f' nM, fC.trans f', bg'.mono (by omega), .inr (.inl ⟨rfl, z, n, hp', hP _ (fun a ha => ?_), fun a ha => dC (hfz a ha)⟩)⟩
          simp only [List.mem_cons, List.not_mem_nil, or_false] at ha
          rcases ha with h | h
          · rw [h]; exact bagC.nt.dom
          · rw [h]; exact plcd
        · refine turn_walk T DT DM DB hr (bagC.mono (Nat.le_refl _)) (by omega) hp pb (by show 1 ≤ 10; decide) (fun H' z n m6 s6 f' bg' hp' hP hfz => ?_)
          refine ⟨_, _, _, rfl, ex_fr eC f' nM, fC.trans f', bg'.mono (by omega), .inr (.inr ⟨rfl, z1.pl, z.pl, z1, z, n1, n, rfl, rfl, ?_, ex_fr eC f' nM, fun a ha => d2 (fz1 a ha), fun a ha => d2 (dC (hfz a ha)), fbag⟩)⟩
          have nt1 := p1.nt
          have b1 : bag ∉ z1.fp := fun hm => bag2.nt.dom (fz1 _ hm)
          have c1 : plc ∉ z1.fp := fun hm => by rw [fz1 _ hm] at h2; cases h2
          have b2 : bag ∉ z.fp := fun hm => bagC.nt.dom (hfz _ hm)
          have c2 : plc ∉ z.fp := fun hm => plcd (hfz _ hm)
          have dj : ∀ a ∈ z1.fp, a ∉ z.fp := fun a h1 h2 => (nt1 a h1).dom (hfz a h2)
          have q1 : PlS K Hc C (bag :: plc :: z.fp) z1 n1 0 := p1.setN fun x hx hn => ⟨hn.1, fun hm => by
            rcases List.mem_cons.mp hm with h | hm
            · exact hn.2 (by rw [h]; simp)
            · rcases List.mem_cons.mp hm with h | hm
              · exact hn.2 (by rw [h]; simp)
              · exact hx (hfz x hm)⟩
          have q2 : PlS K H' C (bag :: plc :: z.fp) z1 n1 0 := q1.fr f' (fun a ha => by
            simp only [List.mem_cons, List.not_mem_nil, or_false] at ha
            rcases ha with h | h
            · rw [h]; exact bagC.nt
            · rw [h]; exact .inl ⟨_, hp⟩) (fun a ha => by
            simp only [List.mem_cons, List.not_mem_nil, or_false] at ha
            rcases ha with h | h <;> rw [h] <;> simp) (fun a ha hm => by
            rcases List.mem_cons.mp hm with h | hm
            · exact b1 (h ▸ ha)
            · rcases List.mem_cons.mp hm with h | hm
              · exact c1 (h ▸ ha)
              · exact dj a ha hm)
          refine ⟨bg'.mono (by omega), hp', q2.setN fun x _ hn => ⟨hn.1, fun hm => hn.2 ?_⟩, hP _ fun a ha => ?_, b1, b2, pb, c1, c2, dj⟩
          · rcases List.mem_cons.mp hm with h | hm
            · rw [h]; simp
            · exact List.mem_cons_of_mem _ (List.mem_cons_of_mem _ hm)
          · rcases List.mem_cons.mp ha with h | h
            · rw [h]; exact bagC.nt.dom
            · exact (nt1 a h).dom
        · omega
      · rintro σ Hc ⟨o4, o5, o6, rfl, eC, fC, bagC, hT⟩
        rcases hT with ⟨h, _⟩ | ⟨h, _⟩ | ⟨_, pl1, pl2, run⟩
        · cases h
        · cases h
        have bgr : BagAt Hc bag 140 := by
          obtain ⟨_, _, _, _, _, _, t, _⟩ := id run
          exact t.bg
        refine gb_one (gs_forR PassesOwn.never rfl T.range (pg_name (i := 7) sc_law.nd rfl (Or.inl rfl)) (ge_bin (ge_int (ge_call DT (hr.mono (by decide)) pass0 (ga_cons (ge_var 2 rfl rfl (ga_cons (ge_int (ga_nil ?_)))))))))
        refine ⟨bag, _, 33, rfl, bgr, by omega, by omega, by omega, fun r H4 f4 b4 r0 r1 => ?_⟩
        have run4 := run.take f4 b4
        refine o2_add ?_
        refine ⟨(8 + r).toNat, fun j σ H' => ∃ o7 o8 o9 : Option V, σ = [some (.ref sc), some (.int i), some (.ref bag), some (.ref plc), o4, o5, o6, o7, o8, o9, o10] ∧ Run K Ha H' C bag plc pl1 pl2 (150 + 50 * j) j, by congr 1; omega, by omega, ⟨_, _, _, rfl, run4.mono (by omega)⟩, ?_, ?_⟩
        · rintro j σ Hd hj ⟨o7, o8, o9, rfl, rd⟩
          exact step_walk T DT DD DA DS hr rd (by omega) (by omega) fun H' o8 o9 rn => ⟨_, _, _, rfl, rn.mono (by omega)⟩
        · rintro σ H' ⟨o7, o8, o9, rfl, z1, z2, n1, n2, _, _, t, e5, _⟩
          exact ⟨_, _, _, _, _, _, _, _, _, _, rfl, ea.trans e5⟩
    · rintro σ H' ⟨o1, o2, o3, o4, o5, o6, o7, o8, o9, o10, rfl, e⟩
      fail "rdk"
      exact k H'
end
end RD
namespace RD
open PySem PySem.Spec PyProof.Rows L2 L2H HotX
/-! ### what the head looks at besides -/
theorem oexB_ok {K : PySem.W.Frag} {C : Addr} (h : oexB K C = true) : OexC K C := by
  obtain ⟨q, h⟩ := He.ba h
  obtain ⟨h2, h⟩ := He.ba h
  obtain ⟨h3, h⟩ := He.ba h
  obtain ⟨h4, h5⟩ := He.ba h
  refine ⟨?_, He.eqO_ok h2, of_decide_eq_true h3, of_decide_eq_true h4, h5⟩
  split at q
  · rename_i dd cd sl ho
    split at q
    · rename_i C' bm k0 k1 k2 k3 n k5 hm hs
      simp only [Bool.and_eq_true, beq_iff_eq, Bool.not_eq_true'] at q
      obtain ⟨⟨⟨⟨rfl, rfl⟩, hdict⟩, hdel⟩, ht⟩ := q
      obtain ⟨nm, bs, mro, ns, qn, hd, sn, sub, ab, col, del⟩ := cd
      dsimp only at hm hdel hdict
      subst hm hdel hdict
      have hsl : sl = #[k0, k1, k2, k3, some (.builtin "ValueError.__new__"), k5] := by
        obtain ⟨l⟩ := sl
        simp only at hs
        rw [hs]
      subst hsl
      exact ⟨nm, qn, ns, bs, bm, sn, sub, ab, col, dd, k0, k1, k2, k3, k5, ho, ht⟩
    · cases q
  · cases q
theorem excB_ok {K : PySem.W.Frag} {D : Addr} (h : excB K D = true) : ExcC K D := by
  obtain ⟨h1, h⟩ := He.ba h
  obtain ⟨h2, h⟩ := He.ba h
  obtain ⟨h3, h⟩ := He.ba h
  obtain ⟨h4, h⟩ := He.ba h
  obtain ⟨h5, h⟩ := He.ba h
  obtain ⟨h6, h⟩ := He.ba h
  obtain ⟨h7, h8⟩ := He.ba h
  exact ⟨He.eqO_ok h1, He.eqO_ok h2, of_decide_eq_true h3, h4, He.eqO_ok h5, He.eqO_ok h6, of_decide_eq_true h7, of_decide_eq_true h8⟩
theorem erB_ok {K : PySem.W.Frag} {h : Heap} {mg : Str → Option Value} {x : Str} (X : K.In h) (G : h.Ns mainGlobals mg) (hx : x ∈ raised) (c : erB K x = true) : Er K mg x (He.ga K x) := by
  obtain ⟨h1, c⟩ := He.ba c
  obtain ⟨h2, c⟩ := He.ba c
  obtain ⟨h3, c⟩ := He.ba c
  obtain ⟨h4, c⟩ := He.ba c
  obtain ⟨h5, c⟩ := He.ba c
  obtain ⟨h6, c⟩ := He.ba c
  obtain ⟨h7, h8⟩ := He.ba c
  obtain ⟨h51, h52⟩ := He.ba h5
  obtain ⟨h61, h62⟩ := He.ba h6
  obtain ⟨h71, h72⟩ := He.ba h7
  refine ⟨hx, He.glo_ok X G h1, excB_ok h2, fun y hy => ?_, of_decide_eq_true h4, ⟨_, _, _, He.glo_ok X G h51, He.glo_ok X G h61, He.glo_ok X G h71, of_decide_eq_true h52, of_decide_eq_true h62, of_decide_eq_true h72⟩, He.free_ok X G h8⟩
  obtain ⟨q1, q2⟩ := He.ba (List.all_eq_true.mp h3 y hy)
  exact ⟨_, He.glo_ok X G q1, of_decide_eq_true q2⟩
theorem own_ok {K : PySem.W.Frag} {h : Heap} {mg : Str → Option Value} {x : Str} (X : K.In h) (G : h.Ns mainGlobals mg) (g : (He.Fa.glo x).ok K = true) (c : (He.Fa.exc x).ok K = true) : OwnC K mg x (He.ga K x) := by
  obtain ⟨c1, c2, c3, c4⟩ := He.exc_ok c
  exact ⟨⟨_, PySem.F.excBase_ValueError, c1⟩, He.glo_ok X G g, c2, c3, c4⟩
/-! ### the Hook -/
end RD
namespace RD
open PySem PySem.Spec PyProof.Rows L2 L2H HotX
theorem raisedB {K : PySem.W.Frag} (h : (raised.all fun x => erB K x) = true) {x : Str} (hx : x ∈ raised) : erB K x = true := List.all_eq_true.mp h x hx
theorem facts {P : Program} {w : World} {K : PySem.W.Frag} {h : Heap} {mg : Str → Option Value} {f : Addr} (X : K.In h) (G : h.Ns mainGlobals mg) (hfa : mg ("law" : Str) = some (.ref f)) (c : He.SaysD fa fn K) (ck : chk K = true) :
    ∃ fd : FuncData, (∀ (s : Shared) (v : Value), BindsTo s fd ⟨[v], []⟩ [("_law_script", v)]) ∧ ∀ base : Heap, K.In base → base.Ns mainGlobals mg → FnOk P w K mg base CX0 10 f fd ["_law_script"] (spLaw (K := K)) := by
  obtain ⟨fd_Ring_init, F_Ring_init⟩ := c.def_ 0 (d := d_Ring_init) rfl
  obtain ⟨fd_Stopped_init, F_Stopped_init⟩ := c.def_ 1 (d := d_Stopped_init) rfl
  obtain ⟨fd_is_whole, F_is_whole⟩ := c.def_ 2 (d := d_is_whole) rfl
  obtain ⟨fd_shared, F_shared⟩ := c.def_ 3 (d := d_shared) rfl
  obtain ⟨fd_is_number, F_is_number⟩ := c.def_ 4 (d := d_is_number) rfl
  obtain ⟨fd_fraction, F_fraction⟩ := c.def_ 5 (d := d_fraction) rfl
  obtain ⟨fd_plus, F_plus⟩ := c.def_ 6 (d := d_plus) rfl
  obtain ⟨fd_times, F_times⟩ := c.def_ 7 (d := d_times) rfl
  obtain ⟨fd_is_above, F_is_above⟩ := c.def_ 8 (d := d_is_above) rfl
  obtain ⟨fd_is_shaft, F_is_shaft⟩ := c.def_ 9 (d := d_is_shaft) rfl
  obtain ⟨fd_is_row, F_is_row⟩ := c.def_ 10 (d := d_is_row) rfl
  obtain ⟨fd_is_source, F_is_source⟩ := c.def_ 11 (d := d_is_source) rfl
  obtain ⟨fd_are_rows, F_are_rows⟩ := c.def_ 12 (d := d_are_rows) rfl
  obtain ⟨fd_drives_of, F_drives_of⟩ := c.def_ 13 (d := d_drives_of) rfl
  obtain ⟨fd_may_stand, F_may_stand⟩ := c.def_ 14 (d := d_may_stand) rfl
  obtain ⟨fd_order_of, F_order_of⟩ := c.def_ 15 (d := d_order_of) rfl
  obtain ⟨fd_ring_of, F_ring_of⟩ := c.def_ 16 (d := d_ring_of) rfl
  obtain ⟨fd_look_machine, F_look_machine⟩ := c.def_ 17 (d := d_look_machine) rfl
  obtain ⟨fd_move_of, F_move_of⟩ := c.def_ 18 (d := d_move_of) rfl
  obtain ⟨fd_is_beyond, F_is_beyond⟩ := c.def_ 19 (d := d_is_beyond) rfl
  obtain ⟨fd_is_long, F_is_long⟩ := c.def_ 20 (d := d_is_long) rfl
  obtain ⟨fd_Bench_init, F_Bench_init⟩ := c.def_ 21 (d := d_Bench_init) rfl
  obtain ⟨fd_Bench_stands, F_Bench_stands⟩ := c.def_ 22 (d := d_Bench_stands) rfl
  obtain ⟨fd_Bench_machine, F_Bench_machine⟩ := c.def_ 23 (d := d_Bench_machine) rfl
  obtain ⟨fd_Bench_moved, F_Bench_moved⟩ := c.def_ 24 (d := d_Bench_moved) rfl
  obtain ⟨fd_Bench_keep, F_Bench_keep⟩ := c.def_ 25 (d := d_Bench_keep) rfl
  obtain ⟨fd_Bench_moves_by, F_Bench_moves_by⟩ := c.def_ 26 (d := d_Bench_moves_by) rfl
  obtain ⟨fd_Bench_click, F_Bench_click⟩ := c.def_ 27 (d := d_Bench_click) rfl
  obtain ⟨fd_Bench_want_out, F_Bench_want_out⟩ := c.def_ 28 (d := d_Bench_want_out) rfl
  obtain ⟨fd_Bench_out, F_Bench_out⟩ := c.def_ 29 (d := d_Bench_out) rfl
  obtain ⟨fd_Bench_into, F_Bench_into⟩ := c.def_ 30 (d := d_Bench_into) rfl
  obtain ⟨fd_Bench_put, F_Bench_put⟩ := c.def_ 31 (d := d_Bench_put) rfl
  obtain ⟨fd_Bench_wire, F_Bench_wire⟩ := c.def_ 32 (d := d_Bench_wire) rfl
  obtain ⟨fd_Bench_gear, F_Bench_gear⟩ := c.def_ 33 (d := d_Bench_gear) rfl
  obtain ⟨fd_Bench_ends, F_Bench_ends⟩ := c.def_ 34 (d := d_Bench_ends) rfl
  obtain ⟨fd_Bench_undo, F_Bench_undo⟩ := c.def_ 35 (d := d_Bench_undo) rfl
  obtain ⟨fd_Bench_deeds, F_Bench_deeds⟩ := c.def_ 36 (d := d_Bench_deeds) rfl
  obtain ⟨fd_L_bag, F_L_bag⟩ := c.def_ 37 (d := d_L_bag) rfl
  obtain ⟨fd_L_take, F_L_take⟩ := c.def_ 38 (d := d_L_take) rfl
  obtain ⟨fd_L_low, F_L_low⟩ := c.def_ 39 (d := d_L_low) rfl
  obtain ⟨fd_L_add, F_L_add⟩ := c.def_ 40 (d := d_L_add) rfl
  obtain ⟨fd_L_mul, F_L_mul⟩ := c.def_ 41 (d := d_L_mul) rfl
  obtain ⟨fd_L_number, F_L_number⟩ := c.def_ 42 (d := d_L_number) rfl
  obtain ⟨fd_L_turned, F_L_turned⟩ := c.def_ 43 (d := d_L_turned) rfl
  obtain ⟨fd_L_machine, F_L_machine⟩ := c.def_ 44 (d := d_L_machine) rfl
  obtain ⟨fd_L_whole, F_L_whole⟩ := c.def_ 45 (d := d_L_whole) rfl
  obtain ⟨fd_L_is_number, F_L_is_number⟩ := c.def_ 46 (d := d_L_is_number) rfl
  obtain ⟨fd_L_same, F_L_same⟩ := c.def_ 47 (d := d_L_same) rfl
  obtain ⟨fd_L_alone, F_L_alone⟩ := c.def_ 48 (d := d_L_alone) rfl
  obtain ⟨fd_L_refusal, F_L_refusal⟩ := c.def_ 49 (d := d_L_refusal) rfl
  obtain ⟨fd_L_said, F_L_said⟩ := c.def_ 50 (d := d_L_said) rfl
  obtain ⟨fd_L_got, F_L_got⟩ := c.def_ 51 (d := d_L_got) rfl
  obtain ⟨fd_L_any_row, F_L_any_row⟩ := c.def_ 52 (d := d_L_any_row) rfl
  obtain ⟨fd_L_any_deed, F_L_any_deed⟩ := c.def_ 53 (d := d_L_any_deed) rfl
  obtain ⟨fd_L_all_told, F_L_all_told⟩ := c.def_ 54 (d := d_L_all_told) rfl
  obtain ⟨fd_L_moved, F_L_moved⟩ := c.def_ 55 (d := d_L_moved) rfl
  obtain ⟨fd_L_behind, F_L_behind⟩ := c.def_ 56 (d := d_L_behind) rfl
  obtain ⟨fd_L_known, F_L_known⟩ := c.def_ 57 (d := d_L_known) rfl
  obtain ⟨fd_L_done, F_L_done⟩ := c.def_ 58 (d := d_L_done) rfl
  obtain ⟨fd_law, F_law⟩ := c.def_ 59 (d := d_law) rfl
  have e := hfa.symm.trans (He.glo_ok X G (c.fact 92 (f := .glo "law") rfl))
  cases e
  have b := FunD.bindsA (ps := ["_law_script"]) F_law fun _ _ _ _ _ _ us hl => match us, hl with | [_], _ => rfl
  obtain ⟨ce, ck⟩ := He.ba ck
  obtain ⟨cs, ck⟩ := He.ba ck
  obtain ⟨cr, cn⟩ := He.ba ck
  refine ⟨fd_law, fun s v => b s [v] rfl, fun base KB GB => ?_⟩
  have T : Tx K mg := ⟨He.free_ok X G (c.fact 0 (f := .free "len") rfl), He.free_ok X G (c.fact 1 (f := .free "abs") rfl), He.free_ok X G (c.fact 2 (f := .free "isinstance") rfl), He.free_ok X G (c.fact 3 (f := .free "int") rfl), He.free_ok X G (c.fact 4 (f := .free "bool") rfl), He.free_ok X G (c.fact 5 (f := .free "str") rfl), He.free_ok X G (c.fact 6 (f := .free "list") rfl), He.free_ok X G (c.fact 7 (f := .free "tuple") rfl), He.free_ok X G (c.fact 8 (f := .free "range") rfl), He.free_ok X G (c.fact 9 (f := .free "zip") rfl), He.free_ok X G (c.fact 10 (f := .free "enumerate") rfl), He.free_ok X G (c.fact 11 (f := .free "all") rfl), He.free_ok X G (c.fact 12 (f := .free "any") rfl), He.free_ok X G (c.fact 13 (f := .free "max") rfl), He.free_ok X G (c.fact 14 (f := .free "min") rfl), He.int_ok X G (c.fact 15 (f := .int "MOST_SHAFTS" 120) rfl), ⟨_, He.glo_ok X G (c.fact 16 (f := .glo "NOUGHT") rfl), fun H => He.tupB_ok cn H⟩⟩
  have mkI : ∀ {x fl : Str} {fdx : FuncData}, iniB K x fl = true → FnOk P w K mg base CX0 1 (He.ma K (He.ga K x) "__init__") fdx ["self", fl] (spXIni (K := K) fl) → Binds K fdx ["self", fl] [] → IniC P w K mg base 1 x (He.ga K x) ["self", fl] (spXIni (K := K) fl) ∧ PySem.W.findIn K (.ref (He.ga K x)) fl = some none := by
    intro x fl fdx hB hF hb
    obtain ⟨h1, hB⟩ := He.ba hB
    obtain ⟨h2, hB⟩ := He.ba hB
    obtain ⟨h3, hB⟩ := He.ba hB
    obtain ⟨h4, h5⟩ := He.ba hB
    exact ⟨⟨oexB_ok h1, He.glo_ok X G h2, _, fdx, He.eqO_ok h3, of_decide_eq_true h4, hF, hb⟩, He.eqO_ok h5⟩
  have iS := mkI cs (ok_stopped_init F_Stopped_init) (F_Stopped_init.bindsN (fun _ _ _ _ _ _ us hl => match us, hl with | [_, _], _ => rfl))
  have iR := mkI cr (ok_ring_init F_Ring_init) (F_Ring_init.bindsN (fun _ _ _ _ _ _ us hl => match us, hl with | [_, _], _ => rfl))
  have R : Errs P w K mg base := ⟨⟨_, erB_ok X G (by decide) (raisedB ce (by decide)), own_ok X G (c.fact 19 (f := .glo "Held") rfl) (c.fact 20 (f := .exc "Held") rfl)⟩, ⟨_, erB_ok X G (by decide) (raisedB ce (by decide)), own_ok X G (c.fact 17 (f := .glo "NoMachine") rfl) (c.fact 18 (f := .exc "NoMachine") rfl)⟩, ⟨_, erB_ok X G (by decide) (raisedB ce (by decide)), own_ok X G (c.fact 21 (f := .glo "TooFar") rfl) (c.fact 22 (f := .exc "TooFar") rfl)⟩, ⟨_, erB_ok X G (by decide) (raisedB ce (by decide)), own_ok X G (c.fact 23 (f := .glo "NoGear") rfl) (c.fact 24 (f := .exc "NoGear") rfl)⟩, ⟨_, erB_ok X G (by decide) (raisedB ce (by decide)), own_ok X G (c.fact 25 (f := .glo "NoDeed") rfl) (c.fact 26 (f := .exc "NoDeed") rfl)⟩, ⟨_, erB_ok X G (by decide) (raisedB ce (by decide)), iS⟩, ⟨_, erB_ok X G (by decide) (raisedB ce (by decide)), iR⟩⟩
  have D_shared := Df.mk' (st := s_shared) F_shared (He.glo_ok X G (c.fact 37 (f := .glo "shared") rfl)) (ok_shared (P := P) (w := w) (mg := mg) (base := base) T F_shared) (fun _ _ _ _ _ _ us hl => match us, hl with | [_, _], _ => rfl)
  have D_fraction := Df.mk' (st := s_fraction) F_fraction (He.glo_ok X G (c.fact 39 (f := .glo "fraction") rfl)) (ok_fraction (P := P) (w := w) (mg := mg) (base := base) F_fraction D_shared) (fun _ _ _ _ _ _ us hl => match us, hl with | [_, _], _ => rfl)
  have D_plus := Df.mk' (st := s_plus) F_plus (He.glo_ok X G (c.fact 40 (f := .glo "plus") rfl)) (ok_plus (P := P) (w := w) (mg := mg) (base := base) F_plus D_fraction) (fun _ _ _ _ _ _ us hl => match us, hl with | [_, _], _ => rfl)
  have D_times := Df.mk' (st := s_times) F_times (He.glo_ok X G (c.fact 41 (f := .glo "times") rfl)) (ok_times (P := P) (w := w) (mg := mg) (base := base) F_times D_fraction) (fun _ _ _ _ _ _ us hl => match us, hl with | [_, _], _ => rfl)
  have D_is_above := Df.mk' (st := s_is_above) F_is_above (He.glo_ok X G (c.fact 42 (f := .glo "is_above") rfl)) (ok_above (P := P) (w := w) (mg := mg) (base := base) F_is_above) (fun _ _ _ _ _ _ us hl => match us, hl with | [_, _], _ => rfl)
  have D_is_whole := Df.mk' (st := s_is_whole) F_is_whole (He.glo_ok X G (c.fact 36 (f := .glo "is_whole") rfl)) (ok_is_whole (P := P) (w := w) (mg := mg) (base := base) T F_is_whole) (fun _ _ _ _ _ _ us hl => match us, hl with | [_], _ => rfl)
  have D_is_number := Df.mk' (st := s_is_number) F_is_number (He.glo_ok X G (c.fact 38 (f := .glo "is_number") rfl)) (ok_is_number (P := P) (w := w) (mg := mg) (base := base) T F_is_number D_is_whole D_shared) (fun _ _ _ _ _ _ us hl => match us, hl with | [_], _ => rfl)
  have D_is_shaft := Df.mk' (st := s_is_shaft) F_is_shaft (He.glo_ok X G (c.fact 43 (f := .glo "is_shaft") rfl)) (ok_is_shaft (P := P) (w := w) (mg := mg) (base := base) F_is_shaft D_is_whole) (fun _ _ _ _ _ _ us hl => match us, hl with | [_, _], _ => rfl)
  have D_is_row := Df.mk' (st := s_is_row) F_is_row (He.glo_ok X G (c.fact 44 (f := .glo "is_row") rfl)) (ok_is_row (P := P) (w := w) (mg := mg) (base := base) T F_is_row D_is_number D_is_shaft) (fun _ _ _ _ _ _ us hl => match us, hl with | [_, _], _ => rfl)
  have D_is_source := Df.mk' (st := s_is_source) F_is_source (He.glo_ok X G (c.fact 45 (f := .glo "is_source") rfl)) (ok_is_source (P := P) (w := w) (mg := mg) (base := base) F_is_source) (fun _ _ _ _ _ _ us hl => match us, hl with | [_], _ => rfl)
  have D_drives_of := Df.mk' (st := s_drives_of) F_drives_of (He.glo_ok X G (c.fact 47 (f := .glo "drives_of") rfl)) (ok_drives (P := P) (w := w) (mg := mg) (base := base) F_drives_of) (fun _ _ _ _ _ _ us hl => match us, hl with | [_], _ => rfl)
  have D_may_stand := Df.mk' (st := s_may_stand) F_may_stand (He.glo_ok X G (c.fact 48 (f := .glo "may_stand") rfl)) (ok_may (P := P) (w := w) (mg := mg) (base := base) T F_may_stand D_drives_of) (fun _ _ _ _ _ _ us hl => match us, hl with | [_, _], _ => rfl)
  have D_order_of := Df.mk' (st := s_order_of) F_order_of (He.glo_ok X G (c.fact 49 (f := .glo "order_of") rfl)) (ok_order (P := P) (w := w) (mg := mg) (base := base) T F_order_of D_may_stand) (fun _ _ _ _ _ _ us hl => match us, hl with | [_], _ => rfl)
  have D_are_rows := Df.mk' (st := s_are_rows) F_are_rows (He.glo_ok X G (c.fact 46 (f := .glo "are_rows") rfl)) (ok_are_rows (P := P) (w := w) (mg := mg) (base := base) T F_are_rows D_is_row D_is_source) (fun _ _ _ _ _ _ us hl => match us, hl with | [_], _ => rfl)
  have D_ring_of := Df.mk' (st := s_ring_of) F_ring_of (He.glo_ok X G (c.fact 50 (f := .glo "ring_of") rfl)) (ok_ring (P := P) (w := w) (mg := mg) (base := base) T F_ring_of D_order_of D_drives_of) (fun _ _ _ _ _ _ us hl => match us, hl with | [_], _ => rfl)
  obtain ⟨DN, EN, CN⟩ := R.noMachine
  obtain ⟨DR, ER, CR, hno⟩ := R.ring
  have D_look_machine := Df.mk' (st := s_look_machine) F_look_machine (He.glo_ok X G (c.fact 51 (f := .glo "look_machine") rfl)) (ok_look (P := P) (w := w) (mg := mg) (base := base) F_look_machine D_are_rows D_ring_of EN CN ER CR hno) (fun _ _ _ _ _ _ us hl => match us, hl with | [_], _ => rfl)
  have D_move_of := Df.mk' (st := s_move_of) F_move_of (He.glo_ok X G (c.fact 52 (f := .glo "move_of") rfl)) (ok_move (P := P) (w := w) (mg := mg) (base := base) F_move_of D_times D_plus) (fun _ _ _ _ _ _ us hl => match us, hl with | [_, _, _, _], _ => rfl)
  have D_is_beyond := Df.mk' (st := s_is_beyond) F_is_beyond (He.glo_ok X G (c.fact 53 (f := .glo "is_beyond") rfl)) (ok_beyond (P := P) (w := w) (mg := mg) (base := base) F_is_beyond D_is_above) (fun _ _ _ _ _ _ us hl => match us, hl with | [_, _], _ => rfl)
  have D_is_long := Df.mk' (st := s_is_long) F_is_long (He.glo_ok X G (c.fact 54 (f := .glo "is_long") rfl)) (ok_long (P := P) (w := w) (mg := mg) (base := base) T F_is_long) (fun _ _ _ _ _ _ us hl => match us, hl with | [_], _ => rfl)
  have c0 : BC K (He.ga K "Bench") := ⟨He.cls_ok (c.fact 28 (f := .cls "Bench") rfl), He.noat_ok (c.fact 30 (f := .noat "Bench" "rows") rfl), He.noat_ok (c.fact 31 (f := .noat "Bench" "stood") rfl), He.noat_ok (c.fact 32 (f := .noat "Bench" "sums") rfl), He.noat_ok (c.fact 33 (f := .noat "Bench" "outs") rfl), He.noat_ok (c.fact 34 (f := .noat "Bench" "limits") rfl), He.noat_ok (c.fact 35 (f := .noat "Bench" "past") rfl)⟩
  have BI : Mn P w K mg base CX0 1 "Bench" (He.ga K "Bench") ["self", "machine"] (spInit (K := K) (C := He.ga K "Bench")) := ⟨_, _, He.mkr_ok (c.fact 29 (f := .mkr "Bench") rfl), ok_init T c0 F_Bench_init, He.glo_ok X G (c.fact 27 (f := .glo "Bench") rfl), F_Bench_init.bindsN (fun _ _ _ _ _ _ us hl => match us, hl with | [_, _], _ => rfl)⟩
  have M_keep := Mt.mk' (st := s_Bench_keep) F_Bench_keep (He.meth_ok (c.fact 58 (f := .meth "Bench" "keep") rfl)) (ok_keep (P := P) (w := w) (mg := mg) (base := base) T c0 F_Bench_keep) (fun _ _ _ _ _ _ us hl => match us, hl with | [_], _ => rfl)
  have M_want_out := Mt.mk' (st := s_Bench_want_out) F_Bench_want_out (He.meth_ok (c.fact 61 (f := .meth "Bench" "want_out") rfl)) (ok_want (P := P) (w := w) (mg := mg) (base := base) T R c0 F_Bench_want_out) (fun _ _ _ _ _ _ us hl => match us, hl with | [_, _, _], _ => rfl)
  have M_stands := Mt.mk' (st := s_Bench_stands) F_Bench_stands (He.meth_ok (c.fact 55 (f := .meth "Bench" "stands") rfl)) (ok_stands (P := P) (w := w) (mg := mg) (base := base) T c0 F_Bench_stands) (fun _ _ _ _ _ _ us hl => match us, hl with | [_], _ => rfl)
  have M_deeds := Mt.mk' (st := s_Bench_deeds) F_Bench_deeds (He.meth_ok (c.fact 69 (f := .meth "Bench" "deeds") rfl)) (ok_deeds (P := P) (w := w) (mg := mg) (base := base) T c0 F_Bench_deeds) (fun _ _ _ _ _ _ us hl => match us, hl with | [_], _ => rfl)
  have M_moved := Mt.mk' (st := s_Bench_moved) F_Bench_moved (He.meth_ok (c.fact 57 (f := .meth "Bench" "moved") rfl)) (ok_moved (P := P) (w := w) (mg := mg) (base := base) c0 F_Bench_moved) (fun _ _ _ _ _ _ us hl => match us, hl with | [_, _], _ => rfl)
  have M_machine := Mt.mk' (st := s_Bench_machine) F_Bench_machine (He.meth_ok (c.fact 56 (f := .meth "Bench" "machine") rfl)) (ok_machine (P := P) (w := w) (mg := mg) (base := base) T c0 F_Bench_machine) (fun _ _ _ _ _ _ us hl => match us, hl with | [_], _ => rfl)
  have M_out := Mt.mk' (st := s_Bench_out) F_Bench_out (He.meth_ok (c.fact 62 (f := .meth "Bench" "out") rfl)) (ok_out (P := P) (w := w) (mg := mg) (base := base) M_keep M_want_out c0 F_Bench_out) (fun _ _ _ _ _ _ us hl => match us, hl with | [_, _], _ => rfl)
  have M_into := Mt.mk' (st := s_Bench_into) F_Bench_into (He.meth_ok (c.fact 63 (f := .meth "Bench" "into") rfl)) (ok_into (P := P) (w := w) (mg := mg) (base := base) M_keep M_want_out c0 F_Bench_into) (fun _ _ _ _ _ _ us hl => match us, hl with | [_, _], _ => rfl)
  have M_put := Mt.mk' (st := s_Bench_put) F_Bench_put (He.meth_ok (c.fact 64 (f := .meth "Bench" "put") rfl)) (ok_put (P := P) (w := w) (mg := mg) (base := base) M_keep M_want_out R c0 F_Bench_put D_is_beyond) (fun _ _ _ _ _ _ us hl => match us, hl with | [_, _, _], _ => rfl)
  have M_wire := Mt.mk' (st := s_Bench_wire) F_Bench_wire (He.meth_ok (c.fact 65 (f := .meth "Bench" "wire") rfl)) (ok_wire (P := P) (w := w) (mg := mg) (base := base) M_keep M_want_out T c0 F_Bench_wire D_look_machine) (fun _ _ _ _ _ _ us hl => match us, hl with | [_, _, _], _ => rfl)
  have M_gear := Mt.mk' (st := s_Bench_gear) F_Bench_gear (He.meth_ok (c.fact 66 (f := .meth "Bench" "gear") rfl)) (ok_gear (P := P) (w := w) (mg := mg) (base := base) M_keep R c0 F_Bench_gear) (fun _ _ _ _ _ _ us hl => match us, hl with | [_, _, _], _ => rfl)
  have M_ends := Mt.mk' (st := s_Bench_ends) F_Bench_ends (He.meth_ok (c.fact 67 (f := .meth "Bench" "ends") rfl)) (ok_ends (P := P) (w := w) (mg := mg) (base := base) M_keep R c0 F_Bench_ends D_is_beyond) (fun _ _ _ _ _ _ us hl => match us, hl with | [_, _, _, _], _ => rfl)
  have M_undo := Mt.mk' (st := s_Bench_undo) F_Bench_undo (He.meth_ok (c.fact 68 (f := .meth "Bench" "undo") rfl)) (ok_undo (P := P) (w := w) (mg := mg) (base := base) R c0 F_Bench_undo) (fun _ _ _ _ _ _ us hl => match us, hl with | [_], _ => rfl)
  have M_moves_by := Mt.mk' (st := s_Bench_moves_by) F_Bench_moves_by (He.meth_ok (c.fact 59 (f := .meth "Bench" "moves_by") rfl)) (ok_moves_by (P := P) (w := w) (mg := mg) (base := base) T c0 F_Bench_moves_by D_order_of D_move_of) (fun _ _ _ _ _ _ us hl => match us, hl with | [_, _], _ => rfl)
  have M_click := Mt.mk' (st := s_Bench_click) F_Bench_click (He.meth_ok (c.fact 60 (f := .meth "Bench" "click") rfl)) (ok_click (P := P) (w := w) (mg := mg) (base := base) M_keep T R c0 F_Bench_click M_moves_by D_plus D_is_beyond D_is_long) (fun _ _ _ _ _ _ us hl => match us, hl with | [_, _], _ => rfl)
  have Mz : Ms P w K mg base (He.ga K "Bench") := ⟨c0, M_click, M_out, M_into, M_put, M_wire, M_gear, M_ends, M_undo, M_stands, M_machine, M_moved, M_deeds⟩
  have D_L_take := Df.mk' (st := s_L_take) F_L_take (He.glo_ok X G (c.fact 71 (f := .glo "_law_take") rfl)) (ok_take (P := P) (w := w) (mg := mg) (base := base) F_L_take) (fun _ _ _ _ _ _ us hl => match us, hl with | [_, _], _ => rfl)
  have D_L_low := Df.mk' (st := s_L_low) F_L_low (He.glo_ok X G (c.fact 72 (f := .glo "_law_low") rfl)) (ok_low (P := P) (w := w) (mg := mg) (base := base) T F_L_low) (fun _ _ _ _ _ _ us hl => match us, hl with | [_, _], _ => rfl)
  have D_L_add := Df.mk' (st := s_L_add) F_L_add (He.glo_ok X G (c.fact 73 (f := .glo "_law_add") rfl)) (ok_ladd (P := P) (w := w) (mg := mg) (base := base) F_L_add D_L_low) (fun _ _ _ _ _ _ us hl => match us, hl with | [_, _], _ => rfl)
  have D_L_mul := Df.mk' (st := s_L_mul) F_L_mul (He.glo_ok X G (c.fact 74 (f := .glo "_law_mul") rfl)) (ok_lmul (P := P) (w := w) (mg := mg) (base := base) F_L_mul D_L_low) (fun _ _ _ _ _ _ us hl => match us, hl with | [_, _], _ => rfl)
  have D_L_whole := Df.mk' (st := s_L_whole) F_L_whole (He.glo_ok X G (c.fact 78 (f := .glo "_law_whole") rfl)) (ok_lwhole (P := P) (w := w) (mg := mg) (base := base) T F_L_whole) (fun _ _ _ _ _ _ us hl => match us, hl with | [_], _ => rfl)
  have D_L_is_number := Df.mk' (st := s_L_is_number) F_L_is_number (He.glo_ok X G (c.fact 79 (f := .glo "_law_is_number") rfl)) (ok_lisnum (P := P) (w := w) (mg := mg) (base := base) T F_L_is_number D_L_whole D_L_low) (fun _ _ _ _ _ _ us hl => match us, hl with | [_], _ => rfl)
  have D_L_bag := Df.mk' (st := s_L_bag) F_L_bag (He.glo_ok X G (c.fact 70 (f := .glo "_law_bag") rfl)) (ok_bag (P := P) (w := w) (mg := mg) (base := base) T F_L_bag) (fun _ _ _ _ _ _ us hl => match us, hl with | [_, _], _ => rfl)
  have D_L_number := Df.mk' (st := s_L_number) F_L_number (He.glo_ok X G (c.fact 75 (f := .glo "_law_number") rfl)) (ok_number (P := P) (w := w) (mg := mg) (base := base) F_L_number D_L_take D_L_low) (fun _ _ _ _ _ _ us hl => match us, hl with | [_, _], _ => rfl)
  have D_L_turned := Df.mk' (st := s_L_turned) F_L_turned (He.glo_ok X G (c.fact 76 (f := .glo "_law_turned") rfl)) (ok_turned (P := P) (w := w) (mg := mg) (base := base) T F_L_turned D_L_take) (fun _ _ _ _ _ _ us hl => match us, hl with | [_, _], _ => rfl)
  have D_L_machine := Df.mk' (st := s_L_machine) F_L_machine (He.glo_ok X G (c.fact 77 (f := .glo "_law_machine") rfl)) (ok_mach (P := P) (w := w) (mg := mg) (base := base) T F_L_machine D_L_take D_L_turned D_L_number) (fun _ _ _ _ _ _ us hl => match us, hl with | [_, _, _, _], _ => rfl)
  have D_L_any_row := Df.mk' (st := s_L_any_row) F_L_any_row (He.glo_ok X G (c.fact 85 (f := .glo "_law_any_row") rfl)) (ok_any_row (P := P) (w := w) (mg := mg) (base := base) F_L_any_row D_L_take D_L_number) (fun _ _ _ _ _ _ us hl => match us, hl with | [_, _, _], _ => rfl)
  have D_L_any_deed := Df.mk' (st := s_L_any_deed) F_L_any_deed (He.glo_ok X G (c.fact 86 (f := .glo "_law_any_deed") rfl)) (ok_any_deed (P := P) (w := w) (mg := mg) (base := base) T F_L_any_deed D_L_take D_L_number D_L_any_row) (fun _ _ _ _ _ _ us hl => match us, hl with | [_, _, _], _ => rfl)
  have D_L_said := Df.mk' (st := s_L_said) F_L_said (He.glo_ok X G (c.fact 83 (f := .glo "_law_said") rfl)) (ok_said (P := P) (w := w) (mg := mg) (base := base) Mz F_L_said) (fun _ _ _ _ _ _ us hl => match us, hl with | [_, _], _ => rfl)
  have D_L_alone := DfE.mk' (st := s_L_alone) F_L_alone (He.glo_ok X G (c.fact 81 (f := .glo "_law_alone") rfl)) (ok_alone (P := P) (w := w) (mg := mg) (base := base) T F_L_alone) (fun _ _ _ _ _ _ us hl => match us, hl with | [_], _ => rfl)
  have D_L_refusal := DfE.mk' (st := s_L_refusal) F_L_refusal (He.glo_ok X G (c.fact 82 (f := .glo "_law_refusal") rfl)) (ok_refusal (P := P) (w := w) (mg := mg) (base := base) T F_L_refusal D_L_alone) (fun _ _ _ _ _ _ us hl => match us, hl with | [_], _ => rfl)
  have D_L_got := Df.mk' (st := s_L_got) F_L_got (He.glo_ok X G (c.fact 84 (f := .glo "_law_got") rfl)) (ok_got (P := P) (w := w) (mg := mg) (base := base) R D_L_said D_L_alone D_L_refusal F_L_got) (fun _ _ _ _ _ _ us hl => match us, hl with | [_, _], _ => rfl)
  have D_L_same := ok_same (P := P) (w := w) (mg := mg) (base := base) T F_L_same (He.glo_ok X G (c.fact 80 (f := .glo "_law_same") rfl)) (fun _ _ _ _ _ _ us hl => match us, hl with | [_, _], _ => rfl) 4
  have D_L_all_told := Df.mk' (st := s_L_all_told) F_L_all_told (He.glo_ok X G (c.fact 87 (f := .glo "_law_all_told") rfl)) (ok_told (P := P) (w := w) (mg := mg) (base := base) T Mz F_L_all_told) (fun _ _ _ _ _ _ us hl => match us, hl with | [_, _], _ => rfl)
  have D_L_known := Df.mk' (st := s_L_known) F_L_known (He.glo_ok X G (c.fact 90 (f := .glo "_law_known") rfl)) (ok_known (P := P) (w := w) (mg := mg) (base := base) F_L_known) (fun _ _ _ _ _ _ us hl => match us, hl with | [_, _], _ => rfl)
  have D_L_moved := Df.mk' (st := s_L_moved) F_L_moved (He.glo_ok X G (c.fact 88 (f := .glo "_law_moved") rfl)) (ok_lmoved (P := P) (w := w) (mg := mg) (base := base) T F_L_moved D_L_is_number D_L_mul D_L_add) (fun _ _ _ _ _ _ us hl => match us, hl with | [_, _, _, _], _ => rfl)
  have D_L_behind := Df.mk' (st := s_L_behind) F_L_behind (He.glo_ok X G (c.fact 89 (f := .glo "_law_behind") rfl)) (ok_behind (P := P) (w := w) (mg := mg) (base := base) T F_L_behind D_L_add) (fun _ _ _ _ _ _ us hl => match us, hl with | [_, _, _], _ => rfl)
  have D_L_done := Df.mk' (st := s_L_done) F_L_done (He.glo_ok X G (c.fact 91 (f := .glo "_law_done") rfl)) (ok_done (P := P) (w := w) (mg := mg) (base := base) T D_L_any_deed D_L_take D_L_got D_L_known D_L_moved D_L_behind D_L_all_told D_L_same F_L_done) (fun _ _ _ _ _ _ us hl => match us, hl with | [_, _], _ => rfl)
  exact ok_law (P := P) (w := w) (mg := mg) (base := base) T D_L_take D_L_machine D_L_bag BI D_L_done D_L_all_told D_L_same F_law
end RD
open PySem PySem.W PySem.Calls PyProof.Rows
theorem PySem.Challenge.cw_rolldiscs_k51_whole_plain_sums_holds : PySem.Challenge.rw_rolldiscs_k51_whole_plain_sums.Holds := by
  w_on; o_law
  refine HandSHeadRun.head_any (r := OpenLaw.row PySem.Challenge.rw_rolldiscs_k51_whole_plain_sums) (q := view (OpenLaw.row PySem.Challenge.rw_rolldiscs_k51_whole_plain_sums).prog [67]) (H := RD.hk) (ob := RD.ob) (M := 20000) (loose := RD.loose) (d := HandSHeadRun.topDef (OpenLaw.row PySem.Challenge.rw_rolldiscs_k51_whole_plain_sums).prog 67) (kwd := []) RD.ob_eq
    (by kernel_rfl) (fun s => by kernel_rfl) RD.run (by kernel_rfl) (by kernel_rfl) (by kernel_rfl) (by rfl) (by first | assumption | decide +kernel) (by decide +kernel) ⟨rfl, rfl, rfl, rfl, rfl, by decide +kernel⟩ ?hw ?hc
  case hw => w_witness2
  case hc =>
    refine L2.walk_ofE (l := PySem.Challenge.rw_rolldiscs_k51_whole_plain_sums) (n := 63) (k := 10) (x := "_law_script") (CX := L2.CX0) rfl (by decide) (by kernel_rfl) ⟨rfl, by decide, by decide⟩ ?F (fun _ _ _ _ z => z)
    intro w mg fa h Y G hmg0
    obtain ⟨K, KX, c, ck⟩ := Y
    have hmg : mg ("law" : PySem.Str) = some (.ref fa) := by
      have e : (HandSHeadRun.topDef (OpenLaw.row PySem.Challenge.rw_rolldiscs_k51_whole_plain_sums).prog 67).name = ("law" : PySem.Str) := by kernel_rfl
      rw [← e]
      exact hmg0
    obtain ⟨fd, hb, hF⟩ := RD.facts (P := (PySem.Challenge.rw_rolldiscs_k51_whole_plain_sums).prog) (w := w) KX G hmg c ck
    exact ⟨K, fd, RD.spLaw (K := K), KX, hb, fun H a ns hl _ hS => ⟨a, ns, rfl, hS, hl, fun _ => rfl⟩, hF⟩
