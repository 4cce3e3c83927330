import PyProof.Rows.All
import Wide.All
import OpenK.AllK
import Wide.FinOn
import KE.KStateDown
import Lean
import HandS.ForMost
import HandS.ForExc
import HandS.More
import HandS.Walk
import HandS.Zip
import HandS.IsInst
import HandS.Defaults
import HandS.TryMany
import HandS.TryElse
import HandS.ExcCtx
import HandS.ExcIs
import HandS.ExcInit
import HandS.Hot
import HandS.HotCalls
import HandS.ExcInitHot
import HandS.ClsMeth
import HandS.Steps
import HandS.Wide
import HandS.Style
import KE.GoesNew
import HandS.SetFor
import HandS.Head0
import HandS.Head1
import HandS.Head2
import HandS.HeadEnd
import HandS.HeadHook1
import HandS.HeadHook2
import KE.DataEq
import HandS.EndTab
import HandS.HeadWalk
import PySem.Challenge.RW_shadowpages_k85_over_and_dropped
set_option Elab.async false
set_option linter.all false
set_option maxRecDepth 100000
/-! P0 -/
set_option maxHeartbeats 4100000
namespace SP
open PySem PySem.Spec PyProof.Rows L2 L2H
inductive SFa where
  | he (f : He.Fa)
  | noats (x : Str) (fs : List Str)
  | meth (x y m : Str)
  | cdef (x m : Str)
  | cdefB (x m : Str) (b : String)
  | excC (x : Str)
  | kit (x y : Str) (b : Bool)
  | kitT (x : Str) (t : String) (b : Bool)
  | oex (x : Str)
def oexB (K : PySem.W.Frag) (C : Addr) : Bool := match K.lookup C with
  | some ⟨.type t, _, .cls cd, sl⟩ => (match cd.mro, sl.toList with
    | .ref C' :: bm, [_, _, _, _, some (.builtin n), _] => decide (t = "type") && (decide (C' = C) && (decide (n = "ValueError.__new__") && (!cd.hasDel && (cd.hasDict && HandSPX.refsVE bm))))
    | _, _ => false)
  | _ => false
def cdV (K : PySem.W.Frag) (C : Addr) (m : Str) (v : Value) : Bool := match PySem.W.findCls K (.ref C) (.type "type") m with
  | some (.val (.ref f)) => (match v with
    | .ref g => decide (f = g)
    | _ => false)
  | some (.val (.builtin f)) => (match v with
    | .builtin g => decide (f = g)
    | _ => false)
  | _ => false
def cdB (K : PySem.W.Frag) (C : Addr) (m : Str) (v : Value) : Bool := PySem.W.readsIn K C (.type "type") && (He.eqO (PySem.W.specialIn K (.ref C) "__getattribute__") (some (some (.builtin "type.__getattribute__"))) && cdV K C m v)
def SFa.ok (K : PySem.W.Frag) : SFa → Bool
  | .he f => f.ok K
  | .noats x fs => fs.all fun f => He.eqO (PySem.W.findIn K (.ref (He.ga K x)) f) (some none)
  | .meth x y m => He.eqO (PySem.W.findIn K (.ref (He.ga K x)) m) (some (some (.ref (He.ma K (He.ga K y) m)))) && (PySem.W.isFn K (.ref (He.ma K (He.ga K y) m)) && PySem.W.keepIn K (.ref (He.ma K (He.ga K y) m)))
  | .cdef x m => cdB K (He.ga K x) m (.ref (He.ma K (He.ga K x) m))
  | .cdefB x m b => cdB K (He.ga K x) m (.builtin b)
  | .excC x => He.eqO (PySem.W.findIn K (.ref (He.ga K x)) "__getattribute__") (some (some (.builtin "BaseException.__getattribute__"))) && (He.eqO (PySem.W.findIn K (.ref (He.ga K x)) "__getattr__") (some none) && (decide (PySem.W.subIn K (.ref (He.ga K x)) (.type "BaseException") = some true) &&
      (PySem.W.hasDictIn K (He.ga K x) && (He.eqO (PySem.W.findIn K (.ref (He.ga K x)) "__class__") (some (some (.builtin "object.__class__"))) && (He.eqO (PySem.W.specialIn K (.builtin "object.__class__") "__get__") (some (some (.builtin "getset_descriptor.__get__"))) &&
      (decide (PySem.W.takesIn K (.builtin "object.__class__") = some true) && decide (PySem.W.mroIn K (He.ga K x) (.type "object") = some true)))))))
  | .kit x y b => decide (PySem.W.kitOne K (.ref (He.ga K x)) (.ref (He.ga K y)) = some b)
  | .kitT x t b => decide (PySem.W.kitOne K (.ref (He.ga K x)) (.type t) = some b)
  | .oex x => oexB K (He.ga K x) && (He.eqO (PySem.W.findIn K (.ref (He.ga K x)) "__setattr__") (some (some (.builtin "object.__setattr__"))) && (decide (PySem.W.subIn K (.ref (He.ga K x)) (.type "BaseException") = some true) && (decide (PySem.W.typeIn K (.ref (He.ga K x)) = some (.type "type")) &&
      (PySem.W.keepIn K (.ref (He.ga K x)) && (He.eqO (PySem.W.findIn K (.ref (He.ga K x)) "__init__") (some (some (.ref (He.ma K (He.ga K x) "__init__")))) && decide (PySem.W.typeIn K (.ref (He.ma K (He.ga K x) "__init__")) = some (.type "function")))))))
/-- the whole -/
def allFa (faL : List (List SFa)) (K : PySem.W.Frag) : Bool := faL.all fun l => l.all fun f => f.ok K
def allFn (fnL : List (List He.DefD)) (K : PySem.W.Frag) : Bool := fnL.all fun l => l.all fun d => d.ok K
abbrev SAl : Type := Bool × List (List He.FnW)
def sObs (faL : List (List SFa)) (fnL : List (List He.DefD)) (K : PySem.W.Frag) : SAl := (allFa faL K && allFn fnL K, fnL.map fun l => l.map fun d => He.fnW K d.at_)
def sVal (fnL : List (List He.DefD)) : SAl := (true, fnL.map fun l => l.map He.DefD.val)
def sSays (faL : List (List SFa)) (fnL : List (List He.DefD)) (K : PySem.W.Frag) : Prop := sObs faL fnL K = sVal fnL
/-- the objects looked at: the module's names, the classes' names, the defs' codes and defaults -/
def selO (o : Option Obj) : List Addr := match o with
  | some o => (match
                     o.data with
    | .cls cd => [cd.ns]
    | .func fd => He.refV fd.code ++ He.refV fd.defaults
    | .dict es _ => es.toList.flatMap fun e => He.refV e.val
    | _ => [])
  | none => []
def colA (ns : List Str) (g : Addr → Option Obj) : List Addr :=
  let l1 := ns.map fun x => He.ga (He.frG g [mainGlobals]) x
  let l2 := l1.flatMap fun a => selO (g a)
  let l3 := l2.flatMap fun a => selO (g a)
  let l4 := l3.flatMap fun a => selO (g a)
  mainGlobals :: PySem.cStatics :: (l1 ++ (l2 ++ (l3 ++ l4)))
end SP

/-! P1 -/
set_option maxHeartbeats 4100000
namespace SP
open PySem PySem.Spec PyProof.Rows L2 L2H
def top (i : Nat) : Stmt := PySem.Challenge.pw_shadowpages_k85_over_and_dropped.main.body.getD i (.Pass ⟨0, 0, 0, 0⟩)
def s_Fault_init : Stmt := inClass (top 19) 0
def s_is_whole : Stmt := top 21
def s_is_word : Stmt := top 22
def s_is_below : Stmt := top 31
def s_are_words : Stmt := top 32
def s_is_image : Stmt := top 33
def s_is_name : Stmt := top 34
def s_words_at : Stmt := top 35
def s_is_register : Stmt := top 38
def s_is_at : Stmt := top 39
def s_form_of : Stmt := top 40
def s_is_part : Stmt := top 41
def s_is_order : Stmt := top 42
def s_is_inner : Stmt := top 43
def s_checked : Stmt := top 45
def s_Shelf_init : Stmt := inClass (top 48) 0
def s_Shelf_told : Stmt := inClass (top 48) 6
def s_look_at_places : Stmt := top 52
def s_parts_of : Stmt := top 54
def s_row_of : Stmt := top 61
def s_page_of : Stmt := top 62
def s_has : Stmt := top 64
def s_put : Stmt := top 65
def s_taken : Stmt := top 66
def s_look_by : Stmt := top 69
def s_rights_of : Stmt := top 70
def s_look : Stmt := top 71
def s_stamp : Stmt := top 72
def s_mark : Stmt := top 73
def s_Ways_init : Stmt := inClass (top 77) 0
def s_Ways_page_at : Stmt := inClass (top 77) 10
def s_Ways_poke : Stmt := inClass (top 77) 12
def s_Ways_root : Stmt := inClass (top 77) 13
def s_Ways_shelf : Stmt := inClass (top 77) 18
def s_Ways_words_of : Stmt := inClass (top 77) 19
def s_Ways_pages : Stmt := inClass (top 77) 20
def s_Machine_init : Stmt := inClass (top 80) 0
def s_Machine_turn : Stmt := inClass (top 80) 1
def s_Machine_step : Stmt := inClass (top 80) 2
def s_Machine_do : Stmt := inClass (top 80) 4
def s_Machine_go : Stmt := inClass (top 80) 5
def s_Machine_reckon : Stmt := inClass (top 80) 6
def s_Machine_carry_word : Stmt := inClass (top 80) 7
def s_Machine_core : Stmt := inClass (top 80) 9
def s_Machine_events : Stmt := inClass (top 80) 10
def s_Machine_told : Stmt := inClass (top 80) 11
def s_Machine_program : Stmt := inClass (top 80) 12
def s_Machine_entry : Stmt := inClass (top 80) 13
def s_is_count : Stmt := top 83
def s_expected : Stmt := top 84
def s_Move_init : Stmt := inClass (top 85) 0
def s_Move_look_open : Stmt := inClass (top 85) 1
def s_Move_pending : Stmt := inClass (top 85) 2
def s_Move_send : Stmt := inClass (top 85) 3
def s_Move_round : Stmt := inClass (top 85) 4
def s_Move_ready : Stmt := inClass (top 85) 5
def s_Move_finish : Stmt := inClass (top 85) 6
def s_Move_drop : Stmt := inClass (top 85) 7
def s_Frames_init : Stmt := inClass (top 88) 0
def s_Frames_has : Stmt := inClass (top 88) 2
def s_Frames_look_at : Stmt := inClass (top 88) 3
def s_Frames_read : Stmt := inClass (top 88) 4
def s_Frames_write : Stmt := inClass (top 88) 5
def s_Frames_take : Stmt := inClass (top 88) 6
def s_Frames_look_up : Stmt := inClass (top 88) 7
def s_Frames_drop : Stmt := inClass (top 88) 9
def s_Frames_owners : Stmt := inClass (top 88) 10
def s_Frames_free : Stmt := inClass (top 88) 11
def s_Frames_ask : Stmt := inClass (top 88) 12
def s_Frames_back : Stmt := inClass (top 88) 13
def s_Frames_promised : Stmt := inClass (top 88) 14
def s_laid_out : Stmt := top 90
def s_Parts_init : Stmt := inClass (top 91) 0
def s_Parts_size : Stmt := inClass (top 91) 1
def s_Parts_frame : Stmt := inClass (top 91) 2
def s_Parts_need : Stmt := inClass (top 91) 3
def s_Parts_alone : Stmt := inClass (top 91) 4
def s_Parts_give : Stmt := inClass (top 91) 6
def s_Kept_init : Stmt := inClass (top 93) 0
def s_Kept_size : Stmt := inClass (top 93) 5
def s_Kept_has : Stmt := inClass (top 93) 6
def s_Kept_look_for : Stmt := inClass (top 93) 7
def s_Kept_read : Stmt := inClass (top 93) 8
def s_Kept_write : Stmt := inClass (top 93) 9
def s_Kept_fetch : Stmt := inClass (top 93) 10
def s_Kept_deposit : Stmt := inClass (top 93) 11
def s_Kept_put_alone : Stmt := inClass (top 93) 12
def s_Kept_frame : Stmt := inClass (top 93) 16
def s_Kept_soiled : Stmt := inClass (top 93) 17
def s_Kept_clean : Stmt := inClass (top 93) 18
def s_Kept_said : Stmt := inClass (top 93) 22
def s_Kept_resume : Stmt := inClass (top 93) 23
def s_Kept_end : Stmt := inClass (top 93) 24
def s_Pairs_init : Stmt := inClass (top 96) 0
def s_Pairs_row_at : Stmt := inClass (top 96) 1
def s_Pairs_lay_row : Stmt := inClass (top 96) 2
def s_Pairs_washed : Stmt := inClass (top 96) 5
def s_Pairs_soiled : Stmt := inClass (top 96) 7
def s_Pairs_open_row : Stmt := inClass (top 96) 8
def s_Pairs_fetch : Stmt := inClass (top 96) 9
def s_Pairs_deposit : Stmt := inClass (top 96) 10
def s_Pairs_words_of : Stmt := inClass (top 96) 11
def s_look_at_shadows : Stmt := top 98
def s_Shadows_init : Stmt := inClass (top 100) 0
def s_Shadows_low_table : Stmt := inClass (top 100) 1
def s_Shadows_washed : Stmt := inClass (top 100) 12
def s_Shadows_deposit : Stmt := inClass (top 100) 14
def s_Shadows_rows : Stmt := inClass (top 100) 18
def s_is_kind : Stmt := top 104
def s_House_init : Stmt := inClass (top 105) 0
def s_House_look_new : Stmt := inClass (top 105) 1
def s_House_look_there : Stmt := inClass (top 105) 2
def s_House_made : Stmt := inClass (top 105) 3
def s_House_start : Stmt := inClass (top 105) 4
def s_House_end : Stmt := inClass (top 105) 5
def s_House_turn : Stmt := inClass (top 105) 6
def s_House_names : Stmt := inClass (top 105) 8
def s_House_told : Stmt := inClass (top 105) 9
def s_House_events : Stmt := inClass (top 105) 10
def s_House_words : Stmt := inClass (top 105) 11
def s_House_way : Stmt := inClass (top 105) 12
def s_House_shelf_size : Stmt := inClass (top 105) 13
def s_House_kept : Stmt := inClass (top 105) 14
def s_House_machine : Stmt := inClass (top 105) 15
def s_House_free : Stmt := inClass (top 105) 17
def s_House_promised : Stmt := inClass (top 105) 18
def s_House_expect : Stmt := inClass (top 105) 20
def s_House_admit : Stmt := inClass (top 105) 21
def s_House_forgo : Stmt := inClass (top 105) 22
def s_House_bind : Stmt := inClass (top 105) 23
def s_House_unbind : Stmt := inClass (top 105) 24
def s_law_cell_at : Stmt := top 107
def s_law_mix : Stmt := top 108
def s_law_kinds : Stmt := top 109
def s_law_do : Stmt := top 110
def s_law_refused : Stmt := top 111
def s_law_state : Stmt := top 112
def s_law_guest : Stmt := top 113
def s_law_rounds : Stmt := top 114
def s_law_behind : Stmt := top 115
def s_law_as_if : Stmt := top 116
def s_law_moved : Stmt := top 117
def s_law : Stmt := top 118
def d_Fault_init : He.DefD := ⟨("Fault", some "__init__"), "__init__", "Fault.__init__", defArgs s_Fault_init, defBody s_Fault_init, defScope s_Fault_init, [], []⟩
def d_is_whole : He.DefD := ⟨("is_whole", none), "is_whole", "is_whole", defArgs s_is_whole, defBody s_is_whole, defScope s_is_whole, [], []⟩
def d_is_word : He.DefD := ⟨("is_word", none), "is_word", "is_word", defArgs s_is_word, defBody s_is_word, defScope s_is_word, [], []⟩
def d_is_below : He.DefD := ⟨("is_below", none), "is_below", "is_below", defArgs s_is_below, defBody s_is_below, defScope s_is_below, [], []⟩
def d_are_words : He.DefD := ⟨("are_words", none), "are_words", "are_words", defArgs s_are_words, defBody s_are_words, defScope s_are_words, [], []⟩
def d_is_image : He.DefD := ⟨("is_image", none), "is_image", "is_image", defArgs s_is_image, defBody s_is_image, defScope s_is_image, [], []⟩
def d_is_name : He.DefD := ⟨("is_name", none), "is_name", "is_name", defArgs s_is_name, defBody s_is_name, defScope s_is_name, [], []⟩
def d_words_at : He.DefD := ⟨("words_at", none), "words_at", "words_at", defArgs s_words_at, defBody s_words_at, defScope s_words_at, [], []⟩
def d_is_register : He.DefD := ⟨("is_register", none), "is_register", "is_register", defArgs s_is_register, defBody s_is_register, defScope s_is_register, [], []⟩
def d_is_at : He.DefD := ⟨("is_at", none), "is_at", "is_at", defArgs s_is_at, defBody s_is_at, defScope s_is_at, [], []⟩
def d_form_of : He.DefD := ⟨("form_of", none), "form_of", "form_of", defArgs s_form_of, defBody s_form_of, defScope s_form_of, [], []⟩
def d_is_part : He.DefD := ⟨("is_part", none), "is_part", "is_part", defArgs s_is_part, defBody s_is_part, defScope s_is_part, [], []⟩
def d_is_order : He.DefD := ⟨("is_order", none), "is_order", "is_order", defArgs s_is_order, defBody s_is_order, defScope s_is_order, [], []⟩
def d_is_inner : He.DefD := ⟨("is_inner", none), "is_inner", "is_inner", defArgs s_is_inner, defBody s_is_inner, defScope s_is_inner, [], []⟩
def d_checked : He.DefD := ⟨("checked", none), "checked", "checked", defArgs s_checked, defBody s_checked, defScope s_checked, [], []⟩
def d_Shelf_init : He.DefD := ⟨("Shelf", some "__init__"), "__init__", "Shelf.__init__", defArgs s_Shelf_init, defBody s_Shelf_init, defScope s_Shelf_init, [], []⟩
def d_Shelf_told : He.DefD := ⟨("Shelf", some "told"), "told", "Shelf.told", defArgs s_Shelf_told, defBody s_Shelf_told, defScope s_Shelf_told, [], []⟩
def d_look_at_places : He.DefD := ⟨("look_at_places", none), "look_at", "look_at", defArgs s_look_at_places, defBody s_look_at_places, defScope s_look_at_places, [], []⟩
def d_parts_of : He.DefD := ⟨("parts_of", none), "parts_of", "parts_of", defArgs s_parts_of, defBody s_parts_of, defScope s_parts_of, [], []⟩
def d_row_of : He.DefD := ⟨("row_of", none), "row_of", "row_of", defArgs s_row_of, defBody s_row_of, defScope s_row_of, [], []⟩
def d_page_of : He.DefD := ⟨("page_of", none), "page_of", "page_of", defArgs s_page_of, defBody s_page_of, defScope s_page_of, [], []⟩
def d_has : He.DefD := ⟨("has", none), "has", "has", defArgs s_has, defBody s_has, defScope s_has, [], []⟩
def d_put : He.DefD := ⟨("put", none), "put", "put", defArgs s_put, defBody s_put, defScope s_put, [], []⟩
def d_taken : He.DefD := ⟨("taken", none), "taken", "taken", defArgs s_taken, defBody s_taken, defScope s_taken, [], []⟩
def d_look_by : He.DefD := ⟨("look_by", none), "look_by", "look_by", defArgs s_look_by, defBody s_look_by, defScope s_look_by, [], []⟩
def d_rights_of : He.DefD := ⟨("rights_of", none), "rights_of", "rights_of", defArgs s_rights_of, defBody s_rights_of, defScope s_rights_of, [], []⟩
def d_look : He.DefD := ⟨("look", none), "look", "look", defArgs s_look, defBody s_look, defScope s_look, [], []⟩
def d_stamp : He.DefD := ⟨("stamp", none), "stamp", "stamp", defArgs s_stamp, defBody s_stamp, defScope s_stamp, [], []⟩
def d_mark : He.DefD := ⟨("mark", none), "mark", "mark", defArgs s_mark, defBody s_mark, defScope s_mark, [], []⟩
def d_Ways_init : He.DefD := ⟨("Ways", some "__init__"), "__init__", "Ways.__init__", defArgs s_Ways_init, defBody s_Ways_init, defScope s_Ways_init, [], []⟩
def d_Ways_page_at : He.DefD := ⟨("Ways", some "page_at"), "page_at", "Ways.page_at", defArgs s_Ways_page_at, defBody s_Ways_page_at, defScope s_Ways_page_at, [], []⟩
def d_Ways_poke : He.DefD := ⟨("Ways", some "poke"), "poke", "Ways.poke", defArgs s_Ways_poke, defBody s_Ways_poke, defScope s_Ways_poke, [], []⟩
def d_Ways_root : He.DefD := ⟨("Ways", some "root"), "root", "Ways.root", defArgs s_Ways_root, defBody s_Ways_root, defScope s_Ways_root, [], []⟩
def d_Ways_shelf : He.DefD := ⟨("Ways", some "shelf"), "shelf", "Ways.shelf", defArgs s_Ways_shelf, defBody s_Ways_shelf, defScope s_Ways_shelf, [], []⟩
def d_Ways_words_of : He.DefD := ⟨("Ways", some "words_of"), "words_of", "Ways.words_of", defArgs s_Ways_words_of, defBody s_Ways_words_of, defScope s_Ways_words_of, [], []⟩
def d_Ways_pages : He.DefD := ⟨("Ways", some "pages"), "pages", "Ways.pages", defArgs s_Ways_pages, defBody s_Ways_pages, defScope s_Ways_pages, [], []⟩
def d_Machine_init : He.DefD := ⟨("Machine", some "__init__"), "__init__", "Machine.__init__", defArgs s_Machine_init, defBody s_Machine_init, defScope s_Machine_init, [.non, .non], []⟩
def d_Machine_turn : He.DefD := ⟨("Machine", some "turn"), "turn", "Machine.turn", defArgs s_Machine_turn, defBody s_Machine_turn, defScope s_Machine_turn, [], []⟩
def d_Machine_step : He.DefD := ⟨("Machine", some "step"), "step", "Machine.step", defArgs s_Machine_step, defBody s_Machine_step, defScope s_Machine_step, [], []⟩
def d_Machine_do : He.DefD := ⟨("Machine", some "do"), "do", "Machine.do", defArgs s_Machine_do, defBody s_Machine_do, defScope s_Machine_do, [], []⟩
def d_Machine_go : He.DefD := ⟨("Machine", some "go"), "go", "Machine.go", defArgs s_Machine_go, defBody s_Machine_go, defScope s_Machine_go, [], []⟩
def d_Machine_reckon : He.DefD := ⟨("Machine", some "reckon"), "reckon", "Machine.reckon", defArgs s_Machine_reckon, defBody s_Machine_reckon, defScope s_Machine_reckon, [], []⟩
def d_Machine_carry_word : He.DefD := ⟨("Machine", some "carry_word"), "carry_word", "Machine.carry_word", defArgs s_Machine_carry_word, defBody s_Machine_carry_word, defScope s_Machine_carry_word, [], []⟩
def d_Machine_core : He.DefD := ⟨("Machine", some "core"), "core", "Machine.core", defArgs s_Machine_core, defBody s_Machine_core, defScope s_Machine_core, [], []⟩
def d_Machine_events : He.DefD := ⟨("Machine", some "events"), "events", "Machine.events", defArgs s_Machine_events, defBody s_Machine_events, defScope s_Machine_events, [], []⟩
def d_Machine_told : He.DefD := ⟨("Machine", some "told"), "told", "Machine.told", defArgs s_Machine_told, defBody s_Machine_told, defScope s_Machine_told, [], []⟩
def d_Machine_program : He.DefD := ⟨("Machine", some "program"), "program", "Machine.program", defArgs s_Machine_program, defBody s_Machine_program, defScope s_Machine_program, [], []⟩
def d_Machine_entry : He.DefD := ⟨("Machine", some "entry"), "entry", "Machine.entry", defArgs s_Machine_entry, defBody s_Machine_entry, defScope s_Machine_entry, [], []⟩
def d_is_count : He.DefD := ⟨("is_count", none), "is_count", "is_count", defArgs s_is_count, defBody s_is_count, defScope s_is_count, [], []⟩
def d_expected : He.DefD := ⟨("expected", none), "expected", "expected", defArgs s_expected, defBody s_expected, defScope s_expected, [], []⟩
def d_Move_init : He.DefD := ⟨("Move", some "__init__"), "__init__", "Move.__init__", defArgs s_Move_init, defBody s_Move_init, defScope s_Move_init, [], []⟩
def d_Move_look_open : He.DefD := ⟨("Move", some "look_open"), "look_open", "Move.look_open", defArgs s_Move_look_open, defBody s_Move_look_open, defScope s_Move_look_open, [], []⟩
def d_Move_pending : He.DefD := ⟨("Move", some "pending"), "pending", "Move.pending", defArgs s_Move_pending, defBody s_Move_pending, defScope s_Move_pending, [], []⟩
def d_Move_send : He.DefD := ⟨("Move", some "send"), "send", "Move.send", defArgs s_Move_send, defBody s_Move_send, defScope s_Move_send, [], []⟩
def d_Move_round : He.DefD := ⟨("Move", some "round"), "round", "Move.round", defArgs s_Move_round, defBody s_Move_round, defScope s_Move_round, [], []⟩
def d_Move_ready : He.DefD := ⟨("Move", some "ready"), "ready", "Move.ready", defArgs s_Move_ready, defBody s_Move_ready, defScope s_Move_ready, [], []⟩
def d_Move_finish : He.DefD := ⟨("Move", some "finish"), "finish", "Move.finish", defArgs s_Move_finish, defBody s_Move_finish, defScope s_Move_finish, [], []⟩
def d_Move_drop : He.DefD := ⟨("Move", some "drop"), "drop", "Move.drop", defArgs s_Move_drop, defBody s_Move_drop, defScope s_Move_drop, [], []⟩
def d_Frames_init : He.DefD := ⟨("Frames", some "__init__"), "__init__", "Frames.__init__", defArgs s_Frames_init, defBody s_Frames_init, defScope s_Frames_init, [], []⟩
def d_Frames_has : He.DefD := ⟨("Frames", some "has"), "has", "Frames.has", defArgs s_Frames_has, defBody s_Frames_has, defScope s_Frames_has, [], []⟩
def d_Frames_look_at : He.DefD := ⟨("Frames", some "look_at"), "look_at", "Frames.look_at", defArgs s_Frames_look_at, defBody s_Frames_look_at, defScope s_Frames_look_at, [], []⟩
def d_Frames_read : He.DefD := ⟨("Frames", some "read"), "read", "Frames.read", defArgs s_Frames_read, defBody s_Frames_read, defScope s_Frames_read, [], []⟩
def d_Frames_write : He.DefD := ⟨("Frames", some "write"), "write", "Frames.write", defArgs s_Frames_write, defBody s_Frames_write, defScope s_Frames_write, [], []⟩
def d_Frames_take : He.DefD := ⟨("Frames", some "take"), "take", "Frames.take", defArgs s_Frames_take, defBody s_Frames_take, defScope s_Frames_take, [], []⟩
def d_Frames_look_up : He.DefD := ⟨("Frames", some "look_up"), "look_up", "Frames.look_up", defArgs s_Frames_look_up, defBody s_Frames_look_up, defScope s_Frames_look_up, [], []⟩
def d_Frames_drop : He.DefD := ⟨("Frames", some "drop"), "drop", "Frames.drop", defArgs s_Frames_drop, defBody s_Frames_drop, defScope s_Frames_drop, [], []⟩
def d_Frames_owners : He.DefD := ⟨("Frames", some "owners"), "owners", "Frames.owners", defArgs s_Frames_owners, defBody s_Frames_owners, defScope s_Frames_owners, [], []⟩
def d_Frames_free : He.DefD := ⟨("Frames", some "free"), "free", "Frames.free", defArgs s_Frames_free, defBody s_Frames_free, defScope s_Frames_free, [], []⟩
def d_Frames_ask : He.DefD := ⟨("Frames", some "ask"), "ask", "Frames.ask", defArgs s_Frames_ask, defBody s_Frames_ask, defScope s_Frames_ask, [], []⟩
def d_Frames_back : He.DefD := ⟨("Frames", some "back"), "back", "Frames.back", defArgs s_Frames_back, defBody s_Frames_back, defScope s_Frames_back, [], []⟩
def d_Frames_promised : He.DefD := ⟨("Frames", some "promised"), "promised", "Frames.promised", defArgs s_Frames_promised, defBody s_Frames_promised, defScope s_Frames_promised, [], []⟩
def d_laid_out : He.DefD := ⟨("laid_out", none), "laid_out", "laid_out", defArgs s_laid_out, defBody s_laid_out, defScope s_laid_out, [], []⟩
def d_Parts_init : He.DefD := ⟨("Parts", some "__init__"), "__init__", "Parts.__init__", defArgs s_Parts_init, defBody s_Parts_init, defScope s_Parts_init, [], []⟩
def d_Parts_size : He.DefD := ⟨("Parts", some "size"), "size", "Parts.size", defArgs s_Parts_size, defBody s_Parts_size, defScope s_Parts_size, [], []⟩
def d_Parts_frame : He.DefD := ⟨("Parts", some "frame"), "frame", "Parts.frame", defArgs s_Parts_frame, defBody s_Parts_frame, defScope s_Parts_frame, [], []⟩
def d_Parts_need : He.DefD := ⟨("Parts", some "need"), "need", "Parts.need", defArgs s_Parts_need, defBody s_Parts_need, defScope s_Parts_need, [], []⟩
def d_Parts_alone : He.DefD := ⟨("Parts", some "alone"), "alone", "Parts.alone", defArgs s_Parts_alone, defBody s_Parts_alone, defScope s_Parts_alone, [], []⟩
def d_Parts_give : He.DefD := ⟨("Parts", some "give"), "give", "Parts.give", defArgs s_Parts_give, defBody s_Parts_give, defScope s_Parts_give, [], []⟩
def d_Kept_init : He.DefD := ⟨("Kept", some "__init__"), "__init__", "Kept.__init__", defArgs s_Kept_init, defBody s_Kept_init, defScope s_Kept_init, [], []⟩
def d_Kept_size : He.DefD := ⟨("Kept", some "size"), "size", "Kept.size", defArgs s_Kept_size, defBody s_Kept_size, defScope s_Kept_size, [], []⟩
def d_Kept_has : He.DefD := ⟨("Kept", some "has"), "has", "Kept.has", defArgs s_Kept_has, defBody s_Kept_has, defScope s_Kept_has, [], []⟩
def d_Kept_look_for : He.DefD := ⟨("Kept", some "look_for"), "look_for", "Kept.look_for", defArgs s_Kept_look_for, defBody s_Kept_look_for, defScope s_Kept_look_for, [], []⟩
def d_Kept_read : He.DefD := ⟨("Kept", some "read"), "read", "Kept.read", defArgs s_Kept_read, defBody s_Kept_read, defScope s_Kept_read, [], []⟩
def d_Kept_write : He.DefD := ⟨("Kept", some "write"), "write", "Kept.write", defArgs s_Kept_write, defBody s_Kept_write, defScope s_Kept_write, [], []⟩
def d_Kept_fetch : He.DefD := ⟨("Kept", some "fetch"), "fetch", "Kept.fetch", defArgs s_Kept_fetch, defBody s_Kept_fetch, defScope s_Kept_fetch, [], []⟩
def d_Kept_deposit : He.DefD := ⟨("Kept", some "deposit"), "deposit", "Kept.deposit", defArgs s_Kept_deposit, defBody s_Kept_deposit, defScope s_Kept_deposit, [], []⟩
def d_Kept_put_alone : He.DefD := ⟨("Kept", some "put_alone"), "put_alone", "Kept.put_alone", defArgs s_Kept_put_alone, defBody s_Kept_put_alone, defScope s_Kept_put_alone, [], []⟩
def d_Kept_frame : He.DefD := ⟨("Kept", some "frame"), "frame", "Kept.frame", defArgs s_Kept_frame, defBody s_Kept_frame, defScope s_Kept_frame, [], []⟩
def d_Kept_soiled : He.DefD := ⟨("Kept", some "soiled"), "soiled", "Kept.soiled", defArgs s_Kept_soiled, defBody s_Kept_soiled, defScope s_Kept_soiled, [], []⟩
def d_Kept_clean : He.DefD := ⟨("Kept", some "clean"), "clean", "Kept.clean", defArgs s_Kept_clean, defBody s_Kept_clean, defScope s_Kept_clean, [], []⟩
def d_Kept_said : He.DefD := ⟨("Kept", some "said"), "said", "Kept.said", defArgs s_Kept_said, defBody s_Kept_said, defScope s_Kept_said, [], []⟩
def d_Kept_resume : He.DefD := ⟨("Kept", some "resume"), "resume", "Kept.resume", defArgs s_Kept_resume, defBody s_Kept_resume, defScope s_Kept_resume, [], []⟩
def d_Kept_end : He.DefD := ⟨("Kept", some "end"), "end", "Kept.end", defArgs s_Kept_end, defBody s_Kept_end, defScope s_Kept_end, [], []⟩
def d_Pairs_init : He.DefD := ⟨("Pairs", some "__init__"), "__init__", "Pairs.__init__", defArgs s_Pairs_init, defBody s_Pairs_init, defScope s_Pairs_init, [], []⟩
def d_Pairs_row_at : He.DefD := ⟨("Pairs", some "row_at"), "row_at", "Pairs.row_at", defArgs s_Pairs_row_at, defBody s_Pairs_row_at, defScope s_Pairs_row_at, [], []⟩
def d_Pairs_lay_row : He.DefD := ⟨("Pairs", some "lay_row"), "lay_row", "Pairs.lay_row", defArgs s_Pairs_lay_row, defBody s_Pairs_lay_row, defScope s_Pairs_lay_row, [], []⟩
def d_Pairs_washed : He.DefD := ⟨("Pairs", some "washed"), "washed", "Pairs.washed", defArgs s_Pairs_washed, defBody s_Pairs_washed, defScope s_Pairs_washed, [], []⟩
def d_Pairs_soiled : He.DefD := ⟨("Pairs", some "soiled"), "soiled", "Pairs.soiled", defArgs s_Pairs_soiled, defBody s_Pairs_soiled, defScope s_Pairs_soiled, [], []⟩
def d_Pairs_open_row : He.DefD := ⟨("Pairs", some "open_row"), "open_row", "Pairs.open_row", defArgs s_Pairs_open_row, defBody s_Pairs_open_row, defScope s_Pairs_open_row, [], []⟩
def d_Pairs_fetch : He.DefD := ⟨("Pairs", some "fetch"), "fetch", "Pairs.fetch", defArgs s_Pairs_fetch, defBody s_Pairs_fetch, defScope s_Pairs_fetch, [], []⟩
def d_Pairs_deposit : He.DefD := ⟨("Pairs", some "deposit"), "deposit", "Pairs.deposit", defArgs s_Pairs_deposit, defBody s_Pairs_deposit, defScope s_Pairs_deposit, [], []⟩
def d_Pairs_words_of : He.DefD := ⟨("Pairs", some "words_of"), "words_of", "Pairs.words_of", defArgs s_Pairs_words_of, defBody s_Pairs_words_of, defScope s_Pairs_words_of, [], []⟩
def d_look_at_shadows : He.DefD := ⟨("look_at_shadows", none), "look_at", "look_at", defArgs s_look_at_shadows, defBody s_look_at_shadows, defScope s_look_at_shadows, [], []⟩
def d_Shadows_init : He.DefD := ⟨("Shadows", some "__init__"), "__init__", "Shadows.__init__", defArgs s_Shadows_init, defBody s_Shadows_init, defScope s_Shadows_init, [], []⟩
def d_Shadows_low_table : He.DefD := ⟨("Shadows", some "low_table"), "low_table", "Shadows.low_table", defArgs s_Shadows_low_table, defBody s_Shadows_low_table, defScope s_Shadows_low_table, [], []⟩
def d_Shadows_washed : He.DefD := ⟨("Shadows", some "washed"), "washed", "Shadows.washed", defArgs s_Shadows_washed, defBody s_Shadows_washed, defScope s_Shadows_washed, [], []⟩
def d_Shadows_deposit : He.DefD := ⟨("Shadows", some "deposit"), "deposit", "Shadows.deposit", defArgs s_Shadows_deposit, defBody s_Shadows_deposit, defScope s_Shadows_deposit, [], []⟩
def d_Shadows_rows : He.DefD := ⟨("Shadows", some "rows"), "rows", "Shadows.rows", defArgs s_Shadows_rows, defBody s_Shadows_rows, defScope s_Shadows_rows, [], []⟩
def d_is_kind : He.DefD := ⟨("is_kind", none), "is_kind", "is_kind", defArgs s_is_kind, defBody s_is_kind, defScope s_is_kind, [], []⟩
def d_House_init : He.DefD := ⟨("House", some "__init__"), "__init__", "House.__init__", defArgs s_House_init, defBody s_House_init, defScope s_House_init, [.int 3], []⟩
def d_House_look_new : He.DefD := ⟨("House", some "look_new"), "look_new", "House.look_new", defArgs s_House_look_new, defBody s_House_look_new, defScope s_House_look_new, [], []⟩
def d_House_look_there : He.DefD := ⟨("House", some "look_there"), "look_there", "House.look_there", defArgs s_House_look_there, defBody s_House_look_there, defScope s_House_look_there, [], []⟩
def d_House_made : He.DefD := ⟨("House", some "made"), "made", "House.made", defArgs s_House_made, defBody s_House_made, defScope s_House_made, [], []⟩
def d_House_start : He.DefD := ⟨("House", some "start"), "start", "House.start", defArgs s_House_start, defBody s_House_start, defScope s_House_start, [], []⟩
def d_House_end : He.DefD := ⟨("House", some "end"), "end", "House.end", defArgs s_House_end, defBody s_House_end, defScope s_House_end, [], []⟩
def d_House_turn : He.DefD := ⟨("House", some "turn"), "turn", "House.turn", defArgs s_House_turn, defBody s_House_turn, defScope s_House_turn, [], []⟩
def d_House_names : He.DefD := ⟨("House", some "names"), "names", "House.names", defArgs s_House_names, defBody s_House_names, defScope s_House_names, [], []⟩
def d_House_told : He.DefD := ⟨("House", some "told"), "told", "House.told", defArgs s_House_told, defBody s_House_told, defScope s_House_told, [], []⟩
def d_House_events : He.DefD := ⟨("House", some "events"), "events", "House.events", defArgs s_House_events, defBody s_House_events, defScope s_House_events, [], []⟩
def d_House_words : He.DefD := ⟨("House", some "words"), "words", "House.words", defArgs s_House_words, defBody s_House_words, defScope s_House_words, [], []⟩
def d_House_way : He.DefD := ⟨("House", some "way"), "way", "House.way", defArgs s_House_way, defBody s_House_way, defScope s_House_way, [], []⟩
def d_House_shelf_size : He.DefD := ⟨("House", some "shelf_size"), "shelf_size", "House.shelf_size", defArgs s_House_shelf_size, defBody s_House_shelf_size, defScope s_House_shelf_size, [], []⟩
def d_House_kept : He.DefD := ⟨("House", some "kept"), "kept", "House.kept", defArgs s_House_kept, defBody s_House_kept, defScope s_House_kept, [], []⟩
def d_House_machine : He.DefD := ⟨("House", some "machine"), "machine", "House.machine", defArgs s_House_machine, defBody s_House_machine, defScope s_House_machine, [], []⟩
def d_House_free : He.DefD := ⟨("House", some "free"), "free", "House.free", defArgs s_House_free, defBody s_House_free, defScope s_House_free, [], []⟩
def d_House_promised : He.DefD := ⟨("House", some "promised"), "promised", "House.promised", defArgs s_House_promised, defBody s_House_promised, defScope s_House_promised, [], []⟩
def d_House_expect : He.DefD := ⟨("House", some "expect"), "expect", "House.expect", defArgs s_House_expect, defBody s_House_expect, defScope s_House_expect, [], []⟩
def d_House_admit : He.DefD := ⟨("House", some "admit"), "admit", "House.admit", defArgs s_House_admit, defBody s_House_admit, defScope s_House_admit, [], []⟩
def d_House_forgo : He.DefD := ⟨("House", some "forgo"), "forgo", "House.forgo", defArgs s_House_forgo, defBody s_House_forgo, defScope s_House_forgo, [], []⟩
def d_House_bind : He.DefD := ⟨("House", some "bind"), "bind", "House.bind", defArgs s_House_bind, defBody s_House_bind, defScope s_House_bind, [], []⟩
def d_House_unbind : He.DefD := ⟨("House", some "unbind"), "unbind", "House.unbind", defArgs s_House_unbind, defBody s_House_unbind, defScope s_House_unbind, [], []⟩
def d_law_cell_at : He.DefD := ⟨("_law_cell_at", none), "_law_cell_at", "_law_cell_at", defArgs s_law_cell_at, defBody s_law_cell_at, defScope s_law_cell_at, [], []⟩
def d_law_mix : He.DefD := ⟨("_law_mix", none), "_law_mix", "_law_mix", defArgs s_law_mix, defBody s_law_mix, defScope s_law_mix, [], []⟩
def d_law_kinds : He.DefD := ⟨("_law_kinds", none), "_law_kinds", "_law_kinds", defArgs s_law_kinds, defBody s_law_kinds, defScope s_law_kinds, [], []⟩
def d_law_do : He.DefD := ⟨("_law_do", none), "_law_do", "_law_do", defArgs s_law_do, defBody s_law_do, defScope s_law_do, [], []⟩
def d_law_refused : He.DefD := ⟨("_law_refused", none), "_law_refused", "_law_refused", defArgs s_law_refused, defBody s_law_refused, defScope s_law_refused, [], []⟩
def d_law_state : He.DefD := ⟨("_law_state", none), "_law_state", "_law_state", defArgs s_law_state, defBody s_law_state, defScope s_law_state, [], []⟩
def d_law_guest : He.DefD := ⟨("_law_guest", none), "_law_guest", "_law_guest", defArgs s_law_guest, defBody s_law_guest, defScope s_law_guest, [], []⟩
def d_law_rounds : He.DefD := ⟨("_law_rounds", none), "_law_rounds", "_law_rounds", defArgs s_law_rounds, defBody s_law_rounds, defScope s_law_rounds, [], []⟩
def d_law_behind : He.DefD := ⟨("_law_behind", none), "_law_behind", "_law_behind", defArgs s_law_behind, defBody s_law_behind, defScope s_law_behind, [], []⟩
def d_law_as_if : He.DefD := ⟨("_law_as_if", none), "_law_as_if", "_law_as_if", defArgs s_law_as_if, defBody s_law_as_if, defScope s_law_as_if, [], []⟩
def d_law_moved : He.DefD := ⟨("_law_moved", none), "_law_moved", "_law_moved", defArgs s_law_moved, defBody s_law_moved, defScope s_law_moved, [], []⟩
def d_law : He.DefD := ⟨("law", none), "law", "law", defArgs s_law, defBody s_law, defScope s_law, [], []⟩
def fn0 : List He.DefD := [d_Fault_init, d_is_whole, d_is_word, d_is_below, d_are_words, d_is_image, d_is_name, d_words_at, d_is_register, d_is_at, d_form_of, d_is_part, d_is_order, d_is_inner, d_checked, d_Shelf_init, d_Shelf_told, d_look_at_places, d_parts_of, d_row_of, d_page_of, d_has, d_put, d_taken, d_look_by, d_rights_of, d_look, d_stamp, d_mark, d_Ways_init]
def fn1 : List He.DefD := [d_Ways_page_at, d_Ways_poke, d_Ways_root, d_Ways_shelf, d_Ways_words_of, d_Ways_pages, d_Machine_init, d_Machine_turn, d_Machine_step, d_Machine_do, d_Machine_go, d_Machine_reckon, d_Machine_carry_word, d_Machine_core, d_Machine_events, d_Machine_told, d_Machine_program, d_Machine_entry, d_is_count, d_expected, d_Move_init, d_Move_look_open, d_Move_pending, d_Move_send, d_Move_round, d_Move_ready, d_Move_finish, d_Move_drop, d_Frames_init, d_Frames_has]
def fn2 : List He.DefD := [d_Frames_look_at, d_Frames_read, d_Frames_write, d_Frames_take, d_Frames_look_up, d_Frames_drop, d_Frames_owners, d_Frames_free, d_Frames_ask, d_Frames_back, d_Frames_promised, d_laid_out, d_Parts_init, d_Parts_size, d_Parts_frame, d_Parts_need, d_Parts_alone, d_Parts_give, d_Kept_init, d_Kept_size, d_Kept_has, d_Kept_look_for, d_Kept_read, d_Kept_write, d_Kept_fetch, d_Kept_deposit, d_Kept_put_alone, d_Kept_frame, d_Kept_soiled, d_Kept_clean]
def fn3 : List He.DefD := [d_Kept_said, d_Kept_resume, d_Kept_end, d_Pairs_init, d_Pairs_row_at, d_Pairs_lay_row, d_Pairs_washed, d_Pairs_soiled, d_Pairs_open_row, d_Pairs_fetch, d_Pairs_deposit, d_Pairs_words_of, d_look_at_shadows, d_Shadows_init, d_Shadows_low_table, d_Shadows_washed, d_Shadows_deposit, d_Shadows_rows, d_is_kind, d_House_init, d_House_look_new, d_House_look_there, d_House_made, d_House_start, d_House_end, d_House_turn, d_House_names, d_House_told, d_House_events, d_House_words]
def fn4 : List He.DefD := [d_House_way, d_House_shelf_size, d_House_kept, d_House_machine, d_House_free, d_House_promised, d_House_expect, d_House_admit, d_House_forgo, d_House_bind, d_House_unbind, d_law_cell_at, d_law_mix, d_law_kinds, d_law_do, d_law_refused, d_law_state, d_law_guest, d_law_rounds, d_law_behind, d_law_as_if, d_law_moved, d_law]
def fnL : List (List He.DefD) := [fn0, fn1, fn2, fn3, fn4]
def l_Shelf : List Str := ["most", "line"]
def l_Pairs : List Str := ["held", "base", "ground", "mine", "part", "changed", "answers"]
def l_Shadows : List Str := ["held", "base", "ground", "mine", "part", "changed", "answers", "opened", "spare"]
def l_Machine : List Str := ["ways", "orders", "door", "cells", "counter", "ruling", "fallen", "stopped", "notes"]
def l_Move : List Str := ["there", "house", "name", "other", "most", "rounds", "done", "over"]
def l_Frames : List Str := ["held", "owned", "pledged"]
def l_Parts : List Str := ["ground", "leads"]
def l_House : List Str := ["ground", "pool", "engines", "stores", "kinds", "rims", "awaited", "bound"]
def fa0 : List SFa := [.he (.glo "is_whole"), .he (.glo "is_word"), .he (.glo "is_below"), .he (.glo "are_words"), .he (.glo "is_image"), .he (.glo "is_name"), .he (.glo "words_at"), .he (.glo "is_register"), .he (.glo "is_at"), .he (.glo "form_of"), .he (.glo "is_part"), .he (.glo "is_order"), .he (.glo "is_inner"), .he (.glo "checked"), .he (.glo "look_at_places"), .he (.glo "parts_of"), .he (.glo "row_of"), .he (.glo "page_of"), .he (.glo "has"), .he (.glo "put"), .he (.glo "taken"), .he (.glo "look_by"), .he (.glo "rights_of"), .he (.glo "look"), .he (.glo "stamp"), .he (.glo "mark"), .he (.glo "is_count"), .he (.glo "expected"), .he (.glo "laid_out"), .he (.glo "look_at_shadows")]
def fa1 : List SFa := [.he (.glo "is_kind"), .he (.glo "_law_cell_at"), .he (.glo "_law_mix"), .he (.glo "_law_kinds"), .he (.glo "_law_do"), .he (.glo "_law_refused"), .he (.glo "_law_state"), .he (.glo "_law_guest"), .he (.glo "_law_rounds"), .he (.glo "_law_behind"), .he (.glo "_law_as_if"), .he (.glo "_law_moved"), .he (.glo "law"), .he (.glo "HouseError"), .he (.glo "NoWord"), .he (.glo "NoRow"), .he (.glo "NoPlace"), .he (.glo "NoPage"), .he (.glo "NoImage"), .he (.glo "NoShelf"), .he (.glo "NoFrame"), .he (.glo "NoRoom"), .he (.glo "NoBound"), .he (.glo "NoName"), .he (.glo "NoWay"), .he (.glo "Busy"), .he (.glo "Over"), .he (.glo "NoOrder"), .he (.glo "NoProgram"), .he (.glo "NoText")]
def fa2 : List SFa := [.he (.glo "Fault"), .he (.glo "Shelf"), .he (.glo "Store"), .he (.glo "Ways"), .he (.glo "Machine"), .he (.glo "Move"), .he (.glo "Frames"), .he (.glo "Parts"), .he (.glo "Kept"), .he (.glo "Pairs"), .he (.glo "Shadows"), .he (.glo "House"), .he (.free "len"), .he (.free "range"), .he (.free "isinstance"), .he (.free "all"), .he (.free "sorted"), .he (.free "list"), .he (.free "int"), .he (.free "bool"), .he (.free "str"), .he (.free "tuple"), .he (.free "sum"), .he (.free "min"), .he (.free "enumerate"), .he (.free "zip"), .he (.free "divmod"), .he (.free "ValueError"), .he (.int "CELLS" 8), .he (.int "MOST_PAGES" 24)]
def fa3 : List SFa := [.he (.int "MOST_ROWS" 60), .he (.int "MOST" 12), .he (.int "PRESENT" 1), .he (.int "WRITABLE" 2), .he (.int "KERNEL" 4), .he (.int "TOUCHED" 8), .he (.int "SOILED" 16), .he (.int "LAST" 511), .he (.int "MOST_STEPS" 500), .he (.int "MOST_ROUNDS" 20), .he (.int "MOST_FRAMES" 200), .he (.int "EACH" 8), .he (.int "LEAST_POOL" 2), .he (.int "MOST_POOL" 9), .he (.str "LETTERS" "abcdefghijklmnopqrstuvwxyz"), .he (.cls "Shelf"), .he (.mkr "Shelf"), .noats "Shelf" l_Shelf, .meth "Shelf" "Shelf" "told", .he (.cls "Pairs"), .he (.mkr "Pairs"), .noats "Pairs" l_Pairs, .meth "Pairs" "Pairs" "row_at", .meth "Pairs" "Pairs" "lay_row", .meth "Pairs" "Pairs" "washed", .meth "Pairs" "Pairs" "soiled", .meth "Pairs" "Pairs" "open_row", .meth "Pairs" "Pairs" "fetch", .meth "Pairs" "Pairs" "deposit", .meth "Pairs" "Pairs" "words_of"]
def fa4 : List SFa := [.meth "Pairs" "Kept" "size", .meth "Pairs" "Kept" "has", .meth "Pairs" "Kept" "look_for", .meth "Pairs" "Kept" "read", .meth "Pairs" "Kept" "write", .meth "Pairs" "Kept" "put_alone", .meth "Pairs" "Kept" "frame", .meth "Pairs" "Kept" "clean", .meth "Pairs" "Kept" "said", .meth "Pairs" "Kept" "resume", .meth "Pairs" "Kept" "end", .meth "Pairs" "Ways" "page_at", .meth "Pairs" "Ways" "poke", .meth "Pairs" "Ways" "root", .meth "Pairs" "Ways" "shelf", .meth "Pairs" "Ways" "pages", .he (.cls "Shadows"), .he (.mkr "Shadows"), .noats "Shadows" l_Shadows, .meth "Shadows" "Shadows" "low_table", .meth "Shadows" "Shadows" "washed", .meth "Shadows" "Shadows" "deposit", .meth "Shadows" "Shadows" "rows", .meth "Shadows" "Kept" "size", .meth "Shadows" "Kept" "has", .meth "Shadows" "Kept" "look_for", .meth "Shadows" "Kept" "read", .meth "Shadows" "Kept" "write", .meth "Shadows" "Kept" "fetch", .meth "Shadows" "Kept" "put_alone"]
def fa5 : List SFa := [.meth "Shadows" "Kept" "frame", .meth "Shadows" "Kept" "soiled", .meth "Shadows" "Kept" "clean", .meth "Shadows" "Kept" "said", .meth "Shadows" "Kept" "resume", .meth "Shadows" "Kept" "end", .meth "Shadows" "Ways" "page_at", .meth "Shadows" "Ways" "poke", .meth "Shadows" "Ways" "root", .meth "Shadows" "Ways" "shelf", .meth "Shadows" "Ways" "words_of", .meth "Shadows" "Ways" "pages", .he (.cls "Machine"), .he (.mkr "Machine"), .noats "Machine" l_Machine, .meth "Machine" "Machine" "turn", .meth "Machine" "Machine" "step", .meth "Machine" "Machine" "do", .meth "Machine" "Machine" "go", .meth "Machine" "Machine" "reckon", .meth "Machine" "Machine" "carry_word", .meth "Machine" "Machine" "core", .meth "Machine" "Machine" "events", .meth "Machine" "Machine" "told", .meth "Machine" "Machine" "program", .meth "Machine" "Machine" "entry", .he (.cls "Move"), .he (.mkr "Move"), .noats "Move" l_Move, .meth "Move" "Move" "look_open"]
def fa6 : List SFa := [.meth "Move" "Move" "pending", .meth "Move" "Move" "send", .meth "Move" "Move" "round", .meth "Move" "Move" "ready", .meth "Move" "Move" "finish", .meth "Move" "Move" "drop", .he (.cls "Frames"), .he (.mkr "Frames"), .noats "Frames" l_Frames, .meth "Frames" "Frames" "has", .meth "Frames" "Frames" "look_at", .meth "Frames" "Frames" "read", .meth "Frames" "Frames" "write", .meth "Frames" "Frames" "take", .meth "Frames" "Frames" "look_up", .meth "Frames" "Frames" "drop", .meth "Frames" "Frames" "owners", .meth "Frames" "Frames" "free", .meth "Frames" "Frames" "ask", .meth "Frames" "Frames" "back", .meth "Frames" "Frames" "promised", .he (.cls "Parts"), .he (.mkr "Parts"), .noats "Parts" l_Parts, .meth "Parts" "Parts" "size", .meth "Parts" "Parts" "frame", .meth "Parts" "Parts" "need", .meth "Parts" "Parts" "alone", .meth "Parts" "Parts" "give", .he (.cls "House")]
def fa7 : List SFa := [.he (.mkr "House"), .noats "House" l_House, .meth "House" "House" "look_new", .meth "House" "House" "look_there", .meth "House" "House" "made", .meth "House" "House" "start", .meth "House" "House" "end", .meth "House" "House" "turn", .meth "House" "House" "names", .meth "House" "House" "told", .meth "House" "House" "events", .meth "House" "House" "words", .meth "House" "House" "way", .meth "House" "House" "shelf_size", .meth "House" "House" "kept", .meth "House" "House" "machine", .meth "House" "House" "free", .meth "House" "House" "promised", .meth "House" "House" "expect", .meth "House" "House" "admit", .meth "House" "House" "forgo", .meth "House" "House" "bind", .meth "House" "House" "unbind", .cdef "Ways" "__init__", .cdef "Kept" "__init__", .cdef "Kept" "deposit", .cdefB "HouseError" "__init__" "ValueError.__init__", .he (.exc "Over"), .he (.exm "Over" "HouseError" true), .excC "Over"]
def fa8 : List SFa := [.kit "Over" "Over" true, .kit "Over" "Busy" false, .kitT "Over" "ValueError" true, .kit "Over" "NoBound" false, .kit "Over" "NoRoom" false, .kit "Over" "NoName" false, .kit "Over" "NoPlace" false, .kit "Over" "NoRow" false, .kit "Over" "NoFrame" false, .kit "Over" "NoImage" false, .kit "Over" "NoShelf" false, .kit "Over" "NoPage" false, .kit "Over" "NoWay" false, .kit "Over" "NoOrder" false, .kit "Over" "NoProgram" false, .kit "Over" "NoText" false, .kit "Over" "Fault" false, .kit "Over" "NoWord" false, .he (.exc "Busy"), .he (.exm "Busy" "HouseError" true), .excC "Busy", .kit "Busy" "Over" false, .kit "Busy" "Busy" true, .kitT "Busy" "ValueError" true, .kit "Busy" "NoBound" false, .kit "Busy" "NoRoom" false, .kit "Busy" "NoName" false, .kit "Busy" "NoPlace" false, .kit "Busy" "NoRow" false, .kit "Busy" "NoFrame" false]
def fa9 : List SFa := [.kit "Busy" "NoImage" false, .kit "Busy" "NoShelf" false, .kit "Busy" "NoPage" false, .kit "Busy" "NoWay" false, .kit "Busy" "NoOrder" false, .kit "Busy" "NoProgram" false, .kit "Busy" "NoText" false, .kit "Busy" "Fault" false, .kit "Busy" "NoWord" false, .he (.exm "Fault" "Fault" true), .oex "Fault", .noats "Fault" ["kind", "place", "level"]]
def faL : List (List SFa) := [fa0, fa1, fa2, fa3, fa4, fa5, fa6, fa7, fa8, fa9]
def names0 : List PySem.Str := ["_wall", "HouseError", "NoWord", "NoRow", "NoPlace", "NoPage", "NoImage", "NoShelf", "NoFrame", "NoRoom", "NoBound", "NoName", "NoWay", "Busy", "Over", "NoOrder", "NoProgram", "NoText", "Fault", "is_whole", "is_word", "plus", "both", "odd", "CELLS", "MOST_PAGES", "MOST_ROWS", "LETTERS", "is_below", "are_words"]
def names1 : List PySem.Str := ["is_image", "is_name", "words_at", "KINDS", "is_register", "is_at", "form_of", "is_part", "is_order", "is_inner", "kind_number", "checked", "MOST", "Shelf", "Store", "look_at", "look_at_places", "parts_of", "PRESENT", "WRITABLE", "KERNEL", "TOUCHED", "SOILED", "row_of", "page_of", "marks_of", "has", "put", "taken", "LAST"]
def names2 : List PySem.Str := ["look_by", "rights_of", "look", "stamp", "mark", "lets", "PLACES", "Ways", "MOST_STEPS", "Machine", "MOST_ROUNDS", "is_count", "expected", "Move", "MOST_FRAMES", "Frames", "laid_out", "Parts", "Kept", "EACH", "Pairs", "look_at_shadows", "Shadows", "LEAST_POOL", "MOST_POOL", "is_kind", "House", "_law_cell_at", "_law_mix", "_law_kinds"]
def names3 : List PySem.Str := ["_law_do", "_law_refused", "_law_state", "_law_guest", "_law_rounds", "_law_behind", "_law_as_if", "_law_moved"]
def names : List PySem.Str := names0 ++ names1 ++ names2 ++ names3
def glo0 : List Str := ["is_whole", "is_word", "is_below", "are_words", "is_image", "is_name", "words_at", "is_register", "is_at", "form_of", "is_part", "is_order", "is_inner", "checked", "look_at_places", "parts_of", "row_of", "page_of", "has", "put", "taken", "look_by", "rights_of", "look", "stamp", "mark", "is_count", "expected", "laid_out", "look_at_shadows"]
def glo1 : List Str := ["is_kind", "_law_cell_at", "_law_mix", "_law_kinds", "_law_do", "_law_refused", "_law_state", "_law_guest", "_law_rounds", "_law_behind", "_law_as_if", "_law_moved", "law", "HouseError", "NoWord", "NoRow", "NoPlace", "NoPage", "NoImage", "NoShelf", "NoFrame", "NoRoom", "NoBound", "NoName", "NoWay", "Busy", "Over", "NoOrder", "NoProgram", "NoText"]
def glo2 : List Str := ["Fault", "Shelf", "Store", "Ways", "Machine", "Move", "Frames", "Parts", "Kept", "Pairs", "Shadows", "House"]
def gloN : List Str := glo0 ++ glo1 ++ glo2
end SP

/-! A6 -/
set_option maxHeartbeats 4100000
/-! The head's facts by quicker looks (texts by their code numbers, lists by their recursors): the same answers. -/
namespace SP
open PySem PySem.Spec
                      PyProof.Rows L2
noncomputable def lkQ (a : Addr) (K : PySem.W.Frag) : Option Obj := @List.rec (Addr × Obj) (fun _ => Option Obj) none (fun p _ ih => @Bool.rec (fun _ => Option Obj) ih (some p.2) (Nat.beq a p.1)) K
theorem lkQ_eq (a : Addr) : ∀ K : PySem.W.Frag, lkQ a K = K.lookup a
  | [] => rfl
  | (b, o) :: r => by
    show @Bool.rec (fun _ => Option Obj) (lkQ a r) (some o) (Nat.beq a b) = _
    rw [List.lookup_cons, lkQ_eq a r]
    cases h : Nat.beq a b with
    | true => rw [show a = b from Nat.eq_of_beq_eq_true h]; simp
    | false => rw [beq_eq_false_iff_ne.mpr (Nat.ne_of_beq_eq_false h)]
noncomputable def strQ (n : Str) (v : Value) : Bool := match v with
  | .str s _ => PySem.W.Fast.sEq s n
  | _ => false
theorem strQ_eq (n : Str) (v : Value) : strQ n v = v.isStr n := by
  cases v with
  | str s t =>
    show PySem.W.Fast.sEq s n = (s == n)
    by_cases h : s = n
    · rw [PySem.W.Fast.sEq_iff.mpr h, h]; simp
    · rw [beq_eq_false_iff_ne.mpr h]
      cases q : PySem.W.Fast.sEq s n with
      | false => rfl
      | true => exact absurd (PySem.W.Fast.sEq_iff.mp q) h
  | _ => rfl
noncomputable def esQ (n : Str) (es : List DictEntry) : Option DictEntry := @List.rec DictEntry (fun _ => Option DictEntry) none (fun e _ ih => @Bool.rec (fun _ => Option DictEntry) ih (some e) (strQ n e.key)) es
theorem esQ_eq (n : Str) : ∀ es : List DictEntry, esQ n es = es.find? (·.key.isStr n)
  | [] => rfl
  | e :: r => by
    show @Bool.rec (fun _ => Option DictEntry) (esQ n r) (some e) (strQ n e.key) = _
    rw [List.find?_cons, esQ_eq n r, strQ_eq]
    cases e.key.isStr n <;> rfl
noncomputable def rkQ (es : List DictEntry) : Bool := @List.rec DictEntry (fun _ => Bool) false (fun e _ ih => @Bool.rec (fun _ => Bool) ih true e.refKey) es
theorem rkQ_eq : ∀ es : List DictEntry, rkQ es = es.any (·.refKey)
  | [] => rfl
  | e :: r => by
    show @Bool.rec (fun _ => Bool) (rkQ r) true e.refKey = _
    rw [List.any_cons, rkQ_eq r]
    cases e.refKey <;> rfl
noncomputable def nsQ (K : PySem.W.Frag) (a : Addr) (n : Str) : Option (Option Value) := match lkQ a K with
  | some ⟨_, _, .dict es _, _⟩ => (match esQ n es.toList with
    | some e => some (some e.val)
    | none => @Bool.rec (fun _ => Option (Option Value)) (some none) none (rkQ es.toList))
  | _ => none
theorem nsQ_eq (K : PySem.W.Frag) (a : Addr) (n : Str) : nsQ K a n = PySem.W.nsIn K a n := by
  unfold nsQ PySem.W.nsIn
  rw [lkQ_eq]
  cases K.lookup a with
  | none => rfl
  | some o =>
    obtain ⟨oc, od, dt, sl⟩ := o
    cases dt with
    | dict es m =>
      show (match esQ n es.toList with
        | some e => some (some e.val)
        | none => @Bool.rec (fun _ => Option (Option Value)) (some none) none (rkQ es.toList)) = (match es.toList.find? (·.key.isStr n) with
        | some e => some (some e.val)
        | none => if es.toList.any
                                   (·.refKey) then none else some none)
      rw [esQ_eq, rkQ_eq]
      cases es.toList.find? (·.key.isStr n) with
      | some e => rfl
      | none => cases es.toList.any (·.refKey) <;> rfl
    | _ => rfl
noncomputable def ownQ (K : PySem.W.Frag) (n : Str) (v : Value) : Option (Option Value) := match v with
  | .type T => some (fastBuiltinOwn T n)
  | .ref a => (match lkQ a K with
    | some ⟨_, _, .cls cd, _⟩ => nsQ K cd.ns n
    | _ => none)
  | _ => some none
theorem ownQ_eq (K : PySem.W.Frag) (n : Str) (v : Value) : ownQ K n v = PySem.W.ownIn K n v := by
  cases v with
  | ref a =>
    unfold ownQ PySem.W.ownIn
    dsimp only
    rw [lkQ_eq]
    cases K.lookup a with
    | none => rfl
    | some o =>
      obtain ⟨oc, od, dt, sl⟩ := o
      cases dt with
      | cls cd => exact nsQ_eq K cd.ns n
      | _ => rfl
  | _ => rfl
noncomputable def alongQ (K : PySem.W.Frag) (n : Str) (l : List Value) : Option (Option Value) := @List.rec Value (fun _ => Option (Option Value)) (some none) (fun c _ ih => match ownQ K n c with
  | some (some v)
                  => some (some v)
  | some none => ih
  | none => none) l
theorem alongQ_eq (K : PySem.W.Frag) (n : Str) : ∀ l : List Value, alongQ K n l = PySem.W.alongIn K n l
  | [] => rfl
  | c :: r => by
    show (match ownQ K n c with
      | some (some v)
                      => some (some v)
      | some none => alongQ K n r
      | none => none) = _
    unfold PySem.W.alongIn
    rw [ownQ_eq, alongQ_eq K n r]
    cases PySem.W.ownIn K n c with
    | none => rfl
    | some o => cases o <;> rfl
noncomputable def findQ (K : PySem.W.Frag) (a : Addr) (n : Str) : Option (Option Value) := match lkQ a K with
  | some ⟨_, _, .cls cd, _⟩ => alongQ K n cd.mro
  | _ => none
theorem findQ_eq (K : PySem.W.Frag) (a : Addr) (n : Str) : findQ K a n = PySem.W.findIn K (.ref a) n := by
  unfold findQ PySem.W.findIn
  dsimp only
  rw [lkQ_eq]
  cases K.lookup a with
  | none => rfl
  | some o =>
    obtain ⟨oc, od, dt, sl⟩ := o
    cases dt with
    | cls cd => exact alongQ_eq K n cd.mro
    | _ => rfl
noncomputable def gaQ (K : PySem.W.Frag) (x : Str) : Addr := match nsQ K mainGlobals x with
  | some (some (.ref a)) => a
  | _ => 0
theorem gaQ_eq (K : PySem.W.Frag) (x : Str) : gaQ K x = He.ga K x := by
  unfold gaQ He.ga
  rw [nsQ_eq] <;> rfl
noncomputable def maQ (K : PySem.W.Frag) (C : Addr) (m : Str) : Addr := match findQ K C m with
  | some (some (.ref a)) => a
  | _ => 0
theorem maQ_eq (K : PySem.W.Frag) (C : Addr) (m : Str) : maQ K C m = He.ma K C m := by
  unfold maQ He.ma
  rw [findQ_eq] <;> rfl
noncomputable def fAdQ (K : PySem.W.Frag) (x : Str) : Option Str → Addr
  | none => gaQ K x
  | some m => maQ K (gaQ K x) m
theorem fAdQ_eq (K : PySem.W.Frag) (p : Str × Option Str) : fAdQ K p.1 p.2 = He.fAd K p := by
  obtain ⟨x, m⟩ := p
  cases m with
  | none => exact gaQ_eq K x
  | some m =>
    show maQ K (gaQ K x) m = He.ma K (He.ga K x) m
    rw [gaQ_eq, maQ_eq]
/-- a function stands at a -/
noncomputable def fnQ (K : PySem.W.Frag) (a : Addr) : Bool := match lkQ a K with
  | some ⟨.type t, _, .func _, _⟩ => decide (t = "function")
  | _ => false
theorem fnQ_ok {K : PySem.W.Frag} {a : Addr} (h : fnQ K a = true) : PySem.W.isFn K (.ref a) = true ∧ PySem.W.keepIn K (.ref a) = true := by
  unfold fnQ at h
  rw [lkQ_eq] at h
  unfold PySem.W.isFn PySem.W.keepIn PySem.W.typeIn
  dsimp only
  split at h
  · rename_i t d fd sl e
    rw [e, of_decide_eq_true h]
    exact ⟨show (some (Value.type "function") == some (Value.type "function")) = true by decide +kernel, rfl⟩
  · cases h
noncomputable def clsQ (K : PySem.W.Frag) (a : Addr) : Bool := He.eqO (findQ K a "__getattribute__") (some (some (.builtin "object.__getattribute__"))) && (He.eqO (findQ K a "__getattr__") (some none) &&
  (PySem.W.hasDictIn K a && (PySem.W.plainOver K a && He.eqO (findQ K a "__setattr__") (some (some (.builtin "object.__setattr__"))))))
/-- a fact, by the quicker looks -/
noncomputable def okQ (K : PySem.W.Frag) : SFa → Bool
  | .he (.glo x) => He.eqO (nsQ K mainGlobals x) (some (some (.ref (gaQ K x))))
  | .he (.free x) => He.eqO (nsQ K mainGlobals x) (some none)
  | .he (.int x i) => (match nsQ K mainGlobals x with | some (some (.int j _)) => decide (j = i) | _ => false)
  | .he (.str x z) => (match nsQ K mainGlobals x with | some (some (.str y _)) => decide (y = z) | _ => false)
  | .he (.cls x) => clsQ K (gaQ K x)
  | .he (.mkr x) => PySem.W.makesIn K (gaQ K x) && (He.eqO (findQ K (gaQ K x) "__init__") (some (some (.ref (maQ K (gaQ K x) "__init__")))) && (fnQ K (maQ K (gaQ K x) "__init__") && PySem.W.keepIn K (.ref (gaQ K x))))
  | .he (.exc x) => PySem.W.excIn K (gaQ K x) He.veBase "ValueError.__new__" && (PySem.W.keepIn K (.ref (gaQ K x)) && (decide (PySem.W.subIn K (.ref (gaQ K x)) (.type "BaseException") = some true) && decide (PySem.W.typeIn K (.ref (gaQ K x)) = some (.type "type"))))
  | .he (.exm x y b) => decide (PySem.W.exmOne K (.ref (gaQ K x)) (.ref (gaQ K y)) = some b)
  | .he f => f.ok K
  | .noats x fs => fs.all fun f => He.eqO (findQ K (gaQ K x) f) (some none)
  | .meth x y m => He.eqO (findQ K (gaQ K x) m) (some (some (.ref (maQ K (gaQ K y) m)))) && fnQ K (maQ K (gaQ K y) m)
  | .cdef x m => cdB K (gaQ K x) m (.ref (maQ K (gaQ K x) m))
  | .cdefB x m b => cdB K (gaQ K x) m (.builtin b)
  | .kit x y b => decide (PySem.W.kitOne K (.ref (gaQ K x)) (.ref (gaQ K y)) = some b)
  | .kitT x t b => decide (PySem.W.kitOne K (.ref (gaQ K x)) (.type t) = some b)
  | f => f.ok K
theorem okQ_ok {K : PySem.W.Frag} : ∀ {f : SFa}, okQ K f = true → f.ok K = true
  | .he (.glo x), h => by
    have h : He.eqO (nsQ K mainGlobals x) (some (some (.ref (gaQ K x)))) = true := h
    rw [nsQ_eq, gaQ_eq] at h
    exact h
  | .he (.free x), h => by
    have h : He.eqO (nsQ K mainGlobals x) (some none) = true := h
    rw [nsQ_eq] at h
    exact h
  | .he (.int x i), h => by
    unfold okQ at h
    dsimp only at h
    rw [nsQ_eq] at h
    exact h
  | .he (.str x z), h => by
    unfold okQ at h
    dsimp only at h
    rw [nsQ_eq] at h
    exact h
  | .he (.cls x), h => by
    have h : clsQ K (gaQ K x) = true := h
    unfold clsQ at h
    rw [findQ_eq, findQ_eq, findQ_eq, gaQ_eq] at h
    obtain ⟨c1, h⟩ := He.ba h
    obtain ⟨c2, h⟩ := He.ba h
    obtain ⟨c3, h⟩ := He.ba h
    obtain ⟨c4, c5⟩ := He.ba h
    have p : PySem.W.plainGet K (He.ga K x) Str.empty = true := by
      unfold PySem.W.plainGet
      rw [He.eqO_ok c1, He.eqO_ok c2]
      decide +kernel
    exact Bool.and_eq_true_iff.mpr ⟨p, Bool.and_eq_true_iff.mpr ⟨c3, Bool.and_eq_true_iff.mpr ⟨c4, c5⟩⟩⟩
  | .he (.mkr x), h => by
    unfold okQ at h
    dsimp only at h
    rw [findQ_eq, maQ_eq, gaQ_eq] at h
    obtain ⟨c1, h⟩ := He.ba h
    obtain ⟨c2, h⟩ := He.ba h
    obtain ⟨c3, c4⟩ := He.ba h
    exact Bool.and_eq_true_iff.mpr ⟨c1, Bool.and_eq_true_iff.mpr ⟨c2, Bool.and_eq_true_iff.mpr ⟨(fnQ_ok c3).1, c4⟩⟩⟩
  | .he (.exc x), h => by
    unfold okQ at h
    dsimp only at h
    rw [gaQ_eq] at h
    exact h
  | .he (.exm x y b), h => by
    unfold okQ at h
    dsimp only at h
    rw [gaQ_eq, gaQ_eq] at h
    exact h
  | .he (.noat x f), h => h
  | .he (.meth x m), h => h
  | .he (.keep x), h => h
  | .he (.code p q), h => h
  | .noats x fs, h => by
    have h : (fs.all fun f => He.eqO (findQ K (gaQ K x) f) (some none)) = true := h
    refine List.all_eq_true.mpr fun f hf => ?_
    have z := List.all_eq_true.mp h f hf
    rw [findQ_eq, gaQ_eq] at z
    exact z
  | .meth x y m, h => by
    unfold okQ at h
    dsimp only at h
    rw [findQ_eq, maQ_eq, gaQ_eq, gaQ_eq] at h
    obtain ⟨c1, h⟩ := He.ba h
    have z := fnQ_ok h
    exact Bool.and_eq_true_iff.mpr ⟨c1, Bool.and_eq_true_iff.mpr z⟩
  | .cdef x m, h => by
    unfold okQ at h
    dsimp only at h
    rw [maQ_eq, gaQ_eq] at h
    exact h
  | .cdefB x m b, h => by
    unfold okQ at h
    dsimp only at h
    rw [gaQ_eq] at h
    exact h
  | .excC x, h => h
  | .kit x y b, h => by
    unfold okQ at h
    dsimp only at h
    rw [gaQ_eq, gaQ_eq] at h
    exact h
  | .kitT x t b, h => by
    unfold okQ at h
    dsimp only at h
    rw [gaQ_eq] at h
    exact h
  | .oex x, h => h
/-- a def, by the quicker looks -/
noncomputable def codeQ (K : PySem.W.Frag) (cd : Value) (q : Str) : Bool := match cd with
  | .ref c => (match lkQ c K with | some ⟨_, _, .fields vs, _⟩ => (match vs.toList with | _ :: .str n _ :: _ => PySem.W.Fast.sEq n q | _ => false) | _ => false)
  | _ => false
theorem codeQ_ok {K : PySem.W.Frag} {cd : Value} {q : Str} (h : codeQ K cd q = true) : PySem.W.codeIn K cd q = true := by
  cases cd with
  | ref c =>
    unfold codeQ at h
    dsimp only at h
    rw [lkQ_eq] at h
    unfold PySem.W.codeIn
    dsimp only
    split at h
    · rename_i oc od vs sl e
      rw [e]
      dsimp only
      split at h
      · rename_i a n t r e2
        rw [e2, PySem.W.Fast.sEq_iff.mp h]
        simp
      · cases h
    · cases h
  | _ => cases h
noncomputable def defQ (K : PySem.W.Frag) (d : He.DefD) : Bool := match lkQ (fAdQ K d.at_.1 d.at_.2) K with
  | some ⟨_, _, .func fd, _⟩ => codeQ K fd.code d.qual && (He.dflB K fd.defaults (d.dvs K) && He.kwdB K fd.kwdefaults (d.kws K))
  | _ => false
theorem defQ_ok {K : PySem.W.Frag} {d : He.DefD} (h : defQ K d = true) : d.ok K = true := by
  unfold defQ at h
  rw [lkQ_eq, fAdQ_eq] at h
  unfold He.DefD.ok PySem.W.keepIn
  dsimp only
  split at h
  · rename_i oc od fd sl e
    obtain ⟨c1, c2⟩ := He.ba h
    rw [e]
    exact Bool.and_eq_true_iff.mpr ⟨rfl, Bool.and_eq_true_iff.mpr ⟨codeQ_ok c1, c2⟩⟩
  · cases h
noncomputable def fnWQ (K : PySem.W.Frag) (p : Str × Option Str) : He.FnW := match lkQ (fAdQ K p.1 p.2) K with
  | some ⟨_, _, .func f, _⟩ => some (f.name, f.qualname, f.params, f.body, f.scope, f.globals, f.closure, f.builtins)
  | _ => none
theorem fnWQ_eq (K : PySem.W.Frag) (p : Str × Option Str) : fnWQ K p = He.fnW K p := by
  unfold fnWQ He.fnW
  rw [lkQ_eq, fAdQ_eq]
  cases K.lookup (He.fAd K p) with
  | none => rfl
  | some o =>
    obtain ⟨oc, od, dt, sl⟩ := o
    cases dt <;> rfl
/-! ### all of it -/
noncomputable def allQ {α : Type} (f : α → Bool) (l : List α) : Bool := @List.rec α (fun _ => Bool) true (fun a _ ih => @Bool.rec (fun _ => Bool) false ih (f a)) l
theorem allQ_mem {α : Type} {f : α → Bool} : ∀ {l : List α}, allQ f l = true → ∀ a ∈ l, f a = true
  | [], _, _, h => by cases h
  | x :: r, h, a, ha => by
    have h : @Bool.rec (fun _ => Bool) false (allQ f r) (f x) = true := h
    cases hx : f x with
    | false => rw [hx] at h; cases h
    | true =>
      rw [hx] at h
      rcases List.mem_cons.mp
                              ha with rfl | ha
      · exact hx
      · exact allQ_mem h a ha
noncomputable def colQ (g : Addr → Option Obj) : List Addr :=
  let l1 := gloN.map fun x => gaQ (He.frG g [mainGlobals]) x
  let l2 := l1.flatMap fun a => selO (g a)
  let l3 := l2.flatMap fun a => selO (g a)
  let l4 := l3.flatMap fun a => selO (g a)
  mainGlobals :: PySem.cStatics :: (l1 ++ (l2 ++ (l3 ++ l4)))
noncomputable def KQ (g : Addr → Option Obj) : PySem.W.Frag := He.frG g (colQ g)
end SP

/-! H1 -/
set_option maxHeartbeats 0
/-! The head: the top's run in the kernel, its looks and facts apart (each run by itself stays below 12 GB). -/
namespace SP
open PySem PySem.Spec
                      PyProof.Rows L2
abbrev rowS : PySem.W.OpenRow := PySem.W.OpenLaw.row PySem.Challenge.rw_shadowpages_k85_over_and_dropped
abbrev viewS : Program := PySem.W.view rowS.prog [118]
noncomputable def endS (w : World) (os : OsState) : Option PySem.W.SharedT := HandSHeadRun.endF (HandSHeadRun.stepQ (HandSHeadRun.denQ HandSHeadRun.tabQ) rowS.prog w) 20000 rowS.prog w os
theorem run_looks (w : World) (os : OsState) : (endS w os).map (fun s => HandSHeadRun.looksF rowS.prog (PySem.W.boot_heap w.params) s.abs) = some true := by
  kernel_rfl
noncomputable def seenS (s : PySem.W.SharedT) := HandSHeadRun.seenQ viewS names (PySem.importedModules rowS.prog.main.body) (fun s => PySem.W.xlAt viewS [] s && PySem.W.recOk rowS.toRowW.records s) s.abs
theorem run_seen1 (w : World) (os : OsState) : (endS w os).map (fun s => ((seenS s).1, (seenS s).2.1)) = some ((PySem.W.openGood viewS names).1, (PySem.W.openGood viewS names).2.1) := by
  kernel_rfl
theorem run_seen2 (w : World) (os : OsState) : (endS w os).map (fun s => (seenS s).2.2) = some (PySem.W.openGood viewS names).2.2 := by
  kernel_rfl
noncomputable def obF (g : Addr → Option Obj) : Bool := allQ (fun l => allQ (okQ (KQ g)) l) faL
noncomputable def obD (g : Addr → Option Obj) : Bool × List (List He.FnW) := (allQ (fun l => allQ (defQ (KQ g)) l) fnL, fnL.map fun l => l.map fun d => fnWQ (KQ g) d.at_)
theorem run_facts (w : World) (os : OsState) : (endS w os).map (fun s => obF (HandSHeadRun.getT s)) = some true := by
  kernel_rfl
theorem run_defs (w : World) (os : OsState) : (endS w os).map (fun s => obD (HandSHeadRun.getT s)) = some (true, fnL.map fun l => l.map He.DefD.val) := by
  kernel_rfl
end SP

/-! H3 -/
set_option maxHeartbeats 0
namespace SP
open PySem PySem.Spec
                      PyProof.Rows L2
theorem says_of {g : Addr → Option Obj} (hF : obF g = true) (hD : obD g = (true, fnL.map fun l => l.map He.DefD.val)) : sSays faL fnL (KQ g) := by
  have h1 : allQ (fun l => allQ (defQ (KQ g)) l) fnL = true := congrArg Prod.fst hD
  have h2 : (fnL.map fun l => l.map fun d => fnWQ (KQ g) d.at_) = fnL.map fun l => l.map He.DefD.val := congrArg Prod.snd hD
  have e : (fnL.map fun l => l.map fun d => He.fnW (KQ g) d.at_) = fnL.map fun l => l.map He.DefD.val := by
    rw [← h2]
    exact List.map_congr_left fun l _ => List.map_congr_left fun d _ => (fnWQ_eq (KQ g) d.at_).symm
  refine Prod.ext (Bool.and_eq_true_iff.mpr ⟨?_, ?_⟩) e
  · exact List.all_eq_true.mpr fun l hl => List.all_eq_true.mpr fun f hf => okQ_ok (allQ_mem (allQ_mem hF l hl) f hf)
  · exact List.all_eq_true.mpr fun l hl => List.all_eq_true.mpr fun d hd => defQ_ok (allQ_mem (allQ_mem h1 l hl) d hd)
noncomputable def hookS : PySem.W.Hook where
  α := Bool × (Bool × List (List He.FnW))
  obs := fun s => (obF s.heap.get?, obD s.heap.get?)
  val := fun _ => (true, (true, fnL.map fun l => l.map He.DefD.val))
  says := fun _ h => ∃ K : PySem.W.Frag, K.In h ∧ sSays faL fnL K
  of := fun _ _ e => ⟨_, He.frG_in, says_of (congrArg Prod.fst e) (congrArg Prod.snd e)⟩
  keeps := fun _ _ _ ⟨K, hK, c⟩ k =>
                                     ⟨K, PySem.W.Frag.In.keeps hK k, c⟩
noncomputable def seeS (s : PySem.W.SharedT) : Bool × (Bool × List (List He.FnW)) := (obF (HandSHeadRun.getT s), obD (HandSHeadRun.getT s))
theorem seeS_eq (s : PySem.W.SharedT) : seeS s = hookS.obs s.abs := by
  unfold seeS
  rw [show HandSHeadRun.getT s = s.abs.heap.get? from funext (HandSHeadRun.getT_eq s)]
  rfl
theorem run_all (w : World) : HandSHeadRun.RunEq rowS viewS hookS seeS 20000 names w := by
  intro os
  obtain ⟨s, hs, e1⟩ := Option.map_eq_some_iff.mp (run_looks w os)
  have e2 := run_seen1 w os
  have e5 := run_seen2 w os
  have e3 := run_facts w os
  have e4 := run_defs w os
  rw [hs] at e2 e3 e4 e5
  have e2 := Option.some.inj e2
  have e3 := Option.some.inj e3
  have e5 := Option.some.inj e5
  have e4 := Option.some.inj e4
  have hs' : HandSHeadRun.endF (HandSHeadRun.stepQ (HandSHeadRun.denQ HandSHeadRun.tabQ) rowS.prog w) 20000 rowS.prog w os = some s := hs
  rw [hs']
  have e2 : ((seenS s).1, (seenS s).2.1) = ((PySem.W.openGood viewS names).1, (PySem.W.openGood viewS names).2.1) := e2
  have e5 : (seenS s).2.2 = (PySem.W.openGood viewS names).2.2 := e5
  have e6 : seenS s = PySem.W.openGood viewS names := Prod.ext (congrArg (fun z => z.1) e2) (Prod.ext (congrArg (fun z => z.2) e2) e5)
  exact congrArg some (Prod.ext e1 (Prod.ext e6 (Prod.ext e3 e4)))
end SP

/-! H4 -/
set_option maxHeartbeats 0
/-! The head's other looks, each by itself; the law's claim out of the walk alone. -/
namespace SP
open PySem PySem.W
                   PySem.Calls PyProof.Rows
abbrev lawS : PySem.W.OpenLaw := PySem.Challenge.rw_shadowpages_k85_over_and_dropped
abbrev defS := HandSHeadRun.topDef rowS.prog 118
theorem hd_open : opening rowS.prog = plainProg rowS.prog.main.scope.names := by
  kernel_rfl
theorem hd_fence (s : Shared) : fenceModules? rowS.prog s = some s := by
  kernel_rfl
theorem hd_def : defOf viewS rowS.name = some (defS, []) := by
  kernel_rfl
theorem hd_the : rowS.prog.theDef rowS.name = some (defS.params, defS.body, defS.scope) := by
  kernel_rfl
theorem hd_kw : kwWritten? defS.params.kwonlyargs defS.params.kw_defaults = some [] := by
  kernel_rfl
theorem hd_ok : (chainsOk viewS && opensWell rowS.prog && (frees rowS.toRowW && rowS.within.isEmpty)) = true := by
  decide +kernel
theorem hd_bare : rowS.prog.bare := ⟨rfl, rfl, rfl, rfl, rfl, by decide +kernel⟩
theorem hd_name : defS.name = ("law" : PySem.Str) := by
  kernel_rfl
theorem hd_dfl : defS.params.defaults = [] := by
  kernel_rfl
theorem head_holds (call : WalkO viewS names (XL viewS []) hookS.says rowS.toRowW defS [] fun f vs => PySem.call f vs) : PySem.Challenge.rw_shadowpages_k85_over_and_dropped.Holds := by
  w_on; o_law
  refine HandSHeadRun.head_any (r := rowS) (q := viewS) (H := hookS) (ob := seeS) (M := 20000) (loose := names) (d := defS) (kwd := []) seeS_eq hd_open hd_fence run_all hd_def hd_the hd_kw (by rfl) (by first | assumption | decide +kernel) hd_ok hd_bare ?hw call
  case hw => w_witness2
end SP

/-! A0 -/
set_option maxHeartbeats 4100000
/-! Rules that the kit lacks: one promise for calls where nothing is handled and where an exception is handled; methods by their class's name; raising constructors; an own error with fields over two own classes. -/
namespace SP
open PySem PySem.Spec PyProof.Rows L2 L2H HotX

/-! ### one promise for both kinds of call -/
def FnHR (P : Program) (w : World) (K : PySem.W.Frag) (mg : Str → Option Value) (base : Heap) (CX : CXT) (k : Nat) (f : Addr) (sp : Sp) : Prop :=
  ∀ (A : Around) (outer : List Env) (s : Shared) (H : Hp) (us : List Value) (vs : List V) (Q : VK) (E : XK) (p : Addr × Obj), RoomH k A → Hot1 A p → PinOk outer H s p → Env0 P w K mg base A outer s H → Vals vs us → sp vs H Q E →
    codeAny (model P w) A (.call (.ref f)
                                          ⟨us, []⟩) (CR CX outer P w H s Q E) s
structure Fn (P : Program) (w : World) (K : PySem.W.Frag) (mg : Str → Option Value) (base : Heap) (md : Bool) (k : Nat) (f : Addr) (sp : Sp) : Prop where
  calm : FnR P w K mg base (L2N.CX P w) k f sp
  hot : md = true → FnHR P w K mg base (L2N.CX P w) k f sp
/-- the caller may: nothing is handled, or the callee is for both -/
def Can (md : Bool) (k : Nat) (X : Cx) : Prop := Room k X.A ∨ (md = true ∧ RoomH k X.A ∧ HotC X)
theorem Can.mono {md : Bool} {j k : Nat} {X : Cx} (c : Can md k X) (h : j ≤ k) : Can md j X := by
  rcases c with c | ⟨a, b, c⟩
  · exact .inl (c.mono h)
  · exact .inr ⟨a, b.mono h, c⟩
theorem Can.units {md : Bool} {k : Nat} {X : Cx} (c : Can md k X) : X.A.units + 1 < cLine := by
  rcases c with c | ⟨_, b, _⟩
  · exact hu_of c
  · have := b.un; omega
theorem Can.calm {md : Bool} {k : Nat} {X : Cx} (c : Can md k X) : X.A.handled = none ∨ HotC X := by
  rcases c with c | ⟨_, _, c⟩
  · exact .inl c.hd
  · exact .inr c
theorem can {k j : Nat} {md : Bool} {X : Cx} (r : Room j X.A) (h : k ≤ j := by decide) : Can md k X := .inl (r.mono h)
theorem can2 {md : Bool} {k : Nat} {X : Cx} {j : Nat} (c : Can true j X) (hm : md = true := by rfl) (h : k ≤ j := by decide) : Can md k X := by
  subst hm
  exact c.mono h

/-- an exception that a call lets out, at the slots σ -/
theorem pas0 {X : Cx} {σ : L2.St} : PassesAt (L2N.CX X.prog X.w) X σ E0 := fun _ _ _ _ _ _ h => by
  obtain ⟨_, _, _, _, _, _,
                            _, _, _, _, _, _, z⟩ := h
  exact z.elim
theorem pasE {X : Cx} {E : XK} (tk : L2N.Takes X (fun cls d _ H => E cls d H)) (σ : L2.St) : PassesAt (L2N.CX X.prog X.w) X σ E := fun pins H s e s' I h => L2N.passes_call tk (fun _ _ _ _ z => z) pins σ H s e s' I h

section
variable {X : Cx} {pins : List (Addr ×
                                       Obj)} {σ : L2.St} {H : Hp} {s : Shared}
theorem run_fnX {md : Bool} {k : Nat} {f : Addr} {sp : Sp} {E : XK} {Q : VK} {us : List Value} {vs : List V} (F : Fn X.prog X.w X.K X.mg X.base md k f sp) (hr : Can md k X) (hx : PassesAt (L2N.CX X.prog X.w) X σ E) (I : Inv X pins σ H s) (r : Vals vs us) (h : sp vs H Q E) :
    codeAny (model X.prog X.w) X.A (.call (.ref f) ⟨us, []⟩) (fun r s' => match r with
                                                                                       | .ok (.ret v) => EP X pins σ Q v s' | .ok _ => False | .error e => X.xe e s') s := by
  have key : codeAny (model X.prog X.w) X.A (.call (.ref f) ⟨us, []⟩) (CR (L2N.CX X.prog X.w) X.stack X.prog X.w H s Q E) s := by
    rcases hr with hr | ⟨hm, hr, hc⟩
    · exact F.calm X.A X.stack s H us vs Q E hr I.env0 r h
    · obtain ⟨p, hot, hp⟩ := hc
      have P1 := I.pin p
                         (List.mem_append_left _ hp)
      have hpin : PinOk X.stack H s p := ⟨P1.1, P1.2.1, fun hm =>
                                                                  (List.mem_cons.mp (I.stkSub p.1 hm)).elim P1.2.2.1 P1.2.2.2.1, P1.2.2.2.2⟩
      exact F.hot hm X.A X.stack s H us vs Q E p hr hot hpin I.env0 r h
  refine codeAny_mono key fun r s' hq => ?_
  cases r with
  | error e => exact hx
                        pins H s e s' I hq
  | ok fl =>
    cases fl with
    | ret u => exact I.after hq
    | next => exact False.elim hq
    | brk => exact False.elim hq
    | cont => exact False.elim hq
end

/-! ### calls -/
/-- f(..); o.m(..); C.m(..), C a class by its name; C(..) -/
def tCallX (sp : Sp) (E : L2.St → XK) (t : TA) : TE := fun σ H Q => t σ H fun vs H1 => sp vs H1 Q (E σ)
def tMethX (C : Addr) (m : Str) (sp : Sp) (E : L2.St → XK) (ta : TE) (t : TA) : TE := fun σ H Q => ta σ H fun x H1 => ∃ a dx fs, x = .ref a ∧ H1 a = some (.ins C dx fs) ∧ fs.lookup m = none ∧ t σ H1 fun vs H2 => sp (x :: vs) H2 Q (E σ)
def tMakeX (C : Addr) (sp : Sp) (E : L2.St → XK) (t : TA) : TE := fun σ H Q => t σ H fun vs H1 => ∀ x dx, H1 x = none → H1 dx = none → dx ≠ x →
  sp (.ref x :: vs) (upd (upd H1 dx (.own x)) x (.ins C dx [])) (fun v H2 => v = .non ∧ Q (.ref x) H2) (E σ)
section
variable {X : Cx} {md : Bool} {k : Nat} {f C : Addr} {sp : Sp} {E : L2.St → XK} {x m : Str} {q pos apos : Pos} {e o : Expr} {es : List Expr} {ta : TE} {t : TA}
theorem x_call (F : Fn X.prog X.w X.K X.mg X.base md k f sp) (hr : Can md k X) (hm : X.mg x = some (.ref f)) (hk : PySem.W.keepIn X.K (.ref f) = true) (hx : ∀ σ, PassesAt (L2N.CX X.prog X.w) X σ (E σ))
    (ha : PA X (e :: es) t) (hg : Gl X x := by rfl) (hdb : (x == ("__debug__" : Str)) = false := by decide) (he : starEach (e :: es) X.env = (false, eval e X.env) :: starEach es X.env := by rfl) (hpl : (backTo pos (starEach es X.env)).any (·.1) = false := by rfl) :
    PE X (.Call (.Name x q) (e :: es) [] pos) (tCallX sp E t) := by
  refine ⟨fun pins
                   s σ H Q I h => ?_⟩
  refine wpAny_Call_Name_kw
                            (ld_glob I hg hm ?_ hdb)
  refine PySem.W.callWith_K (h₀ := X.base) I.ok.mod.kin hk (thn (ha.run pos
                                                                            pins s σ H _ I h) fun us s1 ⟨vs, H1, I1, r, q⟩ => ⟨I1.kIn, ?_⟩) he hpl
  exact wpAny_call (run_fnX F hr (hx σ) I1 r q)
theorem x_meth {pl : Sem Bool} (F : Fn X.prog X.w X.K X.mg X.base md k f sp) (hr : Can md k X) (c : Cls X.K C) (hm : Meth X.K C m f) (hx : ∀ σ, PassesAt (L2N.CX X.prog X.w) X σ (E σ)) (he : PE X o ta) (ha : PA X (e :: es) t)
    (hst : starEach (e :: es) X.env = (false, eval e X.env) :: starEach es X.env :=
                                                                                    by rfl) (hpl : (backTo pos (starEach es X.env)).any (·.1) = false := by rfl)
    (ht : eval (.Call (.Attribute o m
                                      apos) (e :: es) [] pos) X.env = (do
      let ov ← eval o X.env
      standAt apos.atName
      let (f, first) ← holding
                               [ov] (getMethod ov m pl)
      callWith pos f first (backTo pos (starEach (e :: es)
                                                           X.env)) (backToKw pos (keywordEach [] X.env))) := by rfl) :
    PE X (.Call (.Attribute o m apos) (e :: es) [] pos) (tMethX C m sp E ta t) := by
  refine ⟨fun pins
                   s σ H Q I h => ?_⟩
  refine PySem.W.methodCall_KW (pl := pl) (thn (he.run pins s σ H _
                                                                    I h) fun u s1 ⟨x, H1, I1, rx, a, dx, fs, ex, ea, l, q⟩ => ?_) ht
  subst ex
  obtain rfl : u =
                   Value.ref a := rx
  refine getmeth_ok
                    I1 ea c hm l ?_
  refine PySem.W.callWith_K (first := [.ref a]) (h₀ := X.base) I.ok.mod.kin hm.kp (thn
                                                                                       (ha.run pos pins s1 σ H1 _ I1 q) fun us s2 ⟨vs, H2, I2, r, q2⟩ => ⟨I2.kIn, ?_⟩) hst hpl
  exact wpAny_call (run_fnX (us := .ref a :: us) (vs := .ref a :: vs) F hr (hx σ) I2 (.cons rfl r) q2)
theorem x_meth0 {pl : Sem Bool} (F : Fn X.prog X.w X.K X.mg X.base md k f sp) (hr : Can md k X) (c : Cls X.K C) (hm : Meth X.K C m f) (hx : ∀ σ, PassesAt (L2N.CX X.prog X.w) X σ (E σ)) (he : PE X o ta)
    (ht : eval (.Call (.Attribute o
                                    m apos) [] [] pos) X.env = (do
      let ov ← eval o X.env
      standAt apos.atName
      let (f, first) ← holding
                               [ov] (getMethod ov m pl)
      callWith pos f first (backTo pos (starEach [] X.env))
                                                            (backToKw pos (keywordEach [] X.env))) := by rfl) :
    PE X (.Call (.Attribute o m apos) [] [] pos) (tMethX C m sp E ta tNil) := by
  refine ⟨fun pins
                   s σ H Q I h => ?_⟩
  refine PySem.W.methodCall_KW (pl := pl) (thn (he.run pins s σ H _
                                                                    I h) fun u s1 ⟨x, H1, I1, rx, a, dx, fs, ex, ea, l, q⟩ => ?_) ht
  subst ex
  obtain rfl : u =
                   Value.ref a := rx
  refine getmeth_ok
                    I1 ea c hm l ?_
  exact PySem.W.callWith_K0 (first := [.ref a]) I1.kIn hm.kp (wpAny_call (run_fnX (us := [.ref a]) (vs := [.ref a]) F hr (hx σ) I1 (.cons rfl .nil) q))
/-- a def of the class C by C's name -/
structure CDef (K : PySem.W.Frag) (C : Addr) (m : Str) (v : Value) : Prop where
  rd : PySem.W.readsIn K C (.type "type") = true
  ga : PySem.W.specialIn K (.ref C) "__getattribute__"
                                                       = some (some (.builtin "type.__getattribute__"))
  at_ : PySem.W.findCls K (.ref C) (.type "type") m = some (.val v)
theorem x_cls {pl : Sem Bool} (F : Fn X.prog X.w X.K X.mg X.base md k f sp) (hr : Can md k X) (c : CDef X.K C m (.ref f)) (hm : X.mg x = some (.ref C)) (hk : PySem.W.keepIn X.K (.ref f) = true) (hx : ∀ σ, PassesAt (L2N.CX X.prog X.w) X σ (E σ)) (ha : PA X (e :: es) t)
    (hg : Gl X x := by rfl) (hdb : (x == ("__debug__" : Str)) = false := by decide) (hst : starEach (e :: es) X.env = (false, eval e X.env) :: starEach es X.env := by rfl) (hpl : (backTo pos (starEach es X.env)).any (·.1) = false := by rfl)
    (ht : eval (.Call (.Attribute (.Name x q) m apos) (e :: es) [] pos) X.env = (do
      let ov ← eval (.Name x q) X.env
      standAt apos.atName
      let (f, first) ← holding
                               [ov] (getMethod ov m pl)
      callWith pos f first (backTo pos (starEach (e :: es)
                                                           X.env)) (backToKw pos (keywordEach [] X.env))) := by rfl) :
    PE X (.Call (.Attribute (.Name x q) m apos) (e :: es) [] pos) (tCallX sp E t) := by
  refine ⟨fun pins
                   s σ H Q I h => ?_⟩
  refine PySem.W.methodCall_KW (pl := pl) (ld_glob I hg hm ?_ hdb) ht
  refine PySem.W.method_cls I.kIn c.ga ?_
  refine PySem.W.cls_value I.kIn c.rd c.at_ rfl ?_
  have I1 := I.tok (s.toks + 1)
  refine PySem.W.callWith_K (first := []) (h₀ := X.base) I.ok.mod.kin hk (thn (ha.run pos pins _ σ H _ I1 h) fun us s2 ⟨vs, H2, I2, r, q2⟩ => ⟨I2.kIn, ?_⟩) hst hpl
  exact wpAny_call (run_fnX F hr (hx σ) I2 r q2)
theorem run_makeX {pins : List (Addr × Obj)} {σ : L2.St} {H : Hp} {s : Shared} {Q : VK} {E : XK} {us : List Value} {vs : List V} (M : Mk X.K C f) (F : Fn X.prog X.w X.K X.mg X.base false k f sp) (hr : Room (k + 1) X.A)
    (hx : PassesAt (L2N.CX X.prog X.w) X σ E) (I : Inv X pins σ H s) (r : Vals vs us)
    (h : ∀ x dx, H x = none → H dx = none → dx ≠ x → sp (.ref x :: vs) (upd (upd H dx (.own x)) x (.ins C dx [])) (fun v H2 => v = .non ∧ Q (.ref x) H2) E) :
    wpAny (model X.prog X.w) X.A (call (.ref
                                             C) us) (EP X pins σ Q) X.xe s := by
  have hq := h (s.heap.objs.size + 1) s.heap.objs.size (I.hok.fresh (Nat.le_succ
                                                                                 _)) (I.hok.fresh (Nat.le_refl _)) (Nat.ne_of_lt (Nat.lt_succ_self _))
  have I2 := Inv.made
                      (C := C) I
  have r2 : Vals (V.ref (s.heap.objs.size + 1) :: vs)
                                                      (Value.ref (s.heap.objs.size + 1) :: us) := .cons rfl r
  refine wpAny_call (make_map (f := f) I.kIn M.makes M.init (beq_iff_eq.mp M.fn) (codeAny_mono (F.calm _ X.stack _ _ (Value.ref (s.heap.objs.size + 1) :: us) _ _ E (hr.make C us [])
    (I2.env0.make C us []) r2 hq) fun r s' hq' => ?_))
  cases r with
  | error e => exact hx pins _ _ e s' I2 hq'
  | ok fl =>
    cases fl with
    | ret u =>
      obtain ⟨v, H', I3, rv,
                             ev, q3⟩ := I2.after hq'
      subst ev
      exact ⟨rv, ⟨V.ref (s.heap.objs.size
                                          + 1), H', I3, rfl, q3⟩⟩
    | next => exact
                    False.elim hq'
    | brk => exact False.elim hq'
    | cont => exact
                    False.elim hq'
theorem x_make (M : Mk X.K C f) (F : Fn X.prog X.w X.K X.mg X.base false k f sp) (hr : Room (k + 1) X.A) (hm : X.mg x = some (.ref C)) (hx : ∀ σ, PassesAt (L2N.CX X.prog X.w) X σ (E σ))
    (ha : PA X (e :: es) t) (hg : Gl X x := by rfl) (hdb : (x == ("__debug__" : Str)) = false := by decide) (he : starEach (e :: es) X.env = (false, eval e X.env) :: starEach es X.env := by rfl) (hpl : (backTo pos (starEach es X.env)).any (·.1) = false := by rfl) :
    PE X (.Call (.Name x q) (e :: es) [] pos) (tMakeX C sp E t) := by
  refine ⟨fun pins
                   s σ H Q I h => ?_⟩
  refine wpAny_Call_Name_kw
                            (ld_glob I hg hm ?_ hdb)
  refine PySem.W.callWith_K (h₀ := X.base) I.ok.mod.kin M.kp (thn (ha.run
                                                                          pos pins s σ H _ I h) fun us s1 ⟨vs, H1, I1, r, q⟩ => ⟨I1.kIn, ?_⟩) he hpl
  exact run_makeX M F hr (hx σ) I1 r q
end

/-! ### a def keeps its promise -/
/-- the context of a body, for both kinds -/
def cxM (P : Program) (w : World) (K : PySem.W.Frag) (mg : Str → Option Value) (base : Heap) (N : List Str) (qual : Str) (scope : Scope) (f : Addr) (cd : Value) (A : Around) (outer : List Env) (s : Shared) (H : Hp) (E : XK) (m : Option (Addr × Obj)) : Cx :=
  { cxOf (L2N.CX P w) P w K mg base N qual scope f cd A outer s H E with calm := m.isNone, pn := m.toList }
section
variable {P : Program} {w : World} {K : PySem.W.Frag} {mg : Str → Option Value} {base : Heap} {x qual : Str} {params : Arguments} {body : List Stmt} {scope : Scope} {dvs : List V} {kws : List (Str × V)} {f : Addr} {fd : FuncData} {N ps : List Str} {k : Nat} {sp : Sp} {ds : List Value} {dd : List V}
theorem fn_calm (F : FunD K x qual params body scope dvs kws f fd) (hb : Binds K fd ps ds) (hd : Vals dd ds) (S : FnScope N ps scope) (len : ∀ vs H Q E, sp vs H Q E → vs.length = ps.length)
    (hbody : ∀ (cdv : Value) (A : Around) (outer : List Env) (s : Shared) (H : Hp) (vs : List V) (Q
                                                                                                    : VK) (E : XK), Room k (A.deeper (envOfC qual scope s.heap.objs.size f cdv)) → sp vs H Q E →
      ∃ t, PSs (cxOf (L2N.CX P w) P w K mg base N qual scope f cdv A outer s H E) body t ∧ t { nx := fun _ H' => Q .non H', rt := Q } (start N vs) H) :
    Fn P w K mg base false (k + 1) f (fun vs H Q E => sp (vs ++ dd) H Q E) :=
  ⟨FnOk.raw (F.ok (CX := L2N.CX P w) S len hbody) hb hd, fun h => Bool.noConfusion h⟩
theorem fn_dual (F : FunD K x qual params body scope dvs kws f fd) (hb : Binds K fd ps []) (S : FnScope N ps scope) (len : ∀ vs H Q E, sp vs H Q E → vs.length = ps.length)
    (hbody : ∀ (cdv : Value) (A : Around) (outer : List Env) (s : Shared) (H : Hp) (vs : List V) (Q : VK) (E : XK) (m : Option (Addr × Obj)), Can true k (cxM P w K mg base N qual scope f cdv A outer s H E m) → sp vs H Q E →
      ∃ t, PSs (cxM P w K mg base N qual scope f cdv A outer s H E m) body t ∧ t { nx := fun _ H' => Q .non H', rt := Q } (start N vs) H) :
    Fn P w K mg base true (k + 1) f sp := by
  obtain ⟨oc, od, dV, kV, doc, pm, an, cdv, ct, osl, rfl, lk, hcd, hdv, hkv⟩ := F.ex
  refine ⟨?_, fun _ => ?_⟩
  · have ok := fn_of (CX := L2N.CX P w) (P := P) (w := w) (mg := mg) (base := base) (k := k) lk hcd S len (sp := sp) fun A outer s H vs Q E hr hsp => hbody cdv A outer s H vs Q E none (.inl hr) hsp
    have z := FnOk.raw ok hb Paired.nil
    intro A outer s H us
                         vs Q E hr e0 r hs
    exact z A outer s H us vs Q E hr e0 r (show sp (vs ++ []) H Q E by rw [List.append_nil]; exact hs)
  · have ok := fn_ofH (CX := L2N.CX P w) (P := P) (w := w) (mg := mg) (base := base) (k := k) lk hcd S len (sp := sp) fun A outer s H vs Q E p hot hr hsp => hbody cdv A outer s H vs Q E (some p) (.inr ⟨rfl, hr, p, hot, List.mem_singleton.mpr rfl⟩) hsp
    intro A outer s H us vs Q E p hr hot hpin e0 r hs
    have hl : (us ++ ([] : List Value)).length = ps.length := by
      rw [List.append_nil, ← r.length]
      exact len _ _ _ _ hs
    have b := hb s us (e0.mod.kin.keeps fun b o e => (e0.bs b o e).1) hl
    rw [List.append_nil] at b
    exact ok.run A outer s H ⟨us, []⟩ us vs Q E p hr hot hpin e0 b r hs
theorem Fn.imp {md : Bool} {sp' : Sp} (F : Fn P w K mg base md k f sp) (h : ∀ vs H Q E, sp' vs H Q E → sp vs H Q E) : Fn P w K mg base md k f sp' :=
  ⟨FnR.imp F.calm h, fun hm A outer s H us vs Q E p hr hot hpin e0 r hs => F.hot hm A outer s H us vs Q E p hr hot hpin e0 r (h _ _ _ _ hs)⟩
theorem Fn.or {md : Bool} {sp' : Sp} (F : Fn P w K mg base md k f sp) (G : Fn P w K mg base md k f sp') : Fn P w K mg base md k f (fun vs H Q E => sp vs H Q E ∨ sp' vs H Q E) :=
  ⟨fun A outer s H us vs Q E hr e0 r hs => hs.elim (fun h => F.calm A outer s H us vs Q E hr e0 r h) fun h => G.calm A outer s H us vs Q E hr e0 r h,
    fun hm A outer s H us vs Q E p hr hot hpin e0 r hs => hs.elim (fun h => F.hot hm A outer s H us vs Q E p hr hot hpin e0 r h) fun h => G.hot hm A outer s H us vs Q E p hr hot hpin e0 r h⟩
theorem Fn.weak (F : Fn P w K mg base true k f sp) : Fn P w K mg base false k f sp := ⟨F.calm, fun h => Bool.noConfusion h⟩
theorem Fn.mono {md : Bool} {j : Nat} (F : Fn P w K mg base md j f sp) (h : j ≤ k) : Fn P w K mg base md k f sp :=
  ⟨F.calm.mono h, fun hm A outer s H us vs Q E p hr hot hpin e0 r hs => F.hot hm A outer s H us vs Q E p (hr.mono h) hot hpin e0 r hs⟩
end
end SP

/-! A1 -/
set_option maxHeartbeats 4100000
namespace SP
open PySem PySem.Spec PyProof.Rows L2 L2H HotX

/-! ### a tuple taken apart while an exception is handled -/
section
variable {prog : Program} {w : World} {A :
                                           Around} {E : Value → Shared → Prop} {s : Shared}
theorem next_tuple_endH {it t x1 : Addr} {i : Nat} {items} {Q : Option Value → Shared → Prop} (hot : HotAt A x1 s.heap) (hne : x1 ≠ it)
    (hit : IsTupIter s.heap it t i) (ht : IsTup
                                                s.heap t items) (hx : items[i]? = none)
    (hQ : ∀ h', Heap.ExtBut it s.heap h' → Q none { s with heap :=
                                                                   h' }) : wpAny (model prog w) A (pyNext (.ref it)) Q E s := by
  obtain ⟨o, ho,
                 hc, hd⟩ := id hit
  obtain ⟨ol, hol,
                   _, nl, hdl⟩ := ht
  obtain ⟨hh, o1, vs1,
                       h1, d1, c1⟩ := hot
  unfold pyNext
  refine wpAny_bind (wpAny_attempt (wpAny_callSpecial?_slot (name
                                                                  := Str.ofString "__next__") hit.typeIs slot_tupleiter_next
    (wpAny_call_entry slot_tupleiter_next hit.typeIs
                                                     entry_tupleiter_next ?_ (args_tupleiter_next _))))
  show wpAny _ _ (field
                        (.ref it) 0 >>= _) _ _ s
  refine wpAny_bind (wpAny_field
                                 ho hd (x := .ref t) rfl ?_)
  show wpAny _ _ (if (Value.ref t ==
                                     Value.none) = true then _ else _) _ _ s
  rw [if_neg (show ¬ ((Value.ref t ==
                                      Value.none) = true) from Bool.false_ne_true)]
  show wpAny _ _ (field
                        (.ref it) 1 >>= _) _ _ s
  refine wpAny_bind (wpAny_field
                                 ho hd (x := .int i 0) rfl ?_)
  show wpAny _ _ (seqItems?
                            (.ref t) >>= _) _ _ s
  refine wpAny_bind
                    (wpAny_seqItems hol hdl ?_)
  simp only
            [Int.toNat_natCast, hx]
  refine wpAny_bind (wpAny_rule (wpAny_bind
                                            (wpAny_setField ho hd (by simp) ?_)))
  show wpAny _ _ (newExc (.type
                                "StopIteration") [] >>= _) _ _ _
  refine wpAny_bind ?_
  simp only [newExc, newTuple]
  refine wpAny_bind (wpAny_newObj_type
                                       ?_ (by size_fits))
  refine wpAny_bind (m := firstArgMember _ _) (wpAny_of_eq (a :=
                                                                 Value.none) (by first | rfl | (simp only [firstArgMember]; rfl)) ?_)
  refine wpAny_newObj_type
                           ?_ (by size_fits)
  have sb : Heap.SameBut it s.heap (s.heap.update it (Obj.mapFields (·.setIfInBounds 0 .none))) := Heap.SameBut.update ..
  have k1 : ∀ b o, b ≠ it → s.heap.get? b = some o → (s.heap.update it (Obj.mapFields (·.setIfInBounds 0 .none))).get? b = some o := fun b o hb e => (sb.2 b hb).trans e
  have g1 := k1 _ _ hne h1
  refine raiseNew_hot ⟨hh, o1, vs1, Heap.get?_push_of_some _ (Heap.get?_push_of_some _ g1), d1, c1⟩ (Nat.ne_of_lt (Heap.lt_size (Heap.get?_push_of_some _ g1))) (Heap.get?_push_size _ rfl) rfl (by first | (simp; done) | (simp; omega) | (simp only [Array.size_append]; simp; omega)) ?_
  refine wpAny_bind (wpAny_isInstance (T := "StopIteration") (b := true) ⟨_,
                                                                             Heap.get?_update_self _ (Heap.get?_push_size _ rfl) rfl, rfl⟩ isSubtype_stop ?_)
  refine wpAny_pure (hQ
                        _ fun b o hb e => ?_)
  rw [Heap.get?_update_other _ _ (Nat.ne_of_gt (Heap.lt_size (Heap.get?_push_of_some _ (k1 _ _ hb e))))]
  exact Heap.get?_push_of_some _ (Heap.get?_push_of_some _ (k1 _ _ hb e))
theorem unpackItems_tupleH {t x1 : Addr} {items : Array Value} {Q : List Value → Shared → Prop} (hot : HotAt A x1 s.heap) (ht : IsTup s.heap t items)
    (hQ : ∀ h', Heap.ExtBut s.heap.objs.size s.heap h' → Q items.toList { s with heap :=
                                                                                         h' }) : wpAny (model prog w) A (unpackItems (.ref t) items.size none) Q E s := by
  have hlt : t ≠ s.heap.objs.size := by obtain ⟨o,
                                                   ho, _⟩ := ht; exact Nat.ne_of_lt (Heap.lt_size ho)
  have hx1 : x1 ≠ s.heap.objs.size := by obtain ⟨_, o, _, ho, _⟩ := hot; exact Nat.ne_of_lt (Heap.lt_size ho)
  unfold unpackItems
  refine wpAny_bind ?_
  · unfold notIterableAtAll
    refine wpAny_bind (wpAny_specialOf
                                       ht.typeIs slot_tuple_iter.lookup ?_)
    refine wpAny_pure ?_
    simp only [Bool.false_eq_true,
                                   if_false]
    refine wpAny_bind (wpAny_holding
                                     (iter_tuple ht ?_))
    refine wpAny_bind (wpAny_holding (draw_tuple hlt items.size 0 _ _ ⟨_,
                                                                          Heap.get?_push_size _ rfl, rfl, rfl⟩ (ht.push _) (by omega) fun h₁ hit₁ hs₁ => ?_))
    have hall : List.take items.size (List.drop
                                                0 items.toList) = items.toList := by
      rw [List.drop_zero]; exact
                                 List.take_of_length_le (by simp)
    rw [hall]
    rw [if_neg (by simp)]
    have ht₁ : IsTup h₁ t items :=
                                   (ht.push _).extBut hs₁.extBut hlt
    have hot₁ : HotAt A x1 h₁ := by
      obtain ⟨hh, o, vs, ho, hd, hc⟩ := hot
      exact ⟨hh, o, vs, hs₁.extBut x1 o hx1 (Heap.get?_push_of_some _ ho), hd, hc⟩
    refine wpAny_bind (wpAny_holding (next_tuple_endH hot₁ hx1 hit₁ ht₁ (by simp) fun h₂ he₂ => ?_))
    simp only [Option.isSome_none,
                                   Bool.false_eq_true, if_false]
    refine wpAny_pure (hQ h₂ fun b o hb e => he₂ b o hb
                                                        (hs₁.extBut b o hb (Heap.get?_push_of_some _ e)))
theorem assign_Tuple_tupleH {env : Env} {elts : List Expr} {x1} {pos : Pos} {t y1 : Addr} {items : Array Value} {Q : Unit → Shared → Prop} (hot : HotAt A y1 s.heap) (ht : IsTup s.heap t items)
    (hn : (assignEach elts env).length = items.size)
                                                     (hstar : (assignEach elts env).findIdx? (·.1) = none)
    (h : ∀ h', Heap.ExtBut s.heap.objs.size s.heap h' → wpAny (model prog w) A (assignInOrder
                                                                                              ((assignEach elts env).map (·.2)) items.toList) Q E { s with heap := h' }) :
    wpAny (model prog w) A (assign (.Tuple
                                           elts x1 pos) env (.ref t)) Q E s := by
  rw [assign_Tuple]
  refine wpAny_bind
                    (wpAny_standAt ?_)
  unfold unpack
  rw [hn, hstar]
  exact wpAny_bind (wpAny_holding (unpackItems_tupleH hot ht h))
end
theorem x_tup {X : Cx} {es : List Expr} {k n : Nat} {t : TGs} {pos : Pos} (hc : X.A.handled = none ∨ HotC X) (h : PGs X es t)
    (hn : (assignEach es X.env).length = n := by rfl) (hst : (assignEach es
                                                                            X.env).findIdx? (·.1) = none := by rfl) : PG X (.Tuple es k pos) (gTup X.K n t) := by
  refine ⟨fun pins s σ
                       H v u Q I r hw => ?_⟩
  obtain ⟨a, xs, e1,
                     hq, hl, hw⟩ := hw
  subst e1
  cases r
  obtain ⟨its, rv, ht,
                       hz⟩ := I.tuple hq
  have fin : ∀ h', Heap.ExtBut s.heap.objs.size s.heap h' → wpAny (model X.prog X.w) X.A (assignInOrder ((assignEach es X.env).map (·.2)) its.toArray.toList) (fun _ s' => ∃ σ' H', Inv X pins σ' H' s' ∧ Q σ' H') X.xe { s with heap := h' } := fun h' hx => by
    have I1 : Inv X pins σ H { s with heap := h' } := I.kept (t' :=
                                                                    s.toks) fun b o e => hx b o (Nat.ne_of_lt (Heap.lt_size e)) e
    exact h.run pins _ σ H xs _
                                Q I1 (by simpa using rv) hw
  rcases hc with hc | hc
  · exact assign_Tuple_tuple hc ht (by simp [hn, ← hl, rv.length]) hst fin
  · obtain ⟨x1, hot⟩ := hc.at I
    exact assign_Tuple_tupleH hot ht (by simp [hn, ← hl, rv.length]) hst fin

/-! ### xs[i] by values, for xs[i] -= 1 -/
theorem get_list {X : Cx} : PGet X (rIxL X.K) := by
  intro pins s σ H o i ov iv Q I ro ri h
  obtain ⟨p, xs, k, v, rfl, rfl, hS, hv, q⟩ := h
  obtain ⟨j, e1, e2, e3, e4, e5⟩ := atI_get hv
  cases ro
  obtain ⟨t, rfl⟩ := ri
  obtain ⟨its, r, pl, hz⟩ := I.list hS
  obtain ⟨u, hu, ru⟩ := r.get e2
  have hl := r.length
  have hn := line63
  have fin : EP X pins σ Q u s := ⟨v, H, I, ru, q⟩
  by_cases h0 : 0 ≤ k
  · have hj : k.toNat = j := by
      rw [seqIndex_of h0 e5] at e1
      exact Option.some.inj e1
    exact wpAny_getItem_list pl.isList h0 (by omega) (by rw [hj]; simpa using hu) fin
  · have hj : (k + (its.toArray.size : Int)).toNat = j := by
      rw [seqIndex_neg (by omega) e4] at e1
      rw [List.size_toArray, ← hl]
      exact Option.some.inj e1
    exact wpAny_getItem_list_neg pl.isList (by omega) (by rw [List.size_toArray] <;> omega) (by omega) (by rw [hj]; simpa using hu) fin

/-! ### an own error over an own error, with fields -/
section
variable {X : Cx} {o e : Expr} {es : List Expr} {to te : TE} {ta : TA} {x : Str} {p p1 p2 pos : Pos} {CH : Addr}
/-- HouseError.__init__(self, ..) -/
theorem x_heinit {pl : Sem Bool} (c : CDef X.K CH "__init__" (.builtin "ValueError.__init__")) (hm : X.mg x = some (.ref CH)) (ha : PA X (e :: es) ta) (hg : Gl X x := by rfl) (hdb : (x == ("__debug__" : Str)) = false := by decide)
    (hc : eval (.Call (.Attribute (.Name x p1) "__init__" p2) (e :: es) [] pos) X.env = (do
      let ov ← eval (.Name x p1) X.env
      standAt p2.atName
      let (f, first) ← holding [ov]
                                    (getMethod ov "__init__" pl)
      callWith pos f first (backTo pos (starEach (e :: es)
                                                           X.env)) (backToKw pos (keywordEach [] X.env))) := by rfl)
    (he : starEach (e :: es) X.env = (false, eval e X.env) :: starEach es X.env :=
                                                                                   by rfl) (hpl : (backTo pos (starEach es X.env)).any (·.1) = false := by rfl) :
    PE X (.Call (.Attribute (.Name x p1) "__init__" p2) (e :: es) [] pos) (tVeI X.K ta) := by
  refine ⟨fun pins
                   s σ H Q I h => ?_⟩
  refine PySem.W.methodCall_KW (ld_glob I hg hm ?_ hdb) hc
  refine PySem.W.method_cls I.kIn c.ga ?_
  refine PySem.W.cls_value I.kIn c.rd c.at_ rfl ?_
  show wpAny _ _ (callWith pos (Value.builtin "ValueError.__init__")
                                                                     [] (backTo pos (starEach (e :: es) X.env)) []) _ _ _
  refine PyProof.Rows.callWith_method1 (thn (ha.run pos pins _ σ H _ (I.tok
                                                                            _) h) fun us s1 ⟨vs, H1, I1, r1, a, C, ws, ev, hl, T, ea, q⟩ => ?_) he hpl
  subst ev
  cases r1 with
  | @cons _ u0 _ ur ra rw' =>
    obtain rfl : u0 =
                      Value.ref a := ra
    have hlen : ur.length
                          ≤ sizeLine := by
      rw [← Paired.length
                          rw', sizeLine_eq]
      omega
    exact oinit_ok T I1 ea hlen
                                fun s' J => ⟨.non, H1, J, rfl, q⟩
/-- C(e, ..), raised where nothing is handled -/
theorem pmk_err {C fI : Addr} {k : Nat} {sp : Sp} (T : OexC X.K C) (iC : PySem.W.findIn X.K (.ref C) "__init__" = some (some (.ref fI))) (tI : PySem.W.typeIn X.K (.ref fI) = some (.type "function"))
    (F1 : Fn X.prog X.w X.K X.mg X.base false k fI sp) (hr : Room (k + 1) X.A) (hm : X.mg x = some (.ref C)) (ha : PA X (e :: es) ta) (hg : Gl X x := by rfl)
    (hdb : (x == ("__debug__" : Str)) = false := by decide) (he : starEach (e :: es) X.env = (false, eval e
                                                                                                            X.env) :: starEach es X.env := by rfl) (hpl : (backTo pos (starEach es X.env)).any (·.1) = false := by rfl) :
    L2N.PMk X (.Call (.Name x p) (e :: es) [] pos) (tMkO C sp [] ta) := by
  intro pins s σ H Q I h
  obtain ⟨nm, q, N, bs, bm, sn, sub, ab, col,
                                              dd, k0, k1, k2, k3, k5, hC, hbm⟩ := T.cls
  refine wpAny_Call_Name_kw
                            (ld_glob I hg hm ?_ hdb)
  refine PySem.W.callWith_K (h₀ := X.base) I.ok.mod.kin T.kC (thn (ha.run pos
                                                                              pins s σ H _ I h) fun us s1 ⟨vs, H1, I1, r1, hz, q1⟩ => ⟨I1.kIn, ?_⟩) he hpl
  show wpAny _ _ (call
                       (.ref C) us) _ _ _
  obtain ⟨hp, g,
                 dr, tk, os⟩ := s1
  have hsz : hp.objs.size ≤
                            hp.objs.size + 1 := Nat.le_succ _
  have hn : H1 (hp.objs.size +
                               1) = none := I1.hok.fresh hsz
  have hq := q1
                (hp.objs.size + 1) hn
  rw [List.append_nil] at hq
  have kk : ∀ b o, hp.get? b = some o → ((hp.push (PySem.W.kdv_tup us)).push (PySem.HandSPX.excO C
                                                                                                   hp.objs.size)).get? b = some o := fun b o e => Heap.get?_push_of_some _ (Heap.get?_push_of_some _ e)
  have hget : ((hp.push (PySem.W.kdv_tup us)).push (PySem.HandSPX.excO C hp.objs.size)).get?
                                                                                             (hp.objs.size + 1) = some (PySem.HandSPX.excO C hp.objs.size) := by heap_get
  have I2 : Inv X pins σ (upd H1 (hp.objs.size + 1) (exo (hp.objs.size + 1) C none))
                                                                                     ⟨(hp.push (PySem.W.kdv_tup us)).push (PySem.HandSPX.excO C hp.objs.size), g, dr, tk, os⟩ :=
    I1.laid (t' := tk) (a := hp.objs.size + 1) (o := exo (hp.objs.size + 1) C none) (h' :=
                                                                                           (hp.push (PySem.W.kdv_tup us)).push (PySem.HandSPX.excO C hp.objs.size)) kk hsz (exo_ok hget)
  have r2 : Vals (V.ref (hp.objs.size + 1) :: vs)
                                                  (Value.ref (hp.objs.size + 1) :: us) := .cons rfl r1
  have hus : us.length
                       ≤ sizeLine := by
    rw [← Paired.length
                        r1, sizeLine_eq]
    omega
  refine wpAny_call (PySem.HandSPX.call_own F.excBase_ValueError (fun Y => PySem.HandSPX.refsVE_contains Y
                                                                                                           bm hbm) (I1.kIn _ _ hC) (PySem.W.looks_findIn I1.kIn iC) (fun self => PySem.W.bind_fn I1.kIn self tI) hus
    (codeAny_mono (F1.calm _ X.stack _ _ (Value.ref (hp.objs.size + 1) :: us) _ _ (fun _ _ _ => False) (hr.make C us []) (I2.env0.make C us []) r2 hq) fun r s' hq' => ?_))
  cases r with
  | error er =>
    obtain ⟨_, _, _, _, _, _, _, _, _, _, _, _, z⟩ := (show L2N.CX _ _ _ _ _ _ _ _ from hq')
    exact z.elim
  | ok fl =>
    cases fl with
    | ret u =>
      obtain ⟨v, H2, os2, bare2, un2, hok2,
                                            rv, ev, d, fs, ea, ed, hd1, q2⟩ := hq'
      subst ev
      obtain ⟨h2, g2,
                      d2, t2, os'⟩ := s'
      obtain ⟨t0, G, J, kG, ge, hoe, na⟩ := mk_end0 (d2 :=
                                                           d2) (t2 := t2) I1 hsz kk un2 hok2 os2 bare2 ea ed hd1
      refine ⟨rv, (hp.objs.size + 1), _, _, ⟨G, g2, d2, t2, os'⟩, _, .ref C, some d, rfl, J, kG, ge, hoe, ⟨rfl, rfl, fun vs e => ?_⟩, rfl, rfl, na, rfl, bare2, raises_own T.exC T.tyC, q2⟩
      cases e
      rfl
    | next => exact
                    False.elim hq'
    | brk => exact False.elim hq'
    | cont => exact
                    False.elim hq'
end

/-! ### a def that is called with the very exception that is handled -/
def FnHE (P : Program) (w : World) (K : PySem.W.Frag) (mg : Str → Option Value) (base : Heap) (k : Nat) (f D : Addr) (sp : Hp → VK → Prop) : Prop :=
  ∀ (A : Around) (outer : List Env) (s : Shared) (H : Hp) (Q : VK) (p : Addr × Obj), RoomH k A → Hot1 A p → PinOk outer H s p → Env0 P w K mg base A outer s H → Zc (.ref D) none p.2 → sp H Q →
    codeAny (model P w) A (.call (.ref f) ⟨[.ref p.1], []⟩) (CR (L2N.CX P w) outer P w H s Q E0) s
theorem fn_exc {P : Program} {w : World} {K : PySem.W.Frag} {mg : Str → Option Value} {base : Heap} {x qual y : Str} {params : Arguments} {body : List Stmt} {scope : Scope} {f D : Addr} {fd : FuncData} {N : List Str} {k : Nat} {sp : Hp → VK → Prop}
    (F : FunD K x qual params body scope [] [] f fd) (hb : Binds K fd [y] []) (S : FnScope N [y] scope)
    (hbody : ∀ (cdv : Value) (A : Around) (outer : List Env) (s : Shared) (H : Hp) (Q : VK) (p : Addr × Obj), Hot1 A p → RoomH k (A.deeper (envOfC qual scope s.heap.objs.size f cdv)) → Zc (.ref D) none p.2 → sp H Q →
      ∃ t, PSs (cxM P w K mg base N qual scope f cdv A outer s H E0 (some p)) body t ∧ t { nx := fun _ H' => Q .non H', rt := Q } (start N [.ref p.1]) H) :
    FnHE P w K mg base (k + 1) f D sp := by
  obtain ⟨oc, od, dV, kV, doc, pm, an, cdv, ct, osl, rfl, lk, hcd, hdv, hkv⟩ := F.ex
  intro A outer s H Q p hr hot hpin e0 hz hs
  have inh : K.In s.heap := PySem.W.Frag.In.keeps e0.mod.kin fun b o e => (e0.bs b o e).1
  have nol : s.heap.NoLimit := Heap.NoLimit.keeps e0.mod.nolimit fun b o e => (e0.bs b o e).1
  have bnd := hb s [.ref p.1] inh rfl
  have local1 : ∀ z ∈ [y].zip [Value.ref p.1], scope.names.lookup z.1 = some .local ∨ (scope.names.lookup z.1 = some .cell ∧ ((cellsFrom (s.heap.objs.size + 1) scope.names []).lookup z.1).isSome = true) := by
    intro z hz
    have hy : z.1 = y := by
      have h1 := (List.of_mem_zip (show (z.1, z.2) ∈ _ from hz)).1
      simpa using h1
    rw [hy]
    exact (S.par y (by simp)).imp_right fun k => ⟨k, PySem.W.cellsFrom_some _ _ _ (.inl k)⟩
  refine codeAny_call_function hr.depth (inh _ _ lk) rfl S.co S.gen rfl (PySem.W.codeRec_of inh hcd) (bnd _ _ _ _ (wpAny_newFunctionEnv_cells S.kind local1 fun env he s1 xc => ?_))
  subst he
  obtain ⟨t, ht, hq⟩ := hbody cdv A outer s H Q p hot (hr.deeper _) hz hs
  have J : Inv (cxM P w K mg base N qual scope f cdv A outer s H E0 (some p)) [] (L2.start N [.ref p.1]) H s1 := inv_startH S hpin e0 rfl (.cons rfl .nil) xc
  refine ⟨nol.keeps xc.toInCall.keep, codeAny_func (wpAny_mono (ht.run [] s1 _ H _ J hq) (fun fl s' z => ?_) fun _ _ z => z)⟩
  match fl, z with
  | .ret u, ⟨v, _, H', I2, rv, q⟩ => exact ⟨v, H', I2.os, I2.bare, I2.base, I2.hok, rv, q⟩
  | .next, ⟨_, H', I2, q⟩ => exact ⟨V.non, H', I2.os, I2.bare, I2.base, I2.hok, rfl, q⟩
  | .brk, ⟨_, _, _, q⟩ => exact q.elim
  | .cont, ⟨_, _, _, q⟩ => exact q.elim
/-- f(e) in the suite that handles e -/
theorem x_callE {X : Cx} {k i : Nat} {f D a : Addr} {oe : Obj} {pn : List (Addr × Obj)} {sp : Hp → VK → Prop} {x n : Str} {q p0 pos : Pos} (F : FnHE X.prog X.w X.K X.mg X.base k f D sp) (hr : RoomH k (X.suite a ((a, oe) :: pn)).A) (hz : Zc (.ref D) none oe) (hc : ∃ vs : Array Value, oe.data = .fields vs ∧ vs[2]? = some .none)
    (hi : X.N[i]? = some n) (hv : Vis X.env.scope n) (hm : X.mg x = some (.ref f)) (hk : PySem.W.keepIn X.K (.ref f) = true) (hg : Gl X x := by rfl) (hdb : (x == ("__debug__" : Str)) = false := by decide) (hd : (n == ("__debug__" : Str)) = false := by decide) (hcd : (n == ("__classdict__" : Str)) = false := by decide)
    (he : starEach [.Name n p0] X.env = (false, eval (.Name n p0) X.env) :: starEach [] X.env := by rfl) :
    PE (X.suite a ((a, oe) :: pn)) (.Call (.Name x q) [.Name n p0] [] pos) (fun σ H Q => σ[i]? = some (some (.ref a)) ∧ sp H Q) := by
  refine ⟨fun pins s σ H Q I ⟨h1, h2⟩ => ?_⟩
  refine wpAny_Call_Name_kw
                            (ld_glob I hg hm ?_ hdb)
  have ha : PA (X.suite a ((a, oe) :: pn)) [.Name n p0] (tCons (tVar i) tNil) := pa_cons (pe_var hi hv hd hcd) pa_nil he
  refine PySem.W.callWith_K (h₀ := X.base) I.ok.mod.kin hk (thn (ha.run pos pins s σ H (fun vs H' => vs = [.ref a] ∧ H' = H) I ⟨_, h1, rfl, rfl⟩) fun us s1 ⟨vs, H1, I1, r, e1, e2⟩ => ⟨I1.kIn, ?_⟩) he rfl
  subst e1 e2
  cases r with
  | cons r rr =>
    cases rr
    cases r
    have P1 := I1.pin (a, oe) (List.mem_append_left _ List.mem_cons_self)
    have hpin : PinOk (X.suite a ((a, oe) :: pn)).stack H1 s1 (a, oe) := ⟨P1.1, P1.2.1, fun hm => (List.mem_cons.mp (I1.stkSub a hm)).elim P1.2.2.1 P1.2.2.2.1, P1.2.2.2.2⟩
    refine wpAny_call (codeAny_mono (F _ _ s1 H1 Q (a, oe) hr ⟨rfl, hc⟩ hpin I1.env0 hz h2) fun r s' hq => ?_)
    match r, hq with
    | .error e, hq =>
      obtain ⟨_, _, _, _, _, _, _, _, _, _, _, _, z⟩ := (show L2N.CX _ _ _ _ _ _ _ _ from hq)
      exact z.elim
    | .ok (.ret u), hq => exact I1.after hq
/-- isinstance(e, C) in such a def -/
theorem call_isH {X : Cx} {D : Addr} {p : Addr × Obj} (C : ExcC X.K D) (hp : p ∈ X.pn) (hz : Zc (.ref D) none p.2) (hf : ∃ vs, p.2.data = .fields vs) : CallR X (.builtin "isinstance") (rIsE X.K D p.1) := by
  intro pins s σ H xs us Q I r ⟨c, cv, b, e0, hcv, e, q⟩
  subst e0
  cases r with
  | cons rx rr =>
    cases rr with
    | cons rt rr =>
      cases rr
      cases rx
      have ec := hcv _ rt
      subst ec
      have hget := (I.pin p (List.mem_append_left _ hp)).1
      have J : PySem.W.InstAt s.heap p.1 p.2 D none := by
        obtain ⟨a, oc, od, oda, osl⟩ := p
        obtain ⟨vs, hv⟩ := hf
        obtain ⟨h1, h2⟩ := hz
        dsimp only at h1 h2 hv hget
        subst h1 h2 hv
        exact ⟨hget, rfl,
                          rfl, trivial⟩
      refine PySem.W.kia_one (PySem.W.handS_kitx_exc C.hg C.hk C.hs C.hd C.ha C.hn C.ht C.hm) I.kIn J e (fun z => nomatch z) fun tk => ?_
      exact ⟨.bl b, H, I.kept (t' := tk) fun _ _ z => z, rfl, q⟩
end SP

/-! A2 -/
set_option maxHeartbeats 4100000
namespace SP
open PySem PySem.Spec PyProof.Rows L2 L2H HotX

/-! ### fields by their places: an instance of the class at C with the attributes l holds the values vals -/
section
variable {α : Type}
theorem lookup_zip : ∀ (l : List Str) (vals : List α) (i : Nat) (f : Str), l.Nodup → l[i]? = some f → (l.zip vals).lookup f = vals[i]?
  | [], _, _, _, _,
                    h => by simp at h
  | g :: l, [], i, f, _, h => by simp
  | g :: l, v :: vals, 0, f, _, h => by
    have e : g = f := by simpa using h
    simp [List.lookup, e]
  | g :: l, v :: vals, i + 1, f, nd, h => by
    have h2 : l[i]? = some f := by simpa using h
    have hne : ¬ f = g := by
      intro e
      subst e
      exact (List.nodup_cons.mp nd).1 (List.mem_of_getElem? h2)
    rw [List.zip_cons_cons, List.lookup_cons, beq_eq_false_iff_ne.mpr hne]
    simpa using lookup_zip l vals i f (List.nodup_cons.mp nd).2 h2
theorem lookup_zip_none : ∀ (l : List Str) (vals : List α) (f : Str), f ∉ l → (l.zip vals).lookup f = none
  | [], _, _, _ => by simp
  | g :: l, [], f, _ => by simp
  | g :: l, v :: vals, f, h => by
    have hne : ¬ f = g := fun e => h (by rw [e]; exact List.mem_cons_self)
    rw [List.zip_cons_cons, List.lookup_cons, beq_eq_false_iff_ne.mpr hne]
    exact lookup_zip_none l vals f fun z => h (List.mem_cons_of_mem _ z)
end
theorem putF_set : ∀ (l : List Str) (vals : List V) (i : Nat) (f : Str) (v : V), l.Nodup → l[i]? = some f → i < vals.length → putF f v (l.zip vals) = l.zip (vals.set i v)
  | [], _, _, _, _, _,
                       h, _ => by simp at h
  | g :: l, [], i, f, v, _, h, hl => by simp at hl
  | g :: l, w :: vals, 0, f, v, _, h, hl => by
    have e : g = f := by simpa using h
    subst e
    show (if g = g then (g, v) :: l.zip vals else _) = _
    rw [if_pos rfl]
    rfl
  | g :: l, w :: vals, i + 1, f, v, nd, h, hl => by
    have h2 : l[i]? = some f := by simpa using h
    have hne : ¬ g = f := by
      intro e
      subst e
      exact (List.nodup_cons.mp nd).1 (List.mem_of_getElem? h2)
    show (if g = f then _ else (g, w) :: putF f v (l.zip vals)) = _
    rw [if_neg hne, putF_set l vals i f v (List.nodup_cons.mp nd).2 h2 (by simpa using hl)]
    rfl
theorem putF_new : ∀ (l : List Str) (vals : List V) (f : Str) (v : V), l.Nodup → l[vals.length]? = some f → putF f v (l.zip vals) = l.zip (vals ++ [v])
  | [], vals, _, _, _, h => by simp at h
  | g :: l, [], f, v, _, h => by
    have e : g = f := by simpa using h
    subst e
    simp [putF]
  | g :: l, w :: vals, f, v, nd, h => by
    have h2 : l[vals.length]? = some f := by simpa using h
    have hne : ¬ g = f := by
      intro e
      subst e
      exact (List.nodup_cons.mp nd).1 (List.mem_of_getElem? h2)
    show (if g = f then _ else (g, w) :: putF f v (l.zip vals)) = _
    rw [if_neg hne, putF_new l vals f v (List.nodup_cons.mp nd).2 h2]
    rfl
structure Kls (K : PySem.W.Frag) (C : Addr) (l : List Str) : Prop where
  cls : Cls K C
  nd : l.Nodup
  no : ∀ f ∈ l, PySem.W.findIn K (.ref C) f = some none
  few : l.length < 1000
structure Mth (K : PySem.W.Frag) (C : Addr) (l : List Str) (m : Str) (f : Addr) : Prop where
  meth : Meth K C m f
  out : m ∉ l
/-- by values: x.f | x.f = y, f there | f new | the instance x -/
def pF (C : Addr) (l : List Str) (i : Nat) (x : V) (H : Hp) (Q : VK) : Prop := ∃ a dx vals v, x = .ref a ∧ H a = some (.ins C dx (l.zip vals)) ∧ vals[i]? = some v ∧ Q v H
def pSet (C : Addr) (l : List Str) (i : Nat) (x y : V) (H : Hp) (k : Hp → Prop) : Prop := ∃ a dx vals, x = .ref a ∧ H a = some (.ins C dx (l.zip vals)) ∧ i < vals.length ∧ k (upd H a (.ins C dx (l.zip (vals.set i y))))
def pNew (C : Addr) (l : List Str) (i : Nat) (x y : V) (H : Hp) (k : Hp → Prop) : Prop := ∃ a dx vals, x = .ref a ∧ H a = some (.ins C dx (l.zip vals)) ∧ vals.length = i ∧ k (upd H a (.ins C dx (l.zip (vals ++ [y]))))
def pM (C : Addr) (l : List Str) (x : V) (H : Hp) (k : Prop) : Prop := ∃ a dx vals, x = .ref a ∧ H a = some (.ins C dx (l.zip vals)) ∧ k
/-- e.f | e.m(..) | e.f = value | e.f op= value -/
def tF (C : Addr) (l : List Str) (i : Nat) (ta : TE) : TE := fun σ H Q => ta σ H fun x H1 => pF C l i x H1 Q
def tM (C : Addr) (l : List Str) (sp : Sp) (E : L2.St → XK) (ta : TE) (t : TA) : TE := fun σ H Q => ta σ H fun x H1 => pM C l x H1 (t σ H1 fun vs H2 => sp (x :: vs) H2 Q (E σ))
def sSet (C : Addr) (l : List Str) (i : Nat) (ta tv : TE) : TS := fun D σ H => tv σ H fun y H1 => ta σ H1 fun x H2 => pSet C l i x y H2 (D.nx σ)
def sNew (C : Addr) (l : List Str) (i : Nat) (ta tv : TE) : TS := fun D σ H => tv σ H fun y H1 => ta σ H1 fun x H2 => pNew C l i x y H2 (D.nx σ)
def sAug (C : Addr) (l : List Str) (i : Nat) (rd : V → V → Hp → VK → Prop) (ta tv : TE) : TS := fun D σ H => ta σ H fun x H1 => pF C l i x H1 fun v _ => tv σ H1 fun y H2 => rd v y H2 fun z H3 => pSet C l i x z H3 (D.nx σ)
theorem zip_few {l : List Str} {vals : List V} (h : l.length < 1000) : (l.zip vals).length < 1000 := by
  rw [List.length_zip]
  omega
section
variable {X : Cx} {C : Addr} {l : List Str} {i : Nat} {e o value : Expr} {es : List Expr} {ta tv : TE} {t : TA} {f : Str} {pos pos' apos tpos : Pos}
theorem x_fld (k : Kls X.K C l) (i : Nat) (he : PE X e ta) (hi : l[i]? = some f := by rfl) (hb : attributeBase e f X.env (eval e X.env) = eval e X.env := by rfl) : PE X (.Attribute e f pos) (tF C l i ta) := by
  refine ⟨fun pins s σ H Q I h => attr_of hb (thn (he.run pins s σ H _ I h) fun u s1 ⟨x, H1, I1, rx, a, dx, vals, v, ex, ea, hv, q⟩ => ?_)⟩
  subst ex
  obtain rfl : u =
                   Value.ref a := rx
  exact getattr_ok I1 ea k.cls (k.no f (List.mem_of_getElem? hi)) ((lookup_zip l vals i f k.nd hi).trans hv) fun u s' J r => ⟨v, H1, J, r, q⟩
theorem x_set (k : Kls X.K C l) (i : Nat) (ha : PE X o ta) (hv : PE X value tv) (hi : l[i]? = some f := by rfl) (hs : swapsWith value (some (.Attribute o f pos')) pos.line X.env = pure false := by rfl) : PS X (.Assign [.Attribute o f pos'] value pos) (sSet C l i ta tv) := by
  refine ⟨fun pins
                   s σ H D I h => ?_⟩
  refine plainObj_wpAny_Assign_Attribute (thn (hv.run pins s σ H _ I h) fun u s1 ⟨y, H1, I1, ry, q⟩ => thn (ha.run pins s1 σ H1 _ I1 q) fun ov s2 ⟨x, H2, I2, rx, a, dx, vals, ex, ea, hl, q2⟩ => ?_) hs
  subst ex
  obtain rfl : ov =
                    Value.ref a := rx
  refine setattr_ok I2 ea k.cls (k.no f (List.mem_of_getElem? hi)) (zip_few k.few) ry fun s3 I3 => ⟨σ, _, ?_, q2⟩
  rw [putF_set l vals i f y k.nd hi hl] at I3
  exact I3
theorem x_new (k : Kls X.K C l) (i : Nat) (ha : PE X o ta) (hv : PE X value tv) (hi : l[i]? = some f := by rfl) (hs : swapsWith value (some (.Attribute o f pos')) pos.line X.env = pure false := by rfl) : PS X (.Assign [.Attribute o f pos'] value pos) (sNew C l i ta tv) := by
  refine ⟨fun pins
                   s σ H D I h => ?_⟩
  refine plainObj_wpAny_Assign_Attribute (thn (hv.run pins s σ H _ I h) fun u s1 ⟨y, H1, I1, ry, q⟩ => thn (ha.run pins s1 σ H1 _ I1 q) fun ov s2 ⟨x, H2, I2, rx, a, dx, vals, ex, ea, hl, q2⟩ => ?_) hs
  subst ex
  obtain rfl : ov =
                    Value.ref a := rx
  refine setattr_ok I2 ea k.cls (k.no f (List.mem_of_getElem? hi)) (zip_few k.few) ry fun s3 I3 => ⟨σ, _, ?_, q2⟩
  rw [putF_new l vals f y k.nd (by rw [hl]; exact hi)] at I3
  exact I3
theorem x_aug {op : Operator} {rd : V → V → Hp → VK → Prop} (k : Kls X.K C l) (i : Nat) (ha : PE X o ta) (hv : PE X value tv) (hop : InOp X op rd) (hi : l[i]? = some f := by rfl) : PS X (.AugAssign (.Attribute o f tpos) op value pos) (sAug C l i rd ta tv) := by
  refine ⟨fun pins
                   s σ H D I h => ?_⟩
  refine wpAny_AugAssign_AttributeAny (thn (ha.run pins s σ H _ I h) fun ov s1 ⟨x, H1, I1, rx, a, dx, vals, v, ex, ea, hv1, q⟩ => ?_)
  subst ex
  obtain rfl : ov =
                    Value.ref a := rx
  have hno := k.no f (List.mem_of_getElem? hi)
  refine getattr_ok I1 ea k.cls hno ((lookup_zip l vals i f k.nd hi).trans hv1) fun u s2 I2 ru => thn (hv.run pins s2 σ H1 _ I2 q) fun w3 s3 ⟨y, H2, I3, ry, q3⟩ => thn (hop pins s3 σ H2 v y u w3 _ I3 ru ry q3) fun w4 s4 ⟨z, H3, I4, rz, a', dx', vals', ex', ea', l', q4⟩ => ?_
  cases ex'
  refine setattr_ok I4 ea' k.cls hno (zip_few k.few) rz fun s5 I5 => ⟨σ, _, ?_, q4⟩
  rw [putF_set l vals' i f z k.nd hi l'] at I5
  exact I5
variable {md : Bool} {kk : Nat} {g : Addr} {sp : Sp} {E : L2.St → XK} {m : Str}
theorem x_m {pl : Sem Bool} (F : Fn X.prog X.w X.K X.mg X.base md kk g sp) (hr : Can md kk X) (k : Kls X.K C l) (hm : Mth X.K C l m g) (hx : ∀ σ, PassesAt (L2N.CX X.prog X.w) X σ (E σ)) (he : PE X o ta) (ha : PA X (e :: es) t)
    (hst : starEach (e :: es) X.env = (false, eval e X.env) :: starEach es X.env :=
                                                                                    by rfl) (hpl : (backTo pos (starEach es X.env)).any (·.1) = false := by rfl)
    (ht : eval (.Call (.Attribute o m
                                      apos) (e :: es) [] pos) X.env = (do
      let ov ← eval o X.env
      standAt apos.atName
      let (f, first) ← holding
                               [ov] (getMethod ov m pl)
      callWith pos f first (backTo pos (starEach (e :: es)
                                                           X.env)) (backToKw pos (keywordEach [] X.env))) := by rfl) :
    PE X (.Call (.Attribute o m apos) (e :: es) [] pos) (tM C l sp E ta t) := by
  refine ⟨fun pins
                   s σ H Q I h => ?_⟩
  refine PySem.W.methodCall_KW (pl := pl) (thn (he.run pins s σ H _ I h) fun u s1 ⟨x, H1, I1, rx, a, dx, vals, ex, ea, q⟩ => ?_) ht
  subst ex
  obtain rfl : u =
                   Value.ref a := rx
  refine getmeth_ok I1 ea k.cls hm.meth (lookup_zip_none l vals m hm.out) ?_
  refine PySem.W.callWith_K (first := [.ref a]) (h₀ := X.base) I.ok.mod.kin hm.meth.kp (thn (ha.run pos pins s1 σ H1 _ I1 q) fun us s2 ⟨vs, H2, I2, r, q2⟩ => ⟨I2.kIn, ?_⟩) hst hpl
  exact wpAny_call (run_fnX (us := .ref a :: us) (vs := .ref a :: vs) F hr (hx σ) I2 (.cons rfl r) q2)
theorem x_m0 {pl : Sem Bool} (F : Fn X.prog X.w X.K X.mg X.base md kk g sp) (hr : Can md kk X) (k : Kls X.K C l) (hm : Mth X.K C l m g) (hx : ∀ σ, PassesAt (L2N.CX X.prog X.w) X σ (E σ)) (he : PE X o ta)
    (ht : eval (.Call (.Attribute o
                                    m apos) [] [] pos) X.env = (do
      let ov ← eval o X.env
      standAt apos.atName
      let (f, first) ← holding
                               [ov] (getMethod ov m pl)
      callWith pos f first (backTo pos (starEach [] X.env))
                                                            (backToKw pos (keywordEach [] X.env))) := by rfl) :
    PE X (.Call (.Attribute o m apos) [] [] pos) (tM C l sp E ta tNil) := by
  refine ⟨fun pins
                   s σ H Q I h => ?_⟩
  refine PySem.W.methodCall_KW (pl := pl) (thn (he.run pins s σ H _ I h) fun u s1 ⟨x, H1, I1, rx, a, dx, vals, ex, ea, q⟩ => ?_) ht
  subst ex
  obtain rfl : u =
                   Value.ref a := rx
  refine getmeth_ok I1 ea k.cls hm.meth (lookup_zip_none l vals m hm.out) ?_
  exact PySem.W.callWith_K0 (first := [.ref a]) I1.kIn hm.meth.kp (wpAny_call (run_fnX (us := [.ref a]) (vs := [.ref a]) F hr (hx σ) I1 (.cons rfl .nil) q))
end

/-! ### what is found of the text behind the top -/
section
variable {K : PySem.W.Frag} {h : Heap}
theorem cdV_ok {C : Addr} {m : Str} {v : Value} (c : cdV K C m v = true) : PySem.W.findCls K (.ref C) (.type "type") m = some (.val v) := by
  unfold cdV at c
  split at c
  · rename_i f e
    split at c
    · rw [e, of_decide_eq_true c]
    · cases c
  · rename_i f e
    split at c
    · rw [e, of_decide_eq_true c]
    · cases c
  · cases c
theorem cdB_ok {C : Addr} {m : Str} {v : Value} (c : cdB K C m v = true) : CDef K C m v := by
  obtain ⟨c1, c⟩ := He.ba c
  obtain ⟨c2, c3⟩ := He.ba c
  exact ⟨c1, He.eqO_ok c2, cdV_ok c3⟩
theorem oexB_ok {C : Addr} (c : oexB K C = true) : ∃ nm q N bs bm sn sub ab col dd k0 k1 k2 k3 k5, K.lookup C = some (excClassObj nm q C N bs bm true sn sub ab col dd k0 k1 k2 k3 k5 "ValueError.__new__") ∧ PySem.HandSPX.refsVE bm = true := by
  unfold oexB at c
  split at c
  · rename_i t dd cd sl ho
    split at c
    · rename_i C' bm k0
                        k1 k2 k3 n k5 hm hs
      obtain ⟨c1, c⟩ := He.ba c
      obtain ⟨c2, c⟩ := He.ba c
      obtain ⟨c3, c⟩ := He.ba c
      obtain ⟨c4, c⟩ := He.ba c
      obtain ⟨c5, c6⟩ := He.ba c
      have c1 := of_decide_eq_true c1
      have c2 := of_decide_eq_true c2
      have c3 := of_decide_eq_true c3
      obtain ⟨nm, bs, mro, ns, qn,
                                   hd, sn, sub, ab, col, del⟩ := cd
      have c7 : del = false := by simpa using c4
      have c8 : hd = true := c5
      dsimp only at hm
      clear c4 c5
      subst hm
      subst c1 c2 c3 c7 c8
      have hsl : sl = #[k0, k1, k2, k3, some (.builtin "ValueError.__new__"), k5] := by
        obtain ⟨l⟩ := sl
        simp only at hs
        rw [hs]
      subst hsl
      exact ⟨nm, qn, ns, bs, bm, sn, sub, ab, col, dd, k0, k1, k2, k3, k5, ho, c6⟩
    · cases c
  · cases c
end
def sObsG (n : List Str) (faL : List (List SFa)) (fnL : List (List He.DefD)) (g : Addr → Option Obj) : SAl := sObs faL fnL (He.frG g (colA n g))
def sHook (n : List Str) (faL : List (List SFa)) (fnL : List (List He.DefD)) : PySem.W.Hook where
  α := SAl
  obs := fun s => sObsG n faL fnL s.heap.get?
  val := fun _ => sVal fnL
  says := fun _ h => ∃ K : PySem.W.Frag, K.In h ∧ sSays faL fnL K
  of := fun _ _ e => ⟨_, He.frG_in, e⟩
  keeps := fun _ _ _ ⟨K, hK, c⟩ k =>
                                     ⟨K, PySem.W.Frag.In.keeps hK k, c⟩
theorem sObsG_eq {n : List Str} {faL : List (List SFa)} {fnL : List (List He.DefD)} {g : Addr → Option Obj} {s : Shared} (h : ∀ a, g a = s.heap.get? a) : sObsG n faL fnL g = (sHook n faL fnL).obs s := by
  rw [show g = s.heap.get? from funext h] <;> rfl
structure TXof (faL : List (List SFa)) (fnL : List (List He.DefD)) (K : PySem.W.Frag) (mg : Str → Option Value) : Prop where
  says : sSays faL fnL K
  glob : ∃ h : Heap, K.In h ∧ h.Ns mainGlobals mg
section
variable {faL : List (List SFa)} {fnL : List (List He.DefD)} {K : PySem.W.Frag} {mg : Str → Option Value} {i j : Nat} {la : List SFa} {ln : List He.DefD} {d : He.DefD} {x y m : Str} {b : Bool}
namespace TXof
theorem fact (T : TXof faL fnL K mg) {f : SFa} (hi : faL[i]? = some la) (hj : la[j]? = some f) : f.ok K = true := by
  have c1 := (He.ba (show (allFa faL K && allFn fnL K) = true from congrArg (fun z : SAl => z.1) T.says)).1
  exact List.all_eq_true.mp (List.all_eq_true.mp c1 la (List.mem_of_getElem? hi)) f (List.mem_of_getElem? hj)
theorem glo (T : TXof faL fnL K mg) (hi : faL[i]? = some la) (hj : la[j]? = some (.he (.glo x))) : mg x = some (.ref (He.ga K x)) := by
  obtain ⟨h, X, G⟩ := T.glob
  exact He.glo_ok X G (T.fact hi hj)
theorem free (T : TXof faL fnL K mg) (hi : faL[i]? = some la) (hj : la[j]? = some (.he (.free x))) : mg x = none := by
  obtain ⟨h, X, G⟩ := T.glob
  exact He.free_ok X G (T.fact hi hj)
theorem int {n : Int} (T : TXof faL fnL K mg) (hi : faL[i]? = some la) (hj : la[j]? = some (.he (.int x n))) : ∃ u, mg x = some u ∧ RelV (.int n) u := by
  obtain ⟨h, X, G⟩ := T.glob
  obtain ⟨t, e⟩ := He.int_ok X G (T.fact hi hj)
  exact ⟨_, e, t, rfl⟩
theorem str {z : Str} (T : TXof faL fnL K mg) (hi : faL[i]? = some la) (hj : la[j]? = some (.he (.str x z))) : ∃ u, mg x = some u ∧ RelV (.str z) u := by
  obtain ⟨h, X, G⟩ := T.glob
  obtain ⟨t, e⟩ := He.str_ok X G (T.fact hi hj)
  exact ⟨_, e, t, rfl⟩
theorem cls (T : TXof faL fnL K mg) (hi : faL[i]? = some la) (hj : la[j]? = some (.he (.cls x))) : Cls K (He.ga K x) := He.cls_ok (T.fact hi hj)
theorem mkr (T : TXof faL fnL K mg) (hi : faL[i]? = some la) (hj : la[j]? = some (.he (.mkr x))) : Mk K (He.ga K x) (He.ma K (He.ga K x) "__init__") := He.mkr_ok (T.fact hi hj)
theorem noats {fs : List Str} (T : TXof faL fnL K mg) (hi : faL[i]? = some la) (hj : la[j]? = some (.noats x fs)) : ∀ f ∈ fs, PySem.W.findIn K (.ref (He.ga K x)) f = some none :=
  fun f hf => He.eqO_ok (List.all_eq_true.mp (T.fact hi hj) f hf)
theorem meth (T : TXof faL fnL K mg) (hi : faL[i]? = some la) (hj : la[j]? = some (.meth x y m)) : Meth K (He.ga K x) m (He.ma K (He.ga K y) m) := by
  obtain ⟨c1, c⟩ := He.ba (T.fact hi hj)
  obtain ⟨c2, c3⟩ := He.ba c
  exact ⟨He.eqO_ok c1, c2, c3⟩
theorem cdef (T : TXof faL fnL K mg) (hi : faL[i]? = some la) (hj : la[j]? = some (.cdef x m)) : CDef K (He.ga K x) m (.ref (He.ma K (He.ga K x) m)) := cdB_ok (T.fact hi hj)
theorem cdefB {q : String} (T : TXof faL fnL K mg) (hi : faL[i]? = some la) (hj : la[j]? = some (.cdefB x m q)) : CDef K (He.ga K x) m (.builtin q) := cdB_ok (T.fact hi hj)
theorem exc (T : TXof faL fnL K mg) (hi : faL[i]? = some la) (hj : la[j]? = some (.he (.exc x))) : PySem.W.excIn K (He.ga K x) He.veBase "ValueError.__new__" = true ∧ PySem.W.keepIn K (.ref (He.ga K x)) = true ∧ PySem.W.subIn K (.ref (He.ga K x)) (.type "BaseException") = some true ∧ PySem.W.typeIn K (.ref (He.ga K x)) = some (.type "type") := He.exc_ok (T.fact hi hj)
theorem exm (T : TXof faL fnL K mg) (hi : faL[i]? = some la) (hj : la[j]? = some (.he (.exm x y b))) : PySem.W.exmOne K (.ref (He.ga K x)) (.ref (He.ga K y)) = some b := He.exm_ok (T.fact hi hj)
theorem excC (T : TXof faL fnL K mg) (hi : faL[i]? = some la) (hj : la[j]? = some (.excC x)) : ExcC K (He.ga K x) := by
  obtain ⟨c1, c⟩ := He.ba (T.fact hi hj)
  obtain ⟨c2, c⟩ := He.ba c
  obtain ⟨c3, c⟩ := He.ba c
  obtain ⟨c4, c⟩ := He.ba c
  obtain ⟨c5, c⟩ := He.ba c
  obtain ⟨c6, c⟩ := He.ba c
  obtain ⟨c7, c8⟩ := He.ba c
  exact ⟨He.eqO_ok c1, He.eqO_ok c2, of_decide_eq_true c3, c4, He.eqO_ok c5, He.eqO_ok c6, of_decide_eq_true c7, of_decide_eq_true c8⟩
theorem kit (T : TXof faL fnL K mg) (hi : faL[i]? = some la) (hj : la[j]? = some (.kit x y b)) : PySem.W.kitOne K (.ref (He.ga K x)) (.ref (He.ga K y)) = some b := of_decide_eq_true (T.fact hi hj)
theorem kitT {t : String} (T : TXof faL fnL K mg) (hi : faL[i]? = some la) (hj : la[j]? = some (.kitT x t b)) : PySem.W.kitOne K (.ref (He.ga K x)) (.type t) = some b := of_decide_eq_true (T.fact hi hj)
theorem oex (T : TXof faL fnL K mg) (hi : faL[i]? = some la) (hj : la[j]? = some (.oex x)) : OexC K (He.ga K x) ∧ PySem.W.findIn K (.ref (He.ga K x)) "__init__" = some (some (.ref (He.ma K (He.ga K x) "__init__"))) ∧ PySem.W.typeIn K (.ref (He.ma K (He.ga K x) "__init__")) = some (.type "function") := by
  obtain ⟨c1, c⟩ := He.ba (T.fact hi hj)
  obtain ⟨c2, c⟩ := He.ba c
  obtain ⟨c3, c⟩ := He.ba c
  obtain ⟨c4, c⟩ := He.ba c
  obtain ⟨c5, c⟩ := He.ba c
  obtain ⟨c6, c7⟩ := He.ba c
  exact ⟨⟨oexB_ok c1, He.eqO_ok c2, of_decide_eq_true c3, of_decide_eq_true c4, c5⟩, He.eqO_ok c6, of_decide_eq_true c7⟩
theorem def_ (T : TXof faL fnL K mg) (hi : fnL[i]? = some ln) (hj : ln[j]? = some d) : ∃ fd, FunD K d.name d.qual d.params d.body d.scope (d.dvs K) (d.kws K) (He.fAd K d.at_) fd := by
  have c2 := (He.ba (show (allFa faL K && allFn fnL K) = true from congrArg (fun z : SAl => z.1) T.says)).2
  have e : (fnL.map fun l => l.map fun d => He.fnW K d.at_) = fnL.map fun l => l.map He.DefD.val := congrArg (fun z : SAl => z.2) T.says
  have e1 : ((fnL.map fun l => l.map fun d => He.fnW K d.at_)[i]?) = ((fnL.map fun l => l.map He.DefD.val)[i]?) := by rw [e]
  rw [List.getElem?_map, List.getElem?_map, hi] at e1
  have e2 : (ln.map fun d => He.fnW K d.at_) = ln.map He.DefD.val := Option.some.inj e1
  have e3 : ((ln.map fun d => He.fnW K d.at_)[j]?) = ((ln.map He.DefD.val)[j]?) := by rw [e2]
  rw [List.getElem?_map, List.getElem?_map, hj] at e3
  exact He.DefD.funD (Option.some.inj e3) (List.all_eq_true.mp (List.all_eq_true.mp c2 ln (List.mem_of_getElem? hi)) d (List.mem_of_getElem? hj))
end TXof
end
/-- a def as it stands: its slots N, its parameters ps -/
def FSpec (K : PySem.W.Frag) (N ps : List Str) (x qual : Str) (st : Stmt) (f : Addr) : Prop := ∃ fd, FunD K x qual (defArgs st) (defBody st) (defScope st) [] [] f fd ∧ Binds K fd ps [] ∧ FnScope N ps (defScope st)
section
variable {P : Program} {w : World} {K : PySem.W.Frag} {mg : Str → Option Value} {base : Heap} {N ps : List Str} {x qual : Str} {st : Stmt} {f : Addr} {sp : Sp}
theorem FSpec.kp (F : FSpec K N ps x qual st f) : PySem.W.keepIn K (.ref f) = true := by
  obtain ⟨fd, F, _, _⟩ := F
  exact F.kp
theorem FSpec.calm (F : FSpec K N ps x qual st f) (k : Nat) (len : ∀ vs H Q E, sp vs H Q E → vs.length = ps.length)
    (hbody : ∀ (cdv : Value) (A : Around) (outer : List Env) (s : Shared) (H : Hp) (vs : List V) (Q : VK) (E : XK), Room k (cxOf (L2N.CX P w) P w K mg base N qual (defScope st) f cdv A outer s H E).A → sp vs H Q E →
      ∃ t, PSs (cxOf (L2N.CX P w) P w K mg base N qual (defScope st) f cdv A outer s H E) (defBody st) t ∧ t { nx := fun _ H' => Q .non H', rt := Q } (start N vs) H) : Fn P w K mg base false (k + 1) f sp := by
  obtain ⟨fd, F, b, S⟩ := F
  have z := fn_calm F b Paired.nil S len hbody
  exact z.imp fun vs H Q E h => show sp (vs ++ []) H Q E by rw [List.append_nil]; exact h
theorem FSpec.dual (F : FSpec K N ps x qual st f) (k : Nat) (len : ∀ vs H Q E, sp vs H Q E → vs.length = ps.length)
    (hbody : ∀ (cdv : Value) (A : Around) (outer : List Env) (s : Shared) (H : Hp) (vs : List V) (Q : VK) (E : XK) (m : Option (Addr × Obj)), Can true k (cxM P w K mg base N qual (defScope st) f cdv A outer s H E m) → sp vs H Q E →
      ∃ t, PSs (cxM P w K mg base N qual (defScope st) f cdv A outer s H E m) (defBody st) t ∧ t { nx := fun _ H' => Q .non H', rt := Q } (start N vs) H) : Fn P w K mg base true (k + 1) f sp := by
  obtain ⟨fd, F, b, S⟩ := F
  exact fn_dual F b S len hbody
theorem FSpec.nd (F : FSpec K N ps x qual st f) : N.Nodup := by
  obtain ⟨fd, F, _, S⟩ := F
  exact S.nd
end
end SP

/-! A3 -/
set_option maxHeartbeats 4100000
/-! The defs of the text by their places, and what the head leaves of them. Printed by a program (gen_a3.py). -/
namespace SP
open PySem PySem.Spec PyProof.Rows L2 L2H
abbrev TX (K : PySem.W.Frag) (mg : Str → Option Value) : Prop := TXof faL fnL K mg
variable {K : PySem.W.Frag} {mg : Str → Option Value}
theorem g_is_whole (T : TX K mg) : mg "is_whole" = some (.ref (He.ga K "is_whole")) := T.glo (i := 0) (j := 0) rfl rfl
theorem g_is_word (T : TX K mg) : mg "is_word" = some (.ref (He.ga K "is_word")) := T.glo (i := 0) (j := 1) rfl rfl
theorem g_is_below (T : TX K mg) : mg "is_below" = some (.ref (He.ga K "is_below")) := T.glo (i := 0) (j := 2) rfl rfl
theorem g_are_words (T : TX K mg) : mg "are_words" = some (.ref (He.ga K "are_words")) := T.glo (i := 0) (j := 3) rfl rfl
theorem g_is_image (T : TX K mg) : mg "is_image" = some (.ref (He.ga K "is_image")) := T.glo (i := 0) (j := 4) rfl rfl
theorem g_is_name (T : TX K mg) : mg "is_name" = some (.ref (He.ga K "is_name")) := T.glo (i := 0) (j := 5) rfl rfl
theorem g_words_at (T : TX K mg) : mg "words_at" = some (.ref (He.ga K "words_at")) := T.glo (i := 0) (j := 6) rfl rfl
theorem g_is_register (T : TX K mg) : mg "is_register" = some (.ref (He.ga K "is_register")) := T.glo (i := 0) (j := 7) rfl rfl
theorem g_is_at (T : TX K mg) : mg "is_at" = some (.ref (He.ga K "is_at")) := T.glo (i := 0) (j := 8) rfl rfl
theorem g_form_of (T : TX K mg) : mg "form_of" = some (.ref (He.ga K "form_of")) := T.glo (i := 0) (j := 9) rfl rfl
theorem g_is_part (T : TX K mg) : mg "is_part" = some (.ref (He.ga K "is_part")) := T.glo (i := 0) (j := 10) rfl rfl
theorem g_is_order (T : TX K mg) : mg "is_order" = some (.ref (He.ga K "is_order")) := T.glo (i := 0) (j := 11) rfl rfl
theorem g_is_inner (T : TX K mg) : mg "is_inner" = some (.ref (He.ga K "is_inner")) := T.glo (i := 0) (j := 12) rfl rfl
theorem g_checked (T : TX K mg) : mg "checked" = some (.ref (He.ga K "checked")) := T.glo (i := 0) (j := 13) rfl rfl
theorem g_look_at_places (T : TX K mg) : mg "look_at_places" = some (.ref (He.ga K "look_at_places")) := T.glo (i := 0) (j := 14) rfl rfl
theorem g_parts_of (T : TX K mg) : mg "parts_of" = some (.ref (He.ga K "parts_of")) := T.glo (i := 0) (j := 15) rfl rfl
theorem g_row_of (T : TX K mg) : mg "row_of" = some (.ref (He.ga K "row_of")) := T.glo (i := 0) (j := 16) rfl rfl
theorem g_page_of (T : TX K mg) : mg "page_of" = some (.ref (He.ga K "page_of")) := T.glo (i := 0) (j := 17) rfl rfl
theorem g_has (T : TX K mg) : mg "has" = some (.ref (He.ga K "has")) := T.glo (i := 0) (j := 18) rfl rfl
theorem g_put (T : TX K mg) : mg "put" = some (.ref (He.ga K "put")) := T.glo (i := 0) (j := 19) rfl rfl
theorem g_taken (T : TX K mg) : mg "taken" = some (.ref (He.ga K "taken")) := T.glo (i := 0) (j := 20) rfl rfl
theorem g_look_by (T : TX K mg) : mg "look_by" = some (.ref (He.ga K "look_by")) := T.glo (i := 0) (j := 21) rfl rfl
theorem g_rights_of (T : TX K mg) : mg "rights_of" = some (.ref (He.ga K "rights_of")) := T.glo (i := 0) (j := 22) rfl rfl
theorem g_look (T : TX K mg) : mg "look" = some (.ref (He.ga K "look")) := T.glo (i := 0) (j := 23) rfl rfl
theorem g_stamp (T : TX K mg) : mg "stamp" = some (.ref (He.ga K "stamp")) := T.glo (i := 0) (j := 24) rfl rfl
theorem g_mark (T : TX K mg) : mg "mark" = some (.ref (He.ga K "mark")) := T.glo (i := 0) (j := 25) rfl rfl
theorem g_is_count (T : TX K mg) : mg "is_count" = some (.ref (He.ga K "is_count")) := T.glo (i := 0) (j := 26) rfl rfl
theorem g_expected (T : TX K mg) : mg "expected" = some (.ref (He.ga K "expected")) := T.glo (i := 0) (j := 27) rfl rfl
theorem g_laid_out (T : TX K mg) : mg "laid_out" = some (.ref (He.ga K "laid_out")) := T.glo (i := 0) (j := 28) rfl rfl
theorem g_look_at_shadows (T : TX K mg) : mg "look_at_shadows" = some (.ref (He.ga K "look_at_shadows")) := T.glo (i := 0) (j := 29) rfl rfl
theorem g_is_kind (T : TX K mg) : mg "is_kind" = some (.ref (He.ga K "is_kind")) := T.glo (i := 1) (j := 0) rfl rfl
theorem g_law_cell_at (T : TX K mg) : mg "_law_cell_at" = some (.ref (He.ga K "_law_cell_at")) := T.glo (i := 1) (j := 1) rfl rfl
theorem g_law_mix (T : TX K mg) : mg "_law_mix" = some (.ref (He.ga K "_law_mix")) := T.glo (i := 1) (j := 2) rfl rfl
theorem g_law_kinds (T : TX K mg) : mg "_law_kinds" = some (.ref (He.ga K "_law_kinds")) := T.glo (i := 1) (j := 3) rfl rfl
theorem g_law_do (T : TX K mg) : mg "_law_do" = some (.ref (He.ga K "_law_do")) := T.glo (i := 1) (j := 4) rfl rfl
theorem g_law_refused (T : TX K mg) : mg "_law_refused" = some (.ref (He.ga K "_law_refused")) := T.glo (i := 1) (j := 5) rfl rfl
theorem g_law_state (T : TX K mg) : mg "_law_state" = some (.ref (He.ga K "_law_state")) := T.glo (i := 1) (j := 6) rfl rfl
theorem g_law_guest (T : TX K mg) : mg "_law_guest" = some (.ref (He.ga K "_law_guest")) := T.glo (i := 1) (j := 7) rfl rfl
theorem g_law_rounds (T : TX K mg) : mg "_law_rounds" = some (.ref (He.ga K "_law_rounds")) := T.glo (i := 1) (j := 8) rfl rfl
theorem g_law_behind (T : TX K mg) : mg "_law_behind" = some (.ref (He.ga K "_law_behind")) := T.glo (i := 1) (j := 9) rfl rfl
theorem g_law_as_if (T : TX K mg) : mg "_law_as_if" = some (.ref (He.ga K "_law_as_if")) := T.glo (i := 1) (j := 10) rfl rfl
theorem g_law_moved (T : TX K mg) : mg "_law_moved" = some (.ref (He.ga K "_law_moved")) := T.glo (i := 1) (j := 11) rfl rfl
theorem g_law (T : TX K mg) : mg "law" = some (.ref (He.ga K "law")) := T.glo (i := 1) (j := 12) rfl rfl
theorem g_HouseError (T : TX K mg) : mg "HouseError" = some (.ref (He.ga K "HouseError")) := T.glo (i := 1) (j := 13) rfl rfl
theorem g_NoWord (T : TX K mg) : mg "NoWord" = some (.ref (He.ga K "NoWord")) := T.glo (i := 1) (j := 14) rfl rfl
theorem g_NoRow (T : TX K mg) : mg "NoRow" = some (.ref (He.ga K "NoRow")) := T.glo (i := 1) (j := 15) rfl rfl
theorem g_NoPlace (T : TX K mg) : mg "NoPlace" = some (.ref (He.ga K "NoPlace")) := T.glo (i := 1) (j := 16) rfl rfl
theorem g_NoPage (T : TX K mg) : mg "NoPage" = some (.ref (He.ga K "NoPage")) := T.glo (i := 1) (j := 17) rfl rfl
theorem g_NoImage (T : TX K mg) : mg "NoImage" = some (.ref (He.ga K "NoImage")) := T.glo (i := 1) (j := 18) rfl rfl
theorem g_NoShelf (T : TX K mg) : mg "NoShelf" = some (.ref (He.ga K "NoShelf")) := T.glo (i := 1) (j := 19) rfl rfl
theorem g_NoFrame (T : TX K mg) : mg "NoFrame" = some (.ref (He.ga K "NoFrame")) := T.glo (i := 1) (j := 20) rfl rfl
theorem g_NoRoom (T : TX K mg) : mg "NoRoom" = some (.ref (He.ga K "NoRoom")) := T.glo (i := 1) (j := 21) rfl rfl
theorem g_NoBound (T : TX K mg) : mg "NoBound" = some (.ref (He.ga K "NoBound")) := T.glo (i := 1) (j := 22) rfl rfl
theorem g_NoName (T : TX K mg) : mg "NoName" = some (.ref (He.ga K "NoName")) := T.glo (i := 1) (j := 23) rfl rfl
theorem g_NoWay (T : TX K mg) : mg "NoWay" = some (.ref (He.ga K "NoWay")) := T.glo (i := 1) (j := 24) rfl rfl
theorem g_Busy (T : TX K mg) : mg "Busy" = some (.ref (He.ga K "Busy")) := T.glo (i := 1) (j := 25) rfl rfl
theorem g_Over (T : TX K mg) : mg "Over" = some (.ref (He.ga K "Over")) := T.glo (i := 1) (j := 26) rfl rfl
theorem g_NoOrder (T : TX K mg) : mg "NoOrder" = some (.ref (He.ga K "NoOrder")) := T.glo (i := 1) (j := 27) rfl rfl
theorem g_NoProgram (T : TX K mg) : mg "NoProgram" = some (.ref (He.ga K "NoProgram")) := T.glo (i := 1) (j := 28) rfl rfl
theorem g_NoText (T : TX K mg) : mg "NoText" = some (.ref (He.ga K "NoText")) := T.glo (i := 1) (j := 29) rfl rfl
theorem g_Fault (T : TX K mg) : mg "Fault" = some (.ref (He.ga K "Fault")) := T.glo (i := 2) (j := 0) rfl rfl
theorem g_Shelf (T : TX K mg) : mg "Shelf" = some (.ref (He.ga K "Shelf")) := T.glo (i := 2) (j := 1) rfl rfl
theorem g_Store (T : TX K mg) : mg "Store" = some (.ref (He.ga K "Store")) := T.glo (i := 2) (j := 2) rfl rfl
theorem g_Ways (T : TX K mg) : mg "Ways" = some (.ref (He.ga K "Ways")) := T.glo (i := 2) (j := 3) rfl rfl
theorem g_Machine (T : TX K mg) : mg "Machine" = some (.ref (He.ga K "Machine")) := T.glo (i := 2) (j := 4) rfl rfl
theorem g_Move (T : TX K mg) : mg "Move" = some (.ref (He.ga K "Move")) := T.glo (i := 2) (j := 5) rfl rfl
theorem g_Frames (T : TX K mg) : mg "Frames" = some (.ref (He.ga K "Frames")) := T.glo (i := 2) (j := 6) rfl rfl
theorem g_Parts (T : TX K mg) : mg "Parts" = some (.ref (He.ga K "Parts")) := T.glo (i := 2) (j := 7) rfl rfl
theorem g_Kept (T : TX K mg) : mg "Kept" = some (.ref (He.ga K "Kept")) := T.glo (i := 2) (j := 8) rfl rfl
theorem g_Pairs (T : TX K mg) : mg "Pairs" = some (.ref (He.ga K "Pairs")) := T.glo (i := 2) (j := 9) rfl rfl
theorem g_Shadows (T : TX K mg) : mg "Shadows" = some (.ref (He.ga K "Shadows")) := T.glo (i := 2) (j := 10) rfl rfl
theorem g_House (T : TX K mg) : mg "House" = some (.ref (He.ga K "House")) := T.glo (i := 2) (j := 11) rfl rfl
theorem z_len (T : TX K mg) : mg "len" = none := T.free (i := 2) (j := 12) rfl rfl
theorem z_range (T : TX K mg) : mg "range" = none := T.free (i := 2) (j := 13) rfl rfl
theorem z_isinstance (T : TX K mg) : mg "isinstance" = none := T.free (i := 2) (j := 14) rfl rfl
theorem z_all (T : TX K mg) : mg "all" = none := T.free (i := 2) (j := 15) rfl rfl
theorem z_sorted (T : TX K mg) : mg "sorted" = none := T.free (i := 2) (j := 16) rfl rfl
theorem z_list (T : TX K mg) : mg "list" = none := T.free (i := 2) (j := 17) rfl rfl
theorem z_int (T : TX K mg) : mg "int" = none := T.free (i := 2) (j := 18) rfl rfl
theorem z_bool (T : TX K mg) : mg "bool" = none := T.free (i := 2) (j := 19) rfl rfl
theorem z_str (T : TX K mg) : mg "str" = none := T.free (i := 2) (j := 20) rfl rfl
theorem z_tuple (T : TX K mg) : mg "tuple" = none := T.free (i := 2) (j := 21) rfl rfl
theorem z_sum (T : TX K mg) : mg "sum" = none := T.free (i := 2) (j := 22) rfl rfl
theorem z_min (T : TX K mg) : mg "min" = none := T.free (i := 2) (j := 23) rfl rfl
theorem z_enumerate (T : TX K mg) : mg "enumerate" = none := T.free (i := 2) (j := 24) rfl rfl
theorem z_zip (T : TX K mg) : mg "zip" = none := T.free (i := 2) (j := 25) rfl rfl
theorem z_divmod (T : TX K mg) : mg "divmod" = none := T.free (i := 2) (j := 26) rfl rfl
theorem z_ValueError (T : TX K mg) : mg "ValueError" = none := T.free (i := 2) (j := 27) rfl rfl
theorem k_CELLS (T : TX K mg) : ∃ u, mg "CELLS" = some u ∧ RelV (.int 8) u := T.int (i := 2) (j := 28) rfl rfl
theorem k_MOST_PAGES (T : TX K mg) : ∃ u, mg "MOST_PAGES" = some u ∧ RelV (.int 24) u := T.int (i := 2) (j := 29) rfl rfl
theorem k_MOST_ROWS (T : TX K mg) : ∃ u, mg "MOST_ROWS" = some u ∧ RelV (.int 60) u := T.int (i := 3) (j := 0) rfl rfl
theorem k_MOST (T : TX K mg) : ∃ u, mg "MOST" = some u ∧ RelV (.int 12) u := T.int (i := 3) (j := 1) rfl rfl
theorem k_PRESENT (T : TX K mg) : ∃ u, mg "PRESENT" = some u ∧ RelV (.int 1) u := T.int (i := 3) (j := 2) rfl rfl
theorem k_WRITABLE (T : TX K mg) : ∃ u, mg "WRITABLE" = some u ∧ RelV (.int 2) u := T.int (i := 3) (j := 3) rfl rfl
theorem k_KERNEL (T : TX K mg) : ∃ u, mg "KERNEL" = some u ∧ RelV (.int 4) u := T.int (i := 3) (j := 4) rfl rfl
theorem k_TOUCHED (T : TX K mg) : ∃ u, mg "TOUCHED" = some u ∧ RelV (.int 8) u := T.int (i := 3) (j := 5) rfl rfl
theorem k_SOILED (T : TX K mg) : ∃ u, mg "SOILED" = some u ∧ RelV (.int 16) u := T.int (i := 3) (j := 6) rfl rfl
theorem k_LAST (T : TX K mg) : ∃ u, mg "LAST" = some u ∧ RelV (.int 511) u := T.int (i := 3) (j := 7) rfl rfl
theorem k_MOST_STEPS (T : TX K mg) : ∃ u, mg "MOST_STEPS" = some u ∧ RelV (.int 500) u := T.int (i := 3) (j := 8) rfl rfl
theorem k_MOST_ROUNDS (T : TX K mg) : ∃ u, mg "MOST_ROUNDS" = some u ∧ RelV (.int 20) u := T.int (i := 3) (j := 9) rfl rfl
theorem k_MOST_FRAMES (T : TX K mg) : ∃ u, mg "MOST_FRAMES" = some u ∧ RelV (.int 200) u := T.int (i := 3) (j := 10) rfl rfl
theorem k_EACH (T : TX K mg) : ∃ u, mg "EACH" = some u ∧ RelV (.int 8) u := T.int (i := 3) (j := 11) rfl rfl
theorem k_LEAST_POOL (T : TX K mg) : ∃ u, mg "LEAST_POOL" = some u ∧ RelV (.int 2) u := T.int (i := 3) (j := 12) rfl rfl
theorem k_MOST_POOL (T : TX K mg) : ∃ u, mg "MOST_POOL" = some u ∧ RelV (.int 9) u := T.int (i := 3) (j := 13) rfl rfl
theorem k_LETTERS (T : TX K mg) : ∃ u, mg "LETTERS" = some u ∧ RelV (.str "abcdefghijklmnopqrstuvwxyz") u := T.str (i := 3) (j := 14) rfl rfl
theorem cls_Shelf (T : TX K mg) : Cls K (He.ga K "Shelf") := T.cls (i := 3) (j := 15) rfl rfl
theorem mk_Shelf (T : TX K mg) : Mk K (He.ga K "Shelf") (He.ma K (He.ga K "Shelf") "__init__") := T.mkr (i := 3) (j := 16) rfl rfl
theorem kls_Shelf (T : TX K mg) : Kls K (He.ga K "Shelf") l_Shelf := ⟨cls_Shelf T, by decide +kernel, T.noats (i := 3) (j := 17) rfl rfl, by decide⟩
theorem m_Shelf_told (T : TX K mg) : Mth K (He.ga K "Shelf") l_Shelf "told" (He.ma K (He.ga K "Shelf") "told") := ⟨T.meth (i := 3) (j := 18) rfl rfl, by decide +kernel⟩
theorem cls_Pairs (T : TX K mg) : Cls K (He.ga K "Pairs") := T.cls (i := 3) (j := 19) rfl rfl
theorem mk_Pairs (T : TX K mg) : Mk K (He.ga K "Pairs") (He.ma K (He.ga K "Pairs") "__init__") := T.mkr (i := 3) (j := 20) rfl rfl
theorem kls_Pairs (T : TX K mg) : Kls K (He.ga K "Pairs") l_Pairs := ⟨cls_Pairs T, by decide +kernel, T.noats (i := 3) (j := 21) rfl rfl, by decide⟩
theorem m_Pairs_row_at (T : TX K mg) : Mth K (He.ga K "Pairs") l_Pairs "row_at" (He.ma K (He.ga K "Pairs") "row_at") := ⟨T.meth (i := 3) (j := 22) rfl rfl, by decide +kernel⟩
theorem m_Pairs_lay_row (T : TX K mg) : Mth K (He.ga K "Pairs") l_Pairs "lay_row" (He.ma K (He.ga K "Pairs") "lay_row") := ⟨T.meth (i := 3) (j := 23) rfl rfl, by decide +kernel⟩
theorem m_Pairs_washed (T : TX K mg) : Mth K (He.ga K "Pairs") l_Pairs "washed" (He.ma K (He.ga K "Pairs") "washed") := ⟨T.meth (i := 3) (j := 24) rfl rfl, by decide +kernel⟩
theorem m_Pairs_soiled (T : TX K mg) : Mth K (He.ga K "Pairs") l_Pairs "soiled" (He.ma K (He.ga K "Pairs") "soiled") := ⟨T.meth (i := 3) (j := 25) rfl rfl, by decide +kernel⟩
theorem m_Pairs_open_row (T : TX K mg) : Mth K (He.ga K "Pairs") l_Pairs "open_row" (He.ma K (He.ga K "Pairs") "open_row") := ⟨T.meth (i := 3) (j := 26) rfl rfl, by decide +kernel⟩
theorem m_Pairs_fetch (T : TX K mg) : Mth K (He.ga K "Pairs") l_Pairs "fetch" (He.ma K (He.ga K "Pairs") "fetch") := ⟨T.meth (i := 3) (j := 27) rfl rfl, by decide +kernel⟩
theorem m_Pairs_deposit (T : TX K mg) : Mth K (He.ga K "Pairs") l_Pairs "deposit" (He.ma K (He.ga K "Pairs") "deposit") := ⟨T.meth (i := 3) (j := 28) rfl rfl, by decide +kernel⟩
theorem m_Pairs_words_of (T : TX K mg) : Mth K (He.ga K "Pairs") l_Pairs "words_of" (He.ma K (He.ga K "Pairs") "words_of") := ⟨T.meth (i := 3) (j := 29) rfl rfl, by decide +kernel⟩
theorem m_Pairs_size (T : TX K mg) : Mth K (He.ga K "Pairs") l_Pairs "size" (He.ma K (He.ga K "Kept") "size") := ⟨T.meth (i := 4) (j := 0) rfl rfl, by decide +kernel⟩
theorem m_Pairs_has (T : TX K mg) : Mth K (He.ga K "Pairs") l_Pairs "has" (He.ma K (He.ga K "Kept") "has") := ⟨T.meth (i := 4) (j := 1) rfl rfl, by decide +kernel⟩
theorem m_Pairs_look_for (T : TX K mg) : Mth K (He.ga K "Pairs") l_Pairs "look_for" (He.ma K (He.ga K "Kept") "look_for") := ⟨T.meth (i := 4) (j := 2) rfl rfl, by decide +kernel⟩
theorem m_Pairs_read (T : TX K mg) : Mth K (He.ga K "Pairs") l_Pairs "read" (He.ma K (He.ga K "Kept") "read") := ⟨T.meth (i := 4) (j := 3) rfl rfl, by decide +kernel⟩
theorem m_Pairs_write (T : TX K mg) : Mth K (He.ga K "Pairs") l_Pairs "write" (He.ma K (He.ga K "Kept") "write") := ⟨T.meth (i := 4) (j := 4) rfl rfl, by decide +kernel⟩
theorem m_Pairs_put_alone (T : TX K mg) : Mth K (He.ga K "Pairs") l_Pairs "put_alone" (He.ma K (He.ga K "Kept") "put_alone") := ⟨T.meth (i := 4) (j := 5) rfl rfl, by decide +kernel⟩
theorem m_Pairs_frame (T : TX K mg) : Mth K (He.ga K "Pairs") l_Pairs "frame" (He.ma K (He.ga K "Kept") "frame") := ⟨T.meth (i := 4) (j := 6) rfl rfl, by decide +kernel⟩
theorem m_Pairs_clean (T : TX K mg) : Mth K (He.ga K "Pairs") l_Pairs "clean" (He.ma K (He.ga K "Kept") "clean") := ⟨T.meth (i := 4) (j := 7) rfl rfl, by decide +kernel⟩
theorem m_Pairs_said (T : TX K mg) : Mth K (He.ga K "Pairs") l_Pairs "said" (He.ma K (He.ga K "Kept") "said") := ⟨T.meth (i := 4) (j := 8) rfl rfl, by decide +kernel⟩
theorem m_Pairs_resume (T : TX K mg) : Mth K (He.ga K "Pairs") l_Pairs "resume" (He.ma K (He.ga K "Kept") "resume") := ⟨T.meth (i := 4) (j := 9) rfl rfl, by decide +kernel⟩
theorem m_Pairs_end (T : TX K mg) : Mth K (He.ga K "Pairs") l_Pairs "end" (He.ma K (He.ga K "Kept") "end") := ⟨T.meth (i := 4) (j := 10) rfl rfl, by decide +kernel⟩
theorem m_Pairs_page_at (T : TX K mg) : Mth K (He.ga K "Pairs") l_Pairs "page_at" (He.ma K (He.ga K "Ways") "page_at") := ⟨T.meth (i := 4) (j := 11) rfl rfl, by decide +kernel⟩
theorem m_Pairs_poke (T : TX K mg) : Mth K (He.ga K "Pairs") l_Pairs "poke" (He.ma K (He.ga K "Ways") "poke") := ⟨T.meth (i := 4) (j := 12) rfl rfl, by decide +kernel⟩
theorem m_Pairs_root (T : TX K mg) : Mth K (He.ga K "Pairs") l_Pairs "root" (He.ma K (He.ga K "Ways") "root") := ⟨T.meth (i := 4) (j := 13) rfl rfl, by decide +kernel⟩
theorem m_Pairs_shelf (T : TX K mg) : Mth K (He.ga K "Pairs") l_Pairs "shelf" (He.ma K (He.ga K "Ways") "shelf") := ⟨T.meth (i := 4) (j := 14) rfl rfl, by decide +kernel⟩
theorem m_Pairs_pages (T : TX K mg) : Mth K (He.ga K "Pairs") l_Pairs "pages" (He.ma K (He.ga K "Ways") "pages") := ⟨T.meth (i := 4) (j := 15) rfl rfl, by decide +kernel⟩
theorem cls_Shadows (T : TX K mg) : Cls K (He.ga K "Shadows") := T.cls (i := 4) (j := 16) rfl rfl
theorem mk_Shadows (T : TX K mg) : Mk K (He.ga K "Shadows") (He.ma K (He.ga K "Shadows") "__init__") := T.mkr (i := 4) (j := 17) rfl rfl
theorem kls_Shadows (T : TX K mg) : Kls K (He.ga K "Shadows") l_Shadows := ⟨cls_Shadows T, by decide +kernel, T.noats (i := 4) (j := 18) rfl rfl, by decide⟩
theorem m_Shadows_low_table (T : TX K mg) : Mth K (He.ga K "Shadows") l_Shadows "low_table" (He.ma K (He.ga K "Shadows") "low_table") := ⟨T.meth (i := 4) (j := 19) rfl rfl, by decide +kernel⟩
theorem m_Shadows_washed (T : TX K mg) : Mth K (He.ga K "Shadows") l_Shadows "washed" (He.ma K (He.ga K "Shadows") "washed") := ⟨T.meth (i := 4) (j := 20) rfl rfl, by decide +kernel⟩
theorem m_Shadows_deposit (T : TX K mg) : Mth K (He.ga K "Shadows") l_Shadows "deposit" (He.ma K (He.ga K "Shadows") "deposit") := ⟨T.meth (i := 4) (j := 21) rfl rfl, by decide +kernel⟩
theorem m_Shadows_rows (T : TX K mg) : Mth K (He.ga K "Shadows") l_Shadows "rows" (He.ma K (He.ga K "Shadows") "rows") := ⟨T.meth (i := 4) (j := 22) rfl rfl, by decide +kernel⟩
theorem m_Shadows_size (T : TX K mg) : Mth K (He.ga K "Shadows") l_Shadows "size" (He.ma K (He.ga K "Kept") "size") := ⟨T.meth (i := 4) (j := 23) rfl rfl, by decide +kernel⟩
theorem m_Shadows_has (T : TX K mg) : Mth K (He.ga K "Shadows") l_Shadows "has" (He.ma K (He.ga K "Kept") "has") := ⟨T.meth (i := 4) (j := 24) rfl rfl, by decide +kernel⟩
theorem m_Shadows_look_for (T : TX K mg) : Mth K (He.ga K "Shadows") l_Shadows "look_for" (He.ma K (He.ga K "Kept") "look_for") := ⟨T.meth (i := 4) (j := 25) rfl rfl, by decide +kernel⟩
theorem m_Shadows_read (T : TX K mg) : Mth K (He.ga K "Shadows") l_Shadows "read" (He.ma K (He.ga K "Kept") "read") := ⟨T.meth (i := 4) (j := 26) rfl rfl, by decide +kernel⟩
theorem m_Shadows_write (T : TX K mg) : Mth K (He.ga K "Shadows") l_Shadows "write" (He.ma K (He.ga K "Kept") "write") := ⟨T.meth (i := 4) (j := 27) rfl rfl, by decide +kernel⟩
theorem m_Shadows_fetch (T : TX K mg) : Mth K (He.ga K "Shadows") l_Shadows "fetch" (He.ma K (He.ga K "Kept") "fetch") := ⟨T.meth (i := 4) (j := 28) rfl rfl, by decide +kernel⟩
theorem m_Shadows_put_alone (T : TX K mg) : Mth K (He.ga K "Shadows") l_Shadows "put_alone" (He.ma K (He.ga K "Kept") "put_alone") := ⟨T.meth (i := 4) (j := 29) rfl rfl, by decide +kernel⟩
theorem m_Shadows_frame (T : TX K mg) : Mth K (He.ga K "Shadows") l_Shadows "frame" (He.ma K (He.ga K "Kept") "frame") := ⟨T.meth (i := 5) (j := 0) rfl rfl, by decide +kernel⟩
theorem m_Shadows_soiled (T : TX K mg) : Mth K (He.ga K "Shadows") l_Shadows "soiled" (He.ma K (He.ga K "Kept") "soiled") := ⟨T.meth (i := 5) (j := 1) rfl rfl, by decide +kernel⟩
theorem m_Shadows_clean (T : TX K mg) : Mth K (He.ga K "Shadows") l_Shadows "clean" (He.ma K (He.ga K "Kept") "clean") := ⟨T.meth (i := 5) (j := 2) rfl rfl, by decide +kernel⟩
theorem m_Shadows_said (T : TX K mg) : Mth K (He.ga K "Shadows") l_Shadows "said" (He.ma K (He.ga K "Kept") "said") := ⟨T.meth (i := 5) (j := 3) rfl rfl, by decide +kernel⟩
theorem m_Shadows_resume (T : TX K mg) : Mth K (He.ga K "Shadows") l_Shadows "resume" (He.ma K (He.ga K "Kept") "resume") := ⟨T.meth (i := 5) (j := 4) rfl rfl, by decide +kernel⟩
theorem m_Shadows_end (T : TX K mg) : Mth K (He.ga K "Shadows") l_Shadows "end" (He.ma K (He.ga K "Kept") "end") := ⟨T.meth (i := 5) (j := 5) rfl rfl, by decide +kernel⟩
theorem m_Shadows_page_at (T : TX K mg) : Mth K (He.ga K "Shadows") l_Shadows "page_at" (He.ma K (He.ga K "Ways") "page_at") := ⟨T.meth (i := 5) (j := 6) rfl rfl, by decide +kernel⟩
theorem m_Shadows_poke (T : TX K mg) : Mth K (He.ga K "Shadows") l_Shadows "poke" (He.ma K (He.ga K "Ways") "poke") := ⟨T.meth (i := 5) (j := 7) rfl rfl, by decide +kernel⟩
theorem m_Shadows_root (T : TX K mg) : Mth K (He.ga K "Shadows") l_Shadows "root" (He.ma K (He.ga K "Ways") "root") := ⟨T.meth (i := 5) (j := 8) rfl rfl, by decide +kernel⟩
theorem m_Shadows_shelf (T : TX K mg) : Mth K (He.ga K "Shadows") l_Shadows "shelf" (He.ma K (He.ga K "Ways") "shelf") := ⟨T.meth (i := 5) (j := 9) rfl rfl, by decide +kernel⟩
theorem m_Shadows_words_of (T : TX K mg) : Mth K (He.ga K "Shadows") l_Shadows "words_of" (He.ma K (He.ga K "Ways") "words_of") := ⟨T.meth (i := 5) (j := 10) rfl rfl, by decide +kernel⟩
theorem m_Shadows_pages (T : TX K mg) : Mth K (He.ga K "Shadows") l_Shadows "pages" (He.ma K (He.ga K "Ways") "pages") := ⟨T.meth (i := 5) (j := 11) rfl rfl, by decide +kernel⟩
theorem cls_Machine (T : TX K mg) : Cls K (He.ga K "Machine") := T.cls (i := 5) (j := 12) rfl rfl
theorem mk_Machine (T : TX K mg) : Mk K (He.ga K "Machine") (He.ma K (He.ga K "Machine") "__init__") := T.mkr (i := 5) (j := 13) rfl rfl
theorem kls_Machine (T : TX K mg) : Kls K (He.ga K "Machine") l_Machine := ⟨cls_Machine T, by decide +kernel, T.noats (i := 5) (j := 14) rfl rfl, by decide⟩
theorem m_Machine_turn (T : TX K mg) : Mth K (He.ga K "Machine") l_Machine "turn" (He.ma K (He.ga K "Machine") "turn") := ⟨T.meth (i := 5) (j := 15) rfl rfl, by decide +kernel⟩
theorem m_Machine_step (T : TX K mg) : Mth K (He.ga K "Machine") l_Machine "step" (He.ma K (He.ga K "Machine") "step") := ⟨T.meth (i := 5) (j := 16) rfl rfl, by decide +kernel⟩
theorem m_Machine_do (T : TX K mg) : Mth K (He.ga K "Machine") l_Machine "do" (He.ma K (He.ga K "Machine") "do") := ⟨T.meth (i := 5) (j := 17) rfl rfl, by decide +kernel⟩
theorem m_Machine_go (T : TX K mg) : Mth K (He.ga K "Machine") l_Machine "go" (He.ma K (He.ga K "Machine") "go") := ⟨T.meth (i := 5) (j := 18) rfl rfl, by decide +kernel⟩
theorem m_Machine_reckon (T : TX K mg) : Mth K (He.ga K "Machine") l_Machine "reckon" (He.ma K (He.ga K "Machine") "reckon") := ⟨T.meth (i := 5) (j := 19) rfl rfl, by decide +kernel⟩
theorem m_Machine_carry_word (T : TX K mg) : Mth K (He.ga K "Machine") l_Machine "carry_word" (He.ma K (He.ga K "Machine") "carry_word") := ⟨T.meth (i := 5) (j := 20) rfl rfl, by decide +kernel⟩
theorem m_Machine_core (T : TX K mg) : Mth K (He.ga K "Machine") l_Machine "core" (He.ma K (He.ga K "Machine") "core") := ⟨T.meth (i := 5) (j := 21) rfl rfl, by decide +kernel⟩
theorem m_Machine_events (T : TX K mg) : Mth K (He.ga K "Machine") l_Machine "events" (He.ma K (He.ga K "Machine") "events") := ⟨T.meth (i := 5) (j := 22) rfl rfl, by decide +kernel⟩
theorem m_Machine_told (T : TX K mg) : Mth K (He.ga K "Machine") l_Machine "told" (He.ma K (He.ga K "Machine") "told") := ⟨T.meth (i := 5) (j := 23) rfl rfl, by decide +kernel⟩
theorem m_Machine_program (T : TX K mg) : Mth K (He.ga K "Machine") l_Machine "program" (He.ma K (He.ga K "Machine") "program") := ⟨T.meth (i := 5) (j := 24) rfl rfl, by decide +kernel⟩
theorem m_Machine_entry (T : TX K mg) : Mth K (He.ga K "Machine") l_Machine "entry" (He.ma K (He.ga K "Machine") "entry") := ⟨T.meth (i := 5) (j := 25) rfl rfl, by decide +kernel⟩
theorem cls_Move (T : TX K mg) : Cls K (He.ga K "Move") := T.cls (i := 5) (j := 26) rfl rfl
theorem mk_Move (T : TX K mg) : Mk K (He.ga K "Move") (He.ma K (He.ga K "Move") "__init__") := T.mkr (i := 5) (j := 27) rfl rfl
theorem kls_Move (T : TX K mg) : Kls K (He.ga K "Move") l_Move := ⟨cls_Move T, by decide +kernel, T.noats (i := 5) (j := 28) rfl rfl, by decide⟩
theorem m_Move_look_open (T : TX K mg) : Mth K (He.ga K "Move") l_Move "look_open" (He.ma K (He.ga K "Move") "look_open") := ⟨T.meth (i := 5) (j := 29) rfl rfl, by decide +kernel⟩
theorem m_Move_pending (T : TX K mg) : Mth K (He.ga K "Move") l_Move "pending" (He.ma K (He.ga K "Move") "pending") := ⟨T.meth (i := 6) (j := 0) rfl rfl, by decide +kernel⟩
theorem m_Move_send (T : TX K mg) : Mth K (He.ga K "Move") l_Move "send" (He.ma K (He.ga K "Move") "send") := ⟨T.meth (i := 6) (j := 1) rfl rfl, by decide +kernel⟩
theorem m_Move_round (T : TX K mg) : Mth K (He.ga K "Move") l_Move "round" (He.ma K (He.ga K "Move") "round") := ⟨T.meth (i := 6) (j := 2) rfl rfl, by decide +kernel⟩
theorem m_Move_ready (T : TX K mg) : Mth K (He.ga K "Move") l_Move "ready" (He.ma K (He.ga K "Move") "ready") := ⟨T.meth (i := 6) (j := 3) rfl rfl, by decide +kernel⟩
theorem m_Move_finish (T : TX K mg) : Mth K (He.ga K "Move") l_Move "finish" (He.ma K (He.ga K "Move") "finish") := ⟨T.meth (i := 6) (j := 4) rfl rfl, by decide +kernel⟩
theorem m_Move_drop (T : TX K mg) : Mth K (He.ga K "Move") l_Move "drop" (He.ma K (He.ga K "Move") "drop") := ⟨T.meth (i := 6) (j := 5) rfl rfl, by decide +kernel⟩
theorem cls_Frames (T : TX K mg) : Cls K (He.ga K "Frames") := T.cls (i := 6) (j := 6) rfl rfl
theorem mk_Frames (T : TX K mg) : Mk K (He.ga K "Frames") (He.ma K (He.ga K "Frames") "__init__") := T.mkr (i := 6) (j := 7) rfl rfl
theorem kls_Frames (T : TX K mg) : Kls K (He.ga K "Frames") l_Frames := ⟨cls_Frames T, by decide +kernel, T.noats (i := 6) (j := 8) rfl rfl, by decide⟩
theorem m_Frames_has (T : TX K mg) : Mth K (He.ga K "Frames") l_Frames "has" (He.ma K (He.ga K "Frames") "has") := ⟨T.meth (i := 6) (j := 9) rfl rfl, by decide +kernel⟩
theorem m_Frames_look_at (T : TX K mg) : Mth K (He.ga K "Frames") l_Frames "look_at" (He.ma K (He.ga K "Frames") "look_at") := ⟨T.meth (i := 6) (j := 10) rfl rfl, by decide +kernel⟩
theorem m_Frames_read (T : TX K mg) : Mth K (He.ga K "Frames") l_Frames "read" (He.ma K (He.ga K "Frames") "read") := ⟨T.meth (i := 6) (j := 11) rfl rfl, by decide +kernel⟩
theorem m_Frames_write (T : TX K mg) : Mth K (He.ga K "Frames") l_Frames "write" (He.ma K (He.ga K "Frames") "write") := ⟨T.meth (i := 6) (j := 12) rfl rfl, by decide +kernel⟩
theorem m_Frames_take (T : TX K mg) : Mth K (He.ga K "Frames") l_Frames "take" (He.ma K (He.ga K "Frames") "take") := ⟨T.meth (i := 6) (j := 13) rfl rfl, by decide +kernel⟩
theorem m_Frames_look_up (T : TX K mg) : Mth K (He.ga K "Frames") l_Frames "look_up" (He.ma K (He.ga K "Frames") "look_up") := ⟨T.meth (i := 6) (j := 14) rfl rfl, by decide +kernel⟩
theorem m_Frames_drop (T : TX K mg) : Mth K (He.ga K "Frames") l_Frames "drop" (He.ma K (He.ga K "Frames") "drop") := ⟨T.meth (i := 6) (j := 15) rfl rfl, by decide +kernel⟩
theorem m_Frames_owners (T : TX K mg) : Mth K (He.ga K "Frames") l_Frames "owners" (He.ma K (He.ga K "Frames") "owners") := ⟨T.meth (i := 6) (j := 16) rfl rfl, by decide +kernel⟩
theorem m_Frames_free (T : TX K mg) : Mth K (He.ga K "Frames") l_Frames "free" (He.ma K (He.ga K "Frames") "free") := ⟨T.meth (i := 6) (j := 17) rfl rfl, by decide +kernel⟩
theorem m_Frames_ask (T : TX K mg) : Mth K (He.ga K "Frames") l_Frames "ask" (He.ma K (He.ga K "Frames") "ask") := ⟨T.meth (i := 6) (j := 18) rfl rfl, by decide +kernel⟩
theorem m_Frames_back (T : TX K mg) : Mth K (He.ga K "Frames") l_Frames "back" (He.ma K (He.ga K "Frames") "back") := ⟨T.meth (i := 6) (j := 19) rfl rfl, by decide +kernel⟩
theorem m_Frames_promised (T : TX K mg) : Mth K (He.ga K "Frames") l_Frames "promised" (He.ma K (He.ga K "Frames") "promised") := ⟨T.meth (i := 6) (j := 20) rfl rfl, by decide +kernel⟩
theorem cls_Parts (T : TX K mg) : Cls K (He.ga K "Parts") := T.cls (i := 6) (j := 21) rfl rfl
theorem mk_Parts (T : TX K mg) : Mk K (He.ga K "Parts") (He.ma K (He.ga K "Parts") "__init__") := T.mkr (i := 6) (j := 22) rfl rfl
theorem kls_Parts (T : TX K mg) : Kls K (He.ga K "Parts") l_Parts := ⟨cls_Parts T, by decide +kernel, T.noats (i := 6) (j := 23) rfl rfl, by decide⟩
theorem m_Parts_size (T : TX K mg) : Mth K (He.ga K "Parts") l_Parts "size" (He.ma K (He.ga K "Parts") "size") := ⟨T.meth (i := 6) (j := 24) rfl rfl, by decide +kernel⟩
theorem m_Parts_frame (T : TX K mg) : Mth K (He.ga K "Parts") l_Parts "frame" (He.ma K (He.ga K "Parts") "frame") := ⟨T.meth (i := 6) (j := 25) rfl rfl, by decide +kernel⟩
theorem m_Parts_need (T : TX K mg) : Mth K (He.ga K "Parts") l_Parts "need" (He.ma K (He.ga K "Parts") "need") := ⟨T.meth (i := 6) (j := 26) rfl rfl, by decide +kernel⟩
theorem m_Parts_alone (T : TX K mg) : Mth K (He.ga K "Parts") l_Parts "alone" (He.ma K (He.ga K "Parts") "alone") := ⟨T.meth (i := 6) (j := 27) rfl rfl, by decide +kernel⟩
theorem m_Parts_give (T : TX K mg) : Mth K (He.ga K "Parts") l_Parts "give" (He.ma K (He.ga K "Parts") "give") := ⟨T.meth (i := 6) (j := 28) rfl rfl, by decide +kernel⟩
theorem cls_House (T : TX K mg) : Cls K (He.ga K "House") := T.cls (i := 6) (j := 29) rfl rfl
theorem mk_House (T : TX K mg) : Mk K (He.ga K "House") (He.ma K (He.ga K "House") "__init__") := T.mkr (i := 7) (j := 0) rfl rfl
theorem kls_House (T : TX K mg) : Kls K (He.ga K "House") l_House := ⟨cls_House T, by decide +kernel, T.noats (i := 7) (j := 1) rfl rfl, by decide⟩
theorem m_House_look_new (T : TX K mg) : Mth K (He.ga K "House") l_House "look_new" (He.ma K (He.ga K "House") "look_new") := ⟨T.meth (i := 7) (j := 2) rfl rfl, by decide +kernel⟩
theorem m_House_look_there (T : TX K mg) : Mth K (He.ga K "House") l_House "look_there" (He.ma K (He.ga K "House") "look_there") := ⟨T.meth (i := 7) (j := 3) rfl rfl, by decide +kernel⟩
theorem m_House_made (T : TX K mg) : Mth K (He.ga K "House") l_House "made" (He.ma K (He.ga K "House") "made") := ⟨T.meth (i := 7) (j := 4) rfl rfl, by decide +kernel⟩
theorem m_House_start (T : TX K mg) : Mth K (He.ga K "House") l_House "start" (He.ma K (He.ga K "House") "start") := ⟨T.meth (i := 7) (j := 5) rfl rfl, by decide +kernel⟩
theorem m_House_end (T : TX K mg) : Mth K (He.ga K "House") l_House "end" (He.ma K (He.ga K "House") "end") := ⟨T.meth (i := 7) (j := 6) rfl rfl, by decide +kernel⟩
theorem m_House_turn (T : TX K mg) : Mth K (He.ga K "House") l_House "turn" (He.ma K (He.ga K "House") "turn") := ⟨T.meth (i := 7) (j := 7) rfl rfl, by decide +kernel⟩
theorem m_House_names (T : TX K mg) : Mth K (He.ga K "House") l_House "names" (He.ma K (He.ga K "House") "names") := ⟨T.meth (i := 7) (j := 8) rfl rfl, by decide +kernel⟩
theorem m_House_told (T : TX K mg) : Mth K (He.ga K "House") l_House "told" (He.ma K (He.ga K "House") "told") := ⟨T.meth (i := 7) (j := 9) rfl rfl, by decide +kernel⟩
theorem m_House_events (T : TX K mg) : Mth K (He.ga K "House") l_House "events" (He.ma K (He.ga K "House") "events") := ⟨T.meth (i := 7) (j := 10) rfl rfl, by decide +kernel⟩
theorem m_House_words (T : TX K mg) : Mth K (He.ga K "House") l_House "words" (He.ma K (He.ga K "House") "words") := ⟨T.meth (i := 7) (j := 11) rfl rfl, by decide +kernel⟩
theorem m_House_way (T : TX K mg) : Mth K (He.ga K "House") l_House "way" (He.ma K (He.ga K "House") "way") := ⟨T.meth (i := 7) (j := 12) rfl rfl, by decide +kernel⟩
theorem m_House_shelf_size (T : TX K mg) : Mth K (He.ga K "House") l_House "shelf_size" (He.ma K (He.ga K "House") "shelf_size") := ⟨T.meth (i := 7) (j := 13) rfl rfl, by decide +kernel⟩
theorem m_House_kept (T : TX K mg) : Mth K (He.ga K "House") l_House "kept" (He.ma K (He.ga K "House") "kept") := ⟨T.meth (i := 7) (j := 14) rfl rfl, by decide +kernel⟩
theorem m_House_machine (T : TX K mg) : Mth K (He.ga K "House") l_House "machine" (He.ma K (He.ga K "House") "machine") := ⟨T.meth (i := 7) (j := 15) rfl rfl, by decide +kernel⟩
theorem m_House_free (T : TX K mg) : Mth K (He.ga K "House") l_House "free" (He.ma K (He.ga K "House") "free") := ⟨T.meth (i := 7) (j := 16) rfl rfl, by decide +kernel⟩
theorem m_House_promised (T : TX K mg) : Mth K (He.ga K "House") l_House "promised" (He.ma K (He.ga K "House") "promised") := ⟨T.meth (i := 7) (j := 17) rfl rfl, by decide +kernel⟩
theorem m_House_expect (T : TX K mg) : Mth K (He.ga K "House") l_House "expect" (He.ma K (He.ga K "House") "expect") := ⟨T.meth (i := 7) (j := 18) rfl rfl, by decide +kernel⟩
theorem m_House_admit (T : TX K mg) : Mth K (He.ga K "House") l_House "admit" (He.ma K (He.ga K "House") "admit") := ⟨T.meth (i := 7) (j := 19) rfl rfl, by decide +kernel⟩
theorem m_House_forgo (T : TX K mg) : Mth K (He.ga K "House") l_House "forgo" (He.ma K (He.ga K "House") "forgo") := ⟨T.meth (i := 7) (j := 20) rfl rfl, by decide +kernel⟩
theorem m_House_bind (T : TX K mg) : Mth K (He.ga K "House") l_House "bind" (He.ma K (He.ga K "House") "bind") := ⟨T.meth (i := 7) (j := 21) rfl rfl, by decide +kernel⟩
theorem m_House_unbind (T : TX K mg) : Mth K (He.ga K "House") l_House "unbind" (He.ma K (He.ga K "House") "unbind") := ⟨T.meth (i := 7) (j := 22) rfl rfl, by decide +kernel⟩
theorem cd_Ways_init (T : TX K mg) : CDef K (He.ga K "Ways") "__init__" (.ref (He.ma K (He.ga K "Ways") "__init__")) := T.cdef (i := 7) (j := 23) rfl rfl
theorem cd_Kept_init (T : TX K mg) : CDef K (He.ga K "Kept") "__init__" (.ref (He.ma K (He.ga K "Kept") "__init__")) := T.cdef (i := 7) (j := 24) rfl rfl
theorem cd_Kept_deposit (T : TX K mg) : CDef K (He.ga K "Kept") "deposit" (.ref (He.ma K (He.ga K "Kept") "deposit")) := T.cdef (i := 7) (j := 25) rfl rfl
theorem cd_HouseError_init (T : TX K mg) : CDef K (He.ga K "HouseError") "__init__" (.builtin "ValueError.__init__") := T.cdefB (i := 7) (j := 26) rfl rfl
theorem ex_Over (T : TX K mg) : PySem.W.excIn K (He.ga K "Over") He.veBase "ValueError.__new__" = true ∧ PySem.W.keepIn K (.ref (He.ga K "Over")) = true ∧ PySem.W.subIn K (.ref (He.ga K "Over")) (.type "BaseException") = some true ∧ PySem.W.typeIn K (.ref (He.ga K "Over")) = some (.type "type") := T.exc (i := 7) (j := 27) rfl rfl
theorem xm_Over (T : TX K mg) : PySem.W.exmOne K (.ref (He.ga K "Over")) (.ref (He.ga K "HouseError")) = some true := T.exm (i := 7) (j := 28) rfl rfl
theorem ec_Over (T : TX K mg) : ExcC K (He.ga K "Over") := T.excC (i := 7) (j := 29) rfl rfl
theorem kit_Over_Over (T : TX K mg) : PySem.W.kitOne K (.ref (He.ga K "Over")) (.ref (He.ga K "Over")) = some true := T.kit (i := 8) (j := 0) rfl rfl
theorem kit_Over_Busy (T : TX K mg) : PySem.W.kitOne K (.ref (He.ga K "Over")) (.ref (He.ga K "Busy")) = some false := T.kit (i := 8) (j := 1) rfl rfl
theorem kit_Over_ValueError (T : TX K mg) : PySem.W.kitOne K (.ref (He.ga K "Over")) (.type "ValueError") = some true := T.kitT (i := 8) (j := 2) rfl rfl
theorem kit_Over_NoBound (T : TX K mg) : PySem.W.kitOne K (.ref (He.ga K "Over")) (.ref (He.ga K "NoBound")) = some false := T.kit (i := 8) (j := 3) rfl rfl
theorem kit_Over_NoRoom (T : TX K mg) : PySem.W.kitOne K (.ref (He.ga K "Over")) (.ref (He.ga K "NoRoom")) = some false := T.kit (i := 8) (j := 4) rfl rfl
theorem kit_Over_NoName (T : TX K mg) : PySem.W.kitOne K (.ref (He.ga K "Over")) (.ref (He.ga K "NoName")) = some false := T.kit (i := 8) (j := 5) rfl rfl
theorem kit_Over_NoPlace (T : TX K mg) : PySem.W.kitOne K (.ref (He.ga K "Over")) (.ref (He.ga K "NoPlace")) = some false := T.kit (i := 8) (j := 6) rfl rfl
theorem kit_Over_NoRow (T : TX K mg) : PySem.W.kitOne K (.ref (He.ga K "Over")) (.ref (He.ga K "NoRow")) = some false := T.kit (i := 8) (j := 7) rfl rfl
theorem kit_Over_NoFrame (T : TX K mg) : PySem.W.kitOne K (.ref (He.ga K "Over")) (.ref (He.ga K "NoFrame")) = some false := T.kit (i := 8) (j := 8) rfl rfl
theorem kit_Over_NoImage (T : TX K mg) : PySem.W.kitOne K (.ref (He.ga K "Over")) (.ref (He.ga K "NoImage")) = some false := T.kit (i := 8) (j := 9) rfl rfl
theorem kit_Over_NoShelf (T : TX K mg) : PySem.W.kitOne K (.ref (He.ga K "Over")) (.ref (He.ga K "NoShelf")) = some false := T.kit (i := 8) (j := 10) rfl rfl
theorem kit_Over_NoPage (T : TX K mg) : PySem.W.kitOne K (.ref (He.ga K "Over")) (.ref (He.ga K "NoPage")) = some false := T.kit (i := 8) (j := 11) rfl rfl
theorem kit_Over_NoWay (T : TX K mg) : PySem.W.kitOne K (.ref (He.ga K "Over")) (.ref (He.ga K "NoWay")) = some false := T.kit (i := 8) (j := 12) rfl rfl
theorem kit_Over_NoOrder (T : TX K mg) : PySem.W.kitOne K (.ref (He.ga K "Over")) (.ref (He.ga K "NoOrder")) = some false := T.kit (i := 8) (j := 13) rfl rfl
theorem kit_Over_NoProgram (T : TX K mg) : PySem.W.kitOne K (.ref (He.ga K "Over")) (.ref (He.ga K "NoProgram")) = some false := T.kit (i := 8) (j := 14) rfl rfl
theorem kit_Over_NoText (T : TX K mg) : PySem.W.kitOne K (.ref (He.ga K "Over")) (.ref (He.ga K "NoText")) = some false := T.kit (i := 8) (j := 15) rfl rfl
theorem kit_Over_Fault (T : TX K mg) : PySem.W.kitOne K (.ref (He.ga K "Over")) (.ref (He.ga K "Fault")) = some false := T.kit (i := 8) (j := 16) rfl rfl
theorem kit_Over_NoWord (T : TX K mg) : PySem.W.kitOne K (.ref (He.ga K "Over")) (.ref (He.ga K "NoWord")) = some false := T.kit (i := 8) (j := 17) rfl rfl
theorem ex_Busy (T : TX K mg) : PySem.W.excIn K (He.ga K "Busy") He.veBase "ValueError.__new__" = true ∧ PySem.W.keepIn K (.ref (He.ga K "Busy")) = true ∧ PySem.W.subIn K (.ref (He.ga K "Busy")) (.type "BaseException") = some true ∧ PySem.W.typeIn K (.ref (He.ga K "Busy")) = some (.type "type") := T.exc (i := 8) (j := 18) rfl rfl
theorem xm_Busy (T : TX K mg) : PySem.W.exmOne K (.ref (He.ga K "Busy")) (.ref (He.ga K "HouseError")) = some true := T.exm (i := 8) (j := 19) rfl rfl
theorem ec_Busy (T : TX K mg) : ExcC K (He.ga K "Busy") := T.excC (i := 8) (j := 20) rfl rfl
theorem kit_Busy_Over (T : TX K mg) : PySem.W.kitOne K (.ref (He.ga K "Busy")) (.ref (He.ga K "Over")) = some false := T.kit (i := 8) (j := 21) rfl rfl
theorem kit_Busy_Busy (T : TX K mg) : PySem.W.kitOne K (.ref (He.ga K "Busy")) (.ref (He.ga K "Busy")) = some true := T.kit (i := 8) (j := 22) rfl rfl
theorem kit_Busy_ValueError (T : TX K mg) : PySem.W.kitOne K (.ref (He.ga K "Busy")) (.type "ValueError") = some true := T.kitT (i := 8) (j := 23) rfl rfl
theorem kit_Busy_NoBound (T : TX K mg) : PySem.W.kitOne K (.ref (He.ga K "Busy")) (.ref (He.ga K "NoBound")) = some false := T.kit (i := 8) (j := 24) rfl rfl
theorem kit_Busy_NoRoom (T : TX K mg) : PySem.W.kitOne K (.ref (He.ga K "Busy")) (.ref (He.ga K "NoRoom")) = some false := T.kit (i := 8) (j := 25) rfl rfl
theorem kit_Busy_NoName (T : TX K mg) : PySem.W.kitOne K (.ref (He.ga K "Busy")) (.ref (He.ga K "NoName")) = some false := T.kit (i := 8) (j := 26) rfl rfl
theorem kit_Busy_NoPlace (T : TX K mg) : PySem.W.kitOne K (.ref (He.ga K "Busy")) (.ref (He.ga K "NoPlace")) = some false := T.kit (i := 8) (j := 27) rfl rfl
theorem kit_Busy_NoRow (T : TX K mg) : PySem.W.kitOne K (.ref (He.ga K "Busy")) (.ref (He.ga K "NoRow")) = some false := T.kit (i := 8) (j := 28) rfl rfl
theorem kit_Busy_NoFrame (T : TX K mg) : PySem.W.kitOne K (.ref (He.ga K "Busy")) (.ref (He.ga K "NoFrame")) = some false := T.kit (i := 8) (j := 29) rfl rfl
theorem kit_Busy_NoImage (T : TX K mg) : PySem.W.kitOne K (.ref (He.ga K "Busy")) (.ref (He.ga K "NoImage")) = some false := T.kit (i := 9) (j := 0) rfl rfl
theorem kit_Busy_NoShelf (T : TX K mg) : PySem.W.kitOne K (.ref (He.ga K "Busy")) (.ref (He.ga K "NoShelf")) = some false := T.kit (i := 9) (j := 1) rfl rfl
theorem kit_Busy_NoPage (T : TX K mg) : PySem.W.kitOne K (.ref (He.ga K "Busy")) (.ref (He.ga K "NoPage")) = some false := T.kit (i := 9) (j := 2) rfl rfl
theorem kit_Busy_NoWay (T : TX K mg) : PySem.W.kitOne K (.ref (He.ga K "Busy")) (.ref (He.ga K "NoWay")) = some false := T.kit (i := 9) (j := 3) rfl rfl
theorem kit_Busy_NoOrder (T : TX K mg) : PySem.W.kitOne K (.ref (He.ga K "Busy")) (.ref (He.ga K "NoOrder")) = some false := T.kit (i := 9) (j := 4) rfl rfl
theorem kit_Busy_NoProgram (T : TX K mg) : PySem.W.kitOne K (.ref (He.ga K "Busy")) (.ref (He.ga K "NoProgram")) = some false := T.kit (i := 9) (j := 5) rfl rfl
theorem kit_Busy_NoText (T : TX K mg) : PySem.W.kitOne K (.ref (He.ga K "Busy")) (.ref (He.ga K "NoText")) = some false := T.kit (i := 9) (j := 6) rfl rfl
theorem kit_Busy_Fault (T : TX K mg) : PySem.W.kitOne K (.ref (He.ga K "Busy")) (.ref (He.ga K "Fault")) = some false := T.kit (i := 9) (j := 7) rfl rfl
theorem kit_Busy_NoWord (T : TX K mg) : PySem.W.kitOne K (.ref (He.ga K "Busy")) (.ref (He.ga K "NoWord")) = some false := T.kit (i := 9) (j := 8) rfl rfl
theorem xm_Fault (T : TX K mg) : PySem.W.exmOne K (.ref (He.ga K "Fault")) (.ref (He.ga K "Fault")) = some true := T.exm (i := 9) (j := 9) rfl rfl
theorem ox_Fault (T : TX K mg) : OexC K (He.ga K "Fault") ∧ PySem.W.findIn K (.ref (He.ga K "Fault")) "__init__" = some (some (.ref (He.ma K (He.ga K "Fault") "__init__"))) ∧ PySem.W.typeIn K (.ref (He.ma K (He.ga K "Fault") "__init__")) = some (.type "function") := T.oex (i := 9) (j := 10) rfl rfl
theorem na_Fault (T : TX K mg) : ∀ f ∈ (["kind", "place", "level"] : List Str), PySem.W.findIn K (.ref (He.ga K "Fault")) f = some none := T.noats (i := 9) (j := 11) rfl rfl
theorem sc_Fault_init : FnScope ["self", "kind", "place", "level"] ["self", "kind", "place", "level"] (defScope s_Fault_init) := ⟨rfl, rfl, rfl, by decide +kernel, rfl, by decide +kernel, by decide +kernel⟩
theorem t_Fault_init (T : TX K mg) : ∃ fd, FunD K "__init__" "Fault.__init__" (defArgs s_Fault_init) (defBody s_Fault_init) (defScope s_Fault_init) [] [] (He.ma K (He.ga K "Fault") "__init__") fd := T.def_ (i := 0) (j := 0) rfl rfl
theorem f_Fault_init (T : TX K mg) : FSpec K ["self", "kind", "place", "level"] ["self", "kind", "place", "level"] "__init__" "Fault.__init__" s_Fault_init (He.ma K (He.ga K "Fault") "__init__") := by
  obtain ⟨fd, F⟩ := t_Fault_init T
  exact ⟨fd, F, F.bindsN fun _ _ _ _ _ _ us hl => match us, hl with | [_, _, _, _], _ => rfl, sc_Fault_init⟩
theorem sc_is_whole : FnScope ["thing"] ["thing"] (defScope s_is_whole) := ⟨rfl, rfl, rfl, by decide +kernel, rfl, by decide +kernel, by decide +kernel⟩
theorem t_is_whole (T : TX K mg) : ∃ fd, FunD K "is_whole" "is_whole" (defArgs s_is_whole) (defBody s_is_whole) (defScope s_is_whole) [] [] (He.ga K "is_whole") fd := T.def_ (i := 0) (j := 1) rfl rfl
theorem f_is_whole (T : TX K mg) : FSpec K ["thing"] ["thing"] "is_whole" "is_whole" s_is_whole (He.ga K "is_whole") := by
  obtain ⟨fd, F⟩ := t_is_whole T
  exact ⟨fd, F, F.bindsN fun _ _ _ _ _ _ us hl => match us, hl with | [_], _ => rfl, sc_is_whole⟩
theorem sc_is_word : FnScope ["thing"] ["thing"] (defScope s_is_word) := ⟨rfl, rfl, rfl, by decide +kernel, rfl, by decide +kernel, by decide +kernel⟩
theorem t_is_word (T : TX K mg) : ∃ fd, FunD K "is_word" "is_word" (defArgs s_is_word) (defBody s_is_word) (defScope s_is_word) [] [] (He.ga K "is_word") fd := T.def_ (i := 0) (j := 2) rfl rfl
theorem f_is_word (T : TX K mg) : FSpec K ["thing"] ["thing"] "is_word" "is_word" s_is_word (He.ga K "is_word") := by
  obtain ⟨fd, F⟩ := t_is_word T
  exact ⟨fd, F, F.bindsN fun _ _ _ _ _ _ us hl => match us, hl with | [_], _ => rfl, sc_is_word⟩
theorem sc_is_below : FnScope ["thing", "count"] ["thing", "count"] (defScope s_is_below) := ⟨rfl, rfl, rfl, by decide +kernel, rfl, by decide +kernel, by decide +kernel⟩
theorem t_is_below (T : TX K mg) : ∃ fd, FunD K "is_below" "is_below" (defArgs s_is_below) (defBody s_is_below) (defScope s_is_below) [] [] (He.ga K "is_below") fd := T.def_ (i := 0) (j := 3) rfl rfl
theorem f_is_below (T : TX K mg) : FSpec K ["thing", "count"] ["thing", "count"] "is_below" "is_below" s_is_below (He.ga K "is_below") := by
  obtain ⟨fd, F⟩ := t_is_below T
  exact ⟨fd, F, F.bindsN fun _ _ _ _ _ _ us hl => match us, hl with | [_, _], _ => rfl, sc_is_below⟩
theorem sc_are_words : FnScope ["thing", "word"] ["thing"] (defScope s_are_words) := ⟨rfl, rfl, rfl, by decide +kernel, rfl, by decide +kernel, by decide +kernel⟩
theorem t_are_words (T : TX K mg) : ∃ fd, FunD K "are_words" "are_words" (defArgs s_are_words) (defBody s_are_words) (defScope s_are_words) [] [] (He.ga K "are_words") fd := T.def_ (i := 0) (j := 4) rfl rfl
theorem f_are_words (T : TX K mg) : FSpec K ["thing", "word"] ["thing"] "are_words" "are_words" s_are_words (He.ga K "are_words") := by
  obtain ⟨fd, F⟩ := t_are_words T
  exact ⟨fd, F, F.bindsN fun _ _ _ _ _ _ us hl => match us, hl with | [_], _ => rfl, sc_are_words⟩
theorem sc_is_image : FnScope ["thing", "words"] ["thing"] (defScope s_is_image) := ⟨rfl, rfl, rfl, by decide +kernel, rfl, by decide +kernel, by decide +kernel⟩
theorem t_is_image (T : TX K mg) : ∃ fd, FunD K "is_image" "is_image" (defArgs s_is_image) (defBody s_is_image) (defScope s_is_image) [] [] (He.ga K "is_image") fd := T.def_ (i := 0) (j := 5) rfl rfl
theorem f_is_image (T : TX K mg) : FSpec K ["thing", "words"] ["thing"] "is_image" "is_image" s_is_image (He.ga K "is_image") := by
  obtain ⟨fd, F⟩ := t_is_image T
  exact ⟨fd, F, F.bindsN fun _ _ _ _ _ _ us hl => match us, hl with | [_], _ => rfl, sc_is_image⟩
theorem sc_is_name : FnScope ["thing", "sign"] ["thing"] (defScope s_is_name) := ⟨rfl, rfl, rfl, by decide +kernel, rfl, by decide +kernel, by decide +kernel⟩
theorem t_is_name (T : TX K mg) : ∃ fd, FunD K "is_name" "is_name" (defArgs s_is_name) (defBody s_is_name) (defScope s_is_name) [] [] (He.ga K "is_name") fd := T.def_ (i := 0) (j := 6) rfl rfl
theorem f_is_name (T : TX K mg) : FSpec K ["thing", "sign"] ["thing"] "is_name" "is_name" s_is_name (He.ga K "is_name") := by
  obtain ⟨fd, F⟩ := t_is_name T
  exact ⟨fd, F, F.bindsN fun _ _ _ _ _ _ us hl => match us, hl with | [_], _ => rfl, sc_is_name⟩
theorem sc_words_at : FnScope ["store", "page", "cell"] ["store", "page"] (defScope s_words_at) := ⟨rfl, rfl, rfl, by decide +kernel, rfl, by decide +kernel, by decide +kernel⟩
theorem t_words_at (T : TX K mg) : ∃ fd, FunD K "words_at" "words_at" (defArgs s_words_at) (defBody s_words_at) (defScope s_words_at) [] [] (He.ga K "words_at") fd := T.def_ (i := 0) (j := 7) rfl rfl
theorem f_words_at (T : TX K mg) : FSpec K ["store", "page", "cell"] ["store", "page"] "words_at" "words_at" s_words_at (He.ga K "words_at") := by
  obtain ⟨fd, F⟩ := t_words_at T
  exact ⟨fd, F, F.bindsN fun _ _ _ _ _ _ us hl => match us, hl with | [_, _], _ => rfl, sc_words_at⟩
theorem sc_is_register : FnScope ["thing"] ["thing"] (defScope s_is_register) := ⟨rfl, rfl, rfl, by decide +kernel, rfl, by decide +kernel, by decide +kernel⟩
theorem t_is_register (T : TX K mg) : ∃ fd, FunD K "is_register" "is_register" (defArgs s_is_register) (defBody s_is_register) (defScope s_is_register) [] [] (He.ga K "is_register") fd := T.def_ (i := 0) (j := 8) rfl rfl
theorem f_is_register (T : TX K mg) : FSpec K ["thing"] ["thing"] "is_register" "is_register" s_is_register (He.ga K "is_register") := by
  obtain ⟨fd, F⟩ := t_is_register T
  exact ⟨fd, F, F.bindsN fun _ _ _ _ _ _ us hl => match us, hl with | [_], _ => rfl, sc_is_register⟩
theorem sc_is_at : FnScope ["thing"] ["thing"] (defScope s_is_at) := ⟨rfl, rfl, rfl, by decide +kernel, rfl, by decide +kernel, by decide +kernel⟩
theorem t_is_at (T : TX K mg) : ∃ fd, FunD K "is_at" "is_at" (defArgs s_is_at) (defBody s_is_at) (defScope s_is_at) [] [] (He.ga K "is_at") fd := T.def_ (i := 0) (j := 9) rfl rfl
theorem f_is_at (T : TX K mg) : FSpec K ["thing"] ["thing"] "is_at" "is_at" s_is_at (He.ga K "is_at") := by
  obtain ⟨fd, F⟩ := t_is_at T
  exact ⟨fd, F, F.bindsN fun _ _ _ _ _ _ us hl => match us, hl with | [_], _ => rfl, sc_is_at⟩
theorem sc_form_of : FnScope ["word"] ["word"] (defScope s_form_of) := ⟨rfl, rfl, rfl, by decide +kernel, rfl, by decide +kernel, by decide +kernel⟩
theorem t_form_of (T : TX K mg) : ∃ fd, FunD K "form_of" "form_of" (defArgs s_form_of) (defBody s_form_of) (defScope s_form_of) [] [] (He.ga K "form_of") fd := T.def_ (i := 0) (j := 10) rfl rfl
theorem f_form_of (T : TX K mg) : FSpec K ["word"] ["word"] "form_of" "form_of" s_form_of (He.ga K "form_of") := by
  obtain ⟨fd, F⟩ := t_form_of T
  exact ⟨fd, F, F.bindsN fun _ _ _ _ _ _ us hl => match us, hl with | [_], _ => rfl, sc_form_of⟩
theorem sc_is_part : FnScope ["thing", "sign"] ["thing", "sign"] (defScope s_is_part) := ⟨rfl, rfl, rfl, by decide +kernel, rfl, by decide +kernel, by decide +kernel⟩
theorem t_is_part (T : TX K mg) : ∃ fd, FunD K "is_part" "is_part" (defArgs s_is_part) (defBody s_is_part) (defScope s_is_part) [] [] (He.ga K "is_part") fd := T.def_ (i := 0) (j := 11) rfl rfl
theorem f_is_part (T : TX K mg) : FSpec K ["thing", "sign"] ["thing", "sign"] "is_part" "is_part" s_is_part (He.ga K "is_part") := by
  obtain ⟨fd, F⟩ := t_is_part T
  exact ⟨fd, F, F.bindsN fun _ _ _ _ _ _ us hl => match us, hl with | [_, _], _ => rfl, sc_is_part⟩
theorem sc_is_order : FnScope ["thing", "form", "part", "sign"] ["thing"] (defScope s_is_order) := ⟨rfl, rfl, rfl, by decide +kernel, rfl, by decide +kernel, by decide +kernel⟩
theorem t_is_order (T : TX K mg) : ∃ fd, FunD K "is_order" "is_order" (defArgs s_is_order) (defBody s_is_order) (defScope s_is_order) [] [] (He.ga K "is_order") fd := T.def_ (i := 0) (j := 12) rfl rfl
theorem f_is_order (T : TX K mg) : FSpec K ["thing", "form", "part", "sign"] ["thing"] "is_order" "is_order" s_is_order (He.ga K "is_order") := by
  obtain ⟨fd, F⟩ := t_is_order T
  exact ⟨fd, F, F.bindsN fun _ _ _ _ _ _ us hl => match us, hl with | [_], _ => rfl, sc_is_order⟩
theorem sc_is_inner : FnScope ["word"] ["word"] (defScope s_is_inner) := ⟨rfl, rfl, rfl, by decide +kernel, rfl, by decide +kernel, by decide +kernel⟩
theorem t_is_inner (T : TX K mg) : ∃ fd, FunD K "is_inner" "is_inner" (defArgs s_is_inner) (defBody s_is_inner) (defScope s_is_inner) [] [] (He.ga K "is_inner") fd := T.def_ (i := 0) (j := 13) rfl rfl
theorem f_is_inner (T : TX K mg) : FSpec K ["word"] ["word"] "is_inner" "is_inner" s_is_inner (He.ga K "is_inner") := by
  obtain ⟨fd, F⟩ := t_is_inner T
  exact ⟨fd, F, F.bindsN fun _ _ _ _ _ _ us hl => match us, hl with | [_], _ => rfl, sc_is_inner⟩
theorem sc_checked : FnScope ["program", "entry", "number", "thing"] ["program", "entry"] (defScope s_checked) := ⟨rfl, rfl, rfl, by decide +kernel, rfl, by decide +kernel, by decide +kernel⟩
theorem t_checked (T : TX K mg) : ∃ fd, FunD K "checked" "checked" (defArgs s_checked) (defBody s_checked) (defScope s_checked) [] [] (He.ga K "checked") fd := T.def_ (i := 0) (j := 14) rfl rfl
theorem f_checked (T : TX K mg) : FSpec K ["program", "entry", "number", "thing"] ["program", "entry"] "checked" "checked" s_checked (He.ga K "checked") := by
  obtain ⟨fd, F⟩ := t_checked T
  exact ⟨fd, F, F.bindsN fun _ _ _ _ _ _ us hl => match us, hl with | [_, _], _ => rfl, sc_checked⟩
theorem sc_Shelf_init : FnScope ["self", "most"] ["self", "most"] (defScope s_Shelf_init) := ⟨rfl, rfl, rfl, by decide +kernel, rfl, by decide +kernel, by decide +kernel⟩
theorem t_Shelf_init (T : TX K mg) : ∃ fd, FunD K "__init__" "Shelf.__init__" (defArgs s_Shelf_init) (defBody s_Shelf_init) (defScope s_Shelf_init) [] [] (He.ma K (He.ga K "Shelf") "__init__") fd := T.def_ (i := 0) (j := 15) rfl rfl
theorem f_Shelf_init (T : TX K mg) : FSpec K ["self", "most"] ["self", "most"] "__init__" "Shelf.__init__" s_Shelf_init (He.ma K (He.ga K "Shelf") "__init__") := by
  obtain ⟨fd, F⟩ := t_Shelf_init T
  exact ⟨fd, F, F.bindsN fun _ _ _ _ _ _ us hl => match us, hl with | [_, _], _ => rfl, sc_Shelf_init⟩
theorem sc_Shelf_told : FnScope ["self"] ["self"] (defScope s_Shelf_told) := ⟨rfl, rfl, rfl, by decide +kernel, rfl, by decide +kernel, by decide +kernel⟩
theorem t_Shelf_told (T : TX K mg) : ∃ fd, FunD K "told" "Shelf.told" (defArgs s_Shelf_told) (defBody s_Shelf_told) (defScope s_Shelf_told) [] [] (He.ma K (He.ga K "Shelf") "told") fd := T.def_ (i := 0) (j := 16) rfl rfl
theorem f_Shelf_told (T : TX K mg) : FSpec K ["self"] ["self"] "told" "Shelf.told" s_Shelf_told (He.ma K (He.ga K "Shelf") "told") := by
  obtain ⟨fd, F⟩ := t_Shelf_told T
  exact ⟨fd, F, F.bindsN fun _ _ _ _ _ _ us hl => match us, hl with | [_], _ => rfl, sc_Shelf_told⟩
theorem sc_look_at_places : FnScope ["place"] ["place"] (defScope s_look_at_places) := ⟨rfl, rfl, rfl, by decide +kernel, rfl, by decide +kernel, by decide +kernel⟩
theorem t_look_at_places (T : TX K mg) : ∃ fd, FunD K "look_at" "look_at" (defArgs s_look_at_places) (defBody s_look_at_places) (defScope s_look_at_places) [] [] (He.ga K "look_at_places") fd := T.def_ (i := 0) (j := 17) rfl rfl
theorem f_look_at_places (T : TX K mg) : FSpec K ["place"] ["place"] "look_at" "look_at" s_look_at_places (He.ga K "look_at_places") := by
  obtain ⟨fd, F⟩ := t_look_at_places T
  exact ⟨fd, F, F.bindsN fun _ _ _ _ _ _ us hl => match us, hl with | [_], _ => rfl, sc_look_at_places⟩
theorem sc_parts_of : FnScope ["place", "number", "cell", "outer", "inner"] ["place"] (defScope s_parts_of) := ⟨rfl, rfl, rfl, by decide +kernel, rfl, by decide +kernel, by decide +kernel⟩
theorem t_parts_of (T : TX K mg) : ∃ fd, FunD K "parts_of" "parts_of" (defArgs s_parts_of) (defBody s_parts_of) (defScope s_parts_of) [] [] (He.ga K "parts_of") fd := T.def_ (i := 0) (j := 18) rfl rfl
theorem f_parts_of (T : TX K mg) : FSpec K ["place", "number", "cell", "outer", "inner"] ["place"] "parts_of" "parts_of" s_parts_of (He.ga K "parts_of") := by
  obtain ⟨fd, F⟩ := t_parts_of T
  exact ⟨fd, F, F.bindsN fun _ _ _ _ _ _ us hl => match us, hl with | [_], _ => rfl, sc_parts_of⟩
theorem sc_row_of : FnScope ["page", "marks"] ["page", "marks"] (defScope s_row_of) := ⟨rfl, rfl, rfl, by decide +kernel, rfl, by decide +kernel, by decide +kernel⟩
theorem t_row_of (T : TX K mg) : ∃ fd, FunD K "row_of" "row_of" (defArgs s_row_of) (defBody s_row_of) (defScope s_row_of) [] [] (He.ga K "row_of") fd := T.def_ (i := 0) (j := 19) rfl rfl
theorem f_row_of (T : TX K mg) : FSpec K ["page", "marks"] ["page", "marks"] "row_of" "row_of" s_row_of (He.ga K "row_of") := by
  obtain ⟨fd, F⟩ := t_row_of T
  exact ⟨fd, F, F.bindsN fun _ _ _ _ _ _ us hl => match us, hl with | [_, _], _ => rfl, sc_row_of⟩
theorem sc_page_of : FnScope ["row"] ["row"] (defScope s_page_of) := ⟨rfl, rfl, rfl, by decide +kernel, rfl, by decide +kernel, by decide +kernel⟩
theorem t_page_of (T : TX K mg) : ∃ fd, FunD K "page_of" "page_of" (defArgs s_page_of) (defBody s_page_of) (defScope s_page_of) [] [] (He.ga K "page_of") fd := T.def_ (i := 0) (j := 20) rfl rfl
theorem f_page_of (T : TX K mg) : FSpec K ["row"] ["row"] "page_of" "page_of" s_page_of (He.ga K "page_of") := by
  obtain ⟨fd, F⟩ := t_page_of T
  exact ⟨fd, F, F.bindsN fun _ _ _ _ _ _ us hl => match us, hl with | [_], _ => rfl, sc_page_of⟩
theorem sc_has : FnScope ["row", "marks"] ["row", "marks"] (defScope s_has) := ⟨rfl, rfl, rfl, by decide +kernel, rfl, by decide +kernel, by decide +kernel⟩
theorem t_has (T : TX K mg) : ∃ fd, FunD K "has" "has" (defArgs s_has) (defBody s_has) (defScope s_has) [] [] (He.ga K "has") fd := T.def_ (i := 0) (j := 21) rfl rfl
theorem f_has (T : TX K mg) : FSpec K ["row", "marks"] ["row", "marks"] "has" "has" s_has (He.ga K "has") := by
  obtain ⟨fd, F⟩ := t_has T
  exact ⟨fd, F, F.bindsN fun _ _ _ _ _ _ us hl => match us, hl with | [_, _], _ => rfl, sc_has⟩
theorem sc_put : FnScope ["row", "marks"] ["row", "marks"] (defScope s_put) := ⟨rfl, rfl, rfl, by decide +kernel, rfl, by decide +kernel, by decide +kernel⟩
theorem t_put (T : TX K mg) : ∃ fd, FunD K "put" "put" (defArgs s_put) (defBody s_put) (defScope s_put) [] [] (He.ga K "put") fd := T.def_ (i := 0) (j := 22) rfl rfl
theorem f_put (T : TX K mg) : FSpec K ["row", "marks"] ["row", "marks"] "put" "put" s_put (He.ga K "put") := by
  obtain ⟨fd, F⟩ := t_put T
  exact ⟨fd, F, F.bindsN fun _ _ _ _ _ _ us hl => match us, hl with | [_, _], _ => rfl, sc_put⟩
theorem sc_taken : FnScope ["row", "marks"] ["row", "marks"] (defScope s_taken) := ⟨rfl, rfl, rfl, by decide +kernel, rfl, by decide +kernel, by decide +kernel⟩
theorem t_taken (T : TX K mg) : ∃ fd, FunD K "taken" "taken" (defArgs s_taken) (defBody s_taken) (defScope s_taken) [] [] (He.ga K "taken") fd := T.def_ (i := 0) (j := 23) rfl rfl
theorem f_taken (T : TX K mg) : FSpec K ["row", "marks"] ["row", "marks"] "taken" "taken" s_taken (He.ga K "taken") := by
  obtain ⟨fd, F⟩ := t_taken T
  exact ⟨fd, F, F.bindsN fun _ _ _ _ _ _ us hl => match us, hl with | [_, _], _ => rfl, sc_taken⟩
theorem sc_look_by : FnScope ["store", "row", "place", "level", "write", "kernel", "page"] ["store", "row", "place", "level", "write", "kernel"] (defScope s_look_by) := ⟨rfl, rfl, rfl, by decide +kernel, rfl, by decide +kernel, by decide +kernel⟩
theorem t_look_by (T : TX K mg) : ∃ fd, FunD K "look_by" "look_by" (defArgs s_look_by) (defBody s_look_by) (defScope s_look_by) [] [] (He.ga K "look_by") fd := T.def_ (i := 0) (j := 24) rfl rfl
theorem f_look_by (T : TX K mg) : FSpec K ["store", "row", "place", "level", "write", "kernel", "page"] ["store", "row", "place", "level", "write", "kernel"] "look_by" "look_by" s_look_by (He.ga K "look_by") := by
  obtain ⟨fd, F⟩ := t_look_by T
  exact ⟨fd, F, F.bindsN fun _ _ _ _ _ _ us hl => match us, hl with | [_, _, _, _, _, _], _ => rfl, sc_look_by⟩
theorem sc_rights_of : FnScope ["high", "low", "rights"] ["high", "low"] (defScope s_rights_of) := ⟨rfl, rfl, rfl, by decide +kernel, rfl, by decide +kernel, by decide +kernel⟩
theorem t_rights_of (T : TX K mg) : ∃ fd, FunD K "rights_of" "rights_of" (defArgs s_rights_of) (defBody s_rights_of) (defScope s_rights_of) [] [] (He.ga K "rights_of") fd := T.def_ (i := 0) (j := 25) rfl rfl
theorem f_rights_of (T : TX K mg) : FSpec K ["high", "low", "rights"] ["high", "low"] "rights_of" "rights_of" s_rights_of (He.ga K "rights_of") := by
  obtain ⟨fd, F⟩ := t_rights_of T
  exact ⟨fd, F, F.bindsN fun _ _ _ _ _ _ us hl => match us, hl with | [_, _], _ => rfl, sc_rights_of⟩
theorem sc_look : FnScope ["store", "root", "place", "write", "kernel", "outer", "inner", "cell", "high", "table", "low", "page"] ["store", "root", "place", "write", "kernel"] (defScope s_look) := ⟨rfl, rfl, rfl, by decide +kernel, rfl, by decide +kernel, by decide +kernel⟩
theorem t_look (T : TX K mg) : ∃ fd, FunD K "look" "look" (defArgs s_look) (defBody s_look) (defScope s_look) [] [] (He.ga K "look") fd := T.def_ (i := 0) (j := 26) rfl rfl
theorem f_look (T : TX K mg) : FSpec K ["store", "root", "place", "write", "kernel", "outer", "inner", "cell", "high", "table", "low", "page"] ["store", "root", "place", "write", "kernel"] "look" "look" s_look (He.ga K "look") := by
  obtain ⟨fd, F⟩ := t_look T
  exact ⟨fd, F, F.bindsN fun _ _ _ _ _ _ us hl => match us, hl with | [_, _, _, _, _], _ => rfl, sc_look⟩
theorem sc_stamp : FnScope ["store", "spot", "marks", "word"] ["store", "spot", "marks"] (defScope s_stamp) := ⟨rfl, rfl, rfl, by decide +kernel, rfl, by decide +kernel, by decide +kernel⟩
theorem t_stamp (T : TX K mg) : ∃ fd, FunD K "stamp" "stamp" (defArgs s_stamp) (defBody s_stamp) (defScope s_stamp) [] [] (He.ga K "stamp") fd := T.def_ (i := 0) (j := 27) rfl rfl
theorem f_stamp (T : TX K mg) : FSpec K ["store", "spot", "marks", "word"] ["store", "spot", "marks"] "stamp" "stamp" s_stamp (He.ga K "stamp") := by
  obtain ⟨fd, F⟩ := t_stamp T
  exact ⟨fd, F, F.bindsN fun _ _ _ _ _ _ us hl => match us, hl with | [_, _, _], _ => rfl, sc_stamp⟩
theorem sc_mark : FnScope ["store", "trail", "write"] ["store", "trail", "write"] (defScope s_mark) := ⟨rfl, rfl, rfl, by decide +kernel, rfl, by decide +kernel, by decide +kernel⟩
theorem t_mark (T : TX K mg) : ∃ fd, FunD K "mark" "mark" (defArgs s_mark) (defBody s_mark) (defScope s_mark) [] [] (He.ga K "mark") fd := T.def_ (i := 0) (j := 28) rfl rfl
theorem f_mark (T : TX K mg) : FSpec K ["store", "trail", "write"] ["store", "trail", "write"] "mark" "mark" s_mark (He.ga K "mark") := by
  obtain ⟨fd, F⟩ := t_mark T
  exact ⟨fd, F, F.bindsN fun _ _ _ _ _ _ us hl => match us, hl with | [_, _, _], _ => rfl, sc_mark⟩
theorem sc_Ways_init : FnScope ["self", "most"] ["self", "most"] (defScope s_Ways_init) := ⟨rfl, rfl, rfl, by decide +kernel, rfl, by decide +kernel, by decide +kernel⟩
theorem t_Ways_init (T : TX K mg) : ∃ fd, FunD K "__init__" "Ways.__init__" (defArgs s_Ways_init) (defBody s_Ways_init) (defScope s_Ways_init) [] [] (He.ma K (He.ga K "Ways") "__init__") fd := T.def_ (i := 0) (j := 29) rfl rfl
theorem f_Ways_init (T : TX K mg) : FSpec K ["self", "most"] ["self", "most"] "__init__" "Ways.__init__" s_Ways_init (He.ma K (He.ga K "Ways") "__init__") := by
  obtain ⟨fd, F⟩ := t_Ways_init T
  exact ⟨fd, F, F.bindsN fun _ _ _ _ _ _ us hl => match us, hl with | [_, _], _ => rfl, sc_Ways_init⟩
theorem sc_Ways_page_at : FnScope ["self", "spot", "page"] ["self", "spot"] (defScope s_Ways_page_at) := ⟨rfl, rfl, rfl, by decide +kernel, rfl, by decide +kernel, by decide +kernel⟩
theorem t_Ways_page_at (T : TX K mg) : ∃ fd, FunD K "page_at" "Ways.page_at" (defArgs s_Ways_page_at) (defBody s_Ways_page_at) (defScope s_Ways_page_at) [] [] (He.ma K (He.ga K "Ways") "page_at") fd := T.def_ (i := 1) (j := 0) rfl rfl
theorem f_Ways_page_at (T : TX K mg) : FSpec K ["self", "spot", "page"] ["self", "spot"] "page_at" "Ways.page_at" s_Ways_page_at (He.ma K (He.ga K "Ways") "page_at") := by
  obtain ⟨fd, F⟩ := t_Ways_page_at T
  exact ⟨fd, F, F.bindsN fun _ _ _ _ _ _ us hl => match us, hl with | [_, _], _ => rfl, sc_Ways_page_at⟩
theorem sc_Ways_poke : FnScope ["self", "spot", "word"] ["self", "spot", "word"] (defScope s_Ways_poke) := ⟨rfl, rfl, rfl, by decide +kernel, rfl, by decide +kernel, by decide +kernel⟩
theorem t_Ways_poke (T : TX K mg) : ∃ fd, FunD K "poke" "Ways.poke" (defArgs s_Ways_poke) (defBody s_Ways_poke) (defScope s_Ways_poke) [] [] (He.ma K (He.ga K "Ways") "poke") fd := T.def_ (i := 1) (j := 1) rfl rfl
theorem f_Ways_poke (T : TX K mg) : FSpec K ["self", "spot", "word"] ["self", "spot", "word"] "poke" "Ways.poke" s_Ways_poke (He.ma K (He.ga K "Ways") "poke") := by
  obtain ⟨fd, F⟩ := t_Ways_poke T
  exact ⟨fd, F, F.bindsN fun _ _ _ _ _ _ us hl => match us, hl with | [_, _, _], _ => rfl, sc_Ways_poke⟩
theorem sc_Ways_root : FnScope ["self"] ["self"] (defScope s_Ways_root) := ⟨rfl, rfl, rfl, by decide +kernel, rfl, by decide +kernel, by decide +kernel⟩
theorem t_Ways_root (T : TX K mg) : ∃ fd, FunD K "root" "Ways.root" (defArgs s_Ways_root) (defBody s_Ways_root) (defScope s_Ways_root) [] [] (He.ma K (He.ga K "Ways") "root") fd := T.def_ (i := 1) (j := 2) rfl rfl
theorem f_Ways_root (T : TX K mg) : FSpec K ["self"] ["self"] "root" "Ways.root" s_Ways_root (He.ma K (He.ga K "Ways") "root") := by
  obtain ⟨fd, F⟩ := t_Ways_root T
  exact ⟨fd, F, F.bindsN fun _ _ _ _ _ _ us hl => match us, hl with | [_], _ => rfl, sc_Ways_root⟩
theorem sc_Ways_shelf : FnScope ["self"] ["self"] (defScope s_Ways_shelf) := ⟨rfl, rfl, rfl, by decide +kernel, rfl, by decide +kernel, by decide +kernel⟩
theorem t_Ways_shelf (T : TX K mg) : ∃ fd, FunD K "shelf" "Ways.shelf" (defArgs s_Ways_shelf) (defBody s_Ways_shelf) (defScope s_Ways_shelf) [] [] (He.ma K (He.ga K "Ways") "shelf") fd := T.def_ (i := 1) (j := 3) rfl rfl
theorem f_Ways_shelf (T : TX K mg) : FSpec K ["self"] ["self"] "shelf" "Ways.shelf" s_Ways_shelf (He.ma K (He.ga K "Ways") "shelf") := by
  obtain ⟨fd, F⟩ := t_Ways_shelf T
  exact ⟨fd, F, F.bindsN fun _ _ _ _ _ _ us hl => match us, hl with | [_], _ => rfl, sc_Ways_shelf⟩
theorem sc_Ways_words_of : FnScope ["self", "page", "cell"] ["self", "page"] (defScope s_Ways_words_of) := ⟨rfl, rfl, rfl, by decide +kernel, rfl, by decide +kernel, by decide +kernel⟩
theorem t_Ways_words_of (T : TX K mg) : ∃ fd, FunD K "words_of" "Ways.words_of" (defArgs s_Ways_words_of) (defBody s_Ways_words_of) (defScope s_Ways_words_of) [] [] (He.ma K (He.ga K "Ways") "words_of") fd := T.def_ (i := 1) (j := 4) rfl rfl
theorem f_Ways_words_of (T : TX K mg) : FSpec K ["self", "page", "cell"] ["self", "page"] "words_of" "Ways.words_of" s_Ways_words_of (He.ma K (He.ga K "Ways") "words_of") := by
  obtain ⟨fd, F⟩ := t_Ways_words_of T
  exact ⟨fd, F, F.bindsN fun _ _ _ _ _ _ us hl => match us, hl with | [_, _], _ => rfl, sc_Ways_words_of⟩
theorem sc_Ways_pages : FnScope ["self", "page"] ["self"] (defScope s_Ways_pages) := ⟨rfl, rfl, rfl, by decide +kernel, rfl, by decide +kernel, by decide +kernel⟩
theorem t_Ways_pages (T : TX K mg) : ∃ fd, FunD K "pages" "Ways.pages" (defArgs s_Ways_pages) (defBody s_Ways_pages) (defScope s_Ways_pages) [] [] (He.ma K (He.ga K "Ways") "pages") fd := T.def_ (i := 1) (j := 5) rfl rfl
theorem f_Ways_pages (T : TX K mg) : FSpec K ["self", "page"] ["self"] "pages" "Ways.pages" s_Ways_pages (He.ma K (He.ga K "Ways") "pages") := by
  obtain ⟨fd, F⟩ := t_Ways_pages T
  exact ⟨fd, F, F.bindsN fun _ _ _ _ _ _ us hl => match us, hl with | [_], _ => rfl, sc_Ways_pages⟩
theorem sc_Machine_init : FnScope ["self", "ways", "program", "entry", "core", "events"] ["self", "ways", "program", "entry", "core", "events"] (defScope s_Machine_init) := ⟨rfl, rfl, rfl, by decide +kernel, rfl, by decide +kernel, by decide +kernel⟩
theorem t_Machine_init (T : TX K mg) : ∃ fd, FunD K "__init__" "Machine.__init__" (defArgs s_Machine_init) (defBody s_Machine_init) (defScope s_Machine_init) [V.non, V.non] [] (He.ma K (He.ga K "Machine") "__init__") fd := T.def_ (i := 1) (j := 6) rfl rfl
theorem sc_Machine_turn : FnScope ["self", "steps", "done"] ["self", "steps"] (defScope s_Machine_turn) := ⟨rfl, rfl, rfl, by decide +kernel, rfl, by decide +kernel, by decide +kernel⟩
theorem t_Machine_turn (T : TX K mg) : ∃ fd, FunD K "turn" "Machine.turn" (defArgs s_Machine_turn) (defBody s_Machine_turn) (defScope s_Machine_turn) [] [] (He.ma K (He.ga K "Machine") "turn") fd := T.def_ (i := 1) (j := 7) rfl rfl
theorem f_Machine_turn (T : TX K mg) : FSpec K ["self", "steps", "done"] ["self", "steps"] "turn" "Machine.turn" s_Machine_turn (He.ma K (He.ga K "Machine") "turn") := by
  obtain ⟨fd, F⟩ := t_Machine_turn T
  exact ⟨fd, F, F.bindsN fun _ _ _ _ _ _ us hl => match us, hl with | [_, _], _ => rfl, sc_Machine_turn⟩
theorem sc_Machine_step : FnScope ["self", "order", "e"] ["self"] (defScope s_Machine_step) := ⟨rfl, rfl, rfl, by decide +kernel, rfl, by decide +kernel, by decide +kernel⟩
theorem t_Machine_step (T : TX K mg) : ∃ fd, FunD K "step" "Machine.step" (defArgs s_Machine_step) (defBody s_Machine_step) (defScope s_Machine_step) [] [] (He.ma K (He.ga K "Machine") "step") fd := T.def_ (i := 1) (j := 8) rfl rfl
theorem f_Machine_step (T : TX K mg) : FSpec K ["self", "order", "e"] ["self"] "step" "Machine.step" s_Machine_step (He.ma K (He.ga K "Machine") "step") := by
  obtain ⟨fd, F⟩ := t_Machine_step T
  exact ⟨fd, F, F.bindsN fun _ _ _ _ _ _ us hl => match us, hl with | [_], _ => rfl, sc_Machine_step⟩
theorem sc_Machine_do : FnScope ["self", "order", "word"] ["self", "order"] (defScope s_Machine_do) := ⟨rfl, rfl, rfl, by decide +kernel, rfl, by decide +kernel, by decide +kernel⟩
theorem t_Machine_do (T : TX K mg) : ∃ fd, FunD K "do" "Machine.do" (defArgs s_Machine_do) (defBody s_Machine_do) (defScope s_Machine_do) [] [] (He.ma K (He.ga K "Machine") "do") fd := T.def_ (i := 1) (j := 9) rfl rfl
theorem f_Machine_do (T : TX K mg) : FSpec K ["self", "order", "word"] ["self", "order"] "do" "Machine.do" s_Machine_do (He.ma K (He.ga K "Machine") "do") := by
  obtain ⟨fd, F⟩ := t_Machine_do T
  exact ⟨fd, F, F.bindsN fun _ _ _ _ _ _ us hl => match us, hl with | [_, _], _ => rfl, sc_Machine_do⟩
theorem sc_Machine_go : FnScope ["self", "order", "word"] ["self", "order"] (defScope s_Machine_go) := ⟨rfl, rfl, rfl, by decide +kernel, rfl, by decide +kernel, by decide +kernel⟩
theorem t_Machine_go (T : TX K mg) : ∃ fd, FunD K "go" "Machine.go" (defArgs s_Machine_go) (defBody s_Machine_go) (defScope s_Machine_go) [] [] (He.ma K (He.ga K "Machine") "go") fd := T.def_ (i := 1) (j := 10) rfl rfl
theorem f_Machine_go (T : TX K mg) : FSpec K ["self", "order", "word"] ["self", "order"] "go" "Machine.go" s_Machine_go (He.ma K (He.ga K "Machine") "go") := by
  obtain ⟨fd, F⟩ := t_Machine_go T
  exact ⟨fd, F, F.bindsN fun _ _ _ _ _ _ us hl => match us, hl with | [_, _], _ => rfl, sc_Machine_go⟩
theorem sc_Machine_reckon : FnScope ["self", "order", "word", "a"] ["self", "order"] (defScope s_Machine_reckon) := ⟨rfl, rfl, rfl, by decide +kernel, rfl, by decide +kernel, by decide +kernel⟩
theorem t_Machine_reckon (T : TX K mg) : ∃ fd, FunD K "reckon" "Machine.reckon" (defArgs s_Machine_reckon) (defBody s_Machine_reckon) (defScope s_Machine_reckon) [] [] (He.ma K (He.ga K "Machine") "reckon") fd := T.def_ (i := 1) (j := 11) rfl rfl
theorem f_Machine_reckon (T : TX K mg) : FSpec K ["self", "order", "word", "a"] ["self", "order"] "reckon" "Machine.reckon" s_Machine_reckon (He.ma K (He.ga K "Machine") "reckon") := by
  obtain ⟨fd, F⟩ := t_Machine_reckon T
  exact ⟨fd, F, F.bindsN fun _ _ _ _ _ _ us hl => match us, hl with | [_, _], _ => rfl, sc_Machine_reckon⟩
theorem sc_Machine_carry_word : FnScope ["self", "order", "a", "place"] ["self", "order"] (defScope s_Machine_carry_word) := ⟨rfl, rfl, rfl, by decide +kernel, rfl, by decide +kernel, by decide +kernel⟩
theorem t_Machine_carry_word (T : TX K mg) : ∃ fd, FunD K "carry_word" "Machine.carry_word" (defArgs s_Machine_carry_word) (defBody s_Machine_carry_word) (defScope s_Machine_carry_word) [] [] (He.ma K (He.ga K "Machine") "carry_word") fd := T.def_ (i := 1) (j := 12) rfl rfl
theorem f_Machine_carry_word (T : TX K mg) : FSpec K ["self", "order", "a", "place"] ["self", "order"] "carry_word" "Machine.carry_word" s_Machine_carry_word (He.ma K (He.ga K "Machine") "carry_word") := by
  obtain ⟨fd, F⟩ := t_Machine_carry_word T
  exact ⟨fd, F, F.bindsN fun _ _ _ _ _ _ us hl => match us, hl with | [_, _], _ => rfl, sc_Machine_carry_word⟩
theorem sc_Machine_core : FnScope ["self"] ["self"] (defScope s_Machine_core) := ⟨rfl, rfl, rfl, by decide +kernel, rfl, by decide +kernel, by decide +kernel⟩
theorem t_Machine_core (T : TX K mg) : ∃ fd, FunD K "core" "Machine.core" (defArgs s_Machine_core) (defBody s_Machine_core) (defScope s_Machine_core) [] [] (He.ma K (He.ga K "Machine") "core") fd := T.def_ (i := 1) (j := 13) rfl rfl
theorem f_Machine_core (T : TX K mg) : FSpec K ["self"] ["self"] "core" "Machine.core" s_Machine_core (He.ma K (He.ga K "Machine") "core") := by
  obtain ⟨fd, F⟩ := t_Machine_core T
  exact ⟨fd, F, F.bindsN fun _ _ _ _ _ _ us hl => match us, hl with | [_], _ => rfl, sc_Machine_core⟩
theorem sc_Machine_events : FnScope ["self"] ["self"] (defScope s_Machine_events) := ⟨rfl, rfl, rfl, by decide +kernel, rfl, by decide +kernel, by decide +kernel⟩
theorem t_Machine_events (T : TX K mg) : ∃ fd, FunD K "events" "Machine.events" (defArgs s_Machine_events) (defBody s_Machine_events) (defScope s_Machine_events) [] [] (He.ma K (He.ga K "Machine") "events") fd := T.def_ (i := 1) (j := 14) rfl rfl
theorem f_Machine_events (T : TX K mg) : FSpec K ["self"] ["self"] "events" "Machine.events" s_Machine_events (He.ma K (He.ga K "Machine") "events") := by
  obtain ⟨fd, F⟩ := t_Machine_events T
  exact ⟨fd, F, F.bindsN fun _ _ _ _ _ _ us hl => match us, hl with | [_], _ => rfl, sc_Machine_events⟩
theorem sc_Machine_told : FnScope ["self"] ["self"] (defScope s_Machine_told) := ⟨rfl, rfl, rfl, by decide +kernel, rfl, by decide +kernel, by decide +kernel⟩
theorem t_Machine_told (T : TX K mg) : ∃ fd, FunD K "told" "Machine.told" (defArgs s_Machine_told) (defBody s_Machine_told) (defScope s_Machine_told) [] [] (He.ma K (He.ga K "Machine") "told") fd := T.def_ (i := 1) (j := 15) rfl rfl
theorem f_Machine_told (T : TX K mg) : FSpec K ["self"] ["self"] "told" "Machine.told" s_Machine_told (He.ma K (He.ga K "Machine") "told") := by
  obtain ⟨fd, F⟩ := t_Machine_told T
  exact ⟨fd, F, F.bindsN fun _ _ _ _ _ _ us hl => match us, hl with | [_], _ => rfl, sc_Machine_told⟩
theorem sc_Machine_program : FnScope ["self"] ["self"] (defScope s_Machine_program) := ⟨rfl, rfl, rfl, by decide +kernel, rfl, by decide +kernel, by decide +kernel⟩
theorem t_Machine_program (T : TX K mg) : ∃ fd, FunD K "program" "Machine.program" (defArgs s_Machine_program) (defBody s_Machine_program) (defScope s_Machine_program) [] [] (He.ma K (He.ga K "Machine") "program") fd := T.def_ (i := 1) (j := 16) rfl rfl
theorem f_Machine_program (T : TX K mg) : FSpec K ["self"] ["self"] "program" "Machine.program" s_Machine_program (He.ma K (He.ga K "Machine") "program") := by
  obtain ⟨fd, F⟩ := t_Machine_program T
  exact ⟨fd, F, F.bindsN fun _ _ _ _ _ _ us hl => match us, hl with | [_], _ => rfl, sc_Machine_program⟩
theorem sc_Machine_entry : FnScope ["self"] ["self"] (defScope s_Machine_entry) := ⟨rfl, rfl, rfl, by decide +kernel, rfl, by decide +kernel, by decide +kernel⟩
theorem t_Machine_entry (T : TX K mg) : ∃ fd, FunD K "entry" "Machine.entry" (defArgs s_Machine_entry) (defBody s_Machine_entry) (defScope s_Machine_entry) [] [] (He.ma K (He.ga K "Machine") "entry") fd := T.def_ (i := 1) (j := 17) rfl rfl
theorem f_Machine_entry (T : TX K mg) : FSpec K ["self"] ["self"] "entry" "Machine.entry" s_Machine_entry (He.ma K (He.ga K "Machine") "entry") := by
  obtain ⟨fd, F⟩ := t_Machine_entry T
  exact ⟨fd, F, F.bindsN fun _ _ _ _ _ _ us hl => match us, hl with | [_], _ => rfl, sc_Machine_entry⟩
theorem sc_is_count : FnScope ["thing", "least", "most"] ["thing", "least", "most"] (defScope s_is_count) := ⟨rfl, rfl, rfl, by decide +kernel, rfl, by decide +kernel, by decide +kernel⟩
theorem t_is_count (T : TX K mg) : ∃ fd, FunD K "is_count" "is_count" (defArgs s_is_count) (defBody s_is_count) (defScope s_is_count) [] [] (He.ga K "is_count") fd := T.def_ (i := 1) (j := 18) rfl rfl
theorem f_is_count (T : TX K mg) : FSpec K ["thing", "least", "most"] ["thing", "least", "most"] "is_count" "is_count" s_is_count (He.ga K "is_count") := by
  obtain ⟨fd, F⟩ := t_is_count T
  exact ⟨fd, F, F.bindsN fun _ _ _ _ _ _ us hl => match us, hl with | [_, _, _], _ => rfl, sc_is_count⟩
theorem sc_expected : FnScope ["house", "name", "other", "way", "size", "there"] ["house", "name", "other", "way"] (defScope s_expected) := ⟨rfl, rfl, rfl, by decide +kernel, rfl, by decide +kernel, by decide +kernel⟩
theorem t_expected (T : TX K mg) : ∃ fd, FunD K "expected" "expected" (defArgs s_expected) (defBody s_expected) (defScope s_expected) [] [] (He.ga K "expected") fd := T.def_ (i := 1) (j := 19) rfl rfl
theorem f_expected (T : TX K mg) : FSpec K ["house", "name", "other", "way", "size", "there"] ["house", "name", "other", "way"] "expected" "expected" s_expected (He.ga K "expected") := by
  obtain ⟨fd, F⟩ := t_expected T
  exact ⟨fd, F, F.bindsN fun _ _ _ _ _ _ us hl => match us, hl with | [_, _, _, _], _ => rfl, sc_expected⟩
theorem sc_Move_init : FnScope ["self", "house", "name", "other", "way", "most", "rounds"] ["self", "house", "name", "other", "way", "most", "rounds"] (defScope s_Move_init) := ⟨rfl, rfl, rfl, by decide +kernel, rfl, by decide +kernel, by decide +kernel⟩
theorem t_Move_init (T : TX K mg) : ∃ fd, FunD K "__init__" "Move.__init__" (defArgs s_Move_init) (defBody s_Move_init) (defScope s_Move_init) [] [] (He.ma K (He.ga K "Move") "__init__") fd := T.def_ (i := 1) (j := 20) rfl rfl
theorem f_Move_init (T : TX K mg) : FSpec K ["self", "house", "name", "other", "way", "most", "rounds"] ["self", "house", "name", "other", "way", "most", "rounds"] "__init__" "Move.__init__" s_Move_init (He.ma K (He.ga K "Move") "__init__") := by
  obtain ⟨fd, F⟩ := t_Move_init T
  exact ⟨fd, F, F.bindsN fun _ _ _ _ _ _ us hl => match us, hl with | [_, _, _, _, _, _, _], _ => rfl, sc_Move_init⟩
theorem sc_Move_look_open : FnScope ["self"] ["self"] (defScope s_Move_look_open) := ⟨rfl, rfl, rfl, by decide +kernel, rfl, by decide +kernel, by decide +kernel⟩
theorem t_Move_look_open (T : TX K mg) : ∃ fd, FunD K "look_open" "Move.look_open" (defArgs s_Move_look_open) (defBody s_Move_look_open) (defScope s_Move_look_open) [] [] (He.ma K (He.ga K "Move") "look_open") fd := T.def_ (i := 1) (j := 21) rfl rfl
theorem f_Move_look_open (T : TX K mg) : FSpec K ["self"] ["self"] "look_open" "Move.look_open" s_Move_look_open (He.ma K (He.ga K "Move") "look_open") := by
  obtain ⟨fd, F⟩ := t_Move_look_open T
  exact ⟨fd, F, F.bindsN fun _ _ _ _ _ _ us hl => match us, hl with | [_], _ => rfl, sc_Move_look_open⟩
theorem sc_Move_pending : FnScope ["self", "guest", "page"] ["self"] (defScope s_Move_pending) := ⟨rfl, rfl, rfl, by decide +kernel, rfl, by decide +kernel, by decide +kernel⟩
theorem t_Move_pending (T : TX K mg) : ∃ fd, FunD K "pending" "Move.pending" (defArgs s_Move_pending) (defBody s_Move_pending) (defScope s_Move_pending) [] [] (He.ma K (He.ga K "Move") "pending") fd := T.def_ (i := 1) (j := 22) rfl rfl
theorem f_Move_pending (T : TX K mg) : FSpec K ["self", "guest", "page"] ["self"] "pending" "Move.pending" s_Move_pending (He.ma K (He.ga K "Move") "pending") := by
  obtain ⟨fd, F⟩ := t_Move_pending T
  exact ⟨fd, F, F.bindsN fun _ _ _ _ _ _ us hl => match us, hl with | [_], _ => rfl, sc_Move_pending⟩
theorem sc_Move_send : FnScope ["self", "page", "guest", "cell"] ["self", "page"] (defScope s_Move_send) := ⟨rfl, rfl, rfl, by decide +kernel, rfl, by decide +kernel, by decide +kernel⟩
theorem t_Move_send (T : TX K mg) : ∃ fd, FunD K "send" "Move.send" (defArgs s_Move_send) (defBody s_Move_send) (defScope s_Move_send) [] [] (He.ma K (He.ga K "Move") "send") fd := T.def_ (i := 1) (j := 23) rfl rfl
theorem f_Move_send (T : TX K mg) : FSpec K ["self", "page", "guest", "cell"] ["self", "page"] "send" "Move.send" s_Move_send (He.ma K (He.ga K "Move") "send") := by
  obtain ⟨fd, F⟩ := t_Move_send T
  exact ⟨fd, F, F.bindsN fun _ _ _ _ _ _ us hl => match us, hl with | [_, _], _ => rfl, sc_Move_send⟩
theorem sc_Move_round : FnScope ["self", "sent", "page"] ["self"] (defScope s_Move_round) := ⟨rfl, rfl, rfl, by decide +kernel, rfl, by decide +kernel, by decide +kernel⟩
theorem t_Move_round (T : TX K mg) : ∃ fd, FunD K "round" "Move.round" (defArgs s_Move_round) (defBody s_Move_round) (defScope s_Move_round) [] [] (He.ma K (He.ga K "Move") "round") fd := T.def_ (i := 1) (j := 24) rfl rfl
theorem f_Move_round (T : TX K mg) : FSpec K ["self", "sent", "page"] ["self"] "round" "Move.round" s_Move_round (He.ma K (He.ga K "Move") "round") := by
  obtain ⟨fd, F⟩ := t_Move_round T
  exact ⟨fd, F, F.bindsN fun _ _ _ _ _ _ us hl => match us, hl with | [_], _ => rfl, sc_Move_round⟩
theorem sc_Move_ready : FnScope ["self"] ["self"] (defScope s_Move_ready) := ⟨rfl, rfl, rfl, by decide +kernel, rfl, by decide +kernel, by decide +kernel⟩
theorem t_Move_ready (T : TX K mg) : ∃ fd, FunD K "ready" "Move.ready" (defArgs s_Move_ready) (defBody s_Move_ready) (defScope s_Move_ready) [] [] (He.ma K (He.ga K "Move") "ready") fd := T.def_ (i := 1) (j := 25) rfl rfl
theorem f_Move_ready (T : TX K mg) : FSpec K ["self"] ["self"] "ready" "Move.ready" s_Move_ready (He.ma K (He.ga K "Move") "ready") := by
  obtain ⟨fd, F⟩ := t_Move_ready T
  exact ⟨fd, F, F.bindsN fun _ _ _ _ _ _ us hl => match us, hl with | [_], _ => rfl, sc_Move_ready⟩
theorem sc_Move_finish : FnScope ["self", "guest", "sent", "page", "old"] ["self"] (defScope s_Move_finish) := ⟨rfl, rfl, rfl, by decide +kernel, rfl, by decide +kernel, by decide +kernel⟩
theorem t_Move_finish (T : TX K mg) : ∃ fd, FunD K "finish" "Move.finish" (defArgs s_Move_finish) (defBody s_Move_finish) (defScope s_Move_finish) [] [] (He.ma K (He.ga K "Move") "finish") fd := T.def_ (i := 1) (j := 26) rfl rfl
theorem f_Move_finish (T : TX K mg) : FSpec K ["self", "guest", "sent", "page", "old"] ["self"] "finish" "Move.finish" s_Move_finish (He.ma K (He.ga K "Move") "finish") := by
  obtain ⟨fd, F⟩ := t_Move_finish T
  exact ⟨fd, F, F.bindsN fun _ _ _ _ _ _ us hl => match us, hl with | [_], _ => rfl, sc_Move_finish⟩
theorem sc_Move_drop : FnScope ["self"] ["self"] (defScope s_Move_drop) := ⟨rfl, rfl, rfl, by decide +kernel, rfl, by decide +kernel, by decide +kernel⟩
theorem t_Move_drop (T : TX K mg) : ∃ fd, FunD K "drop" "Move.drop" (defArgs s_Move_drop) (defBody s_Move_drop) (defScope s_Move_drop) [] [] (He.ma K (He.ga K "Move") "drop") fd := T.def_ (i := 1) (j := 27) rfl rfl
theorem f_Move_drop (T : TX K mg) : FSpec K ["self"] ["self"] "drop" "Move.drop" s_Move_drop (He.ma K (He.ga K "Move") "drop") := by
  obtain ⟨fd, F⟩ := t_Move_drop T
  exact ⟨fd, F, F.bindsN fun _ _ _ _ _ _ us hl => match us, hl with | [_], _ => rfl, sc_Move_drop⟩
theorem sc_Frames_init : FnScope ["self", "many"] ["self", "many"] (defScope s_Frames_init) := ⟨rfl, rfl, rfl, by decide +kernel, rfl, by decide +kernel, by decide +kernel⟩
theorem t_Frames_init (T : TX K mg) : ∃ fd, FunD K "__init__" "Frames.__init__" (defArgs s_Frames_init) (defBody s_Frames_init) (defScope s_Frames_init) [] [] (He.ma K (He.ga K "Frames") "__init__") fd := T.def_ (i := 1) (j := 28) rfl rfl
theorem f_Frames_init (T : TX K mg) : FSpec K ["self", "many"] ["self", "many"] "__init__" "Frames.__init__" s_Frames_init (He.ma K (He.ga K "Frames") "__init__") := by
  obtain ⟨fd, F⟩ := t_Frames_init T
  exact ⟨fd, F, F.bindsN fun _ _ _ _ _ _ us hl => match us, hl with | [_, _], _ => rfl, sc_Frames_init⟩
theorem sc_Frames_has : FnScope ["self", "page"] ["self", "page"] (defScope s_Frames_has) := ⟨rfl, rfl, rfl, by decide +kernel, rfl, by decide +kernel, by decide +kernel⟩
theorem t_Frames_has (T : TX K mg) : ∃ fd, FunD K "has" "Frames.has" (defArgs s_Frames_has) (defBody s_Frames_has) (defScope s_Frames_has) [] [] (He.ma K (He.ga K "Frames") "has") fd := T.def_ (i := 1) (j := 29) rfl rfl
theorem f_Frames_has (T : TX K mg) : FSpec K ["self", "page"] ["self", "page"] "has" "Frames.has" s_Frames_has (He.ma K (He.ga K "Frames") "has") := by
  obtain ⟨fd, F⟩ := t_Frames_has T
  exact ⟨fd, F, F.bindsN fun _ _ _ _ _ _ us hl => match us, hl with | [_, _], _ => rfl, sc_Frames_has⟩
theorem sc_Frames_look_at : FnScope ["self", "page", "cell"] ["self", "page", "cell"] (defScope s_Frames_look_at) := ⟨rfl, rfl, rfl, by decide +kernel, rfl, by decide +kernel, by decide +kernel⟩
theorem t_Frames_look_at (T : TX K mg) : ∃ fd, FunD K "look_at" "Frames.look_at" (defArgs s_Frames_look_at) (defBody s_Frames_look_at) (defScope s_Frames_look_at) [] [] (He.ma K (He.ga K "Frames") "look_at") fd := T.def_ (i := 2) (j := 0) rfl rfl
theorem f_Frames_look_at (T : TX K mg) : FSpec K ["self", "page", "cell"] ["self", "page", "cell"] "look_at" "Frames.look_at" s_Frames_look_at (He.ma K (He.ga K "Frames") "look_at") := by
  obtain ⟨fd, F⟩ := t_Frames_look_at T
  exact ⟨fd, F, F.bindsN fun _ _ _ _ _ _ us hl => match us, hl with | [_, _, _], _ => rfl, sc_Frames_look_at⟩
theorem sc_Frames_read : FnScope ["self", "page", "cell"] ["self", "page", "cell"] (defScope s_Frames_read) := ⟨rfl, rfl, rfl, by decide +kernel, rfl, by decide +kernel, by decide +kernel⟩
theorem t_Frames_read (T : TX K mg) : ∃ fd, FunD K "read" "Frames.read" (defArgs s_Frames_read) (defBody s_Frames_read) (defScope s_Frames_read) [] [] (He.ma K (He.ga K "Frames") "read") fd := T.def_ (i := 2) (j := 1) rfl rfl
theorem f_Frames_read (T : TX K mg) : FSpec K ["self", "page", "cell"] ["self", "page", "cell"] "read" "Frames.read" s_Frames_read (He.ma K (He.ga K "Frames") "read") := by
  obtain ⟨fd, F⟩ := t_Frames_read T
  exact ⟨fd, F, F.bindsN fun _ _ _ _ _ _ us hl => match us, hl with | [_, _, _], _ => rfl, sc_Frames_read⟩
theorem sc_Frames_write : FnScope ["self", "page", "cell", "word"] ["self", "page", "cell", "word"] (defScope s_Frames_write) := ⟨rfl, rfl, rfl, by decide +kernel, rfl, by decide +kernel, by decide +kernel⟩
theorem t_Frames_write (T : TX K mg) : ∃ fd, FunD K "write" "Frames.write" (defArgs s_Frames_write) (defBody s_Frames_write) (defScope s_Frames_write) [] [] (He.ma K (He.ga K "Frames") "write") fd := T.def_ (i := 2) (j := 2) rfl rfl
theorem f_Frames_write (T : TX K mg) : FSpec K ["self", "page", "cell", "word"] ["self", "page", "cell", "word"] "write" "Frames.write" s_Frames_write (He.ma K (He.ga K "Frames") "write") := by
  obtain ⟨fd, F⟩ := t_Frames_write T
  exact ⟨fd, F, F.bindsN fun _ _ _ _ _ _ us hl => match us, hl with | [_, _, _, _], _ => rfl, sc_Frames_write⟩
theorem sc_Frames_take : FnScope ["self", "frame"] ["self"] (defScope s_Frames_take) := ⟨rfl, rfl, rfl, by decide +kernel, rfl, by decide +kernel, by decide +kernel⟩
theorem t_Frames_take (T : TX K mg) : ∃ fd, FunD K "take" "Frames.take" (defArgs s_Frames_take) (defBody s_Frames_take) (defScope s_Frames_take) [] [] (He.ma K (He.ga K "Frames") "take") fd := T.def_ (i := 2) (j := 3) rfl rfl
theorem f_Frames_take (T : TX K mg) : FSpec K ["self", "frame"] ["self"] "take" "Frames.take" s_Frames_take (He.ma K (He.ga K "Frames") "take") := by
  obtain ⟨fd, F⟩ := t_Frames_take T
  exact ⟨fd, F, F.bindsN fun _ _ _ _ _ _ us hl => match us, hl with | [_], _ => rfl, sc_Frames_take⟩
theorem sc_Frames_look_up : FnScope ["self", "frame"] ["self", "frame"] (defScope s_Frames_look_up) := ⟨rfl, rfl, rfl, by decide +kernel, rfl, by decide +kernel, by decide +kernel⟩
theorem t_Frames_look_up (T : TX K mg) : ∃ fd, FunD K "look_up" "Frames.look_up" (defArgs s_Frames_look_up) (defBody s_Frames_look_up) (defScope s_Frames_look_up) [] [] (He.ma K (He.ga K "Frames") "look_up") fd := T.def_ (i := 2) (j := 4) rfl rfl
theorem f_Frames_look_up (T : TX K mg) : FSpec K ["self", "frame"] ["self", "frame"] "look_up" "Frames.look_up" s_Frames_look_up (He.ma K (He.ga K "Frames") "look_up") := by
  obtain ⟨fd, F⟩ := t_Frames_look_up T
  exact ⟨fd, F, F.bindsN fun _ _ _ _ _ _ us hl => match us, hl with | [_, _], _ => rfl, sc_Frames_look_up⟩
theorem sc_Frames_drop : FnScope ["self", "frame"] ["self", "frame"] (defScope s_Frames_drop) := ⟨rfl, rfl, rfl, by decide +kernel, rfl, by decide +kernel, by decide +kernel⟩
theorem t_Frames_drop (T : TX K mg) : ∃ fd, FunD K "drop" "Frames.drop" (defArgs s_Frames_drop) (defBody s_Frames_drop) (defScope s_Frames_drop) [] [] (He.ma K (He.ga K "Frames") "drop") fd := T.def_ (i := 2) (j := 5) rfl rfl
theorem f_Frames_drop (T : TX K mg) : FSpec K ["self", "frame"] ["self", "frame"] "drop" "Frames.drop" s_Frames_drop (He.ma K (He.ga K "Frames") "drop") := by
  obtain ⟨fd, F⟩ := t_Frames_drop T
  exact ⟨fd, F, F.bindsN fun _ _ _ _ _ _ us hl => match us, hl with | [_, _], _ => rfl, sc_Frames_drop⟩
theorem sc_Frames_owners : FnScope ["self", "frame"] ["self", "frame"] (defScope s_Frames_owners) := ⟨rfl, rfl, rfl, by decide +kernel, rfl, by decide +kernel, by decide +kernel⟩
theorem t_Frames_owners (T : TX K mg) : ∃ fd, FunD K "owners" "Frames.owners" (defArgs s_Frames_owners) (defBody s_Frames_owners) (defScope s_Frames_owners) [] [] (He.ma K (He.ga K "Frames") "owners") fd := T.def_ (i := 2) (j := 6) rfl rfl
theorem f_Frames_owners (T : TX K mg) : FSpec K ["self", "frame"] ["self", "frame"] "owners" "Frames.owners" s_Frames_owners (He.ma K (He.ga K "Frames") "owners") := by
  obtain ⟨fd, F⟩ := t_Frames_owners T
  exact ⟨fd, F, F.bindsN fun _ _ _ _ _ _ us hl => match us, hl with | [_, _], _ => rfl, sc_Frames_owners⟩
theorem sc_Frames_free : FnScope ["self"] ["self"] (defScope s_Frames_free) := ⟨rfl, rfl, rfl, by decide +kernel, rfl, by decide +kernel, by decide +kernel⟩
theorem t_Frames_free (T : TX K mg) : ∃ fd, FunD K "free" "Frames.free" (defArgs s_Frames_free) (defBody s_Frames_free) (defScope s_Frames_free) [] [] (He.ma K (He.ga K "Frames") "free") fd := T.def_ (i := 2) (j := 7) rfl rfl
theorem f_Frames_free (T : TX K mg) : FSpec K ["self"] ["self"] "free" "Frames.free" s_Frames_free (He.ma K (He.ga K "Frames") "free") := by
  obtain ⟨fd, F⟩ := t_Frames_free T
  exact ⟨fd, F, F.bindsN fun _ _ _ _ _ _ us hl => match us, hl with | [_], _ => rfl, sc_Frames_free⟩
theorem sc_Frames_ask : FnScope ["self", "count"] ["self", "count"] (defScope s_Frames_ask) := ⟨rfl, rfl, rfl, by decide +kernel, rfl, by decide +kernel, by decide +kernel⟩
theorem t_Frames_ask (T : TX K mg) : ∃ fd, FunD K "ask" "Frames.ask" (defArgs s_Frames_ask) (defBody s_Frames_ask) (defScope s_Frames_ask) [] [] (He.ma K (He.ga K "Frames") "ask") fd := T.def_ (i := 2) (j := 8) rfl rfl
theorem f_Frames_ask (T : TX K mg) : FSpec K ["self", "count"] ["self", "count"] "ask" "Frames.ask" s_Frames_ask (He.ma K (He.ga K "Frames") "ask") := by
  obtain ⟨fd, F⟩ := t_Frames_ask T
  exact ⟨fd, F, F.bindsN fun _ _ _ _ _ _ us hl => match us, hl with | [_, _], _ => rfl, sc_Frames_ask⟩
theorem sc_Frames_back : FnScope ["self", "count"] ["self", "count"] (defScope s_Frames_back) := ⟨rfl, rfl, rfl, by decide +kernel, rfl, by decide +kernel, by decide +kernel⟩
theorem t_Frames_back (T : TX K mg) : ∃ fd, FunD K "back" "Frames.back" (defArgs s_Frames_back) (defBody s_Frames_back) (defScope s_Frames_back) [] [] (He.ma K (He.ga K "Frames") "back") fd := T.def_ (i := 2) (j := 9) rfl rfl
theorem f_Frames_back (T : TX K mg) : FSpec K ["self", "count"] ["self", "count"] "back" "Frames.back" s_Frames_back (He.ma K (He.ga K "Frames") "back") := by
  obtain ⟨fd, F⟩ := t_Frames_back T
  exact ⟨fd, F, F.bindsN fun _ _ _ _ _ _ us hl => match us, hl with | [_, _], _ => rfl, sc_Frames_back⟩
theorem sc_Frames_promised : FnScope ["self"] ["self"] (defScope s_Frames_promised) := ⟨rfl, rfl, rfl, by decide +kernel, rfl, by decide +kernel, by decide +kernel⟩
theorem t_Frames_promised (T : TX K mg) : ∃ fd, FunD K "promised" "Frames.promised" (defArgs s_Frames_promised) (defBody s_Frames_promised) (defScope s_Frames_promised) [] [] (He.ma K (He.ga K "Frames") "promised") fd := T.def_ (i := 2) (j := 10) rfl rfl
theorem f_Frames_promised (T : TX K mg) : FSpec K ["self"] ["self"] "promised" "Frames.promised" s_Frames_promised (He.ma K (He.ga K "Frames") "promised") := by
  obtain ⟨fd, F⟩ := t_Frames_promised T
  exact ⟨fd, F, F.bindsN fun _ _ _ _ _ _ us hl => match us, hl with | [_], _ => rfl, sc_Frames_promised⟩
theorem sc_laid_out : FnScope ["frames", "words", "frame", "cell", "word"] ["frames", "words"] (defScope s_laid_out) := ⟨rfl, rfl, rfl, by decide +kernel, rfl, by decide +kernel, by decide +kernel⟩
theorem t_laid_out (T : TX K mg) : ∃ fd, FunD K "laid_out" "laid_out" (defArgs s_laid_out) (defBody s_laid_out) (defScope s_laid_out) [] [] (He.ga K "laid_out") fd := T.def_ (i := 2) (j := 11) rfl rfl
theorem f_laid_out (T : TX K mg) : FSpec K ["frames", "words", "frame", "cell", "word"] ["frames", "words"] "laid_out" "laid_out" s_laid_out (He.ga K "laid_out") := by
  obtain ⟨fd, F⟩ := t_laid_out T
  exact ⟨fd, F, F.bindsN fun _ _ _ _ _ _ us hl => match us, hl with | [_, _], _ => rfl, sc_laid_out⟩
theorem sc_Parts_init : FnScope ["self", "frames", "pages", "words"] ["self", "frames", "pages"] (defScope s_Parts_init) := ⟨rfl, rfl, rfl, by decide +kernel, rfl, by decide +kernel, by decide +kernel⟩
theorem t_Parts_init (T : TX K mg) : ∃ fd, FunD K "__init__" "Parts.__init__" (defArgs s_Parts_init) (defBody s_Parts_init) (defScope s_Parts_init) [] [] (He.ma K (He.ga K "Parts") "__init__") fd := T.def_ (i := 2) (j := 12) rfl rfl
theorem f_Parts_init (T : TX K mg) : FSpec K ["self", "frames", "pages", "words"] ["self", "frames", "pages"] "__init__" "Parts.__init__" s_Parts_init (He.ma K (He.ga K "Parts") "__init__") := by
  obtain ⟨fd, F⟩ := t_Parts_init T
  exact ⟨fd, F, F.bindsN fun _ _ _ _ _ _ us hl => match us, hl with | [_, _, _], _ => rfl, sc_Parts_init⟩
theorem sc_Parts_size : FnScope ["self"] ["self"] (defScope s_Parts_size) := ⟨rfl, rfl, rfl, by decide +kernel, rfl, by decide +kernel, by decide +kernel⟩
theorem t_Parts_size (T : TX K mg) : ∃ fd, FunD K "size" "Parts.size" (defArgs s_Parts_size) (defBody s_Parts_size) (defScope s_Parts_size) [] [] (He.ma K (He.ga K "Parts") "size") fd := T.def_ (i := 2) (j := 13) rfl rfl
theorem f_Parts_size (T : TX K mg) : FSpec K ["self"] ["self"] "size" "Parts.size" s_Parts_size (He.ma K (He.ga K "Parts") "size") := by
  obtain ⟨fd, F⟩ := t_Parts_size T
  exact ⟨fd, F, F.bindsN fun _ _ _ _ _ _ us hl => match us, hl with | [_], _ => rfl, sc_Parts_size⟩
theorem sc_Parts_frame : FnScope ["self", "page"] ["self", "page"] (defScope s_Parts_frame) := ⟨rfl, rfl, rfl, by decide +kernel, rfl, by decide +kernel, by decide +kernel⟩
theorem t_Parts_frame (T : TX K mg) : ∃ fd, FunD K "frame" "Parts.frame" (defArgs s_Parts_frame) (defBody s_Parts_frame) (defScope s_Parts_frame) [] [] (He.ma K (He.ga K "Parts") "frame") fd := T.def_ (i := 2) (j := 14) rfl rfl
theorem f_Parts_frame (T : TX K mg) : FSpec K ["self", "page"] ["self", "page"] "frame" "Parts.frame" s_Parts_frame (He.ma K (He.ga K "Parts") "frame") := by
  obtain ⟨fd, F⟩ := t_Parts_frame T
  exact ⟨fd, F, F.bindsN fun _ _ _ _ _ _ us hl => match us, hl with | [_, _], _ => rfl, sc_Parts_frame⟩
theorem sc_Parts_need : FnScope ["self", "page"] ["self", "page"] (defScope s_Parts_need) := ⟨rfl, rfl, rfl, by decide +kernel, rfl, by decide +kernel, by decide +kernel⟩
theorem t_Parts_need (T : TX K mg) : ∃ fd, FunD K "need" "Parts.need" (defArgs s_Parts_need) (defBody s_Parts_need) (defScope s_Parts_need) [] [] (He.ma K (He.ga K "Parts") "need") fd := T.def_ (i := 2) (j := 15) rfl rfl
theorem f_Parts_need (T : TX K mg) : FSpec K ["self", "page"] ["self", "page"] "need" "Parts.need" s_Parts_need (He.ma K (He.ga K "Parts") "need") := by
  obtain ⟨fd, F⟩ := t_Parts_need T
  exact ⟨fd, F, F.bindsN fun _ _ _ _ _ _ us hl => match us, hl with | [_, _], _ => rfl, sc_Parts_need⟩
theorem sc_Parts_alone : FnScope ["self", "page", "old"] ["self", "page"] (defScope s_Parts_alone) := ⟨rfl, rfl, rfl, by decide +kernel, rfl, by decide +kernel, by decide +kernel⟩
theorem t_Parts_alone (T : TX K mg) : ∃ fd, FunD K "alone" "Parts.alone" (defArgs s_Parts_alone) (defBody s_Parts_alone) (defScope s_Parts_alone) [] [] (He.ma K (He.ga K "Parts") "alone") fd := T.def_ (i := 2) (j := 16) rfl rfl
theorem f_Parts_alone (T : TX K mg) : FSpec K ["self", "page", "old"] ["self", "page"] "alone" "Parts.alone" s_Parts_alone (He.ma K (He.ga K "Parts") "alone") := by
  obtain ⟨fd, F⟩ := t_Parts_alone T
  exact ⟨fd, F, F.bindsN fun _ _ _ _ _ _ us hl => match us, hl with | [_, _], _ => rfl, sc_Parts_alone⟩
theorem sc_Parts_give : FnScope ["self", "page"] ["self", "page"] (defScope s_Parts_give) := ⟨rfl, rfl, rfl, by decide +kernel, rfl, by decide +kernel, by decide +kernel⟩
theorem t_Parts_give (T : TX K mg) : ∃ fd, FunD K "give" "Parts.give" (defArgs s_Parts_give) (defBody s_Parts_give) (defScope s_Parts_give) [] [] (He.ma K (He.ga K "Parts") "give") fd := T.def_ (i := 2) (j := 17) rfl rfl
theorem f_Parts_give (T : TX K mg) : FSpec K ["self", "page"] ["self", "page"] "give" "Parts.give" s_Parts_give (He.ma K (He.ga K "Parts") "give") := by
  obtain ⟨fd, F⟩ := t_Parts_give T
  exact ⟨fd, F, F.bindsN fun _ _ _ _ _ _ us hl => match us, hl with | [_, _], _ => rfl, sc_Parts_give⟩
theorem sc_Kept_init : FnScope ["self", "frames", "pages", "most", "many", "k", "words"] ["self", "frames", "pages", "most", "many"] (defScope s_Kept_init) := ⟨rfl, rfl, rfl, by decide +kernel, rfl, by decide +kernel, by decide +kernel⟩
theorem t_Kept_init (T : TX K mg) : ∃ fd, FunD K "__init__" "Kept.__init__" (defArgs s_Kept_init) (defBody s_Kept_init) (defScope s_Kept_init) [] [] (He.ma K (He.ga K "Kept") "__init__") fd := T.def_ (i := 2) (j := 18) rfl rfl
theorem f_Kept_init (T : TX K mg) : FSpec K ["self", "frames", "pages", "most", "many", "k", "words"] ["self", "frames", "pages", "most", "many"] "__init__" "Kept.__init__" s_Kept_init (He.ma K (He.ga K "Kept") "__init__") := by
  obtain ⟨fd, F⟩ := t_Kept_init T
  exact ⟨fd, F, F.bindsN fun _ _ _ _ _ _ us hl => match us, hl with | [_, _, _, _, _], _ => rfl, sc_Kept_init⟩
theorem sc_Kept_size : FnScope ["self"] ["self"] (defScope s_Kept_size) := ⟨rfl, rfl, rfl, by decide +kernel, rfl, by decide +kernel, by decide +kernel⟩
theorem t_Kept_size (T : TX K mg) : ∃ fd, FunD K "size" "Kept.size" (defArgs s_Kept_size) (defBody s_Kept_size) (defScope s_Kept_size) [] [] (He.ma K (He.ga K "Kept") "size") fd := T.def_ (i := 2) (j := 19) rfl rfl
theorem f_Kept_size (T : TX K mg) : FSpec K ["self"] ["self"] "size" "Kept.size" s_Kept_size (He.ma K (He.ga K "Kept") "size") := by
  obtain ⟨fd, F⟩ := t_Kept_size T
  exact ⟨fd, F, F.bindsN fun _ _ _ _ _ _ us hl => match us, hl with | [_], _ => rfl, sc_Kept_size⟩
theorem sc_Kept_has : FnScope ["self", "page"] ["self", "page"] (defScope s_Kept_has) := ⟨rfl, rfl, rfl, by decide +kernel, rfl, by decide +kernel, by decide +kernel⟩
theorem t_Kept_has (T : TX K mg) : ∃ fd, FunD K "has" "Kept.has" (defArgs s_Kept_has) (defBody s_Kept_has) (defScope s_Kept_has) [] [] (He.ma K (He.ga K "Kept") "has") fd := T.def_ (i := 2) (j := 20) rfl rfl
theorem f_Kept_has (T : TX K mg) : FSpec K ["self", "page"] ["self", "page"] "has" "Kept.has" s_Kept_has (He.ma K (He.ga K "Kept") "has") := by
  obtain ⟨fd, F⟩ := t_Kept_has T
  exact ⟨fd, F, F.bindsN fun _ _ _ _ _ _ us hl => match us, hl with | [_, _], _ => rfl, sc_Kept_has⟩
theorem sc_Kept_look_for : FnScope ["self", "page", "cell"] ["self", "page", "cell"] (defScope s_Kept_look_for) := ⟨rfl, rfl, rfl, by decide +kernel, rfl, by decide +kernel, by decide +kernel⟩
theorem t_Kept_look_for (T : TX K mg) : ∃ fd, FunD K "look_for" "Kept.look_for" (defArgs s_Kept_look_for) (defBody s_Kept_look_for) (defScope s_Kept_look_for) [] [] (He.ma K (He.ga K "Kept") "look_for") fd := T.def_ (i := 2) (j := 21) rfl rfl
theorem f_Kept_look_for (T : TX K mg) : FSpec K ["self", "page", "cell"] ["self", "page", "cell"] "look_for" "Kept.look_for" s_Kept_look_for (He.ma K (He.ga K "Kept") "look_for") := by
  obtain ⟨fd, F⟩ := t_Kept_look_for T
  exact ⟨fd, F, F.bindsN fun _ _ _ _ _ _ us hl => match us, hl with | [_, _, _], _ => rfl, sc_Kept_look_for⟩
theorem sc_Kept_read : FnScope ["self", "page", "cell"] ["self", "page", "cell"] (defScope s_Kept_read) := ⟨rfl, rfl, rfl, by decide +kernel, rfl, by decide +kernel, by decide +kernel⟩
theorem t_Kept_read (T : TX K mg) : ∃ fd, FunD K "read" "Kept.read" (defArgs s_Kept_read) (defBody s_Kept_read) (defScope s_Kept_read) [] [] (He.ma K (He.ga K "Kept") "read") fd := T.def_ (i := 2) (j := 22) rfl rfl
theorem f_Kept_read (T : TX K mg) : FSpec K ["self", "page", "cell"] ["self", "page", "cell"] "read" "Kept.read" s_Kept_read (He.ma K (He.ga K "Kept") "read") := by
  obtain ⟨fd, F⟩ := t_Kept_read T
  exact ⟨fd, F, F.bindsN fun _ _ _ _ _ _ us hl => match us, hl with | [_, _, _], _ => rfl, sc_Kept_read⟩
theorem sc_Kept_write : FnScope ["self", "page", "cell", "word"] ["self", "page", "cell", "word"] (defScope s_Kept_write) := ⟨rfl, rfl, rfl, by decide +kernel, rfl, by decide +kernel, by decide +kernel⟩
theorem t_Kept_write (T : TX K mg) : ∃ fd, FunD K "write" "Kept.write" (defArgs s_Kept_write) (defBody s_Kept_write) (defScope s_Kept_write) [] [] (He.ma K (He.ga K "Kept") "write") fd := T.def_ (i := 2) (j := 23) rfl rfl
theorem f_Kept_write (T : TX K mg) : FSpec K ["self", "page", "cell", "word"] ["self", "page", "cell", "word"] "write" "Kept.write" s_Kept_write (He.ma K (He.ga K "Kept") "write") := by
  obtain ⟨fd, F⟩ := t_Kept_write T
  exact ⟨fd, F, F.bindsN fun _ _ _ _ _ _ us hl => match us, hl with | [_, _, _, _], _ => rfl, sc_Kept_write⟩
theorem sc_Kept_fetch : FnScope ["self", "page", "cell"] ["self", "page", "cell"] (defScope s_Kept_fetch) := ⟨rfl, rfl, rfl, by decide +kernel, rfl, by decide +kernel, by decide +kernel⟩
theorem t_Kept_fetch (T : TX K mg) : ∃ fd, FunD K "fetch" "Kept.fetch" (defArgs s_Kept_fetch) (defBody s_Kept_fetch) (defScope s_Kept_fetch) [] [] (He.ma K (He.ga K "Kept") "fetch") fd := T.def_ (i := 2) (j := 24) rfl rfl
theorem f_Kept_fetch (T : TX K mg) : FSpec K ["self", "page", "cell"] ["self", "page", "cell"] "fetch" "Kept.fetch" s_Kept_fetch (He.ma K (He.ga K "Kept") "fetch") := by
  obtain ⟨fd, F⟩ := t_Kept_fetch T
  exact ⟨fd, F, F.bindsN fun _ _ _ _ _ _ us hl => match us, hl with | [_, _, _], _ => rfl, sc_Kept_fetch⟩
theorem sc_Kept_deposit : FnScope ["self", "page", "cell", "word"] ["self", "page", "cell", "word"] (defScope s_Kept_deposit) := ⟨rfl, rfl, rfl, by decide +kernel, rfl, by decide +kernel, by decide +kernel⟩
theorem t_Kept_deposit (T : TX K mg) : ∃ fd, FunD K "deposit" "Kept.deposit" (defArgs s_Kept_deposit) (defBody s_Kept_deposit) (defScope s_Kept_deposit) [] [] (He.ma K (He.ga K "Kept") "deposit") fd := T.def_ (i := 2) (j := 25) rfl rfl
theorem f_Kept_deposit (T : TX K mg) : FSpec K ["self", "page", "cell", "word"] ["self", "page", "cell", "word"] "deposit" "Kept.deposit" s_Kept_deposit (He.ma K (He.ga K "Kept") "deposit") := by
  obtain ⟨fd, F⟩ := t_Kept_deposit T
  exact ⟨fd, F, F.bindsN fun _ _ _ _ _ _ us hl => match us, hl with | [_, _, _, _], _ => rfl, sc_Kept_deposit⟩
theorem sc_Kept_put_alone : FnScope ["self", "page"] ["self", "page"] (defScope s_Kept_put_alone) := ⟨rfl, rfl, rfl, by decide +kernel, rfl, by decide +kernel, by decide +kernel⟩
theorem t_Kept_put_alone (T : TX K mg) : ∃ fd, FunD K "put_alone" "Kept.put_alone" (defArgs s_Kept_put_alone) (defBody s_Kept_put_alone) (defScope s_Kept_put_alone) [] [] (He.ma K (He.ga K "Kept") "put_alone") fd := T.def_ (i := 2) (j := 26) rfl rfl
theorem f_Kept_put_alone (T : TX K mg) : FSpec K ["self", "page"] ["self", "page"] "put_alone" "Kept.put_alone" s_Kept_put_alone (He.ma K (He.ga K "Kept") "put_alone") := by
  obtain ⟨fd, F⟩ := t_Kept_put_alone T
  exact ⟨fd, F, F.bindsN fun _ _ _ _ _ _ us hl => match us, hl with | [_, _], _ => rfl, sc_Kept_put_alone⟩
theorem sc_Kept_frame : FnScope ["self", "page"] ["self", "page"] (defScope s_Kept_frame) := ⟨rfl, rfl, rfl, by decide +kernel, rfl, by decide +kernel, by decide +kernel⟩
theorem t_Kept_frame (T : TX K mg) : ∃ fd, FunD K "frame" "Kept.frame" (defArgs s_Kept_frame) (defBody s_Kept_frame) (defScope s_Kept_frame) [] [] (He.ma K (He.ga K "Kept") "frame") fd := T.def_ (i := 2) (j := 27) rfl rfl
theorem f_Kept_frame (T : TX K mg) : FSpec K ["self", "page"] ["self", "page"] "frame" "Kept.frame" s_Kept_frame (He.ma K (He.ga K "Kept") "frame") := by
  obtain ⟨fd, F⟩ := t_Kept_frame T
  exact ⟨fd, F, F.bindsN fun _ _ _ _ _ _ us hl => match us, hl with | [_, _], _ => rfl, sc_Kept_frame⟩
theorem sc_Kept_soiled : FnScope ["self"] ["self"] (defScope s_Kept_soiled) := ⟨rfl, rfl, rfl, by decide +kernel, rfl, by decide +kernel, by decide +kernel⟩
theorem t_Kept_soiled (T : TX K mg) : ∃ fd, FunD K "soiled" "Kept.soiled" (defArgs s_Kept_soiled) (defBody s_Kept_soiled) (defScope s_Kept_soiled) [] [] (He.ma K (He.ga K "Kept") "soiled") fd := T.def_ (i := 2) (j := 28) rfl rfl
theorem f_Kept_soiled (T : TX K mg) : FSpec K ["self"] ["self"] "soiled" "Kept.soiled" s_Kept_soiled (He.ma K (He.ga K "Kept") "soiled") := by
  obtain ⟨fd, F⟩ := t_Kept_soiled T
  exact ⟨fd, F, F.bindsN fun _ _ _ _ _ _ us hl => match us, hl with | [_], _ => rfl, sc_Kept_soiled⟩
theorem sc_Kept_clean : FnScope ["self"] ["self"] (defScope s_Kept_clean) := ⟨rfl, rfl, rfl, by decide +kernel, rfl, by decide +kernel, by decide +kernel⟩
theorem t_Kept_clean (T : TX K mg) : ∃ fd, FunD K "clean" "Kept.clean" (defArgs s_Kept_clean) (defBody s_Kept_clean) (defScope s_Kept_clean) [] [] (He.ma K (He.ga K "Kept") "clean") fd := T.def_ (i := 2) (j := 29) rfl rfl
theorem f_Kept_clean (T : TX K mg) : FSpec K ["self"] ["self"] "clean" "Kept.clean" s_Kept_clean (He.ma K (He.ga K "Kept") "clean") := by
  obtain ⟨fd, F⟩ := t_Kept_clean T
  exact ⟨fd, F, F.bindsN fun _ _ _ _ _ _ us hl => match us, hl with | [_], _ => rfl, sc_Kept_clean⟩
theorem sc_Kept_said : FnScope ["self"] ["self"] (defScope s_Kept_said) := ⟨rfl, rfl, rfl, by decide +kernel, rfl, by decide +kernel, by decide +kernel⟩
theorem t_Kept_said (T : TX K mg) : ∃ fd, FunD K "said" "Kept.said" (defArgs s_Kept_said) (defBody s_Kept_said) (defScope s_Kept_said) [] [] (He.ma K (He.ga K "Kept") "said") fd := T.def_ (i := 3) (j := 0) rfl rfl
theorem f_Kept_said (T : TX K mg) : FSpec K ["self"] ["self"] "said" "Kept.said" s_Kept_said (He.ma K (He.ga K "Kept") "said") := by
  obtain ⟨fd, F⟩ := t_Kept_said T
  exact ⟨fd, F, F.bindsN fun _ _ _ _ _ _ us hl => match us, hl with | [_], _ => rfl, sc_Kept_said⟩
theorem sc_Kept_resume : FnScope ["self", "root", "shelf", "said", "number", "page", "rights"] ["self", "root", "shelf", "said"] (defScope s_Kept_resume) := ⟨rfl, rfl, rfl, by decide +kernel, rfl, by decide +kernel, by decide +kernel⟩
theorem t_Kept_resume (T : TX K mg) : ∃ fd, FunD K "resume" "Kept.resume" (defArgs s_Kept_resume) (defBody s_Kept_resume) (defScope s_Kept_resume) [] [] (He.ma K (He.ga K "Kept") "resume") fd := T.def_ (i := 3) (j := 1) rfl rfl
theorem f_Kept_resume (T : TX K mg) : FSpec K ["self", "root", "shelf", "said", "number", "page", "rights"] ["self", "root", "shelf", "said"] "resume" "Kept.resume" s_Kept_resume (He.ma K (He.ga K "Kept") "resume") := by
  obtain ⟨fd, F⟩ := t_Kept_resume T
  exact ⟨fd, F, F.bindsN fun _ _ _ _ _ _ us hl => match us, hl with | [_, _, _, _], _ => rfl, sc_Kept_resume⟩
theorem sc_Kept_end : FnScope ["self", "here", "page", "frame"] ["self"] (defScope s_Kept_end) := ⟨rfl, rfl, rfl, by decide +kernel, rfl, by decide +kernel, by decide +kernel⟩
theorem t_Kept_end (T : TX K mg) : ∃ fd, FunD K "end" "Kept.end" (defArgs s_Kept_end) (defBody s_Kept_end) (defScope s_Kept_end) [] [] (He.ma K (He.ga K "Kept") "end") fd := T.def_ (i := 3) (j := 2) rfl rfl
theorem f_Kept_end (T : TX K mg) : FSpec K ["self", "here", "page", "frame"] ["self"] "end" "Kept.end" s_Kept_end (He.ma K (He.ga K "Kept") "end") := by
  obtain ⟨fd, F⟩ := t_Kept_end T
  exact ⟨fd, F, F.bindsN fun _ _ _ _ _ _ us hl => match us, hl with | [_], _ => rfl, sc_Kept_end⟩
theorem sc_Pairs_init : FnScope ["self", "frames", "pages", "most", "outer", "table", "page"] ["self", "frames", "pages", "most"] (defScope s_Pairs_init) := ⟨rfl, rfl, rfl, by decide +kernel, rfl, by decide +kernel, by decide +kernel⟩
theorem t_Pairs_init (T : TX K mg) : ∃ fd, FunD K "__init__" "Pairs.__init__" (defArgs s_Pairs_init) (defBody s_Pairs_init) (defScope s_Pairs_init) [] [] (He.ma K (He.ga K "Pairs") "__init__") fd := T.def_ (i := 3) (j := 3) rfl rfl
theorem f_Pairs_init (T : TX K mg) : FSpec K ["self", "frames", "pages", "most", "outer", "table", "page"] ["self", "frames", "pages", "most"] "__init__" "Pairs.__init__" s_Pairs_init (He.ma K (He.ga K "Pairs") "__init__") := by
  obtain ⟨fd, F⟩ := t_Pairs_init T
  exact ⟨fd, F, F.bindsN fun _ _ _ _ _ _ us hl => match us, hl with | [_, _, _, _], _ => rfl, sc_Pairs_init⟩
theorem sc_Pairs_row_at : FnScope ["self", "page"] ["self", "page"] (defScope s_Pairs_row_at) := ⟨rfl, rfl, rfl, by decide +kernel, rfl, by decide +kernel, by decide +kernel⟩
theorem t_Pairs_row_at (T : TX K mg) : ∃ fd, FunD K "row_at" "Pairs.row_at" (defArgs s_Pairs_row_at) (defBody s_Pairs_row_at) (defScope s_Pairs_row_at) [] [] (He.ma K (He.ga K "Pairs") "row_at") fd := T.def_ (i := 3) (j := 4) rfl rfl
theorem f_Pairs_row_at (T : TX K mg) : FSpec K ["self", "page"] ["self", "page"] "row_at" "Pairs.row_at" s_Pairs_row_at (He.ma K (He.ga K "Pairs") "row_at") := by
  obtain ⟨fd, F⟩ := t_Pairs_row_at T
  exact ⟨fd, F, F.bindsN fun _ _ _ _ _ _ us hl => match us, hl with | [_, _], _ => rfl, sc_Pairs_row_at⟩
theorem sc_Pairs_lay_row : FnScope ["self", "page", "row"] ["self", "page", "row"] (defScope s_Pairs_lay_row) := ⟨rfl, rfl, rfl, by decide +kernel, rfl, by decide +kernel, by decide +kernel⟩
theorem t_Pairs_lay_row (T : TX K mg) : ∃ fd, FunD K "lay_row" "Pairs.lay_row" (defArgs s_Pairs_lay_row) (defBody s_Pairs_lay_row) (defScope s_Pairs_lay_row) [] [] (He.ma K (He.ga K "Pairs") "lay_row") fd := T.def_ (i := 3) (j := 5) rfl rfl
theorem f_Pairs_lay_row (T : TX K mg) : FSpec K ["self", "page", "row"] ["self", "page", "row"] "lay_row" "Pairs.lay_row" s_Pairs_lay_row (He.ma K (He.ga K "Pairs") "lay_row") := by
  obtain ⟨fd, F⟩ := t_Pairs_lay_row T
  exact ⟨fd, F, F.bindsN fun _ _ _ _ _ _ us hl => match us, hl with | [_, _, _], _ => rfl, sc_Pairs_lay_row⟩
theorem sc_Pairs_washed : FnScope ["self", "page"] ["self"] (defScope s_Pairs_washed) := ⟨rfl, rfl, rfl, by decide +kernel, rfl, by decide +kernel, by decide +kernel⟩
theorem t_Pairs_washed (T : TX K mg) : ∃ fd, FunD K "washed" "Pairs.washed" (defArgs s_Pairs_washed) (defBody s_Pairs_washed) (defScope s_Pairs_washed) [] [] (He.ma K (He.ga K "Pairs") "washed") fd := T.def_ (i := 3) (j := 6) rfl rfl
theorem f_Pairs_washed (T : TX K mg) : FSpec K ["self", "page"] ["self"] "washed" "Pairs.washed" s_Pairs_washed (He.ma K (He.ga K "Pairs") "washed") := by
  obtain ⟨fd, F⟩ := t_Pairs_washed T
  exact ⟨fd, F, F.bindsN fun _ _ _ _ _ _ us hl => match us, hl with | [_], _ => rfl, sc_Pairs_washed⟩
theorem sc_Pairs_soiled : FnScope ["self", "page"] ["self"] (defScope s_Pairs_soiled) := ⟨rfl, rfl, rfl, by decide +kernel, rfl, by decide +kernel, by decide +kernel⟩
theorem t_Pairs_soiled (T : TX K mg) : ∃ fd, FunD K "soiled" "Pairs.soiled" (defArgs s_Pairs_soiled) (defBody s_Pairs_soiled) (defScope s_Pairs_soiled) [] [] (He.ma K (He.ga K "Pairs") "soiled") fd := T.def_ (i := 3) (j := 7) rfl rfl
theorem f_Pairs_soiled (T : TX K mg) : FSpec K ["self", "page"] ["self"] "soiled" "Pairs.soiled" s_Pairs_soiled (He.ma K (He.ga K "Pairs") "soiled") := by
  obtain ⟨fd, F⟩ := t_Pairs_soiled T
  exact ⟨fd, F, F.bindsN fun _ _ _ _ _ _ us hl => match us, hl with | [_], _ => rfl, sc_Pairs_soiled⟩
theorem sc_Pairs_open_row : FnScope ["self", "page"] ["self", "page"] (defScope s_Pairs_open_row) := ⟨rfl, rfl, rfl, by decide +kernel, rfl, by decide +kernel, by decide +kernel⟩
theorem t_Pairs_open_row (T : TX K mg) : ∃ fd, FunD K "open_row" "Pairs.open_row" (defArgs s_Pairs_open_row) (defBody s_Pairs_open_row) (defScope s_Pairs_open_row) [] [] (He.ma K (He.ga K "Pairs") "open_row") fd := T.def_ (i := 3) (j := 8) rfl rfl
theorem f_Pairs_open_row (T : TX K mg) : FSpec K ["self", "page"] ["self", "page"] "open_row" "Pairs.open_row" s_Pairs_open_row (He.ma K (He.ga K "Pairs") "open_row") := by
  obtain ⟨fd, F⟩ := t_Pairs_open_row T
  exact ⟨fd, F, F.bindsN fun _ _ _ _ _ _ us hl => match us, hl with | [_, _], _ => rfl, sc_Pairs_open_row⟩
theorem sc_Pairs_fetch : FnScope ["self", "page", "cell", "trail"] ["self", "page", "cell"] (defScope s_Pairs_fetch) := ⟨rfl, rfl, rfl, by decide +kernel, rfl, by decide +kernel, by decide +kernel⟩
theorem t_Pairs_fetch (T : TX K mg) : ∃ fd, FunD K "fetch" "Pairs.fetch" (defArgs s_Pairs_fetch) (defBody s_Pairs_fetch) (defScope s_Pairs_fetch) [] [] (He.ma K (He.ga K "Pairs") "fetch") fd := T.def_ (i := 3) (j := 9) rfl rfl
theorem f_Pairs_fetch (T : TX K mg) : FSpec K ["self", "page", "cell", "trail"] ["self", "page", "cell"] "fetch" "Pairs.fetch" s_Pairs_fetch (He.ma K (He.ga K "Pairs") "fetch") := by
  obtain ⟨fd, F⟩ := t_Pairs_fetch T
  exact ⟨fd, F, F.bindsN fun _ _ _ _ _ _ us hl => match us, hl with | [_, _, _], _ => rfl, sc_Pairs_fetch⟩
theorem sc_Pairs_deposit : FnScope ["self", "page", "cell", "word", "trail"] ["self", "page", "cell", "word"] (defScope s_Pairs_deposit) := ⟨rfl, rfl, rfl, by decide +kernel, rfl, by decide +kernel, by decide +kernel⟩
theorem t_Pairs_deposit (T : TX K mg) : ∃ fd, FunD K "deposit" "Pairs.deposit" (defArgs s_Pairs_deposit) (defBody s_Pairs_deposit) (defScope s_Pairs_deposit) [] [] (He.ma K (He.ga K "Pairs") "deposit") fd := T.def_ (i := 3) (j := 10) rfl rfl
theorem f_Pairs_deposit (T : TX K mg) : FSpec K ["self", "page", "cell", "word", "trail"] ["self", "page", "cell", "word"] "deposit" "Pairs.deposit" s_Pairs_deposit (He.ma K (He.ga K "Pairs") "deposit") := by
  obtain ⟨fd, F⟩ := t_Pairs_deposit T
  exact ⟨fd, F, F.bindsN fun _ _ _ _ _ _ us hl => match us, hl with | [_, _, _, _], _ => rfl, sc_Pairs_deposit⟩
theorem sc_Pairs_words_of : FnScope ["self", "page", "frame"] ["self", "page"] (defScope s_Pairs_words_of) := ⟨rfl, rfl, rfl, by decide +kernel, rfl, by decide +kernel, by decide +kernel⟩
theorem t_Pairs_words_of (T : TX K mg) : ∃ fd, FunD K "words_of" "Pairs.words_of" (defArgs s_Pairs_words_of) (defBody s_Pairs_words_of) (defScope s_Pairs_words_of) [] [] (He.ma K (He.ga K "Pairs") "words_of") fd := T.def_ (i := 3) (j := 11) rfl rfl
theorem f_Pairs_words_of (T : TX K mg) : FSpec K ["self", "page", "frame"] ["self", "page"] "words_of" "Pairs.words_of" s_Pairs_words_of (He.ma K (He.ga K "Pairs") "words_of") := by
  obtain ⟨fd, F⟩ := t_Pairs_words_of T
  exact ⟨fd, F, F.bindsN fun _ _ _ _ _ _ us hl => match us, hl with | [_, _], _ => rfl, sc_Pairs_words_of⟩
theorem sc_look_at_shadows : FnScope ["pages", "most", "pool"] ["pages", "most", "pool"] (defScope s_look_at_shadows) := ⟨rfl, rfl, rfl, by decide +kernel, rfl, by decide +kernel, by decide +kernel⟩
theorem t_look_at_shadows (T : TX K mg) : ∃ fd, FunD K "look_at" "look_at" (defArgs s_look_at_shadows) (defBody s_look_at_shadows) (defScope s_look_at_shadows) [] [] (He.ga K "look_at_shadows") fd := T.def_ (i := 3) (j := 12) rfl rfl
theorem f_look_at_shadows (T : TX K mg) : FSpec K ["pages", "most", "pool"] ["pages", "most", "pool"] "look_at" "look_at" s_look_at_shadows (He.ga K "look_at_shadows") := by
  obtain ⟨fd, F⟩ := t_look_at_shadows T
  exact ⟨fd, F, F.bindsN fun _ _ _ _ _ _ us hl => match us, hl with | [_, _, _], _ => rfl, sc_look_at_shadows⟩
theorem sc_Shadows_init : FnScope ["self", "frames", "pages", "most", "pool"] ["self", "frames", "pages", "most", "pool"] (defScope s_Shadows_init) := ⟨rfl, rfl, rfl, by decide +kernel, rfl, by decide +kernel, by decide +kernel⟩
theorem t_Shadows_init (T : TX K mg) : ∃ fd, FunD K "__init__" "Shadows.__init__" (defArgs s_Shadows_init) (defBody s_Shadows_init) (defScope s_Shadows_init) [] [] (He.ma K (He.ga K "Shadows") "__init__") fd := T.def_ (i := 3) (j := 13) rfl rfl
theorem f_Shadows_init (T : TX K mg) : FSpec K ["self", "frames", "pages", "most", "pool"] ["self", "frames", "pages", "most", "pool"] "__init__" "Shadows.__init__" s_Shadows_init (He.ma K (He.ga K "Shadows") "__init__") := by
  obtain ⟨fd, F⟩ := t_Shadows_init T
  exact ⟨fd, F, F.bindsN fun _ _ _ _ _ _ us hl => match us, hl with | [_, _, _, _, _], _ => rfl, sc_Shadows_init⟩
theorem sc_Shadows_low_table : FnScope ["self", "outer", "row"] ["self", "outer"] (defScope s_Shadows_low_table) := ⟨rfl, rfl, rfl, by decide +kernel, rfl, by decide +kernel, by decide +kernel⟩
theorem t_Shadows_low_table (T : TX K mg) : ∃ fd, FunD K "low_table" "Shadows.low_table" (defArgs s_Shadows_low_table) (defBody s_Shadows_low_table) (defScope s_Shadows_low_table) [] [] (He.ma K (He.ga K "Shadows") "low_table") fd := T.def_ (i := 3) (j := 14) rfl rfl
theorem f_Shadows_low_table (T : TX K mg) : FSpec K ["self", "outer", "row"] ["self", "outer"] "low_table" "Shadows.low_table" s_Shadows_low_table (He.ma K (He.ga K "Shadows") "low_table") := by
  obtain ⟨fd, F⟩ := t_Shadows_low_table T
  exact ⟨fd, F, F.bindsN fun _ _ _ _ _ _ us hl => match us, hl with | [_, _], _ => rfl, sc_Shadows_low_table⟩
theorem sc_Shadows_washed : FnScope ["self", "row"] ["self"] (defScope s_Shadows_washed) := ⟨rfl, rfl, rfl, by decide +kernel, rfl, by decide +kernel, by decide +kernel⟩
theorem t_Shadows_washed (T : TX K mg) : ∃ fd, FunD K "washed" "Shadows.washed" (defArgs s_Shadows_washed) (defBody s_Shadows_washed) (defScope s_Shadows_washed) [] [] (He.ma K (He.ga K "Shadows") "washed") fd := T.def_ (i := 3) (j := 15) rfl rfl
theorem f_Shadows_washed (T : TX K mg) : FSpec K ["self", "row"] ["self"] "washed" "Shadows.washed" s_Shadows_washed (He.ma K (He.ga K "Shadows") "washed") := by
  obtain ⟨fd, F⟩ := t_Shadows_washed T
  exact ⟨fd, F, F.bindsN fun _ _ _ _ _ _ us hl => match us, hl with | [_], _ => rfl, sc_Shadows_washed⟩
theorem sc_Shadows_deposit : FnScope ["self", "page", "cell", "word"] ["self", "page", "cell", "word"] (defScope s_Shadows_deposit) := ⟨rfl, rfl, rfl, by decide +kernel, rfl, by decide +kernel, by decide +kernel⟩
theorem t_Shadows_deposit (T : TX K mg) : ∃ fd, FunD K "deposit" "Shadows.deposit" (defArgs s_Shadows_deposit) (defBody s_Shadows_deposit) (defScope s_Shadows_deposit) [] [] (He.ma K (He.ga K "Shadows") "deposit") fd := T.def_ (i := 3) (j := 16) rfl rfl
theorem f_Shadows_deposit (T : TX K mg) : FSpec K ["self", "page", "cell", "word"] ["self", "page", "cell", "word"] "deposit" "Shadows.deposit" s_Shadows_deposit (He.ma K (He.ga K "Shadows") "deposit") := by
  obtain ⟨fd, F⟩ := t_Shadows_deposit T
  exact ⟨fd, F, F.bindsN fun _ _ _ _ _ _ us hl => match us, hl with | [_, _, _, _], _ => rfl, sc_Shadows_deposit⟩
theorem sc_Shadows_rows : FnScope ["self", "found", "outer", "table", "inner", "row"] ["self"] (defScope s_Shadows_rows) := ⟨rfl, rfl, rfl, by decide +kernel, rfl, by decide +kernel, by decide +kernel⟩
theorem t_Shadows_rows (T : TX K mg) : ∃ fd, FunD K "rows" "Shadows.rows" (defArgs s_Shadows_rows) (defBody s_Shadows_rows) (defScope s_Shadows_rows) [] [] (He.ma K (He.ga K "Shadows") "rows") fd := T.def_ (i := 3) (j := 17) rfl rfl
theorem f_Shadows_rows (T : TX K mg) : FSpec K ["self", "found", "outer", "table", "inner", "row"] ["self"] "rows" "Shadows.rows" s_Shadows_rows (He.ma K (He.ga K "Shadows") "rows") := by
  obtain ⟨fd, F⟩ := t_Shadows_rows T
  exact ⟨fd, F, F.bindsN fun _ _ _ _ _ _ us hl => match us, hl with | [_], _ => rfl, sc_Shadows_rows⟩
theorem sc_is_kind : FnScope ["thing"] ["thing"] (defScope s_is_kind) := ⟨rfl, rfl, rfl, by decide +kernel, rfl, by decide +kernel, by decide +kernel⟩
theorem t_is_kind (T : TX K mg) : ∃ fd, FunD K "is_kind" "is_kind" (defArgs s_is_kind) (defBody s_is_kind) (defScope s_is_kind) [] [] (He.ga K "is_kind") fd := T.def_ (i := 3) (j := 18) rfl rfl
theorem f_is_kind (T : TX K mg) : FSpec K ["thing"] ["thing"] "is_kind" "is_kind" s_is_kind (He.ga K "is_kind") := by
  obtain ⟨fd, F⟩ := t_is_kind T
  exact ⟨fd, F, F.bindsN fun _ _ _ _ _ _ us hl => match us, hl with | [_], _ => rfl, sc_is_kind⟩
theorem sc_House_init : FnScope ["self", "many", "pool"] ["self", "many", "pool"] (defScope s_House_init) := ⟨rfl, rfl, rfl, by decide +kernel, rfl, by decide +kernel, by decide +kernel⟩
theorem t_House_init (T : TX K mg) : ∃ fd, FunD K "__init__" "House.__init__" (defArgs s_House_init) (defBody s_House_init) (defScope s_House_init) [V.int 3] [] (He.ma K (He.ga K "House") "__init__") fd := T.def_ (i := 3) (j := 19) rfl rfl
theorem sc_House_look_new : FnScope ["self", "name"] ["self", "name"] (defScope s_House_look_new) := ⟨rfl, rfl, rfl, by decide +kernel, rfl, by decide +kernel, by decide +kernel⟩
theorem t_House_look_new (T : TX K mg) : ∃ fd, FunD K "look_new" "House.look_new" (defArgs s_House_look_new) (defBody s_House_look_new) (defScope s_House_look_new) [] [] (He.ma K (He.ga K "House") "look_new") fd := T.def_ (i := 3) (j := 20) rfl rfl
theorem f_House_look_new (T : TX K mg) : FSpec K ["self", "name"] ["self", "name"] "look_new" "House.look_new" s_House_look_new (He.ma K (He.ga K "House") "look_new") := by
  obtain ⟨fd, F⟩ := t_House_look_new T
  exact ⟨fd, F, F.bindsN fun _ _ _ _ _ _ us hl => match us, hl with | [_, _], _ => rfl, sc_House_look_new⟩
theorem sc_House_look_there : FnScope ["self", "name"] ["self", "name"] (defScope s_House_look_there) := ⟨rfl, rfl, rfl, by decide +kernel, rfl, by decide +kernel, by decide +kernel⟩
theorem t_House_look_there (T : TX K mg) : ∃ fd, FunD K "look_there" "House.look_there" (defArgs s_House_look_there) (defBody s_House_look_there) (defScope s_House_look_there) [] [] (He.ma K (He.ga K "House") "look_there") fd := T.def_ (i := 3) (j := 21) rfl rfl
theorem f_House_look_there (T : TX K mg) : FSpec K ["self", "name"] ["self", "name"] "look_there" "House.look_there" s_House_look_there (He.ma K (He.ga K "House") "look_there") := by
  obtain ⟨fd, F⟩ := t_House_look_there T
  exact ⟨fd, F, F.bindsN fun _ _ _ _ _ _ us hl => match us, hl with | [_, _], _ => rfl, sc_House_look_there⟩
theorem sc_House_made : FnScope ["self", "kind", "pages", "most"] ["self", "kind", "pages", "most"] (defScope s_House_made) := ⟨rfl, rfl, rfl, by decide +kernel, rfl, by decide +kernel, by decide +kernel⟩
theorem t_House_made (T : TX K mg) : ∃ fd, FunD K "made" "House.made" (defArgs s_House_made) (defBody s_House_made) (defScope s_House_made) [] [] (He.ma K (He.ga K "House") "made") fd := T.def_ (i := 3) (j := 22) rfl rfl
theorem f_House_made (T : TX K mg) : FSpec K ["self", "kind", "pages", "most"] ["self", "kind", "pages", "most"] "made" "House.made" s_House_made (He.ma K (He.ga K "House") "made") := by
  obtain ⟨fd, F⟩ := t_House_made T
  exact ⟨fd, F, F.bindsN fun _ _ _ _ _ _ us hl => match us, hl with | [_, _, _, _], _ => rfl, sc_House_made⟩
theorem sc_House_start : FnScope ["self", "name", "way", "pages", "most", "program", "entry", "store"] ["self", "name", "way", "pages", "most", "program", "entry"] (defScope s_House_start) := ⟨rfl, rfl, rfl, by decide +kernel, rfl, by decide +kernel, by decide +kernel⟩
theorem t_House_start (T : TX K mg) : ∃ fd, FunD K "start" "House.start" (defArgs s_House_start) (defBody s_House_start) (defScope s_House_start) [] [] (He.ma K (He.ga K "House") "start") fd := T.def_ (i := 3) (j := 23) rfl rfl
theorem f_House_start (T : TX K mg) : FSpec K ["self", "name", "way", "pages", "most", "program", "entry", "store"] ["self", "name", "way", "pages", "most", "program", "entry"] "start" "House.start" s_House_start (He.ma K (He.ga K "House") "start") := by
  obtain ⟨fd, F⟩ := t_House_start T
  exact ⟨fd, F, F.bindsN fun _ _ _ _ _ _ us hl => match us, hl with | [_, _, _, _, _, _, _], _ => rfl, sc_House_start⟩
theorem sc_House_end : FnScope ["self", "name"] ["self", "name"] (defScope s_House_end) := ⟨rfl, rfl, rfl, by decide +kernel, rfl, by decide +kernel, by decide +kernel⟩
theorem t_House_end (T : TX K mg) : ∃ fd, FunD K "end" "House.end" (defArgs s_House_end) (defBody s_House_end) (defScope s_House_end) [] [] (He.ma K (He.ga K "House") "end") fd := T.def_ (i := 3) (j := 24) rfl rfl
theorem f_House_end (T : TX K mg) : FSpec K ["self", "name"] ["self", "name"] "end" "House.end" s_House_end (He.ma K (He.ga K "House") "end") := by
  obtain ⟨fd, F⟩ := t_House_end T
  exact ⟨fd, F, F.bindsN fun _ _ _ _ _ _ us hl => match us, hl with | [_, _], _ => rfl, sc_House_end⟩
theorem sc_House_turn : FnScope ["self", "name", "steps"] ["self", "name", "steps"] (defScope s_House_turn) := ⟨rfl, rfl, rfl, by decide +kernel, rfl, by decide +kernel, by decide +kernel⟩
theorem t_House_turn (T : TX K mg) : ∃ fd, FunD K "turn" "House.turn" (defArgs s_House_turn) (defBody s_House_turn) (defScope s_House_turn) [] [] (He.ma K (He.ga K "House") "turn") fd := T.def_ (i := 3) (j := 25) rfl rfl
theorem f_House_turn (T : TX K mg) : FSpec K ["self", "name", "steps"] ["self", "name", "steps"] "turn" "House.turn" s_House_turn (He.ma K (He.ga K "House") "turn") := by
  obtain ⟨fd, F⟩ := t_House_turn T
  exact ⟨fd, F, F.bindsN fun _ _ _ _ _ _ us hl => match us, hl with | [_, _, _], _ => rfl, sc_House_turn⟩
theorem sc_House_names : FnScope ["self"] ["self"] (defScope s_House_names) := ⟨rfl, rfl, rfl, by decide +kernel, rfl, by decide +kernel, by decide +kernel⟩
theorem t_House_names (T : TX K mg) : ∃ fd, FunD K "names" "House.names" (defArgs s_House_names) (defBody s_House_names) (defScope s_House_names) [] [] (He.ma K (He.ga K "House") "names") fd := T.def_ (i := 3) (j := 26) rfl rfl
theorem f_House_names (T : TX K mg) : FSpec K ["self"] ["self"] "names" "House.names" s_House_names (He.ma K (He.ga K "House") "names") := by
  obtain ⟨fd, F⟩ := t_House_names T
  exact ⟨fd, F, F.bindsN fun _ _ _ _ _ _ us hl => match us, hl with | [_], _ => rfl, sc_House_names⟩
theorem sc_House_told : FnScope ["self", "name"] ["self", "name"] (defScope s_House_told) := ⟨rfl, rfl, rfl, by decide +kernel, rfl, by decide +kernel, by decide +kernel⟩
theorem t_House_told (T : TX K mg) : ∃ fd, FunD K "told" "House.told" (defArgs s_House_told) (defBody s_House_told) (defScope s_House_told) [] [] (He.ma K (He.ga K "House") "told") fd := T.def_ (i := 3) (j := 27) rfl rfl
theorem f_House_told (T : TX K mg) : FSpec K ["self", "name"] ["self", "name"] "told" "House.told" s_House_told (He.ma K (He.ga K "House") "told") := by
  obtain ⟨fd, F⟩ := t_House_told T
  exact ⟨fd, F, F.bindsN fun _ _ _ _ _ _ us hl => match us, hl with | [_, _], _ => rfl, sc_House_told⟩
theorem sc_House_events : FnScope ["self", "name"] ["self", "name"] (defScope s_House_events) := ⟨rfl, rfl, rfl, by decide +kernel, rfl, by decide +kernel, by decide +kernel⟩
theorem t_House_events (T : TX K mg) : ∃ fd, FunD K "events" "House.events" (defArgs s_House_events) (defBody s_House_events) (defScope s_House_events) [] [] (He.ma K (He.ga K "House") "events") fd := T.def_ (i := 3) (j := 28) rfl rfl
theorem f_House_events (T : TX K mg) : FSpec K ["self", "name"] ["self", "name"] "events" "House.events" s_House_events (He.ma K (He.ga K "House") "events") := by
  obtain ⟨fd, F⟩ := t_House_events T
  exact ⟨fd, F, F.bindsN fun _ _ _ _ _ _ us hl => match us, hl with | [_, _], _ => rfl, sc_House_events⟩
theorem sc_House_words : FnScope ["self", "name"] ["self", "name"] (defScope s_House_words) := ⟨rfl, rfl, rfl, by decide +kernel, rfl, by decide +kernel, by decide +kernel⟩
theorem t_House_words (T : TX K mg) : ∃ fd, FunD K "words" "House.words" (defArgs s_House_words) (defBody s_House_words) (defScope s_House_words) [] [] (He.ma K (He.ga K "House") "words") fd := T.def_ (i := 3) (j := 29) rfl rfl
theorem f_House_words (T : TX K mg) : FSpec K ["self", "name"] ["self", "name"] "words" "House.words" s_House_words (He.ma K (He.ga K "House") "words") := by
  obtain ⟨fd, F⟩ := t_House_words T
  exact ⟨fd, F, F.bindsN fun _ _ _ _ _ _ us hl => match us, hl with | [_, _], _ => rfl, sc_House_words⟩
theorem sc_House_way : FnScope ["self", "name"] ["self", "name"] (defScope s_House_way) := ⟨rfl, rfl, rfl, by decide +kernel, rfl, by decide +kernel, by decide +kernel⟩
theorem t_House_way (T : TX K mg) : ∃ fd, FunD K "way" "House.way" (defArgs s_House_way) (defBody s_House_way) (defScope s_House_way) [] [] (He.ma K (He.ga K "House") "way") fd := T.def_ (i := 4) (j := 0) rfl rfl
theorem f_House_way (T : TX K mg) : FSpec K ["self", "name"] ["self", "name"] "way" "House.way" s_House_way (He.ma K (He.ga K "House") "way") := by
  obtain ⟨fd, F⟩ := t_House_way T
  exact ⟨fd, F, F.bindsN fun _ _ _ _ _ _ us hl => match us, hl with | [_, _], _ => rfl, sc_House_way⟩
theorem sc_House_shelf_size : FnScope ["self", "name"] ["self", "name"] (defScope s_House_shelf_size) := ⟨rfl, rfl, rfl, by decide +kernel, rfl, by decide +kernel, by decide +kernel⟩
theorem t_House_shelf_size (T : TX K mg) : ∃ fd, FunD K "shelf_size" "House.shelf_size" (defArgs s_House_shelf_size) (defBody s_House_shelf_size) (defScope s_House_shelf_size) [] [] (He.ma K (He.ga K "House") "shelf_size") fd := T.def_ (i := 4) (j := 1) rfl rfl
theorem f_House_shelf_size (T : TX K mg) : FSpec K ["self", "name"] ["self", "name"] "shelf_size" "House.shelf_size" s_House_shelf_size (He.ma K (He.ga K "House") "shelf_size") := by
  obtain ⟨fd, F⟩ := t_House_shelf_size T
  exact ⟨fd, F, F.bindsN fun _ _ _ _ _ _ us hl => match us, hl with | [_, _], _ => rfl, sc_House_shelf_size⟩
theorem sc_House_kept : FnScope ["self", "name"] ["self", "name"] (defScope s_House_kept) := ⟨rfl, rfl, rfl, by decide +kernel, rfl, by decide +kernel, by decide +kernel⟩
theorem t_House_kept (T : TX K mg) : ∃ fd, FunD K "kept" "House.kept" (defArgs s_House_kept) (defBody s_House_kept) (defScope s_House_kept) [] [] (He.ma K (He.ga K "House") "kept") fd := T.def_ (i := 4) (j := 2) rfl rfl
theorem f_House_kept (T : TX K mg) : FSpec K ["self", "name"] ["self", "name"] "kept" "House.kept" s_House_kept (He.ma K (He.ga K "House") "kept") := by
  obtain ⟨fd, F⟩ := t_House_kept T
  exact ⟨fd, F, F.bindsN fun _ _ _ _ _ _ us hl => match us, hl with | [_, _], _ => rfl, sc_House_kept⟩
theorem sc_House_machine : FnScope ["self", "name"] ["self", "name"] (defScope s_House_machine) := ⟨rfl, rfl, rfl, by decide +kernel, rfl, by decide +kernel, by decide +kernel⟩
theorem t_House_machine (T : TX K mg) : ∃ fd, FunD K "machine" "House.machine" (defArgs s_House_machine) (defBody s_House_machine) (defScope s_House_machine) [] [] (He.ma K (He.ga K "House") "machine") fd := T.def_ (i := 4) (j := 3) rfl rfl
theorem f_House_machine (T : TX K mg) : FSpec K ["self", "name"] ["self", "name"] "machine" "House.machine" s_House_machine (He.ma K (He.ga K "House") "machine") := by
  obtain ⟨fd, F⟩ := t_House_machine T
  exact ⟨fd, F, F.bindsN fun _ _ _ _ _ _ us hl => match us, hl with | [_, _], _ => rfl, sc_House_machine⟩
theorem sc_House_free : FnScope ["self"] ["self"] (defScope s_House_free) := ⟨rfl, rfl, rfl, by decide +kernel, rfl, by decide +kernel, by decide +kernel⟩
theorem t_House_free (T : TX K mg) : ∃ fd, FunD K "free" "House.free" (defArgs s_House_free) (defBody s_House_free) (defScope s_House_free) [] [] (He.ma K (He.ga K "House") "free") fd := T.def_ (i := 4) (j := 4) rfl rfl
theorem f_House_free (T : TX K mg) : FSpec K ["self"] ["self"] "free" "House.free" s_House_free (He.ma K (He.ga K "House") "free") := by
  obtain ⟨fd, F⟩ := t_House_free T
  exact ⟨fd, F, F.bindsN fun _ _ _ _ _ _ us hl => match us, hl with | [_], _ => rfl, sc_House_free⟩
theorem sc_House_promised : FnScope ["self"] ["self"] (defScope s_House_promised) := ⟨rfl, rfl, rfl, by decide +kernel, rfl, by decide +kernel, by decide +kernel⟩
theorem t_House_promised (T : TX K mg) : ∃ fd, FunD K "promised" "House.promised" (defArgs s_House_promised) (defBody s_House_promised) (defScope s_House_promised) [] [] (He.ma K (He.ga K "House") "promised") fd := T.def_ (i := 4) (j := 5) rfl rfl
theorem f_House_promised (T : TX K mg) : FSpec K ["self"] ["self"] "promised" "House.promised" s_House_promised (He.ma K (He.ga K "House") "promised") := by
  obtain ⟨fd, F⟩ := t_House_promised T
  exact ⟨fd, F, F.bindsN fun _ _ _ _ _ _ us hl => match us, hl with | [_], _ => rfl, sc_House_promised⟩
theorem sc_House_expect : FnScope ["self", "name", "way", "size", "most", "store", "page"] ["self", "name", "way", "size", "most"] (defScope s_House_expect) := ⟨rfl, rfl, rfl, by decide +kernel, rfl, by decide +kernel, by decide +kernel⟩
theorem t_House_expect (T : TX K mg) : ∃ fd, FunD K "expect" "House.expect" (defArgs s_House_expect) (defBody s_House_expect) (defScope s_House_expect) [] [] (He.ma K (He.ga K "House") "expect") fd := T.def_ (i := 4) (j := 6) rfl rfl
theorem f_House_expect (T : TX K mg) : FSpec K ["self", "name", "way", "size", "most", "store", "page"] ["self", "name", "way", "size", "most"] "expect" "House.expect" s_House_expect (He.ma K (He.ga K "House") "expect") := by
  obtain ⟨fd, F⟩ := t_House_expect T
  exact ⟨fd, F, F.bindsN fun _ _ _ _ _ _ us hl => match us, hl with | [_, _, _, _, _], _ => rfl, sc_House_expect⟩
theorem sc_House_admit : FnScope ["self", "name", "machine", "kind", "store", "most"] ["self", "name", "machine"] (defScope s_House_admit) := ⟨rfl, rfl, rfl, by decide +kernel, rfl, by decide +kernel, by decide +kernel⟩
theorem t_House_admit (T : TX K mg) : ∃ fd, FunD K "admit" "House.admit" (defArgs s_House_admit) (defBody s_House_admit) (defScope s_House_admit) [] [] (He.ma K (He.ga K "House") "admit") fd := T.def_ (i := 4) (j := 7) rfl rfl
theorem f_House_admit (T : TX K mg) : FSpec K ["self", "name", "machine", "kind", "store", "most"] ["self", "name", "machine"] "admit" "House.admit" s_House_admit (He.ma K (He.ga K "House") "admit") := by
  obtain ⟨fd, F⟩ := t_House_admit T
  exact ⟨fd, F, F.bindsN fun _ _ _ _ _ _ us hl => match us, hl with | [_, _, _], _ => rfl, sc_House_admit⟩
theorem sc_House_forgo : FnScope ["self", "name"] ["self", "name"] (defScope s_House_forgo) := ⟨rfl, rfl, rfl, by decide +kernel, rfl, by decide +kernel, by decide +kernel⟩
theorem t_House_forgo (T : TX K mg) : ∃ fd, FunD K "forgo" "House.forgo" (defArgs s_House_forgo) (defBody s_House_forgo) (defScope s_House_forgo) [] [] (He.ma K (He.ga K "House") "forgo") fd := T.def_ (i := 4) (j := 8) rfl rfl
theorem f_House_forgo (T : TX K mg) : FSpec K ["self", "name"] ["self", "name"] "forgo" "House.forgo" s_House_forgo (He.ma K (He.ga K "House") "forgo") := by
  obtain ⟨fd, F⟩ := t_House_forgo T
  exact ⟨fd, F, F.bindsN fun _ _ _ _ _ _ us hl => match us, hl with | [_, _], _ => rfl, sc_House_forgo⟩
theorem sc_House_bind : FnScope ["self", "name"] ["self", "name"] (defScope s_House_bind) := ⟨rfl, rfl, rfl, by decide +kernel, rfl, by decide +kernel, by decide +kernel⟩
theorem t_House_bind (T : TX K mg) : ∃ fd, FunD K "bind" "House.bind" (defArgs s_House_bind) (defBody s_House_bind) (defScope s_House_bind) [] [] (He.ma K (He.ga K "House") "bind") fd := T.def_ (i := 4) (j := 9) rfl rfl
theorem f_House_bind (T : TX K mg) : FSpec K ["self", "name"] ["self", "name"] "bind" "House.bind" s_House_bind (He.ma K (He.ga K "House") "bind") := by
  obtain ⟨fd, F⟩ := t_House_bind T
  exact ⟨fd, F, F.bindsN fun _ _ _ _ _ _ us hl => match us, hl with | [_, _], _ => rfl, sc_House_bind⟩
theorem sc_House_unbind : FnScope ["self", "name"] ["self", "name"] (defScope s_House_unbind) := ⟨rfl, rfl, rfl, by decide +kernel, rfl, by decide +kernel, by decide +kernel⟩
theorem t_House_unbind (T : TX K mg) : ∃ fd, FunD K "unbind" "House.unbind" (defArgs s_House_unbind) (defBody s_House_unbind) (defScope s_House_unbind) [] [] (He.ma K (He.ga K "House") "unbind") fd := T.def_ (i := 4) (j := 10) rfl rfl
theorem f_House_unbind (T : TX K mg) : FSpec K ["self", "name"] ["self", "name"] "unbind" "House.unbind" s_House_unbind (He.ma K (He.ga K "House") "unbind") := by
  obtain ⟨fd, F⟩ := t_House_unbind T
  exact ⟨fd, F, F.bindsN fun _ _ _ _ _ _ us hl => match us, hl with | [_, _], _ => rfl, sc_House_unbind⟩
theorem sc_law_cell_at : FnScope ["_law_script", "_law_k"] ["_law_script", "_law_k"] (defScope s_law_cell_at) := ⟨rfl, rfl, rfl, by decide +kernel, rfl, by decide +kernel, by decide +kernel⟩
theorem t_law_cell_at (T : TX K mg) : ∃ fd, FunD K "_law_cell_at" "_law_cell_at" (defArgs s_law_cell_at) (defBody s_law_cell_at) (defScope s_law_cell_at) [] [] (He.ga K "_law_cell_at") fd := T.def_ (i := 4) (j := 11) rfl rfl
theorem f_law_cell_at (T : TX K mg) : FSpec K ["_law_script", "_law_k"] ["_law_script", "_law_k"] "_law_cell_at" "_law_cell_at" s_law_cell_at (He.ga K "_law_cell_at") := by
  obtain ⟨fd, F⟩ := t_law_cell_at T
  exact ⟨fd, F, F.bindsN fun _ _ _ _ _ _ us hl => match us, hl with | [_, _], _ => rfl, sc_law_cell_at⟩
theorem sc_law_mix : FnScope ["_law_cell", "_law_by", "_law_many"] ["_law_cell", "_law_by", "_law_many"] (defScope s_law_mix) := ⟨rfl, rfl, rfl, by decide +kernel, rfl, by decide +kernel, by decide +kernel⟩
theorem t_law_mix (T : TX K mg) : ∃ fd, FunD K "_law_mix" "_law_mix" (defArgs s_law_mix) (defBody s_law_mix) (defScope s_law_mix) [] [] (He.ga K "_law_mix") fd := T.def_ (i := 4) (j := 12) rfl rfl
theorem f_law_mix (T : TX K mg) : FSpec K ["_law_cell", "_law_by", "_law_many"] ["_law_cell", "_law_by", "_law_many"] "_law_mix" "_law_mix" s_law_mix (He.ga K "_law_mix") := by
  obtain ⟨fd, F⟩ := t_law_mix T
  exact ⟨fd, F, F.bindsN fun _ _ _ _ _ _ us hl => match us, hl with | [_, _, _], _ => rfl, sc_law_mix⟩
theorem sc_law_kinds : FnScope ["_law_e", "_law_some"] ["_law_e"] (defScope s_law_kinds) := ⟨rfl, rfl, rfl, by decide +kernel, rfl, by decide +kernel, by decide +kernel⟩
theorem t_law_kinds (T : TX K mg) : ∃ fd, FunD K "_law_kinds" "_law_kinds" (defArgs s_law_kinds) (defBody s_law_kinds) (defScope s_law_kinds) [] [] (He.ga K "_law_kinds") fd := T.def_ (i := 4) (j := 13) rfl rfl
theorem f_law_kinds (T : TX K mg) : FSpec K ["_law_e", "_law_some"] ["_law_e"] "_law_kinds" "_law_kinds" s_law_kinds (He.ga K "_law_kinds") := by
  obtain ⟨fd, F⟩ := t_law_kinds T
  exact ⟨fd, F, F.bindsN fun _ _ _ _ _ _ us hl => match us, hl with | [_], _ => rfl, sc_law_kinds⟩
theorem sc_law_do : FnScope ["_law_move", "_law_houses", "_law_word"] ["_law_move", "_law_houses", "_law_word"] (defScope s_law_do) := ⟨rfl, rfl, rfl, by decide +kernel, rfl, by decide +kernel, by decide +kernel⟩
theorem t_law_do (T : TX K mg) : ∃ fd, FunD K "_law_do" "_law_do" (defArgs s_law_do) (defBody s_law_do) (defScope s_law_do) [] [] (He.ga K "_law_do") fd := T.def_ (i := 4) (j := 14) rfl rfl
theorem f_law_do (T : TX K mg) : FSpec K ["_law_move", "_law_houses", "_law_word"] ["_law_move", "_law_houses", "_law_word"] "_law_do" "_law_do" s_law_do (He.ga K "_law_do") := by
  obtain ⟨fd, F⟩ := t_law_do T
  exact ⟨fd, F, F.bindsN fun _ _ _ _ _ _ us hl => match us, hl with | [_, _, _], _ => rfl, sc_law_do⟩
theorem sc_law_refused : FnScope ["_law_move", "_law_houses", "_law_word", "_law_over", "_law_kinds_here", "_law_e"] ["_law_move", "_law_houses", "_law_word", "_law_over"] (defScope s_law_refused) := ⟨rfl, rfl, rfl, by decide +kernel, rfl, by decide +kernel, by decide +kernel⟩
theorem t_law_refused (T : TX K mg) : ∃ fd, FunD K "_law_refused" "_law_refused" (defArgs s_law_refused) (defBody s_law_refused) (defScope s_law_refused) [] [] (He.ga K "_law_refused") fd := T.def_ (i := 4) (j := 15) rfl rfl
theorem f_law_refused (T : TX K mg) : FSpec K ["_law_move", "_law_houses", "_law_word", "_law_over", "_law_kinds_here", "_law_e"] ["_law_move", "_law_houses", "_law_word", "_law_over"] "_law_refused" "_law_refused" s_law_refused (He.ga K "_law_refused") := by
  obtain ⟨fd, F⟩ := t_law_refused T
  exact ⟨fd, F, F.bindsN fun _ _ _ _ _ _ us hl => match us, hl with | [_, _, _, _], _ => rfl, sc_law_refused⟩
theorem sc_law_state : FnScope ["_law_house", "_law_told", "_law_name"] ["_law_house"] (defScope s_law_state) := ⟨rfl, rfl, rfl, by decide +kernel, rfl, by decide +kernel, by decide +kernel⟩
theorem t_law_state (T : TX K mg) : ∃ fd, FunD K "_law_state" "_law_state" (defArgs s_law_state) (defBody s_law_state) (defScope s_law_state) [] [] (He.ga K "_law_state") fd := T.def_ (i := 4) (j := 16) rfl rfl
theorem f_law_state (T : TX K mg) : FSpec K ["_law_house", "_law_told", "_law_name"] ["_law_house"] "_law_state" "_law_state" s_law_state (He.ga K "_law_state") := by
  obtain ⟨fd, F⟩ := t_law_state T
  exact ⟨fd, F, F.bindsN fun _ _ _ _ _ _ us hl => match us, hl with | [_], _ => rfl, sc_law_state⟩
theorem sc_law_guest : FnScope ["_law_script", "_law_size", "_law_cells", "_law_program", "_law_cell", "_law_spot"] ["_law_script", "_law_size"] (defScope s_law_guest) := ⟨rfl, rfl, rfl, by decide +kernel, rfl, by decide +kernel, by decide +kernel⟩
theorem t_law_guest (T : TX K mg) : ∃ fd, FunD K "_law_guest" "_law_guest" (defArgs s_law_guest) (defBody s_law_guest) (defScope s_law_guest) [] [] (He.ga K "_law_guest") fd := T.def_ (i := 4) (j := 17) rfl rfl
theorem f_law_guest (T : TX K mg) : FSpec K ["_law_script", "_law_size", "_law_cells", "_law_program", "_law_cell", "_law_spot"] ["_law_script", "_law_size"] "_law_guest" "_law_guest" s_law_guest (He.ga K "_law_guest") := by
  obtain ⟨fd, F⟩ := t_law_guest T
  exact ⟨fd, F, F.bindsN fun _ _ _ _ _ _ us hl => match us, hl with | [_, _], _ => rfl, sc_law_guest⟩
theorem sc_law_rounds : FnScope ["_law_move", "_law_houses", "_law_cell", "_law_rounds_here", "_law_steps", "_law_asked", "_law_k", "_law_j"] ["_law_move", "_law_houses", "_law_cell", "_law_rounds_here", "_law_steps"] (defScope s_law_rounds) := ⟨rfl, rfl, rfl, by decide +kernel, rfl, by decide +kernel, by decide +kernel⟩
theorem t_law_rounds (T : TX K mg) : ∃ fd, FunD K "_law_rounds" "_law_rounds" (defArgs s_law_rounds) (defBody s_law_rounds) (defScope s_law_rounds) [] [] (He.ga K "_law_rounds") fd := T.def_ (i := 4) (j := 18) rfl rfl
theorem f_law_rounds (T : TX K mg) : FSpec K ["_law_move", "_law_houses", "_law_cell", "_law_rounds_here", "_law_steps", "_law_asked", "_law_k", "_law_j"] ["_law_move", "_law_houses", "_law_cell", "_law_rounds_here", "_law_steps"] "_law_rounds" "_law_rounds" s_law_rounds (He.ga K "_law_rounds") := by
  obtain ⟨fd, F⟩ := t_law_rounds T
  exact ⟨fd, F, F.bindsN fun _ _ _ _ _ _ us hl => match us, hl with | [_, _, _, _, _], _ => rfl, sc_law_rounds⟩
theorem sc_law_behind : FnScope ["_law_move", "_law_houses", "_law_cell", "_law_before", "_law_words", "_law_k", "_law_house"] ["_law_move", "_law_houses", "_law_cell"] (defScope s_law_behind) := ⟨rfl, rfl, rfl, by decide +kernel, rfl, by decide +kernel, by decide +kernel⟩
theorem t_law_behind (T : TX K mg) : ∃ fd, FunD K "_law_behind" "_law_behind" (defArgs s_law_behind) (defBody s_law_behind) (defScope s_law_behind) [] [] (He.ga K "_law_behind") fd := T.def_ (i := 4) (j := 19) rfl rfl
theorem f_law_behind (T : TX K mg) : FSpec K ["_law_move", "_law_houses", "_law_cell", "_law_before", "_law_words", "_law_k", "_law_house"] ["_law_move", "_law_houses", "_law_cell"] "_law_behind" "_law_behind" s_law_behind (He.ga K "_law_behind") := by
  obtain ⟨fd, F⟩ := t_law_behind T
  exact ⟨fd, F, F.bindsN fun _ _ _ _ _ _ us hl => match us, hl with | [_, _, _], _ => rfl, sc_law_behind⟩
theorem sc_law_as_if : FnScope ["_law_house", "_law_twin", "_law_steps", "_law_total"] ["_law_house", "_law_twin", "_law_steps"] (defScope s_law_as_if) := ⟨rfl, rfl, rfl, by decide +kernel, rfl, by decide +kernel, by decide +kernel⟩
theorem t_law_as_if (T : TX K mg) : ∃ fd, FunD K "_law_as_if" "_law_as_if" (defArgs s_law_as_if) (defBody s_law_as_if) (defScope s_law_as_if) [] [] (He.ga K "_law_as_if") fd := T.def_ (i := 4) (j := 20) rfl rfl
theorem f_law_as_if (T : TX K mg) : FSpec K ["_law_house", "_law_twin", "_law_steps", "_law_total"] ["_law_house", "_law_twin", "_law_steps"] "_law_as_if" "_law_as_if" s_law_as_if (He.ga K "_law_as_if") := by
  obtain ⟨fd, F⟩ := t_law_as_if T
  exact ⟨fd, F, F.bindsN fun _ _ _ _ _ _ us hl => match us, hl with | [_, _, _], _ => rfl, sc_law_as_if⟩
theorem sc_law_moved : FnScope ["_law_houses", "_law_twin", "_law_cell", "_law_steps", "_law_rounds_here", "_law_way", "_law_before", "_law_move"] ["_law_houses", "_law_twin", "_law_cell", "_law_steps"] (defScope s_law_moved) := ⟨rfl, rfl, rfl, by decide +kernel, rfl, by decide +kernel, by decide +kernel⟩
theorem t_law_moved (T : TX K mg) : ∃ fd, FunD K "_law_moved" "_law_moved" (defArgs s_law_moved) (defBody s_law_moved) (defScope s_law_moved) [] [] (He.ga K "_law_moved") fd := T.def_ (i := 4) (j := 21) rfl rfl
theorem f_law_moved (T : TX K mg) : FSpec K ["_law_houses", "_law_twin", "_law_cell", "_law_steps", "_law_rounds_here", "_law_way", "_law_before", "_law_move"] ["_law_houses", "_law_twin", "_law_cell", "_law_steps"] "_law_moved" "_law_moved" s_law_moved (He.ga K "_law_moved") := by
  obtain ⟨fd, F⟩ := t_law_moved T
  exact ⟨fd, F, F.bindsN fun _ _ _ _ _ _ us hl => match us, hl with | [_, _, _, _], _ => rfl, sc_law_moved⟩
theorem sc_law : FnScope ["_law_script", "_law_size", "_law_pages", "_law_program", "_law_houses", "_law_twin", "_law_way", "_law_steps", "_law_cell", "_law_k"] ["_law_script"] (defScope s_law) := ⟨rfl, rfl, rfl, by decide +kernel, rfl, by decide +kernel, by decide +kernel⟩
theorem t_law (T : TX K mg) : ∃ fd, FunD K "law" "law" (defArgs s_law) (defBody s_law) (defScope s_law) [] [] (He.ga K "law") fd := T.def_ (i := 4) (j := 22) rfl rfl
theorem f_law (T : TX K mg) : FSpec K ["_law_script", "_law_size", "_law_pages", "_law_program", "_law_houses", "_law_twin", "_law_way", "_law_steps", "_law_cell", "_law_k"] ["_law_script"] "law" "law" s_law (He.ga K "law") := by
  obtain ⟨fd, F⟩ := t_law T
  exact ⟨fd, F, F.bindsN fun _ _ _ _ _ _ us hl => match us, hl with | [_], _ => rfl, sc_law⟩
end SP

/-! A4 -/
set_option maxHeartbeats 4100000
namespace SP
open PySem PySem.Spec PyProof.Rows L2 L2H

/-! ### short rules -/
theorem bb_isinstance : bootBuiltins "isinstance" = some (.builtin "isinstance") := by decide +kernel
theorem bb_all : bootBuiltins "all" = some (.builtin "all") := by decide +kernel
theorem bb_sorted : bootBuiltins "sorted" = some (.builtin "sorted") := by decide +kernel
theorem bb_list : bootBuiltins "list" = some (.type "list") := by decide +kernel
theorem bb_int : bootBuiltins "int" = some (.type "int") := by decide +kernel
theorem bb_bool : bootBuiltins "bool" = some (.type "bool") := by decide +kernel
theorem bb_str : bootBuiltins "str" = some (.type "str") := by decide +kernel
theorem bb_tuple : bootBuiltins "tuple" = some (.type "tuple") := by decide +kernel
theorem bb_VE : bootBuiltins "ValueError" = some (.type "ValueError") := by decide +kernel
theorem bb_sum : bootBuiltins "sum" = some (.builtin "sum") := by decide +kernel
theorem bb_min : bootBuiltins "min" = some (.builtin "min") := by decide +kernel
theorem bb_divmod : bootBuiltins "divmod" = some (.builtin "divmod") := by decide +kernel
section
variable {X : Cx} {x : Str} {p pos : Pos} {e e2 : Expr} {ta tb : TE}
theorem x_glob {v : V} (h : ∃ u, X.mg x = some u ∧ RelV v u) (hg : Gl X x := by rfl) (hd : (x == ("__debug__" : Str)) = false := by decide) : PE X (.Name x pos) (tC v) := by
  obtain ⟨u, e, r⟩ := h
  exact pe_glob hg e r hd
theorem x_gl {a : Addr} (h : X.mg x = some (.ref a)) (hg : Gl X x := by rfl) (hd : (x == ("__debug__" : Str)) = false := by decide) : PE X (.Name x pos) (tC (.ref a)) := pe_glob hg h rfl hd
theorem x_ty {n : String} (hm : X.mg x = none) (hv : bootBuiltins x = some (.type n)) (hg : Gl X x := by rfl) (hn : x ≠ "__name__" := by decide) (hd : (x == ("__debug__" : Str)) = false := by decide) : PE X (.Name x pos) (tC (.ty n)) := pe_bltn hg hm hv rfl hn hd
theorem x_isi (hm : X.mg "isinstance" = none) (ha : PE X e ta) (hb : PE X e2 tb) (hg : Gl X "isinstance" := by rfl) (h2 : starEach [e2] X.env = (false, eval e2 X.env) :: starEach [] X.env := by rfl)
    (he : starEach [e, e2] X.env = (false, eval e X.env) :: starEach [e2] X.env := by rfl) (hpl : (backTo pos (starEach [e2] X.env)).any (·.1) = false := by rfl) : PE X (.Call (.Name "isinstance" p) [e, e2] [] pos) (tCB (rIsi X.K) (tCons ta (tCons tb tNil))) :=
  pe_callB call_isi hg hm bb_isinstance (pa_cons ha (pa_cons hb pa_nil h2) he) (by decide) (by decide) he hpl
def rLenX (K : PySem.W.Frag) : List V → Hp → VK → Prop := fun xs H Q => ∃ x n, xs = [x] ∧ LenV K x H n ∧ Q (.int n) H
def rListX (K : PySem.W.Frag) : List V → Hp → VK → Prop := fun xs H Q => ∃ p ys, xs = [.ref p] ∧ (SqL K H p ys ∨ SqT K H p ys) ∧ ∀ l, H l = none → Q (.ref l) (upd H l (.lst ys))
def rDvm : List V → Hp → VK → Prop := fun xs H Q => ∃ i j, xs = [.int i, .int j] ∧ CDiv i j ∧ ∀ p, H p = none → Q (.ref p) (upd H p (.tup [.int (i / j), .int (i % j)]))
theorem x_len (hm : X.mg "len" = none) (ha : PE X e ta) (hg : Gl X "len" := by rfl) (he : starEach [e] X.env = (false, eval e X.env) :: starEach [] X.env := by rfl) : PE X (.Call (.Name "len" p) [e] [] pos) (tCB (rLenX X.K) (tCons ta tNil)) :=
  pe_callB call_len hg hm PySem.boot_len (pa_cons ha pa_nil he) (by decide) (by decide) he rfl
theorem x_all (hc : X.calm = true) (hm : X.mg "all" = none) (ha : PE X e ta) (hg : Gl X "all" := by rfl) (he : starEach [e] X.env = (false, eval e X.env) :: starEach [] X.env := by rfl) : PE X (.Call (.Name "all" p) [e] [] pos) (tCB (rAll X.K) (tCons ta tNil)) :=
  pe_callB (cr_all hc) hg hm bb_all (pa_cons ha pa_nil he) (by decide) (by decide) he rfl
theorem x_list (hm : X.mg "list" = none) (ha : PE X e ta) (hg : Gl X "list" := by rfl) (he : starEach [e] X.env = (false, eval e X.env) :: starEach [] X.env := by rfl) :
    PE X (.Call (.Name "list" p) [e] [] pos) (tCB (rListX X.K) (tCons ta tNil)) :=
  pe_callTy call_list_of hg hm bb_list (pa_cons ha pa_nil he) (by decide) (by decide) he rfl
theorem x_divmod (hm : X.mg "divmod" = none) (ha : PE X e ta) (hb : PE X e2 tb) (hg : Gl X "divmod" := by rfl) (h2 : starEach [e2] X.env = (false, eval e2 X.env) :: starEach [] X.env := by rfl)
    (he : starEach [e, e2] X.env = (false, eval e X.env) :: starEach [e2] X.env := by rfl) (hpl : (backTo pos (starEach [e2] X.env)).any (·.1) = false := by rfl) :
    PE X (.Call (.Name "divmod" p) [e, e2] [] pos) (tCB rDvm (tCons ta (tCons tb tNil))) :=
  pe_callB call_divmod hg hm bb_divmod (pa_cons ha (pa_cons hb pa_nil h2) he) (by decide) (by decide) he hpl
theorem x_app {apos : Pos} (ha : PE X e ta) (hb : PE X e2 tb) (h1 : attributeBase e "append" X.env (eval e X.env) = eval e X.env := by rfl) (h2 : starEach [e2] X.env = (false, eval e2 X.env) :: starEach [] X.env := by rfl)
    (hf : ((backTo pos (starEach [e2] X.env)).all (fun x => !x.1) && (backToKw pos (keywordEach [] X.env)).all (fun x => x.1.isSome) && decide ([e2].length + ([] : List Keyword).length + (if ([] : List Keyword).isEmpty then 0 else 1) < 30)) = true := by rfl)
    (hline : (apos.endLine == pos.line) = true := by rfl) : PE X (.Call (.Attribute e "append" apos) [e2] [] pos) (tBM X.K "list" rAppend ta (tCons tb tNil)) :=
  pe_bm PySem.F.plainAttrs_list PySem.F.slot_list_append PySem.F.type_list_append mt_append ha (pa_cons hb pa_nil h2) h1 hf hline h2 rfl
end

/-! ### heaps with regions -/
abbrev Rg := Nat × Nat
structure HS where
  h : Hp
  r : Addr → Rg
def At (s : HS) (a : Addr) (q : Rg) (o : HO) : Prop := s.h a = some o ∧ s.r a = q
def HS.put (s : HS) (a : Addr) (o : HO) : HS := ⟨upd s.h a o, s.r⟩
def HS.new (s : HS) (a : Addr) (q : Rg) (o : HO) : HS := ⟨upd s.h a o, fun b => if b = a then q else s.r b⟩
/-- only what lies in the components R may change -/
def Step (R : Nat → Prop) (s t : HS) : Prop := ∀ x o, s.h x = some o → t.r x = s.r x ∧ (∃ o', t.h x = some o') ∧ (¬ R (s.r x).1 → t.h x = some o)
section
variable {R R' : Nat → Prop} {s t u : HS} {a b : Addr} {q q' : Rg} {o o' o'' : HO}
theorem Step.refl : Step R s s := fun x o h => ⟨rfl, ⟨o, h⟩, fun _ => h⟩
theorem Step.trans (h1 : Step R s t) (h2 : Step R t u) : Step R s u := fun x o h => by
  obtain ⟨e1, ⟨o1, f1⟩, k1⟩ := h1 x o h
  obtain ⟨e2, f2, k2⟩ := h2 x o1 f1
  refine ⟨e2.trans e1, f2, fun n => ?_⟩
  have g := k1 n
  obtain ⟨_, _, k3⟩ := h2 x o g
  exact k3 (by rw [e1]; exact n)
theorem Step.mono (h : Step R s t) (hr : ∀ c, R c → R' c) : Step R' s t := fun x o e => ⟨(h x o e).1, (h x o e).2.1, fun n => (h x o e).2.2 fun z => n (hr _ z)⟩
theorem Step.same {H H' : Hp} {r : Addr → Rg} (h : Same H H') : Step R ⟨H, r⟩ ⟨H', r⟩ := fun x o e => ⟨rfl, ⟨o, h x o e⟩, fun _ => h x o e⟩
theorem Step.put (h : At s a q o) (hr : R q.1) : Step R s (s.put a o') := fun x ox e => by
  refine ⟨rfl, ?_, fun n => ?_⟩
  · by_cases hx : x = a
    · subst hx
      exact ⟨_, upd_same⟩
    · exact ⟨ox, (upd_ne hx).trans e⟩
  · have hx : x ≠ a := by
      intro z
      subst z
      rw [h.2] at n
      exact n hr
    exact (upd_ne hx).trans e
theorem Step.new (h : s.h a = none) : Step R s (s.new a q o) := fun x ox e => by
  have hx : x ≠ a := ne_of_none e h
  have hh : (s.new a q o).h x = some ox := (upd_ne hx).trans e
  exact ⟨if_neg hx, ⟨ox, hh⟩, fun _ => hh⟩
theorem At.step (h : At s a q o) (st : Step R s t) (n : ¬ R q.1) : At t a q o := by
  obtain ⟨e, f⟩ := h
  obtain ⟨e1, _, k⟩ := st a o e
  exact ⟨k (by rw [f]; exact n), e1.trans f⟩
theorem At.ne (h : At s a q o) (h' : At s b q' o') (d : q ≠ q') : a ≠ b := by
  intro e
  subst e
  exact d (h.2.symm.trans h'.2)
theorem At.put (h : At s b q' o') (h' : At s a q o) (d : q' ≠ q) : At (s.put a o'') b q' o' := ⟨(upd_ne (h.ne h' d)).trans h.1, h.2⟩
theorem At.self (h : At s a q o) : At (s.put a o') a q o' := ⟨upd_same, h.2⟩
theorem At.new (h : At s b q' o') (n : s.h a = none) : At (s.new a q o) b q' o' := by
  have hx : b ≠ a := ne_of_none h.1 n
  exact ⟨(upd_ne hx).trans h.1, (if_neg hx).trans h.2⟩
theorem At.made : At (s.new a q o) a q o := ⟨upd_same, if_pos rfl⟩
theorem At.same {H H' : Hp} {r : Addr → Rg} (h : At ⟨H, r⟩ a q o) (e : Same H H') : At ⟨H', r⟩ a q o := ⟨e _ _ h.1, h.2⟩
end
/-- what a call leaves: only R changed, P of the value and the heap behind -/
def Does (R : Nat → Prop) (s : HS) (Q : VK) (P : V → HS → Prop) : Prop := ∀ v t, Step R s t → P v t → Q v t.h
theorem Does.out {R : Nat → Prop} {s : HS} {Q : VK} {P : V → HS → Prop} (d : Does R s Q P) {v : V} {t : HS} (st : Step R s t) (p : P v t) : Q v t.h := d v t st p

/-! ### readings, one leaf after the other -/
section
variable {σ : L2.St} {H : Hp} {Q : VK} {i : Nat} {v x y : V} {C a dx : Addr} {l : List Str} {vals : List V} {k : Hp → Prop} {kp : Prop} {K : PySem.W.Frag} {xs : List V} {n : Int} {b : Bool}
theorem q_var (h : σ[i]? = some (some v)) (q : Q v H) : tVar i σ H Q := ⟨v, h, q⟩
theorem q_pF (h : H a = some (.ins C dx (l.zip vals))) (hv : vals[i]? = some v) (q : Q v H) : pF C l i (.ref a) H Q := ⟨a, dx, vals, v, rfl, h, hv, q⟩
theorem q_pSet (h : H a = some (.ins C dx (l.zip vals))) (hv : i < vals.length) (q : k (upd H a (.ins C dx (l.zip (vals.set i y))))) : pSet C l i (.ref a) y H k := ⟨a, dx, vals, rfl, h, hv, q⟩
theorem q_pNew (h : H a = some (.ins C dx (l.zip vals))) (hv : vals.length = i) (q : k (upd H a (.ins C dx (l.zip (vals ++ [y]))))) : pNew C l i (.ref a) y H k := ⟨a, dx, vals, rfl, h, hv, q⟩
theorem q_pM (h : H a = some (.ins C dx (l.zip vals))) (q : kp) : pM C l (.ref a) H kp := ⟨a, dx, vals, rfl, h, q⟩
theorem q_I0 {g : Int → Int → V} {m : Int} (q : Q (g n m) H) : rI0 g (.int n) (.int m) H Q := ⟨n, m, rfl, rfl, q⟩
theorem q_I {c : Int → Int → Prop} {g : Int → Int → V} {m : Int} (hc : c n m) (q : Q (g n m) H) : rI c g (.int n) (.int m) H Q := ⟨n, m, rfl, rfl, hc, q⟩
theorem q_eq (h : scal x y = true) (q : Q (.bl (decide (x = y))) H) : rEq x y H Q := ⟨h, q⟩
theorem q_ne (h : scal x y = true) (q : Q (.bl (!decide (x = y))) H) : rNe x y H Q := ⟨h, q⟩
theorem q_ixL (h : H a = some (.lst xs)) (hv : atI xs n = some v) (q : Q v H) : rIxL K (.ref a) (.int n) H Q := ⟨a, xs, n, v, rfl, rfl, SqL.of h, hv, q⟩
theorem q_ixT (h : H a = some (.tup xs)) (hv : atI xs n = some v) (q : Q v H) : rIxT K (.ref a) (.int n) H Q := ⟨a, xs, n, v, rfl, rfl, SqT.of h, hv, q⟩
theorem q_lenL (h : H a = some (.lst xs)) (q : Q (.int xs.length) H) : rLenX K [.ref a] H Q := ⟨_, _, rfl, .inl ⟨xs, SqL.of h, rfl⟩, q⟩
theorem q_lenT (h : H a = some (.tup xs)) (q : Q (.int xs.length) H) : rLenX K [.ref a] H Q := ⟨_, _, rfl, .inr ⟨xs, SqT.of h, rfl⟩, q⟩
theorem q_lenS {z : Str} (h : z.length ≤ sizeLine) (q : Q (.int z.length) H) : rLenX K [.str z] H Q := ⟨.str z, z.length, rfl, ⟨h, rfl⟩, q⟩
theorem q_list (h : H a = some (.lst xs)) (q : ∀ p, H p = none → Q (.ref p) (upd H p (.lst xs))) : rListX K [.ref a] H Q := ⟨a, xs, rfl, .inl (SqL.of h), q⟩
theorem q_all {bs : List Bool} (h : H a = some (.lst (bs.map V.bl))) (q : Q (.bl (bs.all id)) H) : rAll K [.ref a] H Q := ⟨a, bs, rfl, SqL.of h, q⟩
theorem q_inT {x : V} {p : Addr} (h : H p = some (.tup xs)) (e : (flatV x && xs.all flatV && (inV x xs == b)) = true) (q : Q (.bl b) H) : rIn K false x (.ref p) H Q := by
  simp only [Bool.and_eq_true, beq_iff_eq] at e
  exact ⟨p, xs, rfl, .inr (SqT.of h), e.1.1, e.1.2, by rw [e.2]; exact q⟩
theorem q_isi {t : String} {T : V} (ty : TyX K H x (.type t)) {c : String} (e : kitB t c = some b) (q : Q (.bl b) H) : rIsi K [x, .ty c] H Q := ⟨x, .ty c, _, _, b, rfl, .ty c, ty, kit_ty e, q⟩
theorem ki_ii : kitB "int" "int" = some true := by decide +kernel
theorem ki_ll : kitB "list" "list" = some true := by decide +kernel
theorem ki_tt : kitB "tuple" "tuple" = some true := by decide +kernel
theorem ki_ss : kitB "str" "str" = some true := by decide +kernel
theorem ki_ib : kitB "int" "bool" = some false := by decide +kernel
theorem q_isInt {m : Int} (q : Q (.bl true) H) : rIsi K [.int m, .ty "int"] H Q := q_isi (T := .non) (.base (.int m)) ki_ii q
theorem q_isBool {m : Int} (q : Q (.bl false) H) : rIsi K [.int m, .ty "bool"] H Q := q_isi (T := .non) (.base (.int m)) ki_ib q
end
end SP

/-! A5 -/
set_option maxHeartbeats 4100000
namespace SP
open PySem PySem.Spec PyProof.Rows L2 L2H

theorem zs_sub {N b : Nat} (h : b ∈ [N + 4, N + 3, N, N + 1]) : b ∈ [N + 4, N + 2, N + 3, N, N + 1] := by
  simp only [List.mem_cons, List.not_mem_nil, or_false] at h ⊢
  omega
theorem zs_ge {N b : Nat} (h : b ∈ [N + 4, N + 2, N + 3, N, N + 1]) : N ≤ b := by
  simp only [List.mem_cons, List.not_mem_nil, or_false] at h
  omega
/-! ### for a, b in zip(a tuple, a text) -/
def ItzS (K : PySem.W.Frag) (a : Addr) (z : Str) : It :=
  ⟨fun i H => ∃ (xs : List V) (x : V), SqT K H a xs ∧ xs[i]? = some x ∧ i < z.cps.size,
    fun i H v H' => ∃ T x c, v = .ref T ∧ H T = none ∧ H' = upd H T (.tup [x, .str ⟨#[c]⟩]) ∧ (∀ xs, SqT K H a xs → xs[i]? = some x) ∧ z.cps[i]? = some c,
    fun i H => ∃ xs : List V, SqT K H a xs ∧ i = min xs.length z.cps.size⟩
theorem turn_zipS {P : Program} {w : World} {K : PySem.W.Frag} {elts : List Expr} {kk : Nat} {tpos : Pos} {a : Addr} {N : Nat} {x : Str} {t : Tok} (ha : a < N) :
    Turn P w K (.Tuple elts kk tpos) (ItzS K a x) [N + 4, N + 2, N + 3, N, N + 1] (N + 4) (fun i h => IsZip h (N + 4) (N + 2) (N + 3) .none ∧ IsTupOf2 h (N + 2) (.ref N) (.ref (N + 1)) ∧ (∃ a1 a2, IsTupOf2 h (N + 3) a1 a2) ∧ h.IsTupleIter N a i ∧ h.IsStrIter (N + 1) (strIterType x) x t i) where
  mem := by simp
  obj := fun i h st c hc => by
    obtain ⟨hz, hTI, ⟨a1, a2, hTO⟩, ⟨o1, e1, _, d1⟩, ⟨o2, e2, _, d2⟩⟩ := st
    have e' : c = N + 4 ∨ c = N + 2 ∨ c = N + 3 ∨ c = N ∨ c = N + 1 := by simpa using hc
    rcases e' with q
                     | q | q | q | q
    · rw [q]
      obtain ⟨oz, hz1, hz2⟩ : ∃ oz, h.get? (N + 4) = some oz ∧ ∀ v, oz.data ≠ .cell v := ⟨_, hz, fun v q => nomatch q⟩
      exact ⟨oz, hz1, hz2⟩
    · rw [q]; exact ⟨_, hTI,
                             fun v q => nomatch q⟩
    · rw [q]; exact ⟨_, hTO,
                             fun v q => nomatch q⟩
    · rw [q]; exact ⟨o1, e1, fun v
                                   q => by rw [d1] at q; cases q⟩
    · rw [q]; exact ⟨o2, e2, fun v
                                   q => by rw [d2] at q; cases q⟩
  keep := fun i h h' ⟨hz, hTI, ⟨a1, a2, hTO⟩, h1, ⟨o2, e2, r2⟩⟩ k =>
    ⟨k (N + 4) (by simp) _ hz, k (N + 2) (by simp) _ hTI, ⟨a1, a2, k (N + 3) (by simp) _ hTO⟩, h1.at fun o q => k N (by simp) o q, ⟨o2, k (N + 1) (by simp) o2 e2, r2⟩⟩
  item := by
    intro X hP hw hK hc i
                          pins s σ H E I hf st hg
    subst hP hw hK
    obtain ⟨hz, hTI, hTO, h1, h2⟩ := st
    obtain ⟨xs, y, hqx, hx, hi⟩ := hg
    obtain ⟨its, rv, p,
                        _⟩ := I.tuple hqx
    have hil : i < its.toArray.size := by
      have := (List.getElem?_eq_some_iff.mp hx).1
      rw [List.size_toArray, ← rv.length]
      exact this
    have D1 := Draws.tuple (prog := X.prog) (w := X.w) (A := X.A.in1) (I.ok.hd hc) N a (Nat.ne_of_lt ha) its.toArray
    have D2 := Draws.text (prog := X.prog) (w := X.w) (A := X.A.in1) (I.ok.hd hc) (N + 1) x t
    have G := GoesN.zip2 (elts := elts) (x1 := kk) (pos := tpos) (zip_sep2 (N := N) (fp1 := [a]) (fp2 := []) (fun b hb => by simpa using (show b = a by simpa using hb) ▸ ha) (fun b hb => by simp at hb)) D1 D2
    have him : i < min its.toArray.size x.cps.size := Nat.lt_min.mpr ⟨hil, hi⟩
    refine G.goes i s _ E him ⟨hz, hTI, hTO, ⟨h1, p⟩, h2⟩ fun v h' tk hY hst hk htk => ?_
    obtain ⟨T, u1, u2, rfl, hT, hu1, ⟨c, t2, hc2, rfl⟩, ⟨oT, eT, cT, nT, dT⟩⟩ := hY
    obtain ⟨hz', hTI', hTO', ⟨h1', _⟩, h2'⟩ := hst
    obtain ⟨u, hu,
                   ru⟩ := rv.get hx
    have eu : u1 = u := by
      have q : its[i]? = some u1 := by simpa using hu1
      rw [hu] at q
      exact (Option.some.inj
                             q).symm
    subst eu
    have new : ObjOk X.prog X.w (upd H T (.tup [y, .str ⟨#[c]⟩])) h' T (.tup [y, .str ⟨#[c]⟩]) :=
      ⟨by show 2 ≤ sizeLine; decide, [u1, _], .cons ru (.cons ⟨t2, rfl⟩ .nil), ⟨oT, eT, cT, nT, dT⟩⟩
    have hf2 : ∀ b ∈ [N + 4, N + 3, N, N + 1], FpOk X pins H b := fun b hb => hf b (zs_sub hb)
    have I1 := I.turnedNew (t' := tk) (ch := [N + 4, N + 3, N, N + 1]) (T := T) (fun b o hb q => hk b o hb q) hf2 hT new
    refine ⟨.ref T, _, I1, rfl, ⟨T, y, c, rfl, I.hok.fresh hT, rfl, fun l hl => by rw [I.tuple_inj hl hqx]; exact hx, hc2⟩, ⟨hz', hTI', hTO', h1', h2'⟩, fun b hb => ?_⟩
    have hlt : b < s.heap.objs.size := by
      have e' : b = N + 4 ∨ b = N + 2 ∨ b = N + 3 ∨ b = N ∨ b = N + 1 := by simpa using hb
      obtain ⟨a1, a2, hTO⟩ := hTO
      obtain ⟨oz, hz1⟩ : ∃ oz, s.heap.get? (N + 4) = some oz := ⟨_, hz⟩
      obtain ⟨_, e1, _⟩ := h1
      obtain ⟨_, e2, _⟩ := h2
      rcases e' with q
                       | q | q | q | q
      · rw [q]; exact Heap.lt_size hz1
      · rw [q]; exact
                      Heap.lt_size hTI
      · rw [q]; exact
                      Heap.lt_size hTO
      · rw [q]; exact Heap.lt_size e1
      · rw [q]; exact Heap.lt_size e2
    rw [upd_ne (Nat.ne_of_lt (Nat.lt_of_lt_of_le hlt hT))]
    exact (hf b hb).1
  done := by
    intro X hP hw hK hc i
                          pins s σ H E I hf st hg
    subst hP hw hK
    obtain ⟨hz, hTI, hTO, h1, h2⟩ := st
    obtain ⟨xs, hqx, hi⟩ := hg
    obtain ⟨its, rv, p,
                        _⟩ := I.tuple hqx
    have D1 := Draws.tuple (prog := X.prog) (w := X.w) (A := X.A.in1) (I.ok.hd hc) N a (Nat.ne_of_lt ha) its.toArray
    have D2 := Draws.text (prog := X.prog) (w := X.w) (A := X.A.in1) (I.ok.hd hc) (N + 1) x t
    have G := GoesN.zip2 (elts := elts) (x1 := kk) (pos := tpos) (zip_sep2 (N := N) (fp1 := [a]) (fp2 := []) (fun b hb => by simpa using (show b = a by simpa using hb) ▸ ha) (fun b hb => by simp at hb)) D1 D2
    have hi' : i = min its.toArray.size x.cps.size := by
      rw [List.size_toArray, ← rv.length]
      exact hi
    have hf2 : ∀ b ∈ [N + 4, N + 3, N, N + 1], FpOk X pins H b := fun b hb => hf b (zs_sub hb)
    subst hi'
    refine G.stops s _ E ⟨hz, hTI, hTO, ⟨h1, p⟩, h2⟩ fun h' tk hk htk => ?_
    exact I.turnedL (t' := tk) (ch := [N + 4, N + 3, N, N + 1]) (fun b o hb q => hk b o hb q) hf2
  self := fun A i s Q E st h
                             => wpAny_pyIter_zip st.1 h
def iZipS (K : PySem.W.Frag) (ta : TA) : TI := fun σ H R => ta σ H fun vs H2 => ∃ a xs z, vs = [.ref a, .str z] ∧ SqT K H2 a xs ∧ R (ItzS K a z) H2
theorem x_zipS {X : Cx} {e e2 : Expr} {ta : TA} {p pos tpos : Pos} {elts : List Expr} {kk : Nat} (hm : X.mg "zip" = none) (hA : PA X [e, e2] ta) (hg : Gl X "zip" := by rfl)
    (hs : starEach [e, e2] X.env = (false, eval e X.env) :: starEach [e2] X.env :=
                                                                                   by rfl) (hpl : (backTo pos (starEach [e2] X.env)).any (·.1) = false := by rfl) :
    PI X (.Tuple elts kk tpos) (.Call (.Name "zip" p) [e, e2] [] pos) (iZipS X.K ta) := by
  refine ⟨fun pins
                   s σ H R I h => ?_⟩
  refine Call_ (ld_blt I hg hm PyProof.Rows.boot_zip (PyProof.Rows.callWith_type1 (thn (hA.run pos pins s σ H _ I h) fun us s1 ⟨vs, H1, I1, r1, q1⟩ => ?_) hs hpl))
  obtain ⟨a, xs, z, ex, hq, q⟩ := q1
  subst ex
  cases r1 with
  | cons r rr =>
    cases rr with
    | cons r' rr =>
      cases rr
      cases r
      obtain ⟨t, rfl⟩ := r'
      obtain ⟨its, rv, p1, _⟩ := I1.tuple hq
      have hlt : a < s1.heap.objs.size := by
        obtain ⟨o, ho, _⟩ := p1
        exact Heap.lt_size ho
      refine zip_begins2 (begins_tuple a its.toArray) (begins_text z t) p1 trivial fun h' hz hTI hTO g1 g2 hsz hk => wpAny_pyIter_zip hz ?_
      have I2 : Inv X pins σ H1 { s1 with heap
                                               := h' } := I1.kept (t' := s1.toks) hk
      refine ⟨s1.heap.objs.size + 4, [s1.heap.objs.size + 4, s1.heap.objs.size + 2, s1.heap.objs.size + 3, s1.heap.objs.size, s1.heap.objs.size + 1], _, _, H1, rfl, I2, turn_zipS hlt, ⟨hz, hTI, ⟨_, _, hTO⟩, ⟨_, g1, rfl, rfl⟩, ⟨_, g2, rfl, rfl⟩⟩, fun c hc => ?_, q⟩
      have hle : s1.heap.objs.size ≤ c := zs_ge hc
      exact I1.fpOk hle
                        (I1.hok.fresh hle)
/-! ### comprehensions that change nothing that stood -/
theorem same_new {H : Hp} {p : Addr} {o : HO} (h : H p = none) : Same H (upd H p o) := fun b u e => (upd_ne (ne_of_none e h)).trans e
theorem wipe1 {σ : L2.St} {s : Nat} {x : Option V} : wipe ((wipe σ [s]).set s x) [s] = wipe σ [s] := by
  show (((σ.set s none).set s x).set s none) = σ.set s none
  rw [List.set_set, List.set_set]
section
variable {K : PySem.W.Frag} {te tl : TE} {s : Nat} {σ : L2.St} {H : Hp} {Q : VK} {a : Addr} {xs ys : List V}
theorem lc_turn {ys : List V} {D : Addr} {i : Nat} {x y : V} {H1 : Hp} (n : H D = none) (hz : ys.length < sizeLine) (e : Same H H1) (d : H1 D = some (.lst (ys.take i))) (hy : ys[i]? = some y)
    (body : ∀ Q' : VK, (∀ H2, Same H1 H2 → Q' y H2) → te ((wipe σ [s]).set s (some x)) H1 Q') :
    gName s x (wipe σ [s]) H1 fun σ2 H2 => wipe σ2 [s] = wipe σ [s] ∧ tYes σ2 H2 fun b H3 => if b = true then te σ2 H3 fun y H4 => ∃ acc, H4 D = some (.lst acc) ∧ acc.length < sizeLine ∧ (Same H (upd H4 D (.lst (acc ++ [y]))) ∧ (upd H4 D (.lst (acc ++ [y]))) D = some (.lst (ys.take (i + 1))))
      else (Same H H3 ∧ H3 D = some (.lst (ys.take (i + 1)))) := by
  refine ⟨wipe1, ?_⟩
  unfold tYes
  dsimp only
  rw [if_pos rfl]
  refine body _ fun H2 e2 => ⟨_, e2 _ _ d, ?_, ?_, ?_⟩
  · have := (List.getElem?_eq_some_iff.mp hy).1
    rw [List.length_take]
    omega
  · intro b o hb
    rw [upd_ne (ne_of_none hb n)]
    exact e2 _ _ (e _ _ hb)
  · rw [upd_same, List.take_add_one, hy] <;> rfl
theorem lc_mapL (h0 : ∀ R : VK, R (.ref a) H → tl σ H R) (hS : H a = some (.lst xs)) (hz : ys.length < sizeLine) (hy : ys.length = xs.length)
    (body : ∀ (i : Nat) (x y : V) (H1 : Hp), xs[i]? = some x → ys[i]? = some y → Same H H1 → ∀ Q' : VK, (∀ H2, Same H1 H2 → Q' y H2) → te ((wipe σ [s]).set s (some x)) H1 Q')
    (fin : ∀ D H', H D = none → Same H H' → H' D = some (.lst ys) → Q (.ref D) H') : tLc (iList K tl) (gName s) tYes te [s] σ H Q := by
  refine h0 _ ⟨a, rfl, ⟨xs, SqL.of hS⟩, fun D n => lc_list (K := K) (a := a) (xs := xs) (fun i H1 => Same H H1 ∧ H1 D = some (.lst (ys.take i))) ⟨same_new n, upd_same⟩ (fun i H1 _ h => SqL.of (h.1 _ _ hS)) (fun i x H1 hx h => ?_) fun H1 h => ?_⟩
  · have hi := (List.getElem?_eq_some_iff.mp hx).1
    have e : ys[i]? = some (ys[i]'(by omega)) := List.getElem?_eq_getElem _
    exact lc_turn n hz h.1 h.2 e (body i x _ H1 hx e h.1)
  · refine fin D H1 n h.1 ?_
    rw [h.2, List.take_of_length_le (by omega)]
theorem lc_mapR {ta : TA} {m : Nat} (h0 : ∀ R : List V → Hp → Prop, R [.int m] H → ta σ H R) (hm : m < 100000) (hy : ys.length = m)
    (body : ∀ (i : Nat) (y : V) (H1 : Hp), i < m → ys[i]? = some y → Same H H1 → ∀ Q' : VK, (∀ H2, Same H1 H2 → Q' y H2) → te ((wipe σ [s]).set s (some (.int i))) H1 Q')
    (fin : ∀ D H', H D = none → Same H H' → H' D = some (.lst ys) → Q (.ref D) H') : tLc (iRng1 ta) (gName s) tYes te [s] σ H Q := by
  have hz : ys.length < sizeLine := Nat.lt_of_lt_of_le (by omega : ys.length < 100000) (by decide)
  refine h0 _ ⟨_, rfl, by omega, by omega, fun D n => ?_⟩
  refine lc_range (lo := 0) (n := (m : Int).toNat) (fun i H1 => Same H H1 ∧ H1 D = some (.lst (ys.take i))) ⟨same_new n, upd_same⟩ (fun i H1 hi h => ?_) fun H1 h => ?_
  · have hi : i < m := by simpa using hi
    have e : ys[i]? = some (ys[i]'(by omega)) := List.getElem?_eq_getElem _
    have e0 : (0 : Int) + (i : Nat) = ((i : Nat) : Int) := by omega
    rw [e0]
    exact lc_turn n hz h.1 h.2 e (body i _ H1 hi e h.1)
  · refine fin D H1 n h.1 ?_
    rw [h.2, List.take_of_length_le (by simp [hy])]
theorem lc_mapS {z : Str} (h0 : ∀ R : VK, R (.str z) H → tl σ H R) (hz : ys.length < sizeLine) (hy : ys.length = z.cps.size)
    (body : ∀ (i c : Nat) (y : V) (H1 : Hp), z.cps[i]? = some c → ys[i]? = some y → Same H H1 → ∀ Q' : VK, (∀ H2, Same H1 H2 → Q' y H2) → te ((wipe σ [s]).set s (some (.str ⟨#[c]⟩))) H1 Q')
    (fin : ∀ D H', H D = none → Same H H' → H' D = some (.lst ys) → Q (.ref D) H') : tLc (iStr tl) (gName s) tYes te [s] σ H Q := by
  refine h0 _ ⟨z, rfl, fun D n => lc_it walk_str (fun i H1 => Same H H1 ∧ H1 D = some (.lst (ys.take i))) ⟨same_new n, upd_same⟩ (fun _ _ _ _ => trivial) (fun i x H1 H2 hi h hY => ?_) fun H1 h => ?_⟩
  · obtain ⟨rfl, c, hc, rfl⟩ := hY
    have e : ys[i]? = some (ys[i]'(by omega)) := List.getElem?_eq_getElem _
    exact lc_turn n hz h.1 h.2 e (body i c _ H2 hc e h.1)
  · refine fin D H1 n h.1 ?_
    rw [h.2, List.take_of_length_le (by omega)]
end
/-! ### loops -/
theorem walk_zipS {K : PySem.W.Frag} {a : Addr} {xs : List V} {z : Str} : Walk (ItzS K a z) (min xs.length z.cps.size) (fun H => SqT K H a xs)
    (fun i H v H' => ∃ T x c, v = .ref T ∧ H T = none ∧ H' = upd H T (.tup [x, .str ⟨#[c]⟩]) ∧ xs[i]? = some x ∧ z.cps[i]? = some c) where
  goes := fun i H hi h => ⟨xs, xs[i]'(by omega), h, List.getElem?_eq_getElem _, by omega⟩
  stops := fun H h => ⟨xs, h, rfl⟩
  yields := fun i H x H' hi h ⟨T, y, c, e1, e2, e3, e4, e5⟩ => ⟨T, y, c, e1, e2, e3, e4 xs h, e5⟩
section
variable {K : PySem.W.Frag} {g : TG} {tb : TS} {D : Ends} {tl : TE} {ta : TA} {σ : L2.St} {H H1 : Hp} {a : Addr} {xs : List V} (Pv : Nat → L2.St → Hp → Prop)
theorem fr_list (h0 : ∀ R : VK, R (.ref a) H1 → tl σ H R) (hS : SqL K H1 a xs) (p0 : Pv 0 σ H1) (hl : ∀ i σ H, i ≤ xs.length → Pv i σ H → SqL K H a xs)
    (hs : ∀ i x σ H, xs[i]? = some x → Pv i σ H → g x σ H fun σ2 H2 => tb { D with nx := Pv (i + 1), ct := Pv (i + 1), bk := D.nx } σ2 H2) (hd : ∀ σ H, Pv xs.length σ H → D.nx σ H) : tFor (iList K tl) g tb D σ H :=
  h0 _ ⟨a, rfl, ⟨xs, hS⟩, for_list Pv p0 hl hs hd⟩
theorem fr_tup (h0 : ∀ R : VK, R (.ref a) H1 → tl σ H R) (hS : SqT K H1 a xs) (p0 : Pv 0 σ H1) (hl : ∀ i σ H, i ≤ xs.length → Pv i σ H → SqT K H a xs)
    (hs : ∀ i x σ H, xs[i]? = some x → Pv i σ H → g x σ H fun σ2 H2 => tb { D with nx := Pv (i + 1), ct := Pv (i + 1), bk := D.nx } σ2 H2) (hd : ∀ σ H, Pv xs.length σ H → D.nx σ H) : tFor (iTup K tl) g tb D σ H :=
  h0 _ ⟨a, rfl, ⟨xs, hS⟩, for_tup Pv p0 hl hs hd⟩
theorem fr_range {m : Nat} (h0 : ∀ R : List V → Hp → Prop, R [.int m] H1 → ta σ H R) (hm : m < 100000) (p0 : Pv 0 σ H1)
    (hs : ∀ (i : Nat) σ H, i < m → Pv i σ H → g (.int (i : Nat)) σ H fun σ2 H2 => tb { D with nx := Pv (i + 1), ct := Pv (i + 1), bk := D.nx } σ2 H2) (hd : ∀ σ H, Pv m σ H → D.nx σ H) : tFor (iRng1 ta) g tb D σ H := by
  refine h0 _ ⟨m, rfl, by omega, by omega, for_range (lo := 0) (n := (m : Int).toNat) Pv p0 (fun i σ H hi h => ?_) fun σ H h => hd σ H (by simpa using h)⟩
  rw [show (0 : Int) + (i : Nat) = ((i : Nat) : Int) by omega]
  exact hs i σ H (by simpa using hi) h
theorem fr_enum (h0 : ∀ R : List V → Hp → Prop, R [.ref a] H1 → ta σ H R) (hS : SqL K H1 a xs) (p0 : Pv 0 σ H1) (hl : ∀ i σ H, i ≤ xs.length → Pv i σ H → SqL K H a xs)
    (hs : ∀ (i : Nat) (x : V) σ H (T : Addr), xs[i]? = some x → Pv i σ H → H T = none → g (.ref T) σ (upd H T (.tup [.int (i : Nat), x])) fun σ2 H2 => tb { D with nx := Pv (i + 1), ct := Pv (i + 1), bk := D.nx } σ2 H2)
    (hd : ∀ σ H, Pv xs.length σ H → D.nx σ H) : tFor (iEnum K ta) g tb D σ H := by
  refine h0 _ ⟨a, xs, rfl, hS, for_it walk_enum Pv p0 hl (fun i x σ H H' hi h hY => ?_) hd⟩
  obtain ⟨T, x1, y1, rfl, hT, rfl, e1, e2⟩ := hY
  cases e1
  exact hs i y1 σ H T e2 h hT
/-- what a for over it wants -/
def ForOf (J : It) (g : TG) (tb : TS) (D : Ends) (σ : L2.St) (H : Hp) : Prop := ∃ W : Nat → Nat → L2.St → Hp → Prop, (∃ m, W 0 m σ H) ∧ ∀ i m σ H, W i m σ H →
  (J.stop i H ∧ D.nx σ H) ∨ (J.go i H ∧ ∃ N : L2.St → Hp → Prop, (∀ σ' H', N σ' H' → ∃ m', m' < m ∧ W (i + 1) m' σ' H') ∧ ∀ x H', J.yld i H x H' → g x σ H' fun σ2 H2 => tb { D with nx := N, ct := N, bk := D.nx } σ2 H2)
theorem fr_zip0 (h : ta σ H fun vs H2 => ∃ a xs z, vs = [.ref a, .str z] ∧ SqT K H2 a xs ∧ ForOf (ItzS K a z) g tb D σ H2) : tFor (iZipS K ta) g tb D σ H := h
theorem fr_enum0 (h : ta σ H fun vs H2 => ∃ a xs, vs = [.ref a] ∧ SqL K H2 a xs ∧ ForOf (Ite K a) g tb D σ H2) : tFor (iEnum K ta) g tb D σ H := h
theorem fr_list0 (h : tl σ H fun x H2 => ∃ a, x = .ref a ∧ (∃ xs, SqL K H2 a xs) ∧ ForOf (Itl K a) g tb D σ H2) : tFor (iList K tl) g tb D σ H := h
theorem fo_zipS {z : Str} (p0 : Pv 0 σ H1) (hl : ∀ i σ H, Pv i σ H → SqT K H a xs)
    (hs : ∀ (i : Nat) (x : V) (c : Nat) σ H (T : Addr), xs[i]? = some x → z.cps[i]? = some c → Pv i σ H → H T = none → g (.ref T) σ (upd H T (.tup [x, .str ⟨#[c]⟩])) fun σ2 H2 => tb { D with nx := Pv (i + 1), ct := Pv (i + 1), bk := D.nx } σ2 H2)
    (hd : ∀ σ H, Pv (min xs.length z.cps.size) σ H → D.nx σ H) : ForOf (ItzS K a z) g tb D σ H1 := by
  refine for_it walk_zipS Pv p0 (fun i σ H _ h => hl i σ H h) (fun i x σ H H' hi h hY => ?_) hd
  obtain ⟨T, x1, c, rfl, hT, rfl, e1, e2⟩ := hY
  exact hs i x1 c σ H T e1 e2 h hT
theorem fo_enum (p0 : Pv 0 σ H1) (hl : ∀ i σ H, i ≤ xs.length → Pv i σ H → SqL K H a xs)
    (hs : ∀ (i : Nat) (x : V) σ H (T : Addr), xs[i]? = some x → Pv i σ H → H T = none → g (.ref T) σ (upd H T (.tup [.int (i : Nat), x])) fun σ2 H2 => tb { D with nx := Pv (i + 1), ct := Pv (i + 1), bk := D.nx } σ2 H2)
    (hd : ∀ σ H, Pv xs.length σ H → D.nx σ H) : ForOf (Ite K a) g tb D σ H1 := by
  refine for_it walk_enum Pv p0 hl (fun i x σ H H' hi h hY => ?_) hd
  obtain ⟨T, x1, y1, rfl, hT, rfl, e1, e2⟩ := hY
  cases e1
  exact hs i y1 σ H T e2 h hT
theorem fo_list (p0 : Pv 0 σ H1) (hl : ∀ i σ H, i ≤ xs.length → Pv i σ H → SqL K H a xs)
    (hs : ∀ i x σ H, xs[i]? = some x → Pv i σ H → g x σ H fun σ2 H2 => tb { D with nx := Pv (i + 1), ct := Pv (i + 1), bk := D.nx } σ2 H2) (hd : ∀ σ H, Pv xs.length σ H → D.nx σ H) : ForOf (Itl K a) g tb D σ H1 := for_list Pv p0 hl hs hd
end
theorem getMap {α β : Type} {f : α → β} {l : List α} {i : Nat} {y : β} (h : (l.map f)[i]? = some y) : ∃ a, l[i]? = some a ∧ f a = y := by
  rw [List.getElem?_map] at h
  cases e : l[i]? with
  | none => rw [e]
                   at h; cases h
  | some a => rw [e] at h; exact ⟨a, rfl, Option.some.inj h⟩
section
variable {K : PySem.W.Frag} {H : Hp} {Q : VK} {x : V} {xs : List V} {b : Bool} {a : Addr}
/-- x in (written values) -/
theorem q_inW (e : (flatV x && xs.all flatV && (inV x xs == b)) = true) (hl : xs.length ≤ 1000) (q : ∀ H', Same H H' → Q (.bl b) H') : xs.length ≤ sizeLine ∧ ∀ p, H p = none → rIn K false x (.ref p) (upd H p (.tup xs)) Q :=
  ⟨Nat.le_trans hl (by decide), fun p hp => q_inT upd_same e (q _ (same_new hp))⟩
theorem q_dvm {i j : Int} (hc : 0 < j ∧ j < 1073741824) (q : ∀ p, H p = none → Q (.ref p) (upd H p (.tup [.int (i / j), .int (i % j)]))) : rDvm [.int i, .int j] H Q := ⟨i, j, rfl, hc, q⟩
/-- unpacked: a tuple's items to names -/
theorem q_tup {t : TGs} {n : Nat} {σ : L2.St} {R : L2.St → Hp → Prop} (h : H a = some (.tup xs)) (hn : xs.length = n) (q : t xs σ H R) : gTup K n t (.ref a) σ H R := ⟨a, xs, rfl, SqT.of h, hn, q⟩
end
/-- the slot of pop -/
theorem m1_mk {X : Cx} {o e : Expr} {m : Str} {apos cpos : Pos} (h1 : attributeBase o m X.env (eval o X.env) = eval o X.env) (h2 : backTo cpos (starEach [e] X.env) = [(false, eval e X.env)]) (h3 : (apos.endLine == cpos.line) = true)
    (h4 : ((backTo cpos (starEach [e] X.env)).all (fun x => !x.1) && (backToKw cpos (keywordEach [] X.env)).all (fun x => x.1.isSome) && decide (([e] : List Expr).length + ([] : List Keyword).length + (if ([] : List Keyword).isEmpty then 0 else 1) < 30)) = true) : M1 X o m apos e cpos := ⟨h1, h4, h3, h2⟩
end SP

/-! B1 -/
set_option maxHeartbeats 4100000
namespace SP
open PySem PySem.Spec PyProof.Rows L2 L2H
/-! ### the leaves: what is a word, a page, a row of a program -/
abbrev isW (n : Int) : Prop := 0 ≤ n ∧ n < 2 ^ 48
def okPg (ws : List Int) : Prop := ws.length = 8 ∧ ∀ n ∈ ws, isW n
theorem ite_dec {c A B : Prop} [Decidable c] (h1 : c → A) (h2 : ¬ c → B) : if decide c = true then A else B := by
  by_cases h : c
  · rw [decide_eq_true h]
    exact iteT (h1 h)
  · rw [decide_eq_false h]
    exact iteF (h2 h)
theorem iteNT {A B : Prop} (b : B) : if (!true) = true then A else B := b
theorem iteNF {A B : Prop} (a : A) : if (!false) = true then A else B := a
theorem ite_y {c A B : Prop} [Decidable c] (h : c) (a : A) : if decide c = true then A else B := ite_dec (fun _ => a) fun z => absurd h z
theorem ite_n {c A B : Prop} [Decidable c] (h : ¬ c) (b : B) : if decide c = true then A else B := ite_dec (fun z => absurd z h) fun _ => b
theorem ite_nn {c A B : Prop} [Decidable c] (h : c) (b : B) : if (!decide c) = true then A else B := by
  rw [decide_eq_true h]
  exact iteNT b
theorem ite_ny {c A B : Prop} [Decidable c] (h : ¬ c) (a : A) : if (!decide c) = true then A else B := by
  rw [decide_eq_false h]
  exact iteNF a
theorem q_div1 {j : Int} (h : 0 < j ∧ j < 1073741824) : ∀ i : Int, CDiv i j := fun _ => h
def sp_has : Sp := fun vs H Q _ => ∃ i m : Int, vs = [.int i, .int m] ∧ Q (.bl (decide (Builtin.bitAnd i m = m))) H
def sp_put : Sp := fun vs H Q _ => ∃ i m : Int, vs = [.int i, .int m] ∧ Q (.int (Builtin.bitOr i m)) H
def sp_taken : Sp := fun vs H Q _ => ∃ i m : Int, vs = [.int i, .int m] ∧ Q (.int (i - Builtin.bitAnd i m)) H
def sp_page_of : Sp := fun vs H Q _ => ∃ i : Int, vs = [.int i] ∧ Q (.int (i / 256)) H
def sp_is_whole : Sp := fun vs H Q _ => ∃ i : Int, vs = [.int i] ∧ Q (.bl true) H
def sp_is_word : Sp := fun vs H Q _ => ∃ i : Int, vs = [.int i] ∧ Q (.bl (decide (isW i))) H
def sp_is_below : Sp := fun vs H Q _ => ∃ i n : Int, vs = [.int i, .int n] ∧ Q (.bl (decide (0 ≤ i ∧ i < n))) H
section
variable {H : Hp} {Q : VK} {E : XK} {i n : Int} {b : Bool}
theorem q_is_whole (q : Q (.bl true) H) : sp_is_whole [.int i] H Q E := ⟨i, rfl, q⟩
theorem q_is_word (q : Q (.bl (decide (isW i))) H) : sp_is_word [.int i] H Q E := ⟨i, rfl, q⟩
theorem q_is_below (q : Q (.bl (decide (0 ≤ i ∧ i < n))) H) : sp_is_below [.int i, .int n] H Q E := ⟨i, n, rfl, q⟩
theorem q_has (q : Q (.bl (decide (Builtin.bitAnd i n = n))) H) : sp_has [.int i, .int n] H Q E := ⟨i, n, rfl, q⟩
theorem q_put (q : Q (.int (Builtin.bitOr i n)) H) : sp_put [.int i, .int n] H Q E := ⟨i, n, rfl, q⟩
theorem q_taken (q : Q (.int (i - Builtin.bitAnd i n)) H) : sp_taken [.int i, .int n] H Q E := ⟨i, n, rfl, q⟩
theorem q_page_of (q : Q (.int (i / 256)) H) : sp_page_of [.int i] H Q E := ⟨i, rfl, q⟩
theorem q_eqI {H : Hp} {Q : VK} {i n : Int} (q : Q (.bl (decide (i = n))) H) : rEq (.int i) (.int n) H Q := q_eq rfl (by rw [show decide (V.int i = V.int n) = decide (i = n) by simp]; exact q)
theorem q_neI {H : Hp} {Q : VK} {i n : Int} (q : Q (.bl (!decide (i = n))) H) : rNe (.int i) (.int n) H Q := q_ne rfl (by rw [show decide (V.int i = V.int n) = decide (i = n) by simp]; exact q)
theorem mul_ok {i j : Int} (h : -1000000000000 < i ∧ i < 1000000000000) : CMul i j := by
  have e : (2 : Int) ^ 64 = 18446744073709551616 := by decide
  exact .inl ⟨by omega, by omega⟩
theorem pow_ok {k : Int} (h : 0 ≤ k ∧ k ≤ 1000000) : CPow 2 k := ⟨h.1, h.2, by decide⟩
theorem q_pow48 (q : Q (.int (2 ^ 48)) H) : rI CPow (fun i j => V.int (i ^ j.toNat)) (.int 2) (.int 48) H Q := q_I (pow_ok (by decide)) q
theorem q_pow40 (q : Q (.int (2 ^ 40)) H) : rI CPow (fun i j => V.int (i ^ j.toNat)) (.int 2) (.int 40) H Q := q_I (pow_ok (by decide)) q
end
local macro_rules | `(tactic| walk_at "u") => `(tactic| (dsimp only [tRet, tSeq, tAsg, tDrop, tIfS, tNext, tRetN, tBreak, tCont, tOp, tUn, tCons, tNil, tCallX, tM, tF, sSet, sNew, sAug, tMakeX, tTest, tB, tAnd, tOr, tNot, tAndV, tOrV, tNotV, tIf, tChain, tCB, tBM, tBM0, tTup, tLst, gName, tC, tIsN, tNotN, tDIn, tDNotIn, tDGet, sDPut, tDPop1, gCons, gNil, tSl, tPart, tNoPart, tYes, tVeI]))
local macro_rules | `(tactic| walk_at "o") => `(tactic| (first | assumption | omega | (simp only [List.length_map, List.length_replicate, List.length_range, List.length_append, List.length_cons, List.length_nil]; omega)))
local macro_rules | `(tactic| walk_at "q") => `(tactic| (repeat (first
  | ((with_reducible refine' q_var ?hq ?_); (case hq => rfl))
  | ((with_reducible refine' q_pF (by assumption) ?hq ?_); (case hq => rfl))
  | (with_reducible refine q_pM (by assumption) ?_)
  | (with_reducible refine q_I0 ?_)
  | (with_reducible refine q_isInt ?_)
  | (with_reducible refine q_isBool ?_)
  | (with_reducible refine iteT ?_)
  | (with_reducible refine iteF ?_)
  | (with_reducible refine iteNT ?_)
  | (with_reducible refine iteNF ?_)
  | (with_reducible refine q_eqI ?_)
  | (with_reducible refine q_neI ?_)
  | ((with_reducible refine' q_eq ?hq ?_); (case hq => rfl))
  | ((with_reducible refine' q_ne ?hq ?_); (case hq => rfl))
  | (with_reducible refine q_lenL (by assumption) ?_)
  | (with_reducible refine q_lenT (by assumption) ?_)
  | (with_reducible refine q_is_whole ?_)
  | (with_reducible refine q_is_word ?_)
  | (with_reducible refine q_is_below ?_)
  | (with_reducible refine q_has ?_)
  | (with_reducible refine q_put ?_)
  | (with_reducible refine q_taken ?_)
  | (with_reducible refine q_page_of ?_)
  | (with_reducible refine q_pow48 ?_)
  | (with_reducible refine q_pow40 ?_)
  | ((with_reducible refine' q_I ?hq ?_); (case hq => first | assumption | decide | omega | exact q_div1 (by omega) | exact mul_ok (by omega) | exact pow_ok (by decide)))
  | ((with_reducible refine' ite_y ?hq ?_); (case hq => walk_at "o"))
  | ((with_reducible refine' ite_n ?hq ?_); (case hq => walk_at "o"))
  | ((with_reducible refine' ite_nn ?hq ?_); (case hq => walk_at "o"))
  | ((with_reducible refine' ite_ny ?hq ?_); (case hq => walk_at "o"))
  | (with_reducible
                    refine ⟨_, rfl, ?_⟩)
  | (with_reducible refine ⟨_, _, rfl, ?_⟩)
  | (with_reducible refine ⟨rfl, ?_⟩))))
local macro_rules | `(tactic| walk_at "w") => `(tactic| ((try (walk_at "u")); (walk_at "q"); (try (walk_at "u")); (walk_at "q")))
section
variable {P : Program} {w : World} {K :
                                        PySem.W.Frag} {mg : Str → Option Value} {base : Heap}
theorem ok_is_whole (T : TX K mg) : Fn P w K mg base true 1 (He.ga K "is_whole") sp_is_whole := by
  refine (f_is_whole T).dual 0 (fun vs H Q E h => ?_) (fun cdv A outer s H vs Q E m hr h => ?_)
  · obtain ⟨i, rfl, _⟩ := h; rfl
  · obtain ⟨i, rfl, k⟩ := h
    refine ⟨_, pss_one (ps_ret (pe_and (x_isi (z_isinstance T) (pv 0) (x_ty (z_int T) bb_int)) (pe_one (pe_not (x_isi (z_isinstance T) (pv 0) (x_ty (z_bool T) bb_bool)))))), ?_⟩
    walk_at "u"; walk_at "q"
    exact k
theorem ok_is_below (T : TX K mg) : Fn P w K mg base true 2 (He.ga K "is_below") sp_is_below := by
  refine (f_is_below T).dual 1 (fun vs H Q E h => ?_) (fun cdv A outer s H vs Q E m hr h => ?_)
  · obtain ⟨i, n, rfl, _⟩ := h; rfl
  · obtain ⟨i, n, rfl, k⟩ := h
    refine ⟨_, pss_one (ps_ret (pe_and (x_call (ok_is_whole T) (can2 hr) (g_is_whole T) (f_is_whole T).kp (fun _ => pas0) (pa_cons (pv 0) pa_nil)) (pe_one (pe_chain op_le op_lt pe_int (pv 0) (pv 1))))), ?_⟩
    walk_at "u"; walk_at "q"
    refine ite_dec (fun h => ?_) fun h => ?_
    · walk_at "q"
      rw [show decide (i < n) = decide (0 ≤ i ∧ i < n) by simp [h]]
      exact k
    · rw [show decide (0 ≤ i ∧ i < n) = false by simp; omega] at k
      exact k
theorem ok_is_word (T : TX K mg) : Fn P w K mg base true 2 (He.ga K "is_word") sp_is_word := by
  refine (f_is_word T).dual 1 (fun vs H Q E h => ?_) (fun cdv A outer s H vs Q E m hr h => ?_)
  · obtain ⟨i, rfl, _⟩ := h; rfl
  · obtain ⟨i, rfl, k⟩ := h
    refine ⟨_, pss_one (ps_ret (pe_and (x_call (ok_is_whole T) (can2 hr) (g_is_whole T) (f_is_whole T).kp (fun _ => pas0) (pa_cons (pv 0) pa_nil)) (pe_one (pe_chain op_le op_lt pe_int (pv 0) (pe_op op_pow pe_int pe_int))))), ?_⟩
    walk_at "u"; walk_at "q"
    refine ite_dec (fun h => ?_) fun h => ?_
    · walk_at "q"
      rw [show decide (i < 2 ^ 48) = decide (isW i) by simp [isW, h]]
      exact k
    · rw [show decide (isW i) = false by simp [isW]; omega] at k
      exact k
def sp_rg (a b : Int) : Sp := fun vs H Q _ => ∃ i : Int, vs = [.int i] ∧ a ≤ i ∧ i ≤ b ∧ Q (.bl true) H
theorem ok_is_register (T : TX K mg) : Fn P w K mg base false 2 (He.ga K "is_register") (sp_rg 0 3) := by
  refine (f_is_register T).calm 1 (fun vs H Q E h => ?_) (fun cdv A outer s H vs Q E hr h => ?_)
  · obtain ⟨i, rfl, _⟩ := h; rfl
  · obtain ⟨i, rfl, h0, h1, k⟩ := h
    refine ⟨_, pss_one (ps_ret (pe_and (x_call (ok_is_whole T) (can hr) (g_is_whole T) (f_is_whole T).kp (fun _ => pas0) (pa_cons (pv 0) pa_nil)) (pe_one (pe_chain op_le op_lt pe_int (pv 0) pe_int)))), ?_⟩
    walk_at "u"; walk_at "q"
    rw [decide_eq_true (show i < 4 by omega)]
    exact k
theorem ok_is_at (T : TX K mg) : Fn P w K mg base false 2 (He.ga K "is_at") (sp_rg 0 60) := by
  refine (f_is_at T).calm 1 (fun vs H Q E h => ?_) (fun cdv A outer s H vs Q E hr h => ?_)
  · obtain ⟨i, rfl, _⟩ := h; rfl
  · obtain ⟨i, rfl, h0, h1, k⟩ := h
    refine ⟨_, pss_one (ps_ret (pe_and (x_call (ok_is_whole T) (can hr) (g_is_whole T) (f_is_whole T).kp (fun _ => pas0) (pa_cons (pv 0) pa_nil)) (pe_one (pe_chain op_le op_le pe_int (pv 0) (x_glob (k_MOST_ROWS T)))))), ?_⟩
    walk_at "u"; walk_at "q"
    rw [decide_eq_true h1]
    exact k
/-! a page's words -/
def sp_are_words : Sp := fun vs H Q _ => ∃ (a : Addr) (ws : List Int), vs = [.ref a] ∧ H a = some (.lst (ws.map V.int)) ∧ okPg ws ∧ ∀ H', Same H H' → Q (.bl true) H'
theorem ok_are_words (T : TX K mg) : Fn P w K mg base false 3 (He.ga K "are_words") sp_are_words := by
  refine (f_are_words T).calm 2 (fun vs H Q E h => ?_) (fun cdv A outer s H vs Q E hr h => ?_)
  · obtain ⟨a, ws, rfl, _⟩ := h; rfl
  · obtain ⟨a, ws, rfl, ha, ok, k⟩ := h
    refine ⟨_, pss_one (ps_ret (pe_and (x_isi (z_isinstance T) (pv 0) (x_ty (z_list T) bb_list)) (pe_and (pe_cmpR op_eq (x_len (z_len T) (pv 0)) (x_glob (k_CELLS T)) (nomark _)) (pe_one (x_all rfl (z_all T) (pe_lc (own := [("word", 1)]) (g := gName 1) rfl (f_are_words T).nd (pi_list (pv 0)) (blkOk_by (own := [("word", 1)]) (N := ["thing", "word"]) (sc := defScope s_are_words) (by decide +kernel)) (fun _ _ _ _ _ => pg_name (i := 1) (f_are_words T).nd rfl (Or.inl rfl)) (fun _ _ _ _ _ => pts_nil) (fun _ _ _ _ _ => (x_call (ok_is_word T) (can hr) (g_is_word T) (f_is_word T).kp (fun _ => pas0) (pa_cons (pv 1) pa_nil))))))))), ?_⟩
    walk_at "u"; walk_at "q"
    refine q_isi (T := .non) (.base (.lst ha)) ki_ll ?_
    walk_at "q"
    refine ite_y (by rw [List.length_map, ok.1]; rfl) ?_
    refine lc_mapL (ys := ws.map fun _ => V.bl true) (fun R q => q_var rfl q) ha (by rw [List.length_map, ok.1]; decide) (by simp) (fun i x y H1 hx hy e Q' q => ?_) fun D H' n e d => ?_
    · obtain ⟨n, hn, rfl⟩ := getMap hx
      obtain ⟨_, _, rfl⟩ := getMap hy
      walk_at "u"; walk_at "q"
      rw [decide_eq_true (ok.2 n (List.mem_of_getElem? hn))]
      exact q H1 (Same.refl _)
    · refine q_all (bs := ws.map fun _ => true) (by rw [d, List.map_map]; rfl) ?_
      rw [show (ws.map fun _ => true).all id = true by simp]
      exact k H' e
/-! a list of pages -/
def PgsAt (H : Hp) (a : Addr) (pgs : List (List Int)) : Prop := ∃ as : List Addr, H a = some (.lst (as.map V.ref)) ∧ as.length = pgs.length ∧ ∀ (i : Nat) (b : Addr) (p : List Int), as[i]? = some b → pgs[i]? = some p → H b = some (.lst (p.map V.int)) ∧ okPg p
theorem PgsAt.same {H H' : Hp} {a : Addr} {pgs : List (List Int)} (h : PgsAt H a pgs) (e : Same H H') : PgsAt H' a pgs := by
  obtain ⟨as, h1, h2, h3⟩ := h
  exact ⟨as, e _ _ h1, h2, fun i b p x y => ⟨e _ _ (h3 i b p x y).1, (h3 i b p x y).2⟩⟩
def sp_is_image : Sp := fun vs H Q _ => ∃ (a : Addr) (pgs : List (List Int)), vs = [.ref a] ∧ PgsAt H a pgs ∧ 1 ≤ pgs.length ∧ pgs.length ≤ 24 ∧ ∀ H', Same H H' → Q (.bl true) H'
theorem ok_is_image (T : TX K mg) : Fn P w K mg base false 4 (He.ga K "is_image") sp_is_image := by
  refine (f_is_image T).calm 3 (fun vs H Q E h => ?_) (fun cdv A outer s H vs Q E hr h => ?_)
  · obtain ⟨a, ws, rfl, _⟩ := h; rfl
  · obtain ⟨a, pgs, rfl, ⟨as, ha, hl, hp⟩, h1, h2, k⟩ := h
    refine ⟨_, pss_cons (ps_if (PW.pt (pw_or (pt_not (pt_val (x_isi (z_isinstance T) (pv 0) (x_ty (z_list T) bb_list)))) (pw_or (pt_cmpR op_lt (x_len (z_len T) (pv 0)) pe_int (nomark _)) (pw_or1 (pt_cmpR op_gt (x_len (z_len T) (pv 0)) (x_glob (k_MOST_PAGES T)) (nomark _)))))) (pss_one (ps_ret pe_bl)) pss_nil) (pss_one (ps_ret (x_all rfl (z_all T) (pe_lc (own := [("words", 1)]) (g := gName 1) rfl (f_is_image T).nd (pi_list (pv 0)) (blkOk_by (own := [("words", 1)]) (N := ["thing", "words"]) (sc := defScope s_is_image) (by decide +kernel)) (fun _ _ _ _ _ => pg_name (i := 1) (f_is_image T).nd rfl (Or.inl rfl)) (fun _ _ _ _ _ => pts_nil) (fun _ _ _ _ _ => (pe_or (pe_cmp (pc_isN (pv 1))) (pe_one (x_call (ok_are_words T) (can hr) (g_are_words T) (f_are_words T).kp (fun _ => pas0) (pa_cons (pv 1) pa_nil))))))))), ?_⟩
    have hz : as.length < sizeLine := Nat.lt_of_le_of_lt (by omega : as.length ≤ 24) (by decide)
    walk_at "u"; walk_at "q"
    refine q_isi (T := .non) (.base (.lst ha)) ki_ll ?_
    walk_at "q"
    walk_at "q"
    refine lc_mapL (ys := as.map fun _ => V.bl true) (fun R q => q_var rfl q) ha (by simpa using hz) (by simp) (fun i x y H1 hx hy e Q' q => ?_) fun D H' n e d => ?_
    · obtain ⟨b, hb, rfl⟩ := getMap hx
      obtain ⟨_, _, rfl⟩ := getMap hy
      have hi := (List.getElem?_eq_some_iff.mp hb).1
      obtain ⟨hb2, okp⟩ := hp i b (pgs[i]'(by omega)) hb (List.getElem?_eq_getElem _)
      walk_at "u"; walk_at "q"
      refine ite_n (by simp) ?_
      walk_at "q"
      exact ⟨_, _, rfl, e _ _ hb2, okp, fun H2 e2 => q H2 e2⟩
    · refine q_all (bs := as.map fun _ => true) (by rw [d, List.map_map]; rfl) ?_
      rw [show (as.map fun _ => true).all id = true by simp]
      exact k H' e
def sp_is_name : Sp := fun vs H Q _ => vs = [.str "a"] ∧ ∀ H', Same H H' → Q (.bl true) H'
theorem ok_is_name (T : TX K mg) : Fn P w K mg base false 1 (He.ga K "is_name") sp_is_name := by
  refine (f_is_name T).calm 0 (fun vs H Q E h => ?_) (fun cdv A outer s H vs Q E hr h => ?_)
  · obtain ⟨rfl, _⟩ := h; rfl
  · obtain ⟨rfl, k⟩ := h
    refine ⟨_, pss_cons (ps_if (PW.pt (pw_or (pt_not (pt_val (x_isi (z_isinstance T) (pv 0) (x_ty (z_str T) bb_str)))) (pw_or1 (pt_not (pt_chain op_le op_le pe_int (x_len (z_len T) (pv 0)) pe_int))))) (pss_one (ps_ret pe_bl)) pss_nil) (pss_one (ps_ret (x_all rfl (z_all T) (pe_lc (own := [("sign", 1)]) (g := gName 1) rfl (f_is_name T).nd (pi_str (pv 0)) (blkOk_by (own := [("sign", 1)]) (N := ["thing", "sign"]) (sc := defScope s_is_name) (by decide +kernel)) (fun _ _ _ _ _ => pg_name (i := 1) (f_is_name T).nd rfl (Or.inl rfl)) (fun _ _ _ _ _ => pts_nil) (fun _ _ _ _ _ => (pe_cmpR op_in_sign (pv 1) (x_glob (k_LETTERS T)) (by rfl))))))), ?_⟩
    walk_at "u"; walk_at "q"
    refine q_isi (T := .non) (.base (.str "a")) ki_ss ?_
    walk_at "q"
    refine q_lenS (by decide +kernel) ?_
    walk_at "q"
    refine ite_y (by decide +kernel) ?_
    walk_at "q"
    rw [show decide (((("a" : Str).length : Nat) : Int) ≤ 8) = true by decide +kernel]
    walk_at "q"
    refine lc_mapS (z := "a") (ys := [V.bl true]) (fun R q => q_var rfl q) (by decide) (by decide +kernel) (fun i c y H1 hx hy e Q' q => ?_) fun D H' n e d => ?_
    · have hc : c = 97 := by
        have hi : i = 0 := by
          have := (List.getElem?_eq_some_iff.mp hy).1
          simp at this
          exact this
        subst hi
        have h97 : ("a" : Str).cps[0]? = some 97 := by decide +kernel
        rw [h97] at hx
        exact (Option.some.inj hx).symm
      subst hc
      have hy' : y = V.bl true := by
        have := List.mem_of_getElem? hy
        simpa using this
      subst hy'
      walk_at "u"; walk_at "q"
      refine ⟨97, _, rfl, rfl, ?_⟩
      rw [show decide (97 ∈ (("abcdefghijklmnopqrstuvwxyz" : Str).cps.toList)) = true by decide +kernel]
      exact q H1 (Same.refl _)
    · refine q_all (bs := [true]) d ?_
      exact k H' e
/-! ### a program's rows -/
inductive Ord where
  | set (a w : Int)
  | poke
  | nought
def Ord.vals : Ord → List V
  | .set a w => [.str "set", .int a, .int w]
  | .poke => [.str "poke", .int 0, .int 1]
  | .nought => [.str "nought", .int 2, .int 0]
def Ord.word : Ord → Str
  | .set _ _ => "set"
  | .poke => "poke"
  | .nought => "nought"
def Ord.ok : Ord → Prop
  | .set a w => 0 ≤ a ∧ a ≤ 3 ∧ isW w
  | _ => True
def Ord.form : Ord → Str
  | .set _ _ => "rw"
  | .poke => "rr"
  | .nought => "ra"
def sp_form_of : Sp := fun vs H Q _ => ∃ o : Ord, vs = [.str o.word] ∧ ∀ H', Same H H' → Q (.str o.form) H'
theorem ok_form_of (T : TX K mg) : Fn P w K mg base false 1 (He.ga K "form_of") sp_form_of := by
  refine (f_form_of T).calm 0 (fun vs H Q E h => ?_) (fun cdv A outer s H vs Q E hr h => ?_)
  · obtain ⟨o, rfl, _⟩ := h; rfl
  · obtain ⟨o, rfl, k⟩ := h
    refine ⟨_, pss_cons (ps_if (pt_cmpR op_in_seq (pv 0) (pe_tup (pa_cons pe_str (pa_cons pe_str (pa_cons pe_str (pa_cons pe_str (pa_cons pe_str (pa_cons pe_str (pa_cons pe_str (pa_cons pe_str pa_nil))))))))) (by rfl)) (pss_one (ps_ret pe_str)) pss_nil) (pss_cons (ps_if (pt_cmpR op_in_seq (pv 0) (pe_tup (pa_cons pe_str (pa_cons pe_str (pa_cons pe_str (pa_cons pe_str (pa_cons pe_str pa_nil)))))) (by rfl)) (pss_one (ps_ret pe_str)) pss_nil) (pss_cons (ps_if (pt_cmpR op_in_seq (pv 0) (pe_tup (pa_cons pe_str (pa_cons pe_str (pa_cons pe_str (pa_cons pe_str pa_nil))))) (by rfl)) (pss_one (ps_ret pe_str)) pss_nil) (pss_cons (ps_if (pt_cmpR op_in_seq (pv 0) (pe_tup (pa_cons pe_str (pa_cons pe_str pa_nil))) (by rfl)) (pss_one (ps_ret pe_str)) pss_nil) (pss_cons (ps_if (pt_cmpR op_eq (pv 0) pe_str (nomark _)) (pss_one (ps_ret pe_str)) pss_nil) (pss_cons (ps_if (pt_cmpR op_eq (pv 0) pe_str (nomark _)) (pss_one (ps_ret pe_str)) pss_nil) (pss_one (ps_ret pe_non))))))), ?_⟩
    walk_at "u"; walk_at "q"
    cases o with
    | poke =>
      dsimp only [Ord.word, Ord.form] at k ⊢
      refine q_inW (b := true) (by decide +kernel) (by decide) fun H1 e1 => ?_
      walk_at "q"
      exact k _ e1
    | set a z =>
      dsimp only [Ord.word, Ord.form] at k ⊢
      refine q_inW (b := false) (by decide +kernel) (by decide) fun H1 e1 => ?_
      walk_at "q"
      refine q_inW (b := false) (by decide +kernel) (by decide) fun H2 e2 => ?_
      walk_at "q"
      refine q_inW (b := false) (by decide +kernel) (by decide) fun H3 e3 => ?_
      walk_at "q"
      refine q_inW (b := false) (by decide +kernel) (by decide) fun H4 e4 => ?_
      walk_at "q"
      refine ite_y rfl ?_
      exact k _ (e1.trans (e2.trans (e3.trans e4)))
    | nought =>
      dsimp only [Ord.word, Ord.form] at k ⊢
      refine q_inW (b := false) (by decide +kernel) (by decide) fun H1 e1 => ?_
      walk_at "q"
      refine q_inW (b := false) (by decide +kernel) (by decide) fun H2 e2 => ?_
      walk_at "q"
      refine q_inW (b := false) (by decide +kernel) (by decide) fun H3 e3 => ?_
      walk_at "q"
      refine q_inW (b := false) (by decide +kernel) (by decide) fun H4 e4 => ?_
      walk_at "q"
      refine ite_n (by decide +kernel) ?_
      walk_at "q"
      refine ite_y rfl ?_
      exact k _ (e1.trans (e2.trans (e3.trans e4)))
def sp_is_part : Sp := fun vs H Q _ => ∃ (i : Int) (z : Str), vs = [.int i, .str z] ∧ ((z = "r" ∧ 0 ≤ i ∧ i ≤ 3) ∨ (z = "w" ∧ isW i) ∨ (z = "a" ∧ 0 ≤ i ∧ i ≤ 60)) ∧ Q (.bl true) H
theorem ok_is_part (T : TX K mg) : Fn P w K mg base false 3 (He.ga K "is_part") sp_is_part := by
  refine (f_is_part T).calm 2 (fun vs H Q E h => ?_) (fun cdv A outer s H vs Q E hr h => ?_)
  · obtain ⟨i, z, rfl, _⟩ := h; rfl
  · obtain ⟨i, z, rfl, hz, k⟩ := h
    refine ⟨_, pss_cons (ps_if (pt_cmpR op_eq (pv 1) pe_str (nomark _)) (pss_one (ps_ret (x_call (ok_is_register T) (can hr) (g_is_register T) (f_is_register T).kp (fun _ => pas0) (pa_cons (pv 0) pa_nil)))) pss_nil) (pss_cons (ps_if (pt_cmpR op_eq (pv 1) pe_str (nomark _)) (pss_one (ps_ret (x_call (ok_is_word T) (can hr) (g_is_word T) (f_is_word T).kp (fun _ => pas0) (pa_cons (pv 0) pa_nil)))) pss_nil) (pss_one (ps_ret (x_call (ok_is_at T) (can hr) (g_is_at T) (f_is_at T).kp (fun _ => pas0) (pa_cons (pv 0) pa_nil))))), ?_⟩
    walk_at "u"; walk_at "q"
    rcases hz with ⟨rfl, h0, h1⟩ | ⟨rfl, h0⟩ | ⟨rfl, h0, h1⟩
    · refine ite_y rfl ?_
      walk_at "q"
      exact ⟨i, rfl, h0, h1, k⟩
    · refine ite_n (by decide +kernel) ?_
      walk_at "q"
      refine ite_y rfl ?_
      walk_at "q"
      rw [decide_eq_true h0]
      exact k
    · refine ite_n (by decide +kernel) ?_
      walk_at "q"
      refine ite_n (by decide +kernel) ?_
      walk_at "q"
      exact ⟨i, rfl, h0, h1, k⟩
def sp_is_order : Sp := fun vs H Q _ => ∃ (a : Addr) (o : Ord), vs = [.ref a] ∧ H a = some (.tup o.vals) ∧ o.ok ∧ ∀ H', Same H H' → Q (.bl true) H'
theorem Ord.vals0 (o : Ord) : ∃ x y, o.vals = [.str o.word, x, y] := by cases o <;> exact ⟨_, _, rfl⟩
theorem Ord.form_len (o : Ord) : o.form.length = 2 := by cases o <;> (dsimp only [Ord.form]; decide +kernel)
theorem ok_is_order (T : TX K mg) : Fn P w K mg base false 4 (He.ga K "is_order") sp_is_order := by
  refine (f_is_order T).calm 3 (fun vs H Q E h => ?_) (fun cdv A outer s H vs Q E hr h => ?_)
  · obtain ⟨a, o, rfl, _⟩ := h; rfl
  · obtain ⟨a, o, rfl, ha, ok, k⟩ := h
    obtain ⟨x, y, hv⟩ := o.vals0
    rw [hv] at ha
    refine ⟨_, pss_cons (ps_if (PW.pt (pw_or (pt_not (pt_val (x_isi (z_isinstance T) (pv 0) (x_ty (z_tuple T) bb_tuple)))) (pw_or (pt_cmpR op_eq (x_len (z_len T) (pv 0)) pe_int (nomark _)) (pw_or1 (pt_not (pt_val (x_isi (z_isinstance T) (pe_ix ix_tup (pv 0) pe_int (fun _ _ => rfl)) (x_ty (z_str T) bb_str)))))))) (pss_one (ps_ret pe_bl)) pss_nil) (pss_cons (ps_set (i := 1) (f_is_order T).nd rfl (Or.inl rfl) (x_call (ok_form_of T) (can hr) (g_form_of T) (f_form_of T).kp (fun _ => pas0) (pa_cons (pe_ix ix_tup (pv 0) pe_int (fun _ _ => rfl)) pa_nil))) (pss_cons (ps_if (PW.pt (pw_or (pt_cmp (pc_isN (pv 1))) (pw_or1 (pt_cmpR op_ne (x_len (z_len T) (pv 1)) (pe_op op_sub (x_len (z_len T) (pv 0)) pe_int) (nomark _))))) (pss_one (ps_ret pe_bl)) pss_nil) (pss_cons (ps_for (passes_of rfl) rfl (x_zipS (z_zip T) (pa_cons (pe_slice sl_tup (pv 0) (po_some pe_int) po_none) (pa_cons (pv 1) pa_nil))) (x_tup (n := 2) (.inl hr.hd) (pgs_cons (pg_name (i := 2) (f_is_order T).nd rfl (Or.inl rfl)) (pgs_cons (pg_name (i := 3) (f_is_order T).nd rfl (Or.inl rfl)) pgs_nil))) (pss_one (ps_if (pt_not (pt_val (x_call (ok_is_part T) (can hr) (g_is_part T) (f_is_part T).kp (fun _ => pas0) (pa_cons (pv 2) (pa_cons (pv 3) pa_nil))))) (pss_one (ps_ret pe_bl)) pss_nil))) (pss_one (ps_ret pe_bl))))), ?_⟩
    walk_at "u"; walk_at "q"
    refine q_isi (T := .non) (.base (.tup ha)) ki_tt ?_
    walk_at "q"
    refine q_ixT ha (v := .str o.word) rfl ?_
    walk_at "q"
    refine q_isi (T := .non) (.base (.str o.word)) ki_ss ?_
    walk_at "q"
    refine q_ixT ha (v := .str o.word) rfl ?_
    refine ⟨o, rfl, fun H1 e1 => ?_⟩
    have ha1 := e1 _ _ ha
    walk_at "q"
    refine ite_n (by simp) ?_
    walk_at "q"
    refine q_lenS (by rw [o.form_len]; decide) ?_
    walk_at "q"
    refine iteNS (by rw [o.form_len]; rfl) ?_
    refine fr_zip0 ?_
    walk_at "u"; walk_at "q"
    refine ⟨a, _, rfl, SqT.of ha1, (show ¬ (HT.sIx 3 0 (some 1) = 0 ∧ HT.sIx 3 3 none = 3) by decide), fun p hp => ?_⟩
    have e2 := same_new (o := .tup [x, y]) hp
    walk_at "q"
    refine ⟨p, [x, y], o.form, rfl, SqT.of upd_same, ?_⟩
    have h0 : (upd H1 p (.tup [x, y])) p = some (.tup [x, y]) := upd_same
    refine fo_zipS (fun i σ H2 => (∃ u v, σ = [some (.ref a), some (.str o.form), u, v]) ∧ Same (upd H1 p (.tup [x, y])) H2) ⟨⟨_, _, rfl⟩, Same.refl _⟩ (fun i σ H2 h => SqT.of (h.2 _ _ h0)) (fun i z c σ H2 T1 hz hc ⟨⟨u, v, hσ⟩, e3⟩ hT => ?_) fun σ H2 ⟨⟨u, v, hσ⟩, e3⟩ => ?_
    · subst hσ
      refine q_tup upd_same rfl ?_
      walk_at "q"
      have e4 := e3.trans (same_new (o := .tup [z, .str ⟨#[c]⟩]) hT)
      obtain ⟨n, rfl, hn⟩ : ∃ n : Int, z = .int n ∧ (((⟨#[c]⟩ : Str) = "r" ∧ 0 ≤ n ∧ n ≤ 3) ∨ ((⟨#[c]⟩ : Str) = "w" ∧ isW n) ∨ ((⟨#[c]⟩ : Str) = "a" ∧ 0 ≤ n ∧ n ≤ 60)) := by
        have hz : [x, y][i]? = some z := hz
        cases o with
        | set m n =>
          obtain ⟨rfl, rfl⟩ : V.int m = x ∧ V.int n = y := by simpa [Ord.vals, Ord.word] using hv
          match i, hz, hc with
          | 0, hz, hc =>
            cases hz
            obtain rfl : 114 = c := Option.some.inj ((show (Ord.form (.set m n)).cps[0]? = some 114 by dsimp only [Ord.form]; decide +kernel).symm.trans hc)
            exact ⟨m, rfl, .inl ⟨by decide +kernel, ok.1, ok.2.1⟩⟩
          | 1, hz, hc =>
            cases hz
            obtain rfl : 119 = c := Option.some.inj ((show (Ord.form (.set m n)).cps[1]? = some 119 by dsimp only [Ord.form]; decide +kernel).symm.trans hc)
            exact ⟨n, rfl, .inr (.inl ⟨by decide +kernel, ok.2.2⟩)⟩
          | (i + 2), hz, hc => cases hz
        | poke =>
          obtain ⟨rfl, rfl⟩ : V.int 0 = x ∧ V.int 1 = y := by simpa [Ord.vals, Ord.word] using hv
          match i, hz, hc with
          | 0, hz, hc =>
            cases hz
            obtain rfl : 114 = c := Option.some.inj ((show (Ord.form .poke).cps[0]? = some 114 by dsimp only [Ord.form]; decide +kernel).symm.trans hc)
            exact ⟨0, rfl, .inl ⟨by decide +kernel, by decide, by decide⟩⟩
          | 1, hz, hc =>
            cases hz
            obtain rfl : 114 = c := Option.some.inj ((show (Ord.form .poke).cps[1]? = some 114 by dsimp only [Ord.form]; decide +kernel).symm.trans hc)
            exact ⟨1, rfl, .inl ⟨by decide +kernel, by decide, by decide⟩⟩
          | (i + 2), hz, hc => cases hz
        | nought =>
          obtain ⟨rfl, rfl⟩ : V.int 2 = x ∧ V.int 0 = y := by simpa [Ord.vals, Ord.word] using hv
          match i, hz, hc with
          | 0, hz, hc =>
            cases hz
            obtain rfl : 114 = c := Option.some.inj ((show (Ord.form .nought).cps[0]? = some 114 by dsimp only [Ord.form]; decide +kernel).symm.trans hc)
            exact ⟨2, rfl, .inl ⟨by decide +kernel, by decide, by decide⟩⟩
          | 1, hz, hc =>
            cases hz
            obtain rfl : 97 = c := Option.some.inj ((show (Ord.form .nought).cps[1]? = some 97 by dsimp only [Ord.form]; decide +kernel).symm.trans hc)
            exact ⟨0, rfl, .inr (.inr ⟨by decide +kernel, by decide, by decide⟩)⟩
          | (i + 2), hz, hc => cases hz
      walk_at "w"
      refine ⟨n, ⟨#[c]⟩, rfl, hn, ?_⟩
      walk_at "w"
      exact ⟨⟨_, _, rfl⟩, e4⟩
    · exact k _ (e1.trans (e2.trans e3))
end
end SP

/-! B2 -/
set_option maxHeartbeats 4100000
namespace SP
open PySem PySem.Spec PyProof.Rows L2 L2H
local macro_rules | `(tactic| walk_at "u") => `(tactic| (dsimp only [tRet, tSeq, tAsg, tDrop, tIfS, tNext, tRetN, tBreak, tCont, tOp, tUn, tCons, tNil, tCallX, tM, tF, sSet, sNew, sAug, tMakeX, tTest, tB, tAnd, tOr, tNot, tAndV, tOrV, tNotV, tIf, tChain, tCB, tBM, tBM0, tTup, tLst, gName, tC, tIsN, tNotN, tDIn, tDNotIn, tDGet, sDPut, tDPop1, gCons, gNil, tSl, tPart, tNoPart, tYes, tVeI]))
local macro_rules | `(tactic| walk_at "o") => `(tactic| (first | assumption | omega | (simp only [List.length_map, List.length_replicate, List.length_range, List.length_append, List.length_cons, List.length_nil]; omega)))
local macro_rules | `(tactic| walk_at "q") => `(tactic| (repeat (first
  | ((with_reducible refine' q_var ?hq ?_); (case hq => rfl))
  | ((with_reducible refine' q_pF (by assumption) ?hq ?_); (case hq => rfl))
  | (with_reducible refine q_pM (by assumption) ?_)
  | (with_reducible refine q_I0 ?_)
  | (with_reducible refine q_isInt ?_)
  | (with_reducible refine q_isBool ?_)
  | (with_reducible refine iteT ?_)
  | (with_reducible refine iteF ?_)
  | (with_reducible refine iteNT ?_)
  | (with_reducible refine iteNF ?_)
  | (with_reducible refine q_eqI ?_)
  | (with_reducible refine q_neI ?_)
  | ((with_reducible refine' q_eq ?hq ?_); (case hq => rfl))
  | ((with_reducible refine' q_ne ?hq ?_); (case hq => rfl))
  | (with_reducible refine q_lenL (by assumption) ?_)
  | (with_reducible refine q_lenT (by assumption) ?_)
  | (with_reducible refine q_is_whole ?_)
  | (with_reducible refine q_is_word ?_)
  | (with_reducible refine q_is_below ?_)
  | (with_reducible refine q_has ?_)
  | (with_reducible refine q_put ?_)
  | (with_reducible refine q_taken ?_)
  | (with_reducible refine q_page_of ?_)
  | (with_reducible refine q_pow48 ?_)
  | (with_reducible refine q_pow40 ?_)
  | ((with_reducible refine' q_I ?hq ?_); (case hq => first | assumption | decide | omega | exact q_div1 (by omega) _ | exact mul_ok (by omega) | exact pow_ok (by decide)))
  | ((with_reducible refine' ite_y ?hq ?_); (case hq => walk_at "o"))
  | ((with_reducible refine' ite_n ?hq ?_); (case hq => walk_at "o"))
  | ((with_reducible refine' ite_nn ?hq ?_); (case hq => walk_at "o"))
  | ((with_reducible refine' ite_ny ?hq ?_); (case hq => walk_at "o"))
  | (with_reducible
                    refine ⟨_, rfl, ?_⟩)
  | (with_reducible refine ⟨_, _, rfl, ?_⟩)
  | (with_reducible refine ⟨rfl, ?_⟩))))
local macro_rules | `(tactic| walk_at "w") => `(tactic| ((try (walk_at "u")); (walk_at "q"); (try (walk_at "u")); (walk_at "q")))
/-! ### rows of tables: marks and numbers -/
theorem and_low {f m k : Nat} (hk : k < 256) (hm : m < 256) : (256 * f + m) &&& k = m &&& k := by
  refine Nat.eq_of_testBit_eq fun i => ?_
  rw [Nat.testBit_and, Nat.testBit_and]
  by_cases h : i < 8
  · rw [show 256 * f + m = 2 ^ 8 * f + m by rfl, Nat.testBit_two_pow_mul_add f (show m < 2 ^ 8 from hm), if_pos h]
  · rw [Nat.testBit_lt_two_pow (Nat.lt_of_lt_of_le (show k < 2 ^ 8 from hk) (Nat.pow_le_pow_right (by decide) (by omega))), Bool.and_false, Bool.and_false]
/-- marks: there, to be written, touched, soiled -/
def mkW (w t s : Bool) : Nat := 1 + 2 * w.toNat + 8 * t.toNat + 16 * s.toNat
theorem mkW_lt (w t s : Bool) : mkW w t s < 256 := by cases w <;> cases t <;> cases s <;> decide
def rowW (f : Nat) (w t s : Bool) : Int := ((256 * f + mkW w t s : Nat) : Int)
theorem row_and (f : Nat) (w t s : Bool) (k : Nat) (hk : k < 256) : Builtin.bitAnd (rowW f w t s) (k : Int) = ((mkW w t s &&& k : Nat) : Int) := by
  unfold rowW
  rw [bitAnd_pp (by omega) (by omega), Int.toNat_natCast, Int.toNat_natCast, and_low hk (mkW_lt w t s)]
theorem row_ok {f : Nat} (hf : f < 1000) (w t s : Bool) : isW (rowW f w t s) := by
  have := mkW_lt w t s
  unfold isW rowW
  constructor
  · omega
  · have : (2 : Int) ^ 48 = 281474976710656 := by decide
    omega
theorem row_page (f : Nat) (w t s : Bool) : rowW f w t s / 256 = (f : Int) := by
  have := mkW_lt w t s
  unfold rowW
  omega
theorem row_make (f : Nat) (w t s : Bool) : Builtin.bitOr ((f : Int) * 2 ^ (8 : Nat)) ((mkW w t s : Nat) : Int) = rowW f w t s := by
  have h := mkW_lt w t s
  rw [Bits.bitOr_join' (by omega) (by exact_mod_cast h) (by omega)]
  unfold rowW
  have : (2 : Int) ^ (8 : Nat) = 256 := by decide
  omega
theorem row_has1 (f : Nat) (w t s : Bool) : decide (Builtin.bitAnd (rowW f w t s) 1 = 1) = true := by
  rw [show (1 : Int) = ((1 : Nat) : Int) from rfl, row_and f w t s 1 (by decide)]
  cases w <;> cases t <;> cases s <;> decide
theorem row_has2 (f : Nat) (w t s : Bool) : decide (Builtin.bitAnd (rowW f w t s) 2 = 2) = w := by
  rw [show (2 : Int) = ((2 : Nat) : Int) from rfl, row_and f w t s 2 (by decide)]
  cases w <;> cases t <;> cases s <;> decide
theorem row_has4 (f : Nat) (w t s : Bool) : decide (Builtin.bitAnd (rowW f w t s) 4 = 4) = false := by
  rw [show (4 : Int) = ((4 : Nat) : Int) from rfl, row_and f w t s 4 (by decide)]
  cases w <;> cases t <;> cases s <;> decide
theorem row_has8 (f : Nat) (w t s : Bool) : decide (Builtin.bitAnd (rowW f w t s) 8 = 8) = t := by
  rw [show (8 : Int) = ((8 : Nat) : Int) from rfl, row_and f w t s 8 (by decide)]
  cases w <;> cases t <;> cases s <;> decide
theorem row_has16 (f : Nat) (w t s : Bool) : decide (Builtin.bitAnd (rowW f w t s) 16 = 16) = s := by
  rw [show (16 : Int) = ((16 : Nat) : Int) from rfl, row_and f w t s 16 (by decide)]
  cases w <;> cases t <;> cases s <;> decide
theorem row_has24 (f : Nat) (w t s : Bool) : decide (Builtin.bitAnd (rowW f w t s) 24 = 24) = (t && s) := by
  rw [show (24 : Int) = ((24 : Nat) : Int) from rfl, row_and f w t s 24 (by decide)]
  cases w <;> cases t <;> cases s <;> decide
theorem row_put2 (f : Nat) (w t s : Bool) : Builtin.bitOr (rowW f w t s) 2 = rowW f true t s := by
  rw [bitOr_and, show (2 : Int) = ((2 : Nat) : Int) from rfl, row_and f w t s 2 (by decide)]
  cases w <;> cases t <;> cases s <;> (unfold rowW; simp [mkW]; try omega)
theorem row_put8 (f : Nat) (w t s : Bool) : Builtin.bitOr (rowW f w t s) 8 = rowW f w true s := by
  rw [bitOr_and, show (8 : Int) = ((8 : Nat) : Int) from rfl, row_and f w t s 8 (by decide)]
  cases w <;> cases t <;> cases s <;> (unfold rowW; simp [mkW]; try omega)
theorem row_put24 (f : Nat) (w t s : Bool) : Builtin.bitOr (rowW f w t s) 24 = rowW f w true true := by
  rw [bitOr_and, show (24 : Int) = ((24 : Nat) : Int) from rfl, row_and f w t s 24 (by decide)]
  cases w <;> cases t <;> cases s <;> (unfold rowW; simp [mkW]; try omega)
theorem row_taken16 (f : Nat) (w t s : Bool) : rowW f w t s - Builtin.bitAnd (rowW f w t s) 16 = rowW f w t false := by
  rw [show (16 : Int) = ((16 : Nat) : Int) from rfl, row_and f w t s 16 (by decide)]
  cases w <;> cases t <;> cases s <;> (unfold rowW; simp [mkW]; try omega)
section
variable {P : Program} {w : World} {K :
                                        PySem.W.Frag} {mg : Str → Option Value} {base : Heap}
theorem ok_has (T : TX K mg) : Fn P w K mg base true 1 (He.ga K "has") sp_has := by
  refine (f_has T).dual 0 (fun vs H Q E h => ?_) (fun cdv A outer s H vs Q E m hr h => ?_)
  · obtain ⟨i, n, rfl, _⟩ := h; rfl
  · obtain ⟨i, n, rfl, k⟩ := h
    refine ⟨_, pss_one (ps_ret (pe_cmpR op_eq (pe_op op_and (pv 0) (pv 1)) (pv 1) (nomark _))), ?_⟩
    walk_at "w"
    exact k
theorem ok_put (T : TX K mg) : Fn P w K mg base true 1 (He.ga K "put") sp_put := by
  refine (f_put T).dual 0 (fun vs H Q E h => ?_) (fun cdv A outer s H vs Q E m hr h => ?_)
  · obtain ⟨i, n, rfl, _⟩ := h; rfl
  · obtain ⟨i, n, rfl, k⟩ := h
    refine ⟨_, pss_one (ps_ret (pe_op op_or (pv 0) (pv 1))), ?_⟩
    walk_at "w"
    exact k
theorem ok_taken (T : TX K mg) : Fn P w K mg base false 1 (He.ga K "taken") sp_taken := by
  refine (f_taken T).calm 0 (fun vs H Q E h => ?_) (fun cdv A outer s H vs Q E hr h => ?_)
  · obtain ⟨i, n, rfl, _⟩ := h; rfl
  · obtain ⟨i, n, rfl, k⟩ := h
    refine ⟨_, pss_one (ps_ret (pe_op op_sub (pv 0) (pe_op op_and (pv 0) (pv 1)))), ?_⟩
    walk_at "w"
    exact k
theorem ok_page_of (T : TX K mg) : Fn P w K mg base true 1 (He.ga K "page_of") sp_page_of := by
  refine (f_page_of T).dual 0 (fun vs H Q E h => ?_) (fun cdv A outer s H vs Q E m hr h => ?_)
  · obtain ⟨i, rfl, _⟩ := h; rfl
  · obtain ⟨i, rfl, k⟩ := h
    refine ⟨_, pss_one (ps_ret (pe_op op_shr (pv 0) pe_int)), ?_⟩
    walk_at "w"
    exact k
def sp_rights_of : Sp := fun vs H Q _ => ∃ i j : Int, vs = [.int i, .int j] ∧ ∀ k : Int, Q (.int k) H
theorem ok_rights_of (T : TX K mg) : Fn P w K mg base true 1 (He.ga K "rights_of") sp_rights_of := by
  refine (f_rights_of T).dual 0 (fun vs H Q E h => ?_) (fun cdv A outer s H vs Q E m hr h => ?_)
  · obtain ⟨i, n, rfl, _⟩ := h; rfl
  · obtain ⟨i, n, rfl, k⟩ := h
    refine ⟨_, pss_cons (ps_set (i := 2) (f_rights_of T).nd rfl (Or.inl rfl) (pe_op op_and (pe_op op_and (pv 0) (pv 1)) (x_glob (k_WRITABLE T)))) (pss_cons (ps_set (i := 2) (f_rights_of T).nd rfl (Or.inl rfl) (pe_op op_or (pv 2) (pe_op op_and (pe_op op_or (pv 0) (pv 1)) (x_glob (k_KERNEL T))))) (pss_one (ps_ret (pe_op op_or (pv 2) (pe_op op_and (pv 1) (x_glob (k_SOILED T))))))), ?_⟩
    walk_at "w"
    exact k _
def sp_row_of : Sp := fun vs H Q _ => ∃ (f m : Int), vs = [.int f, .int m] ∧ 0 ≤ f ∧ f < 1000 ∧ 0 ≤ m ∧ m < 256 ∧ Q (.int (Builtin.bitOr (f * 2 ^ (8 : Nat)) m)) H
theorem ok_row_of (T : TX K mg) : Fn P w K mg base false 2 (He.ga K "row_of") sp_row_of := by
  refine (f_row_of T).calm 1 (fun vs H Q E h => ?_) (fun cdv A outer s H vs Q E hr h => ?_)
  · obtain ⟨i, n, rfl, _⟩ := h; rfl
  · obtain ⟨i, n, rfl, h0, h1, h2, h3, k⟩ := h
    refine ⟨_, pss_cons (ps_if (PW.pt (pw_or (pt_not (pt_val (x_call (ok_is_whole T) (can hr) (g_is_whole T) (f_is_whole T).kp (fun _ => pas0) (pa_cons (pv 0) pa_nil)))) (pw_or (pt_cmpR op_lt (pv 0) pe_int (nomark _)) (pw_or1 (pt_cmpR op_ge (pv 0) (pe_op op_pow pe_int pe_int) (nomark _)))))) (pss_one ps_never) pss_nil) (pss_cons (ps_if (PW.pt (pw_or (pt_not (pt_val (x_call (ok_is_whole T) (can hr) (g_is_whole T) (f_is_whole T).kp (fun _ => pas0) (pa_cons (pv 1) pa_nil)))) (pw_or (pt_cmpR op_lt (pv 1) pe_int (nomark _)) (pw_or1 (pt_cmpR op_gt (pv 1) pe_int (nomark _)))))) (pss_one ps_never) pss_nil) (pss_one (ps_ret (pe_op op_or (pe_op op_shl (pv 0) pe_int) (pv 1))))), ?_⟩
    have hc : CPow i 8 := by
      have e : (2 : Nat) ^ 64 =
                                18446744073709551616 := by decide
      exact ⟨by decide, by decide, by omega⟩
    have hp : ¬ (i ≥ 2 ^ 40) := by
      have : (2 : Int) ^ 40 = 1099511627776 := by decide
      omega
    walk_at "w"
    exact k
def sp_is_count : Sp := fun vs H Q _ => ∃ (i a b : Int), vs = [.int i, .int a, .int b] ∧ a ≤ i ∧ Q (.bl (decide (i ≤ b))) H
theorem ok_is_count (T : TX K mg) : Fn P w K mg base false 2 (He.ga K "is_count") sp_is_count := by
  refine (f_is_count T).calm 1 (fun vs H Q E h => ?_) (fun cdv A outer s H vs Q E hr h => ?_)
  · obtain ⟨i, a, b, rfl, _⟩ := h; rfl
  · obtain ⟨i, a, b, rfl, h0, k⟩ := h
    refine ⟨_, pss_one (ps_ret (pe_and (x_call (ok_is_whole T) (can hr) (g_is_whole T) (f_is_whole T).kp (fun _ => pas0) (pa_cons (pv 0) pa_nil)) (pe_one (pe_chain op_le op_le (pv 1) (pv 0) (pv 2))))), ?_⟩
    walk_at "w"
    exact k
def wayS : Bool → Str
  | true => "pairs"
  | false => "shadows"
def sp_is_kind : Sp := fun vs H Q _ => ∃ b : Bool, vs = [.str (wayS b)] ∧ ∀ H', Same H H' → Q (.bl true) H'
theorem ok_is_kind (T : TX K mg) : Fn P w K mg base false 1 (He.ga K "is_kind") sp_is_kind := by
  refine (f_is_kind T).calm 0 (fun vs H Q E h => ?_) (fun cdv A outer s H vs Q E hr h => ?_)
  · obtain ⟨b, rfl, _⟩ := h; rfl
  · obtain ⟨b, rfl, k⟩ := h
    refine ⟨_, pss_one (ps_ret (pe_and (x_isi (z_isinstance T) (pv 0) (x_ty (z_str T) bb_str)) (pe_one (pe_cmpR op_in_seq (pv 0) (pe_tup (pa_cons pe_str (pa_cons pe_str pa_nil))) (by rfl))))), ?_⟩
    walk_at "w"
    refine q_isi (T := .non) (.base (.str _)) ki_ss ?_
    walk_at "w"
    exact q_inW (b := true) (by cases b <;> decide +kernel) (by decide) fun H1 e1 => k H1 e1
theorem q_lenQ {K : PySem.W.Frag} {H : Hp} {Q : VK} {a : Addr} {xs : List V} (h : SqL K H a xs) (q : Q (.int xs.length) H) : rLenX K [.ref a] H Q := ⟨_, _, rfl, .inl ⟨xs, h, rfl⟩, q⟩
theorem q_ixQ {K : PySem.W.Frag} {H : Hp} {Q : VK} {a : Addr} {xs : List V} {n : Int} {v : V} (h : SqL K H a xs) (hv : atI xs n = some v) (q : Q v H) : rIxL K (.ref a) (.int n) H Q := ⟨a, xs, n, v, rfl, rfl, h, hv, q⟩
def sp_cell_at (K : PySem.W.Frag) : Sp := fun vs H Q _ => ∃ (a : Addr) (xs : List Int) (i : Nat), vs = [.ref a, .int i] ∧ SqL K H a (xs.map V.int) ∧ Q (.int (xs[i]?.getD 0)) H
theorem ok_law_cell_at (T : TX K mg) : Fn P w K mg base false 1 (He.ga K "_law_cell_at") (sp_cell_at K) := by
  refine (f_law_cell_at T).calm 0 (fun vs H Q E h => ?_) (fun cdv A outer s H vs Q E hr h => ?_)
  · obtain ⟨a, xs, i, rfl, _⟩ := h; rfl
  · obtain ⟨a, xs, i, rfl, ha, k⟩ := h
    refine ⟨_, pss_cons (ps_if (pt_cmpR op_lt (pv 1) (x_len (z_len T) (pv 0)) (nomark _)) (pss_one (ps_ret (pe_ix ix_list (pv 0) (pv 1) (fun _ _ => rfl)))) pss_nil) (pss_one (ps_ret pe_int)), ?_⟩
    walk_at "w"
    refine q_lenQ ha ?_
    walk_at "w"
    refine ite_dec (fun h => ?_) fun h => ?_
    · rw [List.length_map] at h
      have hi : i < xs.length := by omega
      rw [List.getElem?_eq_getElem hi] at k
      walk_at "w"
      refine q_ixQ ha (v := .int xs[i]) (atI_nat (by rw [List.getElem?_map, List.getElem?_eq_getElem hi] <;> rfl)) ?_
      exact k
    · rw [List.length_map] at h
      have hi : xs.length ≤ i := by omega
      rw [List.getElem?_eq_none hi] at k
      walk_at "w"
      exact k
def mix (c b m : Int) : Int := (c % 1000003 * b + b) % 2147483629 / 512 % m
theorem mix_ok (c b : Int) {m : Int} (h : 0 < m) : 0 ≤ mix c b m ∧ mix c b m < m := ⟨Int.emod_nonneg _ (by omega), Int.emod_lt_of_pos _ h⟩
def sp_mix : Sp := fun vs H Q _ => ∃ c b m : Int, vs = [.int c, .int b, .int m] ∧ 0 < m ∧ Q (.int (mix c b m)) H
theorem ok_law_mix (T : TX K mg) : Fn P w K mg base false 1 (He.ga K "_law_mix") sp_mix := by
  refine (f_law_mix T).calm 0 (fun vs H Q E h => ?_) (fun cdv A outer s H vs Q E hr h => ?_)
  · obtain ⟨c, b, m, rfl, _⟩ := h; rfl
  · obtain ⟨c, b, m, rfl, hm, k⟩ := h
    refine ⟨_, pss_one (ps_ret (pe_op op_mod (pe_op op_fdiv (pe_op op_mod (pe_op op_add (pe_op op_mul (pe_op op_mod (pv 0) pe_int) (pv 1)) (pv 1)) pe_int) pe_int) (pv 2))), ?_⟩
    walk_at "w"
    exact k
end
end SP

/-! B3 -/
set_option maxHeartbeats 4100000
namespace SP
open PySem PySem.Spec PyProof.Rows L2 L2H
local macro_rules | `(tactic| walk_at "u") => `(tactic| (dsimp only [tRet, tSeq, tAsg, tDrop, tIfS, tNext, tRetN, tBreak, tCont, tOp, tUn, tCons, tNil, tCallX, tM, tF, sSet, sNew, sAug, tMakeX, tTest, tB, tAnd, tOr, tNot, tAndV, tOrV, tNotV, tIf, tChain, tCB, tBM, tBM0, tTup, tLst, gName, tC, tIsN, tNotN, tDIn, tDNotIn, tDGet, sDPut, tDPop1, gCons, gNil, tSl, tPart, tNoPart, tYes, tVeI]))
local macro_rules | `(tactic| walk_at "o") => `(tactic| (first | assumption | omega | (simp only [List.length_map, List.length_replicate, List.length_range, List.length_append, List.length_cons, List.length_nil]; omega)))
local macro_rules | `(tactic| walk_at "q") => `(tactic| (repeat (first
  | ((with_reducible refine' q_var ?hq ?_); (case hq => rfl))
  | ((with_reducible refine' q_pF ?ha ?hq ?_); (case ha => assumption); (case hq => rfl))
  | ((with_reducible refine' q_pM ?ha ?_); (case ha => assumption))
  | (with_reducible refine q_I0 ?_)
  | (with_reducible refine q_isInt ?_)
  | (with_reducible refine q_isBool ?_)
  | (with_reducible refine iteT ?_)
  | (with_reducible refine iteF ?_)
  | (with_reducible refine iteNT ?_)
  | (with_reducible refine iteNF ?_)
  | (with_reducible refine q_eqI ?_)
  | (with_reducible refine q_neI ?_)
  | ((with_reducible refine' q_eq ?hq ?_); (case hq => rfl))
  | ((with_reducible refine' q_ne ?hq ?_); (case hq => rfl))
  | (with_reducible refine q_lenL (by assumption) ?_)
  | (with_reducible refine q_lenT (by assumption) ?_)
  | (with_reducible refine q_is_whole ?_)
  | (with_reducible refine q_is_word ?_)
  | (with_reducible refine q_is_below ?_)
  | ((with_reducible refine' And.intro (q_tyL ?ha) ?_); (case ha => assumption))
  | (with_reducible refine q_ip ?_)
  | (with_reducible refine q_rAdd ?_)
  | (with_reducible refine q_rSub ?_)
  | (with_reducible refine q_has ?_)
  | (with_reducible refine q_put ?_)
  | (with_reducible refine q_taken ?_)
  | (with_reducible refine q_page_of ?_)
  | (with_reducible refine q_pow48 ?_)
  | (with_reducible refine q_pow40 ?_)
  | ((with_reducible refine' q_I ?hq ?_); (case hq => first | assumption | decide | omega | exact q_div1 (by omega) _ | exact mul_ok (by omega) | exact pow_ok (by decide)))
  | ((with_reducible refine' ite_y ?hq ?_); (case hq => walk_at "o"))
  | ((with_reducible refine' ite_n ?hq ?_); (case hq => walk_at "o"))
  | ((with_reducible refine' ite_nn ?hq ?_); (case hq => walk_at "o"))
  | ((with_reducible refine' ite_ny ?hq ?_); (case hq => walk_at "o"))
  | (with_reducible
                    refine ⟨_, rfl, ?_⟩)
  | (with_reducible refine ⟨_, _, rfl, ?_⟩)
  | (with_reducible refine ⟨rfl, ?_⟩))))
local macro_rules | `(tactic| walk_at "w") => `(tactic| ((try (walk_at "u")); (walk_at "q"); (try (walk_at "u")); (walk_at "q")))
theorem rep_flat {α : Type} (v : α) (n : Nat) : (List.replicate n [v]).flatten = List.replicate n v := by
  induction n with
  | zero => rfl
  | succ n ih => rw [List.replicate_succ, List.flatten_cons, ih, List.replicate_succ] <;> rfl
section
variable {K : PySem.W.Frag} {H : Hp} {Q : VK} {x v : V} {xs zs : List V} {b : Bool} {a l p : Addr} {k : Hp → Prop} {j : Nat}
theorem q_rep1 {n : Nat} (h : H l = some (.lst [v])) (hn : n ≤ 1000) (q : ∀ p, H p = none → Q (.ref p) (upd H p (.lst (List.replicate n v)))) : rRep (.ref l) (.int n) H Q := by
  refine ⟨l, n, [v], rfl, rfl, h, by omega, by omega, ?_, fun p hp => ?_⟩
  · have e : sizeLine ≥ 1000 := by decide
    simp
    omega
  · rw [Int.toNat_natCast, rep_flat]
    exact q p hp
theorem q_cat (h : H l = some (.lst xs)) (h' : H a = some (.lst zs)) (hz : xs.length + zs.length ≤ 10000) (q : ∀ p, H p = none → Q (.ref p) (upd H p (.lst (xs ++ zs)))) : rCat (.ref l) (.ref a) H Q :=
  ⟨l, a, xs, zs, rfl, rfl, h, h', Nat.le_trans hz (by decide), q⟩
theorem ixN_nat {n j : Nat} (h : j < n) : ixN n (j : Int) = some j := by
  unfold ixN
  simp
  omega
theorem q_setL (h : H p = some (.lst xs)) (hj : j < xs.length) (q : k (upd H p (.lst (xs.set j v)))) : rSetL (.ref p) (.int (j : Nat)) v H k := ⟨p, xs, j, j, rfl, rfl, h, ixN_nat hj, q⟩
theorem q_tyL {K : PySem.W.Frag} {H : Hp} {a : Addr} {xs : List V} (h : H a = some (.lst xs)) : tyV K "list" (.ref a) H := .inl ⟨rfl, xs, SqL.of h⟩
theorem q_ip {g : Int → Int → Int} {H : Hp} {Q : VK} {m n : Int} (q : Q (.int (g m n)) H) : ipI g (.int m) (.int n) H Q := ⟨m, n, rfl, rfl, q⟩
theorem q_rAdd {H : Hp} {Q : VK} {m n : Int} (q : Q (.int (m + n)) H) : rAdd (.int m) (.int n) H Q := ⟨m, n, rfl, rfl, q⟩
theorem q_rSub {H : Hp} {Q : VK} {m n : Int} (q : Q (.int (m - n)) H) : rSub (.int m) (.int n) H Q := ⟨m, n, rfl, rfl, q⟩
theorem q_ixN (h : H a = some (.lst xs)) (hv : xs[j]? = some v) (q : Q v H) : rIxL K (.ref a) (.int (j : Nat)) H Q := q_ixL h (atI_nat hv) q
theorem q_lst {n : Nat} (hn : xs.length ≤ 10000) (q : ∀ p, H p = none → Q (.ref p) (upd H p (.lst xs))) : xs.length ≤ sizeLine ∧ ∀ p, H p = none → Q (.ref p) (upd H p (.lst xs)) := ⟨Nat.le_trans hn (by decide), q⟩
end
section
variable {P : Program} {w : World} {K :
                                        PySem.W.Frag} {mg : Str → Option Value} {base : Heap}
/-! ### a program's rows, laid -/
def PrgAt (H : Hp) (a : Addr) (os : List Ord) : Prop := ∃ as : List Addr, H a = some (.lst (as.map V.ref)) ∧ as.length = os.length ∧ ∀ (i : Nat) (b : Addr) (o : Ord), as[i]? = some b → os[i]? = some o → H b = some (.tup o.vals) ∧ o.ok
theorem PrgAt.same {H H' : Hp} {a : Addr} {os : List Ord} (h : PrgAt H a os) (e : Same H H') : PrgAt H' a os := by
  obtain ⟨as, h1, h2, h3⟩ := h
  exact ⟨as, e _ _ h1, h2, fun i b p x y => ⟨e _ _ (h3 i b p x y).1, (h3 i b p x y).2⟩⟩
def sp_checked : Sp := fun vs H Q _ => ∃ (a : Addr) (os : List Ord), vs = [.ref a, .int 0] ∧ PrgAt H a os ∧ 1 ≤ os.length ∧ os.length ≤ 60 ∧ ∀ H', Same H H' → Q .non H'
theorem ok_checked (T : TX K mg) : Fn P w K mg base false 5 (He.ga K "checked") sp_checked := by
  refine (f_checked T).calm 4 (fun vs H Q E h => ?_) (fun cdv A outer s H vs Q E hr h => ?_)
  · obtain ⟨a, os, rfl, _⟩ := h; rfl
  · obtain ⟨a, os, rfl, ⟨as, ha, hl, hp⟩, h1, h2, k⟩ := h
    refine ⟨_, pss_cons (ps_if (PW.pt (pw_or (pt_not (pt_val (x_isi (z_isinstance T) (pv 0) (x_ty (z_list T) bb_list)))) (pw_or1 (pt_not (pt_chain op_le op_le pe_int (x_len (z_len T) (pv 0)) (x_glob (k_MOST_ROWS T))))))) (pss_one ps_never) pss_nil) (pss_cons (ps_for (passes_of rfl) rfl (pi_enum (by rfl) (z_enumerate T) (pa_cons (pv 0) pa_nil)) (x_tup (n := 2) (.inl hr.hd) (pgs_cons (pg_name (i := 2) (f_checked T).nd rfl (Or.inl rfl)) (pgs_cons (pg_name (i := 3) (f_checked T).nd rfl (Or.inl rfl)) pgs_nil))) (pss_one (ps_if (pt_not (pt_val (x_call (ok_is_order T) (can hr) (g_is_order T) (f_is_order T).kp (fun _ => pas0) (pa_cons (pv 3) pa_nil)))) (pss_one ps_never) pss_nil))) (pss_one (ps_if (pt_not (pt_val (x_call (ok_is_at T) (can hr) (g_is_at T) (f_is_at T).kp (fun _ => pas0) (pa_cons (pv 1) pa_nil)))) (pss_one ps_never) pss_nil))), ?_⟩
    walk_at "w"
    refine q_isi (T := .non) (.base (.lst ha)) ki_ll ?_
    walk_at "w"
    refine fr_enum (fun i σ H2 => (∃ u v, σ = [some (V.ref a), some (V.int 0), u, v]) ∧ Same H H2) (fun R q => q_var rfl q) (SqL.of ha) ⟨⟨_, _, rfl⟩, Same.refl _⟩ (fun i σ H2 _ h => SqL.of (h.2 _ _ ha)) (fun i x σ H2 T1 hx ⟨⟨u, v, hσ⟩, e3⟩ hT => ?_) fun σ H2 ⟨⟨u, v, hσ⟩, e3⟩ => ?_
    · subst hσ
      refine q_tup upd_same rfl ?_
      have e4 := e3.trans (same_new (o := HO.tup [V.int (i : Nat), x]) hT)
      obtain ⟨b, hb, rfl⟩ := getMap hx
      have hi := (List.getElem?_eq_some_iff.mp hb).1
      obtain ⟨hb2, hok⟩ := hp i b (os[i]'(by omega)) hb (List.getElem?_eq_getElem _)
      walk_at "w"
      refine ⟨b, _, rfl, e4 _ _ hb2, hok, fun H3 e5 => ?_⟩
      walk_at "w"
      exact ⟨⟨_, _, rfl⟩, e4.trans e5⟩
    · subst hσ
      walk_at "w"
      refine ⟨0, rfl, by decide, by decide, ?_⟩
      walk_at "w"
      exact k _ e3
/-! ### the empty shelf -/
def ShelfAt (K : PySem.W.Frag) (s : HS) (c : Nat) (a : Addr) : Prop := ∃ dx l, At s a (c, 2) (.ins (He.ga K "Shelf") dx (l_Shelf.zip [.int 2, .ref l])) ∧ At s l (c, 3) (.lst [])
def sp_Shelf_init (K : PySem.W.Frag) : Sp := fun vs H Q _ => ∃ r c a dx, vs = [.ref a, .int 2] ∧ At ⟨H, r⟩ a (c, 2) (.ins (He.ga K "Shelf") dx []) ∧ Does (· = c) ⟨H, r⟩ Q fun v t => v = .non ∧ ShelfAt K t c a ∧ ∀ b n o, n ≠ 2 → At ⟨H, r⟩ b (c, n) o → At t b (c, n) o
theorem ok_Shelf_init (T : TX K mg) : Fn P w K mg base false 2 (He.ma K (He.ga K "Shelf") "__init__") (sp_Shelf_init K) := by
  refine (f_Shelf_init T).calm 1 (fun vs H Q E h => ?_) (fun cdv A outer s H vs Q E hr h => ?_)
  · obtain ⟨r, c, a, dx, rfl, _⟩ := h; rfl
  · obtain ⟨r, c, a, dx, rfl, ha, k⟩ := h
    refine ⟨_, pss_cons (ps_if (PW.pt (pw_or (pt_not (pt_val (x_call (ok_is_whole T) (can hr) (g_is_whole T) (f_is_whole T).kp (fun _ => pas0) (pa_cons (pv 1) pa_nil)))) (pw_or (pt_cmpR op_lt (pv 1) pe_int (nomark _)) (pw_or1 (pt_cmpR op_gt (pv 1) (x_glob (k_MOST T)) (nomark _)))))) (pss_one ps_never) pss_nil) (pss_cons (x_new (kls_Shelf T) 0 (pv 0) (pv 1)) (pss_one (x_new (kls_Shelf T) 1 (pv 0) (pe_lst pa_nil)))), ?_⟩
    walk_at "w"
    refine q_pNew (vals := []) ha.1 rfl ?_
    walk_at "w"
    refine ⟨by decide, fun l hl => ?_⟩
    walk_at "w"
    have ha2 := (ha.self (o' := .ins (He.ga K "Shelf") dx (l_Shelf.zip [.int 2]))).new (q := (c, 3)) (o := .lst []) hl
    refine q_pNew ha2.1 rfl ?_
    have hl2 := At.made (a := l) (q := (c, 3)) (o := .lst []) (s := (HS.mk H r).put a (.ins (He.ga K "Shelf") dx (l_Shelf.zip [.int 2])))
    refine k _ (((HS.mk H r).put a (.ins (He.ga K "Shelf") dx (l_Shelf.zip [.int 2]))).new l (c, 3) (.lst []) |>.put a (.ins (He.ga K "Shelf") dx (l_Shelf.zip [.int 2, .ref l]))) ?_ ⟨rfl, ⟨dx, l, ha2.self, hl2.put ha2 (by simp)⟩, fun b n o hn hb => ((hb.put ha (by simpa using hn)).new hl).put ha2 (by simpa using hn)⟩
    exact (Step.put (R := (· = c)) ha rfl).trans ((Step.new hl).trans (Step.put ha2 rfl))
def sp_told0 (K : PySem.W.Frag) : Sp := fun vs H Q _ => ∃ r c a, vs = [.ref a] ∧ ShelfAt K ⟨H, r⟩ c a ∧ ∀ l, H l = none → Q (.ref l) (upd H l (.lst []))
theorem ok_Shelf_told (T : TX K mg) : Fn P w K mg base false 1 (He.ma K (He.ga K "Shelf") "told") (sp_told0 K) := by
  refine (f_Shelf_told T).calm 0 (fun vs H Q E h => ?_) (fun cdv A outer s H vs Q E hr h => ?_)
  · obtain ⟨r, c, a, rfl, _⟩ := h; rfl
  · obtain ⟨r, c, a, rfl, ⟨dx, l, ⟨ha, _⟩, ⟨hl, _⟩⟩, k⟩ := h
    refine ⟨_, pss_one (ps_ret (x_list (z_list T) (x_fld (kls_Shelf T) 1 (pv 0)))), ?_⟩
    walk_at "w"
    exact q_list hl k
/-! ### places -/
def sp_look_at_places : Sp := fun vs H Q _ => ∃ p : Int, vs = [.int p] ∧ 0 ≤ p ∧ p ≤ 511 ∧ Q .non H
theorem ok_look_at_places (T : TX K mg) : Fn P w K mg base true 2 (He.ga K "look_at_places") sp_look_at_places := by
  refine (f_look_at_places T).dual 1 (fun vs H Q E h => ?_) (fun cdv A outer s H vs Q E m hr h => ?_)
  · obtain ⟨p, rfl, _⟩ := h; rfl
  · obtain ⟨p, rfl, h0, h1, k⟩ := h
    refine ⟨_, pss_one (ps_if (PW.pt (pw_or (pt_not (pt_val (x_call (ok_is_whole T) (can2 hr) (g_is_whole T) (f_is_whole T).kp (fun _ => pas0) (pa_cons (pv 0) pa_nil)))) (pw_or (pt_cmpR op_lt (pv 0) pe_int (nomark _)) (pw_or1 (pt_cmpR op_gt (pv 0) pe_int (nomark _)))))) (pss_one ps_never) pss_nil), ?_⟩
    walk_at "w"
    exact k
def sp_parts_of : Sp := fun vs H Q _ => ∃ p : Int, vs = [.int p] ∧ 0 ≤ p ∧ p ≤ 511 ∧ ∀ a H', Same H H' → H' a = some (.tup [.int (p / 8 / 8), .int (p / 8 % 8), .int (p % 8)]) → Q (.ref a) H'
theorem ok_parts_of (T : TX K mg) : Fn P w K mg base true 3 (He.ga K "parts_of") sp_parts_of := by
  refine (f_parts_of T).dual 2 (fun vs H Q E h => ?_) (fun cdv A outer s H vs Q E m hr h => ?_)
  · obtain ⟨p, rfl, _⟩ := h; rfl
  · obtain ⟨p, rfl, h0, h1, k⟩ := h
    refine ⟨_, pss_cons (ps_expr (x_call (ok_look_at_places T) (can2 hr) (g_look_at_places T) (f_look_at_places T).kp (fun _ => pas0) (pa_cons (pv 0) pa_nil))) (pss_cons (ps_asg (x_divmod (z_divmod T) (pv 0) pe_int) (x_tup (n := 2) hr.calm (pgs_cons (pg_name (i := 1) (f_parts_of T).nd rfl (Or.inl rfl)) (pgs_cons (pg_name (i := 2) (f_parts_of T).nd rfl (Or.inl rfl)) pgs_nil)))) (pss_cons (ps_asg (x_divmod (z_divmod T) (pv 1) pe_int) (x_tup (n := 2) hr.calm (pgs_cons (pg_name (i := 3) (f_parts_of T).nd rfl (Or.inl rfl)) (pgs_cons (pg_name (i := 4) (f_parts_of T).nd rfl (Or.inl rfl)) pgs_nil)))) (pss_one (ps_ret (pe_tup (pa_cons (pv 3) (pa_cons (pv 4) (pa_cons (pv 2) pa_nil)))))))), ?_⟩
    walk_at "w"
    refine ⟨p, rfl, h0, h1, ?_⟩
    walk_at "w"
    refine q_dvm ⟨by decide, by decide⟩ fun a ha => ?_
    refine q_tup upd_same rfl ?_
    walk_at "w"
    refine q_dvm ⟨by decide, by decide⟩ fun b hb => ?_
    refine q_tup upd_same rfl ?_
    walk_at "w"
    refine ⟨(show 3 ≤ sizeLine by decide), fun c hc => ?_⟩
    exact k _ _ ((same_new ha).trans ((same_new hb).trans (same_new hc))) upd_same
end
end SP

/-! B4 -/
set_option maxHeartbeats 4100000
namespace SP
open PySem PySem.Spec PyProof.Rows L2 L2H
local macro_rules | `(tactic| walk_at "u") => `(tactic| (dsimp only [tRet, tSeq, tAsg, tDrop, tIfS, tNext, tRetN, tBreak, tCont, tOp, tUn, tCons, tNil, tCallX, tM, tF, sSet, sNew, sAug, tMakeX, tTest, tB, tAnd, tOr, tNot, tAndV, tOrV, tNotV, tIf, tChain, tCB, tBM, tBM0, tTup, tLst, gName, tC, tIsN, tNotN, tDIn, tDNotIn, tDGet, sDPut, tDPop1, gCons, gNil, tSl, tPart, tNoPart, tYes, tVeI]))
local macro_rules | `(tactic| walk_at "o") => `(tactic| (first | assumption | omega | (simp only [List.length_map, List.length_replicate, List.length_range, List.length_append, List.length_cons, List.length_nil]; omega)))
local macro_rules | `(tactic| walk_at "q") => `(tactic| (repeat (first
  | ((with_reducible refine' q_var ?hq ?_); (case hq => rfl))
  | ((with_reducible refine' q_pF ?ha ?hq ?_); (case ha => assumption); (case hq => rfl))
  | ((with_reducible refine' q_pM ?ha ?_); (case ha => assumption))
  | (with_reducible refine q_I0 ?_)
  | (with_reducible refine q_isInt ?_)
  | (with_reducible refine q_isBool ?_)
  | (with_reducible refine iteT ?_)
  | (with_reducible refine iteF ?_)
  | (with_reducible refine iteNT ?_)
  | (with_reducible refine iteNF ?_)
  | (with_reducible refine q_eqI ?_)
  | (with_reducible refine q_neI ?_)
  | ((with_reducible refine' q_eq ?hq ?_); (case hq => rfl))
  | ((with_reducible refine' q_ne ?hq ?_); (case hq => rfl))
  | (with_reducible refine q_lenL (by assumption) ?_)
  | (with_reducible refine q_lenT (by assumption) ?_)
  | (with_reducible refine q_is_whole ?_)
  | (with_reducible refine q_is_word ?_)
  | (with_reducible refine q_is_below ?_)
  | ((with_reducible refine' And.intro (q_tyL ?ha) ?_); (case ha => assumption))
  | (with_reducible refine q_ip ?_)
  | (with_reducible refine q_rAdd ?_)
  | (with_reducible refine q_rSub ?_)
  | (with_reducible refine q_has ?_)
  | (with_reducible refine q_put ?_)
  | (with_reducible refine q_taken ?_)
  | (with_reducible refine q_page_of ?_)
  | (with_reducible refine q_pow48 ?_)
  | (with_reducible refine q_pow40 ?_)
  | ((with_reducible refine' q_I ?hq ?_); (case hq => first | assumption | decide | omega | exact q_div1 (by omega) _ | exact mul_ok (by omega) | exact pow_ok (by decide)))
  | ((with_reducible refine' ite_y ?hq ?_); (case hq => walk_at "o"))
  | ((with_reducible refine' ite_n ?hq ?_); (case hq => walk_at "o"))
  | ((with_reducible refine' ite_nn ?hq ?_); (case hq => walk_at "o"))
  | ((with_reducible refine' ite_ny ?hq ?_); (case hq => walk_at "o"))
  | (with_reducible
                    refine ⟨_, rfl, ?_⟩)
  | (with_reducible refine ⟨_, _, rfl, ?_⟩)
  | (with_reducible refine ⟨rfl, ?_⟩))))
local macro_rules | `(tactic| walk_at "w") => `(tactic| ((try (walk_at "u")); (walk_at "q"); (try (walk_at "u")); (walk_at "q")))
/-! ### frames -/
structure FR where
  tk : List (Option (List Int))
  pl : Int
def FR.put (F : FR) (i : Nat) (o : Option (List Int)) : FR := ⟨F.tk.set i o, F.pl⟩
def ovV : Option (List Int) → V
  | none => .int 0
  | some _ => .int 1
structure FrAt' (K : PySem.W.Frag) (s : HS) (c : Nat) (A : Addr) (F : FR) (dx hl ol : Addr) (hs : List V) : Prop where
  obj : At s A (c, 0) (.ins (He.ga K "Frames") dx (l_Frames.zip [.ref hl, .ref ol, .int F.pl]))
  held : At s hl (c, 1) (.lst hs)
  own : At s ol (c, 2) (.lst (F.tk.map ovV))
  len : F.tk.length = 40
  hlen : hs.length = 40
  no : ∀ i : Nat, F.tk[i]? = some none → hs[i]? = some V.non
  yes : ∀ (i : Nat) (ws : List Int), F.tk[i]? = some (some ws) → okPg ws ∧ ∃ b, hs[i]? = some (V.ref b) ∧ At s b (c, i + 3) (.lst (ws.map V.int))
def FrAt (K : PySem.W.Frag) (s : HS) (c : Nat) (A : Addr) (F : FR) : Prop := ∃ dx hl ol hs, FrAt' K s c A F dx hl ol hs
section
variable {K : PySem.W.Frag} {s t : HS} {c : Nat} {A : Addr} {F : FR} {R : Nat → Prop} {i j : Nat} {ws : List Int} {x : Int}
theorem FrAt.step (h : FrAt K s c A F) (st : Step R s t) (n : ¬ R c) : FrAt K t c A F := by
  obtain ⟨dx, hl, ol, hs, h⟩ := h
  refine ⟨dx, hl, ol, hs, h.obj.step st n, h.held.step st n, h.own.step st n, h.len, h.hlen, h.no, fun i ws e => ?_⟩
  obtain ⟨o, b, e1, e2⟩ := h.yes i ws e
  exact ⟨o, b, e1, e2.step st n⟩
theorem FrAt.same {H H' : Hp} {r : Addr → Rg} (h : FrAt K ⟨H, r⟩ c A F) (e : Same H H') : FrAt K ⟨H', r⟩ c A F := h.step (R := fun _ => False) (Step.same e) id
theorem FrAt.okPg (h : FrAt K s c A F) (e : F.tk[i]? = some (some ws)) : okPg ws := by
  obtain ⟨dx, hl, ol, hs, h⟩ := h
  exact (h.yes i ws e).1
theorem FrAt.lt (h : FrAt K s c A F) {o : Option (List Int)} (e : F.tk[i]? = some o) : i < 40 := by
  obtain ⟨dx, hl, ol, hs, h⟩ := h
  have := (List.getElem?_eq_some_iff.mp e).1
  rw [h.len] at this
  exact this
theorem FrAt.len (h : FrAt K s c A F) : F.tk.length = 40 := by
  obtain ⟨dx, hl, ol, hs, h⟩ := h
  exact h.len
/-- a word written -/
theorem FrAt'.write {dx hl ol : Addr} {hs : List V} (h : FrAt' K s c A F dx hl ol hs) (e : F.tk[i]? = some (some ws)) {b : Addr} (hb : hs[i]? = some (V.ref b)) (hx : isW x) (hj : j < 8) :
    FrAt' K (s.put b (.lst ((ws.map V.int).set j (.int x)))) c A (F.put i (some (ws.set j x))) dx hl ol hs := by
  obtain ⟨ok, b', e1, e2⟩ := h.yes i ws e
  cases hb.symm.trans e1
  have okn : SP.okPg (ws.set j x) := ⟨by rw [List.length_set]; exact ok.1, fun n hn => (List.mem_or_eq_of_mem_set hn).elim (ok.2 n) fun z => z ▸ hx⟩
  have hi := (List.getElem?_eq_some_iff.mp e).1
  refine ⟨h.obj.put e2 (by simp), h.held.put e2 (by simp), ?_, by simp [FR.put, h.len], h.hlen, fun k hk => ?_, fun k zs hk => ?_⟩
  · have e3 : (F.put i (some (ws.set j x))).tk.map ovV = F.tk.map ovV := by
      refine List.ext_getElem? fun m => ?_
      simp only [FR.put, List.getElem?_map, List.getElem?_set]
      by_cases hm : i = m
      · subst hm
        rw [if_pos rfl, if_pos hi, e] <;> rfl
      · rw [if_neg hm]
    rw [e3]
    exact h.own.put e2 (by simp)
  · simp only [FR.put, List.getElem?_set] at hk
    by_cases hm : i = k
    · subst hm
      rw [if_pos rfl, if_pos hi] at hk
      cases hk
    · rw [if_neg hm] at hk
      exact h.no k hk
  · simp only [FR.put, List.getElem?_set] at hk
    by_cases hm : i = k
    · subst hm
      rw [if_pos rfl, if_pos hi] at hk
      cases hk
      refine ⟨okn, b, e1, ?_⟩
      have z := e2.self (o' := .lst ((ws.map V.int).set j (.int x)))
      rw [List.map_set]
      exact z
    · rw [if_neg hm] at hk
      obtain ⟨ok2, b2, f1, f2⟩ := h.yes k zs hk
      exact ⟨ok2, b2, f1, f2.put e2 (by simp; omega)⟩
end
def sp_F (K : PySem.W.Frag) (body : (c : Nat) → (A : Addr) → FR → HS → List V → VK → Prop) : Sp := fun vs H Q _ => ∃ r c A F xs, vs = .ref A :: xs ∧ FrAt K ⟨H, r⟩ c A F ∧ body c A F ⟨H, r⟩ xs Q
def sp_F_has (K : PySem.W.Frag) : Sp := fun vs H Q _ => ∃ r c A F, ∃ (i : Nat) (ws : List Int), vs = [.ref A, .int i] ∧ FrAt K ⟨H, r⟩ c A F ∧ F.tk[i]? = some (some ws) ∧ Q (.bl true) H
def sp_F_look_at (K : PySem.W.Frag) : Sp := fun vs H Q _ => ∃ r c A F, ∃ (i : Nat) (ws : List Int) (j : Int), vs = [.ref A, .int i, .int j] ∧ FrAt K ⟨H, r⟩ c A F ∧ F.tk[i]? = some (some ws) ∧ 0 ≤ j ∧ j < 8 ∧ Q .non H
def sp_F_read (K : PySem.W.Frag) : Sp := fun vs H Q _ => ∃ r c A F, ∃ (i : Nat) (ws : List Int) (j : Nat) (x : Int), vs = [.ref A, .int i, .int j] ∧ FrAt K ⟨H, r⟩ c A F ∧ F.tk[i]? = some (some ws) ∧ ws[j]? = some x ∧ Q (.int x) H
def sp_F_write (K : PySem.W.Frag) : Sp := fun vs H Q _ => ∃ r c A F, ∃ (i : Nat) (ws : List Int) (j : Nat) (x : Int), vs = [.ref A, .int i, .int j, .int x] ∧ FrAt K ⟨H, r⟩ c A F ∧ F.tk[i]? = some (some ws) ∧ j < 8 ∧ isW x ∧
  Does (· = c) ⟨H, r⟩ Q fun v t => v = .non ∧ FrAt K t c A (F.put i (some (ws.set j x)))
section
variable {P : Program} {w : World} {K :
                                        PySem.W.Frag} {mg : Str → Option Value} {base : Heap}
theorem ok_Frames_has (T : TX K mg) : Fn P w K mg base true 3 (He.ma K (He.ga K "Frames") "has") (sp_F_has K) := by
  refine (f_Frames_has T).dual 2 (fun vs H Q E h => ?_) (fun cdv A outer s H vs Q E m hr h => ?_)
  · obtain ⟨r, c, A, F, i, ws, rfl, _⟩ := h; rfl
  · obtain ⟨r, c, A, F, i, ws, rfl, hF, e, k⟩ := h
    have hi := hF.lt e
    obtain ⟨dx, hl, ol, hs, hF⟩ := hF
    have h1 : H A = some _ := hF.obj.1
    have h2 : H ol = some _ := hF.own.1
    have hle := hF.len
    refine ⟨_, pss_one (ps_ret (pe_and (x_call (ok_is_below T) (can2 hr) (g_is_below T) (f_is_below T).kp (fun _ => pas0) (pa_cons (pv 1) (pa_cons (x_len (z_len T) (x_fld (kls_Frames T) 1 (pv 0))) pa_nil))) (pe_one (pe_cmpR op_gt (pe_ix ix_list (x_fld (kls_Frames T) 1 (pv 0)) (pv 1) (fun _ _ => rfl)) pe_int (nomark _))))), ?_⟩
    walk_at "w"
    refine q_ixN h2 (v := .int 1) (by rw [List.getElem?_map, e] <;> rfl) ?_
    walk_at "w"
    exact k
theorem ok_Frames_look_at (T : TX K mg) : Fn P w K mg base true 4 (He.ma K (He.ga K "Frames") "look_at") (sp_F_look_at K) := by
  refine (f_Frames_look_at T).dual 3 (fun vs H Q E h => ?_) (fun cdv A outer s H vs Q E m hr h => ?_)
  · obtain ⟨r, c, A, F, i, ws, j, rfl, _⟩ := h; rfl
  · obtain ⟨r, c, A, F, i, ws, j, rfl, hF, e, h0, h8, k⟩ := h
    obtain ⟨dx, hl, ol, hs, hF'⟩ := id hF
    have h1 : H A = some _ := hF'.obj.1
    refine ⟨_, pss_cons (ps_if (pt_not (pt_val (x_m (ok_Frames_has T) (can2 hr) (kls_Frames T) (m_Frames_has T) (fun _ => pas0) (pv 0) (pa_cons (pv 1) pa_nil)))) (pss_one ps_never) pss_nil) (pss_one (ps_if (pt_not (pt_val (x_call (ok_is_below T) (can2 hr) (g_is_below T) (f_is_below T).kp (fun _ => pas0) (pa_cons (pv 2) (pa_cons (x_glob (k_CELLS T)) pa_nil))))) (pss_one ps_never) pss_nil)), ?_⟩
    walk_at "w"
    refine ⟨r, c, A, F, i, ws, rfl, hF, e, ?_⟩
    walk_at "w"
    exact k
theorem ok_Frames_read (T : TX K mg) : Fn P w K mg base true 5 (He.ma K (He.ga K "Frames") "read") (sp_F_read K) := by
  refine (f_Frames_read T).dual 4 (fun vs H Q E h => ?_) (fun cdv A outer s H vs Q E m hr h => ?_)
  · obtain ⟨r, c, A, F, i, ws, j, x, rfl, _⟩ := h; rfl
  · obtain ⟨r, c, A, F, i, ws, j, x, rfl, hF, e, hx, k⟩ := h
    have hj := (List.getElem?_eq_some_iff.mp hx).1
    rw [(hF.okPg e).1] at hj
    obtain ⟨dx, hl, ol, hs, hF'⟩ := id hF
    have h1 : H A = some _ := hF'.obj.1
    obtain ⟨ok, b, e1, e2⟩ := hF'.yes i ws e
    refine ⟨_, pss_cons (ps_expr (x_m (ok_Frames_look_at T) (can2 hr) (kls_Frames T) (m_Frames_look_at T) (fun _ => pas0) (pv 0) (pa_cons (pv 1) (pa_cons (pv 2) pa_nil)))) (pss_one (ps_ret (pe_ix ix_list (pe_ix ix_list (x_fld (kls_Frames T) 0 (pv 0)) (pv 1) (fun _ _ => rfl)) (pv 2) (fun _ _ => rfl)))), ?_⟩
    walk_at "w"
    refine ⟨r, c, A, F, i, ws, j, rfl, hF, e, by omega, by omega, ?_⟩
    walk_at "w"
    refine q_ixN hF'.held.1 e1 ?_
    walk_at "w"
    refine q_ixN e2.1 (v := .int x) (by rw [List.getElem?_map, hx] <;> rfl) ?_
    exact k
theorem ok_Frames_write (T : TX K mg) : Fn P w K mg base true 5 (He.ma K (He.ga K "Frames") "write") (sp_F_write K) := by
  refine (f_Frames_write T).dual 4 (fun vs H Q E h => ?_) (fun cdv A outer s H vs Q E m hr h => ?_)
  · obtain ⟨r, c, A, F, i, ws, j, x, rfl, _⟩ := h; rfl
  · obtain ⟨r, c, A, F, i, ws, j, x, rfl, hF, e, hj, hx, k⟩ := h
    obtain ⟨dx, hl, ol, hs, hF'⟩ := id hF
    have h1 : H A = some _ := hF'.obj.1
    obtain ⟨ok, b, e1, e2⟩ := hF'.yes i ws e
    refine ⟨_, pss_cons (ps_expr (x_m (ok_Frames_look_at T) (can2 hr) (kls_Frames T) (m_Frames_look_at T) (fun _ => pas0) (pv 0) (pa_cons (pv 1) (pa_cons (pv 2) pa_nil)))) (pss_cons (ps_if (pt_not (pt_val (x_call (ok_is_word T) (can2 hr) (g_is_word T) (f_is_word T).kp (fun _ => pas0) (pa_cons (pv 3) pa_nil)))) (pss_one ps_never) pss_nil) (pss_one (ps_asg (pv 3) (pg_sub (pe_ix ix_list (x_fld (kls_Frames T) 0 (pv 0)) (pv 1) (fun _ _ => rfl)) (pv 2) set_list)))), ?_⟩
    walk_at "w"
    refine ⟨r, c, A, F, i, ws, j, rfl, hF, e, by omega, by omega, ?_⟩
    walk_at "w"
    unfold gSub
    walk_at "w"
    refine q_ixN hF'.held.1 e1 ?_
    walk_at "w"
    refine q_setL e2.1 (by rw [List.length_map, ok.1]; exact hj) ?_
    exact k _ ((HS.mk H r).put b (.lst ((ws.map V.int).set j (.int x)))) (Step.put e2 rfl) ⟨rfl, dx, hl, ol, hs, hF'.write e e1 hx hj⟩
end
end SP

/-! B5 -/
set_option maxHeartbeats 4100000
namespace SP
open PySem PySem.Spec PyProof.Rows L2 L2H
local macro_rules | `(tactic| walk_at "u") => `(tactic| (dsimp only [tRet, tSeq, tAsg, tDrop, tIfS, tNext, tRetN, tBreak, tCont, tOp, tUn, tCons, tNil, tCallX, tM, tF, sSet, sNew, sAug, tMakeX, tTest, tB, tAnd, tOr, tNot, tAndV, tOrV, tNotV, tIf, tChain, tCB, tBM, tBM0, tTup, tLst, gName, tC, tIsN, tNotN, tDIn, tDNotIn, tDGet, sDPut, tDPop1, gCons, gNil, tSl, tPart, tNoPart, tYes, tVeI]))
local macro_rules | `(tactic| walk_at "o") => `(tactic| (first | assumption | omega | (simp only [List.length_map, List.length_replicate, List.length_range, List.length_append, List.length_cons, List.length_nil]; omega)))
local macro_rules | `(tactic| walk_at "q") => `(tactic| (repeat (first
  | ((with_reducible refine' q_var ?hq ?_); (case hq => rfl))
  | ((with_reducible refine' q_pF ?ha ?hq ?_); (case ha => assumption); (case hq => rfl))
  | ((with_reducible refine' q_pM ?ha ?_); (case ha => assumption))
  | (with_reducible refine q_I0 ?_)
  | (with_reducible refine q_isInt ?_)
  | (with_reducible refine q_isBool ?_)
  | (with_reducible refine iteT ?_)
  | (with_reducible refine iteF ?_)
  | (with_reducible refine iteNT ?_)
  | (with_reducible refine iteNF ?_)
  | (with_reducible refine q_eqI ?_)
  | (with_reducible refine q_neI ?_)
  | ((with_reducible refine' q_eq ?hq ?_); (case hq => rfl))
  | ((with_reducible refine' q_ne ?hq ?_); (case hq => rfl))
  | (with_reducible refine q_lenL (by assumption) ?_)
  | (with_reducible refine q_lenT (by assumption) ?_)
  | (with_reducible refine q_is_whole ?_)
  | (with_reducible refine q_is_word ?_)
  | (with_reducible refine q_is_below ?_)
  | ((with_reducible refine' And.intro (q_tyL ?ha) ?_); (case ha => assumption))
  | (with_reducible refine q_ip ?_)
  | (with_reducible refine q_rAdd ?_)
  | (with_reducible refine q_rSub ?_)
  | (with_reducible refine q_has ?_)
  | (with_reducible refine q_put ?_)
  | (with_reducible refine q_taken ?_)
  | (with_reducible refine q_page_of ?_)
  | (with_reducible refine q_pow48 ?_)
  | (with_reducible refine q_pow40 ?_)
  | ((with_reducible refine' q_I ?hq ?_); (case hq => first | assumption | decide | omega | exact q_div1 (by omega) _ | exact mul_ok (by omega) | exact pow_ok (by decide)))
  | ((with_reducible refine' ite_y ?hq ?_); (case hq => walk_at "o"))
  | ((with_reducible refine' ite_n ?hq ?_); (case hq => walk_at "o"))
  | ((with_reducible refine' ite_nn ?hq ?_); (case hq => walk_at "o"))
  | ((with_reducible refine' ite_ny ?hq ?_); (case hq => walk_at "o"))
  | (with_reducible
                    refine ⟨_, rfl, ?_⟩)
  | (with_reducible refine ⟨_, _, rfl, ?_⟩)
  | (with_reducible refine ⟨rfl, ?_⟩))))
local macro_rules | `(tactic| walk_at "w") => `(tactic| ((try (walk_at "u")); (walk_at "q"); (try (walk_at "u")); (walk_at "q")))
section
variable {H : Hp} {Q : VK} {σ : L2.St} {R : Nat → Prop} {s s0 t : HS} {D a : Addr} {o : HO} {q : Rg}
theorem Step.put1 {o' : HO} {c n : Nat} (h : At s a (c, n) o) : Step (· = c) s (s.put a o') := Step.put h rfl
theorem Step.put_new (n : s0.h D = none) (st : Step R s0 t) : Step R s0 (t.put D o) := fun x ox e => by
  obtain ⟨e1, ⟨o', e2⟩, e3⟩ := st x ox e
  have hx : x ≠ D := ne_of_none e n
  exact ⟨e1, ⟨o', (upd_ne hx).trans e2⟩, fun z => (upd_ne hx).trans (e3 z)⟩
/-- what a loop of a comprehension keeps: what stands apart, the list so far, J -/
def LcI (R : Nat → Prop) (s0 : HS) (D : Addr) (q : Rg) (J : Nat → List V → HS → Prop) (i : Nat) (H : Hp) : Prop := ∃ t ys, t.h = H ∧ Step R s0 t ∧ At t D q (.lst ys) ∧ ys.length = i ∧ J i ys t
theorem LcI.start {J : Nat → List V → HS → Prop} (n : s0.h D = none) (j0 : J 0 [] s0) (hJ : ∀ i ys s t, Step (· = q.1) s t → J i ys s → J i ys t) : LcI R s0 D q J 0 (upd s0.h D (.lst [])) :=
  ⟨s0.new D q (.lst []), [], rfl, Step.new n, At.made, rfl, hJ 0 [] s0 _ (Step.new n) j0⟩
theorem LcI.turn {J : Nat → List V → HS → Prop} {te : TE} {s : Nat} {x : V} {i : Nat} {H1 : Hp} (n : s0.h D = none) (hR : ¬ R q.1) (hJ : ∀ i ys s t, Step (· = q.1) s t → J i ys s → J i ys t) (hi : i < 10000) (h : LcI R s0 D q J i H1)
    (body : ∀ ys t, t.h = H1 → Step R s0 t → J i ys t → ∀ Q' : VK, (∀ v u, Step R t u → J (i + 1) (ys ++ [v]) u → Q' v u.h) → te ((wipe σ [s]).set s (some x)) t.h Q') :
    gName s x (wipe σ [s]) H1 fun σ2 H2 => wipe σ2 [s] = wipe σ [s] ∧ tYes σ2 H2 fun b H3 => if b = true then te σ2 H3 fun y H4 => ∃ acc, H4 D = some (.lst acc) ∧ acc.length < sizeLine ∧ LcI R s0 D q J (i + 1) (upd H4 D (.lst (acc ++ [y])))
      else LcI R s0 D q J (i + 1) H3 := by
  obtain ⟨t, ys, rfl, st, hD, hl, hj⟩ := h
  refine ⟨wipe1, ?_⟩
  unfold tYes
  dsimp only
  rw [if_pos rfl]
  refine body ys t rfl st hj _ fun v u su ju => ?_
  have hD2 := hD.step su hR
  refine ⟨ys, hD2.1, ?_, u.put D (.lst (ys ++ [v])), ys ++ [v], rfl, (st.trans su).put_new n, hD2.self, by rw [List.length_append, hl] <;> rfl, hJ _ _ _ _ (Step.put hD2 rfl) ju⟩
  have : (10000 : Nat) ≤ sizeLine := by decide
  omega
theorem lc_doesR {J : Nat → List V → HS → Prop} {te : TE} {ta : TA} {s m : Nat} (q : Rg) (h0 : ∀ R : List V → Hp → Prop, R [.int m] s0.h → ta σ s0.h R) (hm : m < 10000) (hR : ¬ R q.1) (hJ : ∀ i ys s t, Step (· = q.1) s t → J i ys s → J i ys t) (j0 : J 0 [] s0)
    (body : ∀ i ys t, i < m → Step R s0 t → J i ys t → ∀ Q' : VK, (∀ v u, Step R t u → J (i + 1) (ys ++ [v]) u → Q' v u.h) → te ((wipe σ [s]).set s (some (.int i))) t.h Q')
    (fin : ∀ D t ys, s0.h D = none → Step R s0 t → At t D q (.lst ys) → ys.length = m → J m ys t → Q (.ref D) t.h) : tLc (iRng1 ta) (gName s) tYes te [s] σ s0.h Q := by
  refine h0 _ ⟨_, rfl, by omega, by omega, fun D n => lc_range (lo := 0) (n := (m : Int).toNat) (LcI R s0 D q J) (LcI.start n j0 hJ) (fun i H1 hi h => ?_) fun H1 h => ?_⟩
  · have hi : i < m := by simpa using hi
    rw [show (0 : Int) + (i : Nat) = ((i : Nat) : Int) by omega]
    exact LcI.turn n hR hJ (by omega) h fun ys t _ st j => body i ys t hi st j
  · obtain ⟨t, ys, rfl, st, hD, hl, hj⟩ := h
    rw [Int.toNat_natCast] at hl hj
    exact fin D t ys n st hD hl hj
theorem lc_doesL {K : PySem.W.Frag} {J : Nat → List V → HS → Prop} {te tl : TE} {s : Nat} {xs : List V} {qa : Rg} (q : Rg) (h0 : ∀ R : VK, R (.ref a) s0.h → tl σ s0.h R) (ha : At s0 a qa (.lst xs)) (hz : xs.length < 10000) (hR : ¬ R q.1) (hRa : ¬ R qa.1)
    (hJ : ∀ i ys s t, Step (· = q.1) s t → J i ys s → J i ys t) (j0 : J 0 [] s0)
    (body : ∀ i x ys t, xs[i]? = some x → Step R s0 t → J i ys t → ∀ Q' : VK, (∀ v u, Step R t u → J (i + 1) (ys ++ [v]) u → Q' v u.h) → te ((wipe σ [s]).set s (some x)) t.h Q')
    (fin : ∀ D t ys, s0.h D = none → Step R s0 t → At t D q (.lst ys) → ys.length = xs.length → J xs.length ys t → Q (.ref D) t.h) : tLc (iList K tl) (gName s) tYes te [s] σ s0.h Q := by
  refine h0 _ ⟨a, rfl, ⟨xs, SqL.of ha.1⟩, fun D n => lc_list (K := K) (a := a) (xs := xs) (LcI R s0 D q J) (LcI.start n j0 hJ) (fun i H1 _ h => ?_) (fun i x H1 hx h => ?_) fun H1 h => ?_⟩
  · obtain ⟨t, ys, rfl, st, hD, hl, hj⟩ := h
    exact SqL.of (ha.step st hRa).1
  · have hi := (List.getElem?_eq_some_iff.mp hx).1
    exact LcI.turn n hR hJ (by omega) h fun ys t _ st j => body i x ys t hx st j
  · obtain ⟨t, ys, rfl, st, hD, hl, hj⟩ := h
    exact fin D t ys n st hD hl hj
end
/-! ### frames taken and dropped -/
section
variable {K : PySem.W.Frag} {s s' t : HS} {c : Nat} {A dx hl ol : Addr} {hs : List V} {F : FR} {i : Nat} {o : Option (List Int)} {v : V}
theorem FrAt'.upd (h : FrAt' K s c A F dx hl ol hs) (hi : i < 40) (hobj : At s' A (c, 0) (.ins (He.ga K "Frames") dx (l_Frames.zip [.ref hl, .ref ol, .int F.pl]))) (hheld : At s' hl (c, 1) (.lst (hs.set i v))) (hown : At s' ol (c, 2) (.lst ((F.tk.map ovV).set i (ovV o))))
    (hpg : ∀ k b o, k ≠ i → At s b (c, k + 3) o → At s' b (c, k + 3) o) (hno : o = none → v = .non) (hyes : ∀ ws, o = some ws → okPg ws ∧ ∃ b, v = .ref b ∧ At s' b (c, i + 3) (.lst (ws.map V.int))) : FrAt' K s' c A (F.put i o) dx hl ol (hs.set i v) := by
  refine ⟨hobj, hheld, ?_, by simp [FR.put, h.len], by rw [List.length_set]; exact h.hlen, fun k hk => ?_, fun k zs hk => ?_⟩
  · rw [← List.map_set] at hown
    exact hown
  · simp only [FR.put, List.getElem?_set] at hk ⊢
    by_cases hm : i = k
    · subst hm
      rw [if_pos rfl, if_pos (by rw [h.len]; exact hi)] at hk
      rw [if_pos rfl, if_pos (by rw [h.hlen]; exact hi), hno (Option.some.inj hk)]
    · rw [if_neg hm] at hk ⊢
      exact h.no k hk
  · simp only [FR.put, List.getElem?_set] at hk ⊢
    by_cases hm : i = k
    · subst hm
      rw [if_pos rfl, if_pos (by rw [h.len]; exact hi)] at hk
      obtain ⟨ok, b, rfl, hb⟩ := hyes zs (Option.some.inj hk)
      exact ⟨ok, b, by rw [if_pos rfl, if_pos (by rw [h.hlen]; exact hi)], hb⟩
    · rw [if_neg hm] at hk ⊢
      obtain ⟨ok, b, e1, e2⟩ := h.yes k zs hk
      exact ⟨ok, b, e1, hpg k b _ (fun z => hm z.symm) e2⟩
theorem FrAt.new (h : FrAt K s c A F) {p : Addr} {q : Rg} {ob : HO} (n : s.h p = none) : FrAt K (s.new p q ob) c A F := h.step (R := fun _ => False) (Step.new n) id
end
theorem first_none {l : List (Option (List Int))} : none ∈ l → ∃ j : Nat, l[j]? = some none ∧ ∀ m : Nat, m < j → ∃ ws, l[m]? = some (some ws) := by
  induction l with
  | nil => intro h; cases h
  | cons x l ih =>
    intro h
    cases x with
    | none => exact ⟨0, rfl, fun m hm => by omega⟩
    | some w =>
      have h2 : none ∈ l := by simpa using h
      obtain ⟨j, e, f⟩ := ih h2
      refine ⟨j + 1, e, fun m hm => ?_⟩
      cases m with
      | zero => exact ⟨w, rfl⟩
      | succ m => exact f m (by omega)
def zeros : List Int := List.replicate 8 0
theorem zeros_ok : okPg zeros := ⟨rfl, fun n hn => by rw [List.eq_of_mem_replicate hn]; exact ⟨by decide, by decide⟩⟩
def FR.free (F : FR) : Nat := (F.tk.map fun o => match o with
  | none => (0 : Int)
  | some _ => 1).count 0
theorem ovV_int (tk : List (Option (List Int))) : tk.map ovV = (tk.map fun o => match o with
  | none => (0 : Int)
  | some _ => 1).map V.int := by
  rw [List.map_map]
  refine List.map_congr_left fun o _ => ?_
  cases o <;> rfl
theorem ov_flat (tk : List (Option (List Int))) : (tk.map ovV).all flatV = true := by
  rw [List.all_map, List.all_eq_true]
  intro o _
  cases o <;> rfl
def sp_F_take (K : PySem.W.Frag) : Sp := fun vs H Q _ => ∃ r c A F, vs = [.ref A] ∧ c ≠ 0 ∧ FrAt K ⟨H, r⟩ c A F ∧ none ∈ F.tk ∧
  Does (· = c) ⟨H, r⟩ Q fun v t => ∃ i : Nat, v = .int i ∧ F.tk[i]? = some none ∧ FrAt K t c A (F.put i (some zeros))
def sp_F_owners (K : PySem.W.Frag) : Sp := fun vs H Q _ => ∃ r c A F, ∃ (i : Nat) (ws : List Int), vs = [.ref A, .int i] ∧ FrAt K ⟨H, r⟩ c A F ∧ F.tk[i]? = some (some ws) ∧ Q (.int 1) H
def sp_F_look_up (K : PySem.W.Frag) : Sp := fun vs H Q _ => ∃ r c A F, ∃ (i : Nat) (ws : List Int), vs = [.ref A, .int i] ∧ FrAt K ⟨H, r⟩ c A F ∧ F.tk[i]? = some (some ws) ∧ Q .non H
def sp_F_drop (K : PySem.W.Frag) : Sp := fun vs H Q _ => ∃ r c A F, ∃ (i : Nat) (ws : List Int), vs = [.ref A, .int i] ∧ FrAt K ⟨H, r⟩ c A F ∧ F.tk[i]? = some (some ws) ∧ Does (· = c) ⟨H, r⟩ Q fun v t => v = .non ∧ FrAt K t c A (F.put i none)
def sp_F_free (K : PySem.W.Frag) : Sp := fun vs H Q _ => ∃ r c A F, vs = [.ref A] ∧ FrAt K ⟨H, r⟩ c A F ∧ Q (.int F.free) H
def sp_F_promised (K : PySem.W.Frag) : Sp := fun vs H Q _ => ∃ r c A F, vs = [.ref A] ∧ FrAt K ⟨H, r⟩ c A F ∧ Q (.int F.pl) H
def sp_F_ask (K : PySem.W.Frag) : Sp := fun vs H Q _ => ∃ r c A F, ∃ n : Int, vs = [.ref A, .int n] ∧ FrAt K ⟨H, r⟩ c A F ∧ F.pl + n ≤ 40 ∧ Does (· = c) ⟨H, r⟩ Q fun v t => v = .bl true ∧ FrAt K t c A ⟨F.tk, F.pl + n⟩
def sp_F_back (K : PySem.W.Frag) : Sp := fun vs H Q _ => ∃ r c A F, ∃ n : Int, vs = [.ref A, .int n] ∧ FrAt K ⟨H, r⟩ c A F ∧ Does (· = c) ⟨H, r⟩ Q fun v t => v = .non ∧ FrAt K t c A ⟨F.tk, F.pl - n⟩
def sp_F_init (K : PySem.W.Frag) : Sp := fun vs H Q _ => ∃ r c a dx, vs = [.ref a, .int 40] ∧ At ⟨H, r⟩ a (c, 0) (.ins (He.ga K "Frames") dx []) ∧ Does (· = c) ⟨H, r⟩ Q fun v t => v = .non ∧ FrAt K t c a ⟨List.replicate 40 none, 0⟩
section
variable {P : Program} {w : World} {K :
                                        PySem.W.Frag} {mg : Str → Option Value} {base : Heap}
theorem ok_Frames_take (T : TX K mg) : Fn P w K mg base false 2 (He.ma K (He.ga K "Frames") "take") (sp_F_take K) := by
  refine (f_Frames_take T).calm 1 (fun vs H Q E h => ?_) (fun cdv A outer s H vs Q E hr h => ?_)
  · obtain ⟨r, c, A, F, rfl, _⟩ := h; rfl
  · obtain ⟨r, c, A, F, rfl, c0, hF, hn, k⟩ := h
    obtain ⟨i, e, hlow⟩ := first_none hn
    have hi := hF.lt e
    obtain ⟨dx, hl, ol, hs, h⟩ := hF
    have h1 : H A = some _ := h.obj.1
    have h2 : H ol = some _ := h.own.1
    have hlen := h.len
    have hei : (F.tk.map ovV)[i]? = some (V.int 0) := by rw [List.getElem?_map, e] <;> rfl
    refine ⟨_, pss_cons (ps_if (pt_cmpR op_notIn_seq pe_int (x_fld (kls_Frames T) 1 (pv 0)) (by rfl)) (pss_one ps_never) pss_nil) (pss_cons (ps_set (i := 1) (f_Frames_take T).nd rfl (Or.inl rfl) (pe_bm PySem.F.plainAttrs_list PySem.F.slot_list_index PySem.F.type_list_index mt_index (x_fld (kls_Frames T) 1 (pv 0)) (pa_cons pe_int pa_nil))) (pss_cons (ps_asg (pe_op op_rep (pe_lst (pa_cons pe_int pa_nil)) (x_glob (k_CELLS T))) (pg_sub (x_fld (kls_Frames T) 0 (pv 0)) (pv 1) set_list)) (pss_cons (ps_asg pe_int (pg_sub (x_fld (kls_Frames T) 1 (pv 0)) (pv 1) set_list)) (pss_one (ps_ret (pv 1)))))), ?_⟩
    walk_at "w"
    refine ⟨ol, _, rfl, .inl (SqL.of h2), rfl, ov_flat _, ?_⟩
    rw [show (if true = true then !inV (V.int 0) (F.tk.map ovV) else inV (V.int 0) (F.tk.map ovV)) = false by
      rw [if_pos rfl]
      rw [show inV (V.int 0) (F.tk.map ovV) = true from List.any_eq_true.mpr ⟨V.int 0, List.mem_of_getElem? hei, rfl⟩] <;> rfl]
    walk_at "w"
    refine ⟨ol, _, .int 0, i, .int 0, rfl, rfl, SqL.of h2, rfl, ov_flat _, hei, rfl, fun m z hm hz => ?_, ?_⟩
    · obtain ⟨ws, e2⟩ := hlow m hm
      rw [List.getElem?_map, e2] at hz
      cases hz
      rfl
    walk_at "w"
    refine ⟨(show 1 ≤ sizeLine by decide), fun p1 n1 => ?_⟩
    walk_at "w"
    refine q_rep1 (n := 8) upd_same (by decide) fun p2 n2 => ?_
    unfold gSub
    walk_at "w"
    have s1 : Step (· = c) ⟨H, r⟩ ((HS.mk H r).new p1 (0, 0) (.lst [.int 0])) := Step.new n1
    have s2 : Step (· = c) ((HS.mk H r).new p1 (0, 0) (.lst [.int 0])) (((HS.mk H r).new p1 (0, 0) (.lst [.int 0])).new p2 (c, i + 3) (.lst (List.replicate 8 (.int 0)))) := Step.new n2
    have a1 := (h.obj.new (q := (0, 0)) (o := .lst [.int 0]) n1).new (q := (c, i + 3)) (o := .lst (List.replicate 8 (.int 0))) n2
    have a2 := (h.held.new (q := (0, 0)) (o := .lst [.int 0]) n1).new (q := (c, i + 3)) (o := .lst (List.replicate 8 (.int 0))) n2
    have a3 := (h.own.new (q := (0, 0)) (o := .lst [.int 0]) n1).new (q := (c, i + 3)) (o := .lst (List.replicate 8 (.int 0))) n2
    have a4 : At (((HS.mk H r).new p1 (0, 0) (.lst [.int 0])).new p2 (c, i + 3) (.lst (List.replicate 8 (.int 0)))) p2 (c, i + 3) (.lst (List.replicate 8 (.int 0))) := At.made
    refine q_pF a1.1 rfl ?_
    walk_at "w"
    refine q_setL a2.1 (by rw [h.hlen]; exact hi) ?_
    have b1 := a1.put (o'' := .lst (hs.set i (.ref p2))) a2 (by simp)
    have b2 := a2.self (o' := .lst (hs.set i (.ref p2)))
    have b3 := a3.put (o'' := .lst (hs.set i (.ref p2))) a2 (by simp)
    have b4 := a4.put (o'' := .lst (hs.set i (.ref p2))) a2 (by simp)
    walk_at "w"
    refine q_pF b1.1 rfl ?_
    walk_at "w"
    refine q_setL b3.1 (by rw [List.length_map, hlen]; exact hi) ?_
    walk_at "w"
    refine k _ (((((HS.mk H r).new p1 (0, 0) (.lst [.int 0])).new p2 (c, i + 3) (.lst (List.replicate 8 (.int 0)))).put hl (.lst (hs.set i (.ref p2)))).put ol (.lst ((F.tk.map ovV).set i (.int 1)))) ?_ ⟨i, rfl, e, dx, hl, ol, _, h.upd hi (b1.put b3 (by simp)) (b2.put b3 (by simp)) b3.self (fun k b o hk hb => ?_) (fun z => by cases z) fun ws hw => ?_⟩
    · exact s1.trans (s2.trans ((Step.put1 a2).trans (Step.put1 b3)))
    · exact (((hb.new n1).new n2).put a2 (by simp)).put b3 (by simp)
    · cases hw
      exact ⟨zeros_ok, p2, rfl, b4.put b3 (by simp)⟩
theorem ok_Frames_owners (T : TX K mg) : Fn P w K mg base true 4 (He.ma K (He.ga K "Frames") "owners") (sp_F_owners K) := by
  refine (f_Frames_owners T).dual 3 (fun vs H Q E h => ?_) (fun cdv A outer s H vs Q E m hr h => ?_)
  · obtain ⟨r, c, A, F, i, ws, rfl, _⟩ := h; rfl
  · obtain ⟨r, c, A, F, i, ws, rfl, hF, e, k⟩ := h
    obtain ⟨dx, hl, ol, hs, hF'⟩ := id hF
    have h1 : H A = some _ := hF'.obj.1
    have h2 : H ol = some _ := hF'.own.1
    refine ⟨_, pss_cons (ps_if (pt_not (pt_val (x_m (ok_Frames_has T) (can2 hr) (kls_Frames T) (m_Frames_has T) (fun _ => pas0) (pv 0) (pa_cons (pv 1) pa_nil)))) (pss_one (ps_ret pe_int)) pss_nil) (pss_one (ps_ret (pe_ix ix_list (x_fld (kls_Frames T) 1 (pv 0)) (pv 1) (fun _ _ => rfl)))), ?_⟩
    walk_at "w"
    refine ⟨r, c, A, F, i, ws, rfl, hF, e, ?_⟩
    walk_at "w"
    refine q_ixN h2 (v := .int 1) (by rw [List.getElem?_map, e] <;> rfl) ?_
    exact k
theorem ok_Frames_look_up (T : TX K mg) : Fn P w K mg base false 4 (He.ma K (He.ga K "Frames") "look_up") (sp_F_look_up K) := by
  refine (f_Frames_look_up T).calm 3 (fun vs H Q E h => ?_) (fun cdv A outer s H vs Q E hr h => ?_)
  · obtain ⟨r, c, A, F, i, ws, rfl, _⟩ := h; rfl
  · obtain ⟨r, c, A, F, i, ws, rfl, hF, e, k⟩ := h
    obtain ⟨dx, hl, ol, hs, hF'⟩ := id hF
    have h1 : H A = some _ := hF'.obj.1
    refine ⟨_, pss_one (ps_if (pt_not (pt_val (x_m (ok_Frames_has T) (can hr) (kls_Frames T) (m_Frames_has T) (fun _ => pas0) (pv 0) (pa_cons (pv 1) pa_nil)))) (pss_one ps_never) pss_nil), ?_⟩
    walk_at "w"
    refine ⟨r, c, A, F, i, ws, rfl, hF, e, ?_⟩
    walk_at "w"
    exact k
theorem ok_Frames_drop (T : TX K mg) : Fn P w K mg base false 5 (He.ma K (He.ga K "Frames") "drop") (sp_F_drop K) := by
  refine (f_Frames_drop T).calm 4 (fun vs H Q E h => ?_) (fun cdv A outer s H vs Q E hr h => ?_)
  · obtain ⟨r, c, A, F, i, ws, rfl, _⟩ := h; rfl
  · obtain ⟨r, c, A, F, i, ws, rfl, hF, e, k⟩ := h
    have hi := hF.lt e
    obtain ⟨dx, hl, ol, hs, h⟩ := id hF
    have h1 : H A = some _ := h.obj.1
    have h2 : H ol = some _ := h.own.1
    refine ⟨_, pss_cons (ps_expr (x_m (ok_Frames_look_up T) (can hr) (kls_Frames T) (m_Frames_look_up T) (fun _ => pas0) (pv 0) (pa_cons (pv 1) pa_nil))) (pss_cons (ps_augS (x_fld (kls_Frames T) 1 (pv 0)) (pv 1) get_list pe_int ip_sub set_list) (pss_one (ps_if (pt_cmpR op_eq (pe_ix ix_list (x_fld (kls_Frames T) 1 (pv 0)) (pv 1) (fun _ _ => rfl)) pe_int (nomark _)) (pss_one (ps_asg pe_non (pg_sub (x_fld (kls_Frames T) 0 (pv 0)) (pv 1) set_list))) pss_nil))), ?_⟩
    walk_at "w"
    refine ⟨r, c, A, F, i, ws, rfl, hF, e, ?_⟩
    unfold tAugS
    walk_at "w"
    refine q_ixN h2 (v := .int 1) (by rw [List.getElem?_map, e] <;> rfl) ?_
    walk_at "w"
    refine q_setL h2 (by rw [List.length_map, h.len]; exact hi) ?_
    have b1 := h.obj.put (o'' := .lst ((F.tk.map ovV).set i (.int (1 - 1)))) h.own (by simp)
    have b2 := h.held.put (o'' := .lst ((F.tk.map ovV).set i (.int (1 - 1)))) h.own (by simp)
    have b3 := h.own.self (o' := .lst ((F.tk.map ovV).set i (.int (1 - 1))))
    walk_at "w"
    refine q_pF b1.1 rfl ?_
    walk_at "w"
    refine q_ixN b3.1 (v := .int (1 - 1)) (by rw [List.getElem?_set, if_pos rfl, if_pos (by rw [List.length_map, h.len]; exact hi)]) ?_
    walk_at "w"
    unfold gSub
    walk_at "w"
    walk_at "w"
    refine q_pF b1.1 rfl ?_
    walk_at "w"
    refine q_setL b2.1 (by rw [h.hlen]; exact hi) ?_
    refine k _ (((HS.mk H r).put ol (.lst ((F.tk.map ovV).set i (.int (1 - 1))))).put hl (.lst (hs.set i .non))) ?_ ⟨rfl, dx, hl, ol, _, h.upd hi (b1.put b2 (by simp)) b2.self (b3.put b2 (by simp)) (fun k b o hk hb => ?_) (fun _ => rfl) fun ws hw => by cases hw⟩
    · exact (Step.put1 h.own).trans (Step.put1 b2)
    · exact (hb.put h.own (by simp)).put b2 (by simp)
theorem ok_Frames_free (T : TX K mg) : Fn P w K mg base false 1 (He.ma K (He.ga K "Frames") "free") (sp_F_free K) := by
  refine (f_Frames_free T).calm 0 (fun vs H Q E h => ?_) (fun cdv A outer s H vs Q E hr h => ?_)
  · obtain ⟨r, c, A, F, rfl, _⟩ := h; rfl
  · obtain ⟨r, c, A, F, rfl, hF, k⟩ := h
    obtain ⟨dx, hl, ol, hs, hF'⟩ := id hF
    have h1 : H A = some _ := hF'.obj.1
    have h2 : H ol = some _ := hF'.own.1
    refine ⟨_, pss_one (ps_ret (pe_bm PySem.F.plainAttrs_list PySem.F.slot_list_count PySem.F.type_list_count mt_lcount (x_fld (kls_Frames T) 1 (pv 0)) (pa_cons pe_int pa_nil))), ?_⟩
    walk_at "w"
    rw [ovV_int] at h2
    exact ⟨ol, _, 0, rfl, rfl, SqL.of h2, k⟩
theorem ok_Frames_promised (T : TX K mg) : Fn P w K mg base false 1 (He.ma K (He.ga K "Frames") "promised") (sp_F_promised K) := by
  refine (f_Frames_promised T).calm 0 (fun vs H Q E h => ?_) (fun cdv A outer s H vs Q E hr h => ?_)
  · obtain ⟨r, c, A, F, rfl, _⟩ := h; rfl
  · obtain ⟨r, c, A, F, rfl, hF, k⟩ := h
    obtain ⟨dx, hl, ol, hs, hF'⟩ := id hF
    have h1 : H A = some _ := hF'.obj.1
    refine ⟨_, pss_one (ps_ret (x_fld (kls_Frames T) 2 (pv 0))), ?_⟩
    walk_at "w"
    exact k
theorem FrAt'.pledge {s : HS} {c : Nat} {A dx hl ol : Addr} {hs : List V} {F : FR} {n : Int} (h : FrAt' K s c A F dx hl ol hs) : FrAt' K (s.put A (.ins (He.ga K "Frames") dx (l_Frames.zip [.ref hl, .ref ol, .int n]))) c A ⟨F.tk, n⟩ dx hl ol hs := by
  refine ⟨h.obj.self, h.held.put h.obj (by simp), h.own.put h.obj (by simp), h.len, h.hlen, h.no, fun i ws e => ?_⟩
  obtain ⟨ok, b, e1, e2⟩ := h.yes i ws e
  exact ⟨ok, b, e1, e2.put h.obj (by simp)⟩
theorem ok_Frames_ask (T : TX K mg) : Fn P w K mg base false 1 (He.ma K (He.ga K "Frames") "ask") (sp_F_ask K) := by
  refine (f_Frames_ask T).calm 0 (fun vs H Q E h => ?_) (fun cdv A outer s H vs Q E hr h => ?_)
  · obtain ⟨r, c, A, F, n, rfl, _⟩ := h; rfl
  · obtain ⟨r, c, A, F, n, rfl, hF, hle, k⟩ := h
    obtain ⟨dx, hl, ol, hs, h⟩ := id hF
    have h1 : H A = some _ := h.obj.1
    have h2 : H ol = some _ := h.own.1
    have hlen := h.len
    refine ⟨_, pss_cons (ps_if (pt_cmpR op_gt (pe_op op_add (x_fld (kls_Frames T) 2 (pv 0)) (pv 1)) (x_len (z_len T) (x_fld (kls_Frames T) 1 (pv 0))) (nomark _)) (pss_one (ps_ret pe_bl)) pss_nil) (pss_cons (x_aug (kls_Frames T) 2 (pv 0) (pv 1) in_add) (pss_one (ps_ret pe_bl))), ?_⟩
    walk_at "w"
    refine q_pSet h1 (by simp) ?_
    exact k _ _ (Step.put1 h.obj) ⟨rfl, dx, hl, ol, hs, h.pledge⟩
theorem ok_Frames_back (T : TX K mg) : Fn P w K mg base false 1 (He.ma K (He.ga K "Frames") "back") (sp_F_back K) := by
  refine (f_Frames_back T).calm 0 (fun vs H Q E h => ?_) (fun cdv A outer s H vs Q E hr h => ?_)
  · obtain ⟨r, c, A, F, n, rfl, _⟩ := h; rfl
  · obtain ⟨r, c, A, F, n, rfl, hF, k⟩ := h
    obtain ⟨dx, hl, ol, hs, h⟩ := id hF
    have h1 : H A = some _ := h.obj.1
    refine ⟨_, pss_one (x_aug (kls_Frames T) 2 (pv 0) (pv 1) in_sub), ?_⟩
    walk_at "w"
    refine q_pSet h1 (by simp) ?_
    exact k _ _ (Step.put1 h.obj) ⟨rfl, dx, hl, ol, hs, h.pledge⟩
theorem ok_Frames_init (T : TX K mg) : Fn P w K mg base false 2 (He.ma K (He.ga K "Frames") "__init__") (sp_F_init K) := by
  refine (f_Frames_init T).calm 1 (fun vs H Q E h => ?_) (fun cdv A outer s H vs Q E hr h => ?_)
  · obtain ⟨r, c, a, dx, rfl, _⟩ := h; rfl
  · obtain ⟨r, c, a, dx, rfl, ha, k⟩ := h
    refine ⟨_, pss_cons (ps_if (PW.pt (pw_or (pt_not (pt_val (x_call (ok_is_whole T) (can hr) (g_is_whole T) (f_is_whole T).kp (fun _ => pas0) (pa_cons (pv 1) pa_nil)))) (pw_or (pt_cmpR op_lt (pv 1) pe_int (nomark _)) (pw_or1 (pt_cmpR op_gt (pv 1) (x_glob (k_MOST_FRAMES T)) (nomark _)))))) (pss_one ps_never) pss_nil) (pss_cons (x_new (kls_Frames T) 0 (pv 0) (pe_op op_rep (pe_lst (pa_cons pe_non pa_nil)) (pv 1))) (pss_cons (x_new (kls_Frames T) 1 (pv 0) (pe_op op_rep (pe_lst (pa_cons pe_int pa_nil)) (pv 1))) (pss_one (x_new (kls_Frames T) 2 (pv 0) pe_int)))), ?_⟩
    walk_at "w"
    refine ⟨(show 1 ≤ sizeLine by decide), fun p1 n1 => ?_⟩
    walk_at "w"
    refine q_rep1 (n := 40) upd_same (by decide) fun hl n2 => ?_
    have a1 := (ha.new (q := (0, 0)) (o := .lst [.non]) n1).new (q := (c, 1)) (o := .lst (List.replicate 40 .non)) n2
    have h1 := At.made (s := (HS.mk H r).new p1 (0, 0) (.lst [.non])) (a := hl) (q := (c, 1)) (o := .lst (List.replicate 40 .non))
    walk_at "w"
    refine q_pNew (vals := []) a1.1 rfl ?_
    have a2 := a1.self (o' := .ins (He.ga K "Frames") dx (l_Frames.zip [.ref hl]))
    have h2 := h1.put (o'' := .ins (He.ga K "Frames") dx (l_Frames.zip [.ref hl])) a1 (by simp)
    walk_at "w"
    refine ⟨(show 1 ≤ sizeLine by decide), fun p3 n3 => ?_⟩
    walk_at "w"
    refine q_rep1 (n := 40) upd_same (by decide) fun ol n4 => ?_
    have a3 := (a2.new (q := (0, 0)) (o := .lst [.int 0]) n3).new (q := (c, 2)) (o := .lst (List.replicate 40 (.int 0))) n4
    have h3 := (h2.new (q := (0, 0)) (o := .lst [.int 0]) n3).new (q := (c, 2)) (o := .lst (List.replicate 40 (.int 0))) n4
    have o3 := At.made (s := (((((HS.mk H r).new p1 (0, 0) (.lst [.non])).new hl (c, 1) (.lst (List.replicate 40 .non))).put a (.ins (He.ga K "Frames") dx (l_Frames.zip [.ref hl]))).new p3 (0, 0) (.lst [.int 0]))) (a := ol) (q := (c, 2)) (o := .lst (List.replicate 40 (.int 0)))
    walk_at "w"
    refine q_pNew (vals := [.ref hl]) a3.1 rfl ?_
    have a4 := a3.self (o' := .ins (He.ga K "Frames") dx (l_Frames.zip [.ref hl, .ref ol]))
    have h4 := h3.put (o'' := .ins (He.ga K "Frames") dx (l_Frames.zip [.ref hl, .ref ol])) a3 (by simp)
    have o4 := o3.put (o'' := .ins (He.ga K "Frames") dx (l_Frames.zip [.ref hl, .ref ol])) a3 (by simp)
    walk_at "w"
    refine q_pNew (vals := [.ref hl, .ref ol]) a4.1 rfl ?_
    refine k _ ((((((((HS.mk H r).new p1 (0, 0) (.lst [.non])).new hl (c, 1) (.lst (List.replicate 40 .non))).put a (.ins (He.ga K "Frames") dx (l_Frames.zip [.ref hl]))).new p3 (0, 0) (.lst [.int 0])).new ol (c, 2) (.lst (List.replicate 40 (.int 0)))).put a (.ins (He.ga K "Frames") dx (l_Frames.zip [.ref hl, .ref ol]))).put a (.ins (He.ga K "Frames") dx (l_Frames.zip [.ref hl, .ref ol, .int 0]))) ?_
      ⟨rfl, dx, hl, ol, List.replicate 40 .non, a4.self, h4.put a4 (by simp), o4.put a4 (by simp), rfl, rfl, fun i e => ?_, fun i ws e => ?_⟩
    · exact (Step.new (R := (· = c)) n1).trans ((Step.new n2).trans ((Step.put1 a1).trans ((Step.new n3).trans ((Step.new n4).trans ((Step.put1 a3).trans (Step.put1 a4))))))
    · have := (List.getElem?_eq_some_iff.mp e).1
      simp only [List.length_replicate] at this
      rw [List.getElem?_replicate, if_pos this]
    · rw [List.getElem?_replicate] at e
      split at e <;> cases e
end
end SP

/-! B6 -/
set_option maxHeartbeats 4100000
namespace SP
open PySem PySem.Spec PyProof.Rows L2 L2H
local macro_rules | `(tactic| walk_at "u") => `(tactic| (dsimp only [tRet, tSeq, tAsg, tDrop, tIfS, tNext, tRetN, tBreak, tCont, tOp, tUn, tCons, tNil, tCallX, tM, tF, sSet, sNew, sAug, tMakeX, tTest, tB, tAnd, tOr, tNot, tAndV, tOrV, tNotV, tIf, tChain, tCB, tBM, tBM0, tTup, tLst, gName, tC, tIsN, tNotN, tDIn, tDNotIn, tDGet, sDPut, tDPop1, gCons, gNil, tSl, tPart, tNoPart, tYes, tVeI]))
local macro_rules | `(tactic| walk_at "o") => `(tactic| (first | assumption | omega | (simp only [List.length_map, List.length_replicate, List.length_range, List.length_append, List.length_cons, List.length_nil]; omega)))
local macro_rules | `(tactic| walk_at "q") => `(tactic| (repeat (first
  | ((with_reducible refine' q_var ?hq ?_); (case hq => rfl))
  | ((with_reducible refine' q_pF ?ha ?hq ?_); (case ha => assumption); (case hq => rfl))
  | ((with_reducible refine' q_pM ?ha ?_); (case ha => assumption))
  | (with_reducible refine q_I0 ?_)
  | (with_reducible refine q_isInt ?_)
  | (with_reducible refine q_isBool ?_)
  | (with_reducible refine iteT ?_)
  | (with_reducible refine iteF ?_)
  | (with_reducible refine iteNT ?_)
  | (with_reducible refine iteNF ?_)
  | (with_reducible refine q_eqI ?_)
  | (with_reducible refine q_neI ?_)
  | ((with_reducible refine' q_eq ?hq ?_); (case hq => rfl))
  | ((with_reducible refine' q_ne ?hq ?_); (case hq => rfl))
  | (with_reducible refine q_lenL (by assumption) ?_)
  | (with_reducible refine q_lenT (by assumption) ?_)
  | (with_reducible refine q_is_whole ?_)
  | (with_reducible refine q_is_word ?_)
  | (with_reducible refine q_is_below ?_)
  | ((with_reducible refine' And.intro (q_tyL ?ha) ?_); (case ha => assumption))
  | (with_reducible refine q_ip ?_)
  | (with_reducible refine q_rAdd ?_)
  | (with_reducible refine q_rSub ?_)
  | (with_reducible refine q_has ?_)
  | (with_reducible refine q_put ?_)
  | (with_reducible refine q_taken ?_)
  | (with_reducible refine q_page_of ?_)
  | (with_reducible refine q_pow48 ?_)
  | (with_reducible refine q_pow40 ?_)
  | ((with_reducible refine' q_I ?hq ?_); (case hq => first | assumption | decide | omega | exact q_div1 (by omega) _ | exact mul_ok (by omega) | exact pow_ok (by decide)))
  | ((with_reducible refine' ite_y ?hq ?_); (case hq => walk_at "o"))
  | ((with_reducible refine' ite_n ?hq ?_); (case hq => walk_at "o"))
  | ((with_reducible refine' ite_nn ?hq ?_); (case hq => walk_at "o"))
  | ((with_reducible refine' ite_ny ?hq ?_); (case hq => walk_at "o"))
  | (with_reducible
                    refine ⟨_, rfl, ?_⟩)
  | (with_reducible refine ⟨_, _, rfl, ?_⟩)
  | (with_reducible refine ⟨rfl, ?_⟩))))
local macro_rules | `(tactic| walk_at "w") => `(tactic| ((try (walk_at "u")); (walk_at "q"); (try (walk_at "u")); (walk_at "q")))
theorem FR.put_put (F : FR) (i : Nat) (a b : Option (List Int)) : (F.put i a).put i b = F.put i b := by simp [FR.put]
theorem FR.get_put {F : FR} {i : Nat} {a b : Option (List Int)} (h : F.tk[i]? = some b) : (F.put i a).tk[i]? = some a := by
  have := (List.getElem?_eq_some_iff.mp h).1
  simp [FR.put, this]
theorem FR.get_ne {F : FR} {i j : Nat} {a : Option (List Int)} (h : j ≠ i) : (F.put i a).tk[j]? = F.tk[j]? := by
  simp only [FR.put]
  rw [List.getElem?_set_ne (fun z => h z.symm)]
theorem FR.put_same {F : FR} {i : Nat} {a : Option (List Int)} (h : F.tk[i]? = some a) : F.put i a = F := by
  obtain ⟨hi, e⟩ :=
                    List.getElem?_eq_some_iff.mp h
  unfold FR.put
  rw [← e, List.set_getElem_self]
theorem fill_step {ws zs : List Int} {n : Nat} {x : Int} (hx : ws[n]? = some x) (hz : zs.length = ws.length) : (ws.take n ++ zs.drop n).set n x = ws.take (n + 1) ++ zs.drop (n + 1) := by
  have hn := (List.getElem?_eq_some_iff.mp hx).1
  rw [List.set_append_right _ _ (by rw [List.length_take]; omega), List.length_take, Nat.min_eq_left (by omega), Nat.sub_self, List.take_add_one, hx]
  rw [List.drop_eq_getElem_cons (show n < zs.length by omega), List.set_cons_zero, List.append_assoc] <;> rfl
def sp_laid_out (K : PySem.W.Frag) : Sp := fun vs H Q _ => ∃ r c A F wa qa, ∃ ws : List Int, vs = [.ref A, .ref wa] ∧ c ≠ 0 ∧ FrAt K ⟨H, r⟩ c A F ∧ At ⟨H, r⟩ wa qa (.lst (ws.map V.int)) ∧ qa.1 ≠ c ∧ okPg ws ∧ none ∈ F.tk ∧
  Does (· = c) ⟨H, r⟩ Q fun v t => ∃ i : Nat, v = .int i ∧ F.tk[i]? = some none ∧ FrAt K t c A (F.put i (some ws))
def sp_words_at (K : PySem.W.Frag) : Sp := fun vs H Q _ => ∃ r c A F, ∃ (i : Nat) (ws : List Int), vs = [.ref A, .int i] ∧ FrAt K ⟨H, r⟩ c A F ∧ F.tk[i]? = some (some ws) ∧ ∀ D H', H D = none → Same H H' → H' D = some (.lst (ws.map V.int)) → Q (.ref D) H'
/-! the parts of a way -/
def ldV : Option Nat → V
  | none => .non
  | some f => .int f
def PartsAt (K : PySem.W.Frag) (s : HS) (c : Nat) (pa A : Addr) (ld : List (Option Nat)) : Prop := ∃ dx ll, At s pa (c, 5) (.ins (He.ga K "Parts") dx (l_Parts.zip [.ref A, .ref ll])) ∧ At s ll (c, 6) (.lst (ld.map ldV))
theorem PartsAt.step {K : PySem.W.Frag} {s t : HS} {c : Nat} {pa A : Addr} {ld : List (Option Nat)} {R : Nat → Prop} (h : PartsAt K s c pa A ld) (st : Step R s t) (n : ¬ R c) : PartsAt K t c pa A ld := by
  obtain ⟨dx, ll, h1, h2⟩ := h
  exact ⟨dx, ll, h1.step st n, h2.step st n⟩
def sp_P_size (K : PySem.W.Frag) : Sp := fun vs H Q _ => ∃ r c pa A ld, vs = [.ref pa] ∧ PartsAt K ⟨H, r⟩ c pa A ld ∧ Q (.int (ld.length : Nat)) H
def sp_P_frame (K : PySem.W.Frag) : Sp := fun vs H Q _ => ∃ r c pa A ld, ∃ p f : Nat, vs = [.ref pa, .int p] ∧ PartsAt K ⟨H, r⟩ c pa A ld ∧ ld[p]? = some (some f) ∧ Q (.int f) H
def sp_P_need (K : PySem.W.Frag) : Sp := fun vs H Q _ => ∃ r c pa A ld, ∃ p f : Nat, vs = [.ref pa, .int p] ∧ PartsAt K ⟨H, r⟩ c pa A ld ∧ ld[p]? = some (some f) ∧ Q .non H
def sp_P_alone (K : PySem.W.Frag) : Sp := fun vs H Q _ => ∃ r c c' pa A ld F ws, ∃ p f : Nat, vs = [.ref pa, .int p] ∧ PartsAt K ⟨H, r⟩ c pa A ld ∧ ld[p]? = some (some f) ∧ FrAt K ⟨H, r⟩ c' A F ∧ F.tk[f]? = some (some ws) ∧ Q (.bl false) H
def sp_P_give (K : PySem.W.Frag) : Sp := fun vs H Q _ => ∃ r c c' pa A ld F ws, ∃ p f : Nat, vs = [.ref pa, .int p] ∧ c ≠ c' ∧ PartsAt K ⟨H, r⟩ c pa A ld ∧ ld[p]? = some (some f) ∧ FrAt K ⟨H, r⟩ c' A F ∧ F.tk[f]? = some (some ws) ∧
  Does (fun x => x = c ∨ x = c') ⟨H, r⟩ Q fun v t => v = .non ∧ PartsAt K t c pa A (ld.set p none) ∧ FrAt K t c' A (F.put f none) ∧ ∀ a n o, n ≠ 6 → At ⟨H, r⟩ a (c, n) o → At t a (c, n) o
section
variable {P : Program} {w : World} {K :
                                        PySem.W.Frag} {mg : Str → Option Value} {base : Heap}
theorem ok_laid_out (T : TX K mg) : Fn P w K mg base false 6 (He.ga K "laid_out") (sp_laid_out K) := by
  refine (f_laid_out T).calm 5 (fun vs H Q E h => ?_) (fun cdv A outer s H vs Q E hr h => ?_)
  · obtain ⟨r, c, A, F, wa, qa, ws, rfl, _⟩ := h; rfl
  · obtain ⟨r, c, A, F, wa, qa, ws, rfl, c0, hF, hw, hq, okp, hn, k⟩ := h
    obtain ⟨dx, hl, ol, hs, hF'⟩ := id hF
    have h1 : H A = some _ := hF'.obj.1
    refine ⟨_, pss_cons (ps_set (i := 2) (f_laid_out T).nd rfl (Or.inl rfl) (x_m0 (ok_Frames_take T) (can hr) (kls_Frames T) (m_Frames_take T) (fun _ => pas0) (pv 0))) (pss_cons (ps_for (passes_of rfl) rfl (pi_enum (by rfl) (z_enumerate T) (pa_cons (pv 1) pa_nil)) (x_tup (n := 2) (.inl hr.hd) (pgs_cons (pg_name (i := 3) (f_laid_out T).nd rfl (Or.inl rfl)) (pgs_cons (pg_name (i := 4) (f_laid_out T).nd rfl (Or.inl rfl)) pgs_nil))) (pss_one (ps_expr (x_m (ok_Frames_write T) (can hr) (kls_Frames T) (m_Frames_write T) (fun _ => pas0) (pv 0) (pa_cons (pv 2) (pa_cons (pv 3) (pa_cons (pv 4) pa_nil))))))) (pss_one (ps_ret (pv 2)))), ?_⟩
    walk_at "w"
    refine ⟨r, c, A, F, rfl, c0, hF, hn, ?_⟩
    rintro v t st ⟨i, rfl, ei, ht⟩
    have hwt := hw.step st hq
    walk_at "w"
    refine fr_enum (fun n σ H2 => (∃ u z, σ = [some (V.ref A), some (V.ref wa), some (V.int i), u, z]) ∧ ∃ t2, t2.h = H2 ∧ Step (· = c) ⟨H, r⟩ t2 ∧ FrAt K t2 c A (F.put i (some (ws.take n ++ zeros.drop n)))) (fun R q => q_var rfl q) (SqL.of hwt.1)
      ⟨⟨_, _, rfl⟩, t, rfl, st, ht⟩ (fun n σ H2 _ ⟨_, t2, e2, st2, _⟩ => by subst e2; exact SqL.of (hw.step st2 hq).1) (fun n x σ H2 T1 hx ⟨⟨u, z, hσ⟩, t2, e2, st2, hF2⟩ hT => ?_) fun σ H2 ⟨⟨u, z, hσ⟩, t2, e2, st2, hF2⟩ => ?_
    · subst hσ e2
      obtain ⟨m, hm, rfl⟩ := getMap hx
      have hn8 := (List.getElem?_eq_some_iff.mp hm).1
      rw [okp.1] at hn8
      refine q_tup upd_same rfl ?_
      have hF3 := hF2.new (p := T1) (q := (0, 0)) (ob := .tup [.int (n : Nat), .int m]) hT
      obtain ⟨dx3, hl3, ol3, hs3, hF3'⟩ := id hF3
      have h3 : (upd t2.h T1 (.tup [.int (n : Nat), .int m])) A = some _ := hF3'.obj.1
      walk_at "w"
      refine ⟨(t2.new T1 (0, 0) (.tup [.int (n : Nat), .int m])).r, c, A, _, i, _, n, m, rfl, hF3, FR.get_put ei, hn8, okp.2 m (List.mem_of_getElem? hm), fun v t3 st3 ⟨_, hF4⟩ => ?_⟩
      rw [FR.put_put, fill_step hm (by rw [okp.1] <;> rfl)] at hF4
      walk_at "w"
      exact ⟨⟨_, _, rfl⟩, t3, rfl, st2.trans ((Step.new (s := t2) hT).trans st3), hF4⟩
    · subst hσ e2
      rw [List.length_map, okp.1, List.take_of_length_le (by rw [okp.1]; decide), show zeros.drop 8 = [] from rfl, List.append_nil] at hF2
      walk_at "w"
      exact k _ _ st2 ⟨i, rfl, ei, hF2⟩
theorem ok_words_at (T : TX K mg) : Fn P w K mg base false 6 (He.ga K "words_at") (sp_words_at K) := by
  refine (f_words_at T).calm 5 (fun vs H Q E h => ?_) (fun cdv A outer s H vs Q E hr h => ?_)
  · obtain ⟨r, c, A, F, i, ws, rfl, _⟩ := h; rfl
  · obtain ⟨r, c, A, F, i, ws, rfl, hF, e, k⟩ := h
    have okp := hF.okPg e
    refine ⟨_, pss_one (ps_ret (pe_lc (own := [("cell", 2)]) (g := gName 2) rfl (f_words_at T).nd (pi_range1 rfl (z_range T) (pa_cons (x_glob (k_CELLS T)) pa_nil)) (blkOk_by (own := [("cell", 2)]) (N := ["store", "page", "cell"]) (sc := defScope s_words_at) (by decide +kernel)) (fun _ _ _ _ _ => pg_name (i := 2) (f_words_at T).nd rfl (Or.inl rfl)) (fun _ _ _ _ _ => pts_nil) (fun _ _ _ _ _ => (x_m (ok_Frames_read T) (can hr) (kls_Frames T) (m_Frames_read T) (fun _ => pas0) (pv 0) (pa_cons (pv 1) (pa_cons (pv 2) pa_nil)))))), ?_⟩
    walk_at "w"
    refine lc_mapR (m := 8) (ys := ws.map V.int) (fun R q => ?_) (by decide) (by rw [List.length_map]; exact okp.1) (fun j y H1 hj hy e1 Q' q => ?_) fun D H' n e1 d => k D H' n e1 d
    · walk_at "w"
      exact q
    · obtain ⟨x, hx, rfl⟩ := getMap hy
      have hF1 := hF.same e1
      obtain ⟨dx, hl, ol, hs, hF'⟩ := id hF1
      have h1 : H1 A = some _ := hF'.obj.1
      walk_at "w"
      exact ⟨r, c, A, F, i, ws, j, x, rfl, hF1, e, hx, q H1 (Same.refl _)⟩
theorem ok_Parts_size (T : TX K mg) : Fn P w K mg base false 1 (He.ma K (He.ga K "Parts") "size") (sp_P_size K) := by
  refine (f_Parts_size T).calm 0 (fun vs H Q E h => ?_) (fun cdv A outer s H vs Q E hr h => ?_)
  · obtain ⟨r, c, pa, A, ld, rfl, _⟩ := h; rfl
  · obtain ⟨r, c, pa, A, ld, rfl, ⟨dx, ll, ⟨h1, _⟩, ⟨h2, _⟩⟩, k⟩ := h
    have h1 : H pa = some _ := h1
    have h2 : H ll = some _ := h2
    refine ⟨_, pss_one (ps_ret (x_len (z_len T) (x_fld (kls_Parts T) 1 (pv 0)))), ?_⟩
    walk_at "w"
    rw [List.length_map]
    exact k
theorem ok_Parts_frame (T : TX K mg) : Fn P w K mg base true 3 (He.ma K (He.ga K "Parts") "frame") (sp_P_frame K) := by
  refine (f_Parts_frame T).dual 2 (fun vs H Q E h => ?_) (fun cdv A outer s H vs Q E m hr h => ?_)
  · obtain ⟨r, c, pa, A, ld, p, f, rfl, _⟩ := h; rfl
  · obtain ⟨r, c, pa, A, ld, p, f, rfl, ⟨dx, ll, ⟨h1, _⟩, ⟨h2, _⟩⟩, e, k⟩ := h
    have h1 : H pa = some _ := h1
    have h2 : H ll = some _ := h2
    have hp := (List.getElem?_eq_some_iff.mp e).1
    refine ⟨_, pss_cons (ps_if (pt_not (pt_val (x_call (ok_is_below T) (can2 hr) (g_is_below T) (f_is_below T).kp (fun _ => pas0) (pa_cons (pv 1) (pa_cons (x_len (z_len T) (x_fld (kls_Parts T) 1 (pv 0))) pa_nil))))) (pss_one (ps_ret pe_non)) pss_nil) (pss_one (ps_ret (pe_ix ix_list (x_fld (kls_Parts T) 1 (pv 0)) (pv 1) (fun _ _ => rfl)))), ?_⟩
    walk_at "w"
    refine q_ixN h2 (v := .int f) (by rw [List.getElem?_map, e] <;> rfl) ?_
    exact k
theorem ok_Parts_need (T : TX K mg) : Fn P w K mg base true 4 (He.ma K (He.ga K "Parts") "need") (sp_P_need K) := by
  refine (f_Parts_need T).dual 3 (fun vs H Q E h => ?_) (fun cdv A outer s H vs Q E m hr h => ?_)
  · obtain ⟨r, c, pa, A, ld, p, f, rfl, _⟩ := h; rfl
  · obtain ⟨r, c, pa, A, ld, p, f, rfl, hP, e, k⟩ := h
    obtain ⟨dx, ll, ⟨h1, _⟩, _⟩ := id hP
    have h1 : H pa = some _ := h1
    refine ⟨_, pss_one (ps_if (pt_cmp (pc_isN (x_m (ok_Parts_frame T) (can2 hr) (kls_Parts T) (m_Parts_frame T) (fun _ => pas0) (pv 0) (pa_cons (pv 1) pa_nil)))) (pss_one ps_never) pss_nil), ?_⟩
    walk_at "w"
    refine ⟨r, c, pa, A, ld, p, f, rfl, hP, e, ?_⟩
    walk_at "w"
    exact k
theorem ok_Parts_alone (T : TX K mg) : Fn P w K mg base true 5 (He.ma K (He.ga K "Parts") "alone") (sp_P_alone K) := by
  refine (f_Parts_alone T).dual 4 (fun vs H Q E h => ?_) (fun cdv A outer s H vs Q E m hr h => ?_)
  · obtain ⟨r, c, c', pa, A, ld, F, ws, p, f, rfl, _⟩ := h; rfl
  · obtain ⟨r, c, c', pa, A, ld, F, ws, p, f, rfl, hP, e, hF, ef, k⟩ := h
    obtain ⟨dx, ll, ⟨h1, _⟩, ⟨h2, _⟩⟩ := id hP
    have h1 : H pa = some _ := h1
    have h2 : H ll = some _ := h2
    obtain ⟨dx', hl, ol, hs, hF'⟩ := id hF
    have h3 : H A = some _ := hF'.obj.1
    refine ⟨_, pss_cons (ps_expr (x_m (ok_Parts_need T) (can2 hr) (kls_Parts T) (m_Parts_need T) (fun _ => pas0) (pv 0) (pa_cons (pv 1) pa_nil))) (pss_cons (ps_set (i := 2) (f_Parts_alone T).nd rfl (Or.inl rfl) (pe_ix ix_list (x_fld (kls_Parts T) 1 (pv 0)) (pv 1) (fun _ _ => rfl))) (pss_cons (ps_if (pt_cmpR op_eq (x_m (ok_Frames_owners T) (can2 hr) (kls_Frames T) (m_Frames_owners T) (fun _ => pas0) (x_fld (kls_Parts T) 0 (pv 0)) (pa_cons (pv 2) pa_nil)) pe_int (nomark _)) (pss_one (ps_ret pe_bl)) pss_nil) (pss_cons ps_never (pss_cons ps_never (pss_one (ps_ret pe_bl)))))), ?_⟩
    walk_at "w"
    refine ⟨r, c, pa, A, ld, p, f, rfl, hP, e, ?_⟩
    walk_at "w"
    refine q_ixN h2 (v := .int f) (by rw [List.getElem?_map, e] <;> rfl) ?_
    walk_at "w"
    refine ⟨r, c', A, F, f, ws, rfl, hF, ef, ?_⟩
    walk_at "w"
    exact k
theorem ok_Parts_give (T : TX K mg) : Fn P w K mg base false 6 (He.ma K (He.ga K "Parts") "give") (sp_P_give K) := by
  refine (f_Parts_give T).calm 5 (fun vs H Q E h => ?_) (fun cdv A outer s H vs Q E hr h => ?_)
  · obtain ⟨r, c, c', pa, A, ld, F, ws, p, f, rfl, _⟩ := h; rfl
  · obtain ⟨r, c, c', pa, A, ld, F, ws, p, f, rfl, hc, hP, e, hF, ef, k⟩ := h
    obtain ⟨dx, ll, h1', h2'⟩ := id hP
    have h1 : H pa = some _ := h1'.1
    have h2 : H ll = some _ := h2'.1
    have hp := (List.getElem?_eq_some_iff.mp e).1
    obtain ⟨dx', hl, ol, hs, hF'⟩ := id hF
    have h3 : H A = some _ := hF'.obj.1
    refine ⟨_, pss_cons (ps_expr (x_m (ok_Parts_need T) (can hr) (kls_Parts T) (m_Parts_need T) (fun _ => pas0) (pv 0) (pa_cons (pv 1) pa_nil))) (pss_cons (ps_expr (x_m (ok_Frames_drop T) (can hr) (kls_Frames T) (m_Frames_drop T) (fun _ => pas0) (x_fld (kls_Parts T) 0 (pv 0)) (pa_cons (pe_ix ix_list (x_fld (kls_Parts T) 1 (pv 0)) (pv 1) (fun _ _ => rfl)) pa_nil))) (pss_one (ps_asg pe_non (pg_sub (x_fld (kls_Parts T) 1 (pv 0)) (pv 1) set_list)))), ?_⟩
    walk_at "w"
    refine ⟨r, c, pa, A, ld, p, f, rfl, hP, e, ?_⟩
    walk_at "w"
    refine q_ixN h2 (v := .int f) (by rw [List.getElem?_map, e] <;> rfl) ?_
    refine ⟨r, c', A, F, f, ws, rfl, hF, ef, fun v t st ⟨_, hF2⟩ => ?_⟩
    have g1 := h1'.step st hc
    have g2 := h2'.step st hc
    have g3 : t.h pa = some _ := g1.1
    unfold gSub
    walk_at "w"
    refine q_setL g2.1 (by rw [List.length_map]; exact hp) ?_
    refine k _ (t.put ll (.lst ((ld.map ldV).set p .non))) ((st.mono fun x hx => .inr hx).trans (Step.put g2 (.inl rfl))) ⟨rfl, ⟨dx, ll, g1.put g2 (by simp), ?_⟩, hF2.step (Step.put1 g2) (fun z => hc z.symm), fun a n o hn ha => (ha.step st hc).put g2 (by simpa using hn)⟩
    rw [List.map_set]
    exact g2.self
end
end SP

/-! B7 -/
set_option maxHeartbeats 4100000
namespace SP
open PySem PySem.Spec PyProof.Rows L2 L2H
local macro_rules | `(tactic| walk_at "u") => `(tactic| (dsimp only [tRet, tSeq, tAsg, tDrop, tIfS, tNext, tRetN, tBreak, tCont, tOp, tUn, tCons, tNil, tCallX, tM, tF, sSet, sNew, sAug, tMakeX, tTest, tB, tAnd, tOr, tNot, tAndV, tOrV, tNotV, tIf, tChain, tCB, tBM, tBM0, tTup, tLst, gName, tC, tIsN, tNotN, tDIn, tDNotIn, tDGet, sDPut, tDPop1, gCons, gNil, tSl, tPart, tNoPart, tYes, tVeI]))
local macro_rules | `(tactic| walk_at "o") => `(tactic| (first | assumption | omega | (simp only [List.length_map, List.length_replicate, List.length_range, List.length_append, List.length_cons, List.length_nil]; omega)))
local macro_rules | `(tactic| walk_at "q") => `(tactic| (repeat (first
  | ((with_reducible refine' q_var ?hq ?_); (case hq => rfl))
  | ((with_reducible refine' q_pF ?ha ?hq ?_); (case ha => assumption); (case hq => rfl))
  | ((with_reducible refine' q_pM ?ha ?_); (case ha => assumption))
  | (with_reducible refine q_I0 ?_)
  | (with_reducible refine q_isInt ?_)
  | (with_reducible refine q_isBool ?_)
  | (with_reducible refine iteT ?_)
  | (with_reducible refine iteF ?_)
  | (with_reducible refine iteNT ?_)
  | (with_reducible refine iteNF ?_)
  | (with_reducible refine q_eqI ?_)
  | (with_reducible refine q_neI ?_)
  | ((with_reducible refine' q_eq ?hq ?_); (case hq => rfl))
  | ((with_reducible refine' q_ne ?hq ?_); (case hq => rfl))
  | (with_reducible refine q_lenL (by assumption) ?_)
  | (with_reducible refine q_lenT (by assumption) ?_)
  | (with_reducible refine q_is_whole ?_)
  | (with_reducible refine q_is_word ?_)
  | (with_reducible refine q_is_below ?_)
  | ((with_reducible refine' And.intro (q_tyL ?ha) ?_); (case ha => assumption))
  | (with_reducible refine q_ip ?_)
  | (with_reducible refine q_rAdd ?_)
  | (with_reducible refine q_rSub ?_)
  | (with_reducible refine q_has ?_)
  | (with_reducible refine q_put ?_)
  | (with_reducible refine q_taken ?_)
  | (with_reducible refine q_page_of ?_)
  | (with_reducible refine q_pow48 ?_)
  | (with_reducible refine q_pow40 ?_)
  | ((with_reducible refine' q_I ?hq ?_); (case hq => first | assumption | decide | omega | exact q_div1 (by omega) _ | exact mul_ok (by omega) | exact pow_ok (by decide)))
  | ((with_reducible refine' ite_y ?hq ?_); (case hq => walk_at "o"))
  | ((with_reducible refine' ite_n ?hq ?_); (case hq => walk_at "o"))
  | ((with_reducible refine' ite_nn ?hq ?_); (case hq => walk_at "o"))
  | ((with_reducible refine' ite_ny ?hq ?_); (case hq => walk_at "o"))
  | (with_reducible
                    refine ⟨_, rfl, ?_⟩)
  | (with_reducible refine ⟨_, _, rfl, ?_⟩)
  | (with_reducible refine ⟨rfl, ?_⟩))))
local macro_rules | `(tactic| walk_at "w") => `(tactic| ((try (walk_at "u")); (walk_at "q"); (try (walk_at "u")); (walk_at "q")))
/-! ### looks through tables -/
theorem set_eq_self_of {α : Type} {l : List α} {i : Nat} {x : α} (h : l[i]? = some x) : l.set i x = l := by
  obtain ⟨hi, e⟩ :=
                    List.getElem?_eq_some_iff.mp h
  rw [← e, List.set_getElem_self]
def sp_look_by (K : PySem.W.Frag) : Sp := fun vs H Q _ => ∃ r c A F, ∃ (f : Nat) (ww t so : Bool) (p l : Int) (wr : Bool) (ws : List Int), vs = [.ref A, .int (rowW f ww t so), .int p, .int l, .bl wr, .bl true] ∧ FrAt K ⟨H, r⟩ c A F ∧ F.tk[f]? = some (some ws) ∧ (wr = true → ww = true) ∧ Q (.int f) H
/-- a row that is fixed -/
def sp_look_byF (K : PySem.W.Frag) : Sp := fun vs H _ E => ∃ r c A F, ∃ (f : Nat) (t so : Bool) (p l : Int) (ws : List Int), vs = [.ref A, .int (rowW f false t so), .int p, .int l, .bl true, .bl true] ∧ FrAt K ⟨H, r⟩ c A F ∧ F.tk[f]? = some (some ws) ∧ ∀ d H', Same H H' → E (.ref (He.ga K "Fault")) (some d) H'
structure LookAt (F : FR) (m0 m1 f pg : Nat) (hw lw ws : List Int) (w1 t1 s1 ww t so : Bool) : Prop where
  hi : F.tk[m0]? = some (some hw)
  lo : F.tk[m1]? = some (some lw)
  pg_ : F.tk[f]? = some (some ws)
  hr : hw[0]? = some (rowW m1 w1 t1 s1)
  lr : lw[pg]? = some (rowW f ww t so)
def TrailAt (s : HS) (tr : Addr) (m0 m1 f pg : Nat) : Prop := ∃ a b, ∃ k : Int, At s tr (0, 0) (.tup [.ref a, .ref b, .int f, .int k]) ∧ At s a (0, 0) (.tup [.int m0, .int 0]) ∧ At s b (0, 0) (.tup [.int m1, .int pg])
theorem TrailAt.step {R : Nat → Prop} {s t : HS} {tr : Addr} {m0 m1 f pg : Nat} (h : TrailAt s tr m0 m1 f pg) (st : Step R s t) (n : ¬ R 0) : TrailAt t tr m0 m1 f pg := by
  obtain ⟨a, b, k, h1, h2, h3⟩ := h
  exact ⟨a, b, k, h1.step st n, h2.step st n, h3.step st n⟩
def sp_look (K : PySem.W.Frag) : Sp := fun vs H Q _ => ∃ r c A F, ∃ (m0 m1 f pg ce : Nat) (hw lw ws : List Int) (t1 s1 ww t so wr : Bool), vs = [.ref A, .int m0, .int ((8 * pg + ce : Nat) : Int), .bl wr, .bl true] ∧ FrAt K ⟨H, r⟩ c A F ∧ pg < 8 ∧ ce < 8 ∧
  LookAt F m0 m1 f pg hw lw ws true t1 s1 ww t so ∧ (wr = true → ww = true) ∧ Does (fun _ => False) ⟨H, r⟩ Q fun v t => ∃ tr, v = .ref tr ∧ TrailAt t tr m0 m1 f pg
def sp_lookF (K : PySem.W.Frag) : Sp := fun vs H _ E => ∃ r c A F, ∃ (m0 m1 f pg ce : Nat) (hw lw ws : List Int) (t1 s1 t so : Bool), vs = [.ref A, .int m0, .int ((8 * pg + ce : Nat) : Int), .bl true, .bl true] ∧ FrAt K ⟨H, r⟩ c A F ∧ pg < 8 ∧ ce < 8 ∧
  LookAt F m0 m1 f pg hw lw ws true t1 s1 false t so ∧ ∀ d H', Same H H' → E (.ref (He.ga K "Fault")) (some d) H'
def sp_stamp (K : PySem.W.Frag) : Sp := fun vs H Q _ => ∃ r c A F, ∃ (sp : Addr) (m j f : Nat) (ws : List Int) (ww t so b : Bool), vs = [.ref A, .ref sp, .int (if b then 24 else 8)] ∧ FrAt K ⟨H, r⟩ c A F ∧ At ⟨H, r⟩ sp (0, 0) (.tup [.int m, .int j]) ∧ F.tk[m]? = some (some ws) ∧ ws[j]? = some (rowW f ww t so) ∧ f < 1000 ∧
  Does (· = c) ⟨H, r⟩ Q fun v t => v = .non ∧ FrAt K t c A (F.put m (some (ws.set j (rowW f ww true (so || b)))))
def sp_mark (K : PySem.W.Frag) : Sp := fun vs H Q _ => ∃ r c A F, ∃ (tr : Addr) (m0 m1 f pg : Nat) (hw lw ws : List Int) (t1 s1 ww t so wr : Bool), vs = [.ref A, .ref tr, .bl wr] ∧ c ≠ 0 ∧ FrAt K ⟨H, r⟩ c A F ∧ TrailAt ⟨H, r⟩ tr m0 m1 f pg ∧ m0 ≠ m1 ∧
  LookAt F m0 m1 f pg hw lw ws true t1 s1 ww t so ∧ Does (· = c) ⟨H, r⟩ Q fun v t => ∃ k : Int, v = .int k ∧ FrAt K t c A ((F.put m0 (some (hw.set 0 (rowW m1 true true s1)))).put m1 (some (lw.set pg (rowW f ww true (so || wr)))))
def sp_Fault_init (K : PySem.W.Frag) : Sp := fun vs H Q _ => ∃ (a : Addr) (x y z : V), vs = [.ref a, x, y, z] ∧ H a = some (exo a (He.ga K "Fault") none) ∧ ∀ d fs H', H d = none → H' a = some (exo a (He.ga K "Fault") (some d)) → H' d = some (exd d fs) → (∀ b o, b ≠ a → H b = some o → H' b = some o) → Q .non H'
section
variable {P : Program} {w : World} {K :
                                        PySem.W.Frag} {mg : Str → Option Value} {base : Heap}
theorem ok_Fault_init (T : TX K mg) : Fn P w K mg base false 1 (He.ma K (He.ga K "Fault") "__init__") (sp_Fault_init K) := by
  refine (f_Fault_init T).calm 0 (fun vs H Q E h => ?_) (fun cdv A outer s H vs Q E hr h => ?_)
  · obtain ⟨a, x, y, z, rfl, _⟩ := h; rfl
  · obtain ⟨a, x, y, z, rfl, ha, k⟩ := h
    refine ⟨_, pss_cons (ps_expr (x_heinit (cd_HouseError_init T) (g_HouseError T) (pa_cons (pv 0) (pa_cons pe_str pa_nil)))) (pss_cons (ps_ost (pv 0) (pv 1)) (pss_cons (ps_ost (pv 0) (pv 2)) (pss_one (ps_ost (pv 0) (pv 3))))), ?_⟩
    have O := (ox_Fault T).1
    have N := na_Fault T
    walk_at "w"
    refine ⟨a, _, _, rfl, (show 1 ≤ 1000 by decide), O, ha, ?_⟩
    unfold tOst
    walk_at "w"
    refine ⟨a, _, rfl, O, N _ (by simp), .inl ⟨ha, fun d hd hne => ?_⟩⟩
    have da : a ≠ d := fun z => hne z.symm
    walk_at "w"
    refine ⟨a, _, rfl, O, N _ (by simp), .inr ⟨d, _, upd_same, (upd_ne hne).trans upd_same, (show 1 ≤ 900 by decide), ?_⟩⟩
    walk_at "w"
    refine ⟨a, _, rfl, O, N _ (by simp), .inr ⟨d, _, (upd_ne da).trans upd_same, upd_same, (show 2 ≤ 900 by decide), ?_⟩⟩
    refine k d _ _ hd ((upd_ne da).trans ((upd_ne da).trans upd_same)) upd_same fun b o hb e => ?_
    have hbd : b ≠ d := ne_of_none e hd
    exact (upd_ne hbd).trans ((upd_ne hbd).trans ((upd_ne hb).trans ((upd_ne hbd).trans e)))
theorem ok_look_by (T : TX K mg) : Fn P w K mg base true 4 (He.ga K "look_by") (sp_look_by K) := by
  refine (f_look_by T).dual 3 (fun vs H Q E h => ?_) (fun cdv A outer s H vs Q E m hr h => ?_)
  · obtain ⟨r, c, A, F, f, ww, t, so, p, l, wr, ws, rfl, _⟩ := h; rfl
  · obtain ⟨r, c, A, F, f, ww, t, so, p, l, wr, ws, rfl, hF, e, hw, k⟩ := h
    obtain ⟨dx, hl, ol, hs, hF'⟩ := id hF
    have h1 : H A = some _ := hF'.obj.1
    refine ⟨_, pss_cons (ps_set (i := 6) (f_look_by T).nd rfl (Or.inl rfl) (x_call (ok_page_of T) (can2 hr) (g_page_of T) (f_page_of T).kp (fun _ => pas0) (pa_cons (pv 1) pa_nil))) (pss_cons (ps_if (pt_not (pt_val (x_call (ok_has T) (can2 hr) (g_has T) (f_has T).kp (fun _ => pas0) (pa_cons (pv 1) (pa_cons (x_glob (k_PRESENT T)) pa_nil))))) (pss_one ps_never) pss_nil) (pss_cons (ps_if (pt_not (pt_val (x_m (ok_Frames_has T) (can2 hr) (kls_Frames T) (m_Frames_has T) (fun _ => pas0) (pv 0) (pa_cons (pv 6) pa_nil)))) (pss_one ps_never) pss_nil) (pss_cons (ps_if (PW.pt (pw_and (pt_val (x_call (ok_has T) (can2 hr) (g_has T) (f_has T).kp (fun _ => pas0) (pa_cons (pv 1) (pa_cons (x_glob (k_KERNEL T)) pa_nil)))) (pw_and1 (pt_not (pt_val (pv 5)))))) (pss_one ps_never) pss_nil) (pss_cons (ps_if (PW.pt (pw_and (pt_val (pv 4)) (pw_and1 (pt_not (pt_val (x_call (ok_has T) (can2 hr) (g_has T) (f_has T).kp (fun _ => pas0) (pa_cons (pv 1) (pa_cons (x_glob (k_WRITABLE T)) pa_nil)))))))) (pss_one ps_never) pss_nil) (pss_one (ps_ret (pv 6))))))), ?_⟩
    walk_at "w"
    rw [row_has1, row_page]
    walk_at "w"
    refine ⟨r, c, A, F, f, ws, rfl, hF, e, ?_⟩
    walk_at "w"
    rw [row_has4]
    walk_at "w"
    cases wr with
    | false =>
      walk_at "w"
      exact k
    | true =>
      walk_at "w"
      rw [row_has2, hw rfl]
      walk_at "w"
      exact k
theorem ok_look_byF (T : TX K mg) : Fn P w K mg base false 4 (He.ga K "look_by") (sp_look_byF K) := by
  refine (f_look_by T).calm 3 (fun vs H Q E h => ?_) (fun cdv A outer s H vs Q E hr h => ?_)
  · obtain ⟨r, c, A, F, f, t, so, p, l, ws, rfl, _⟩ := h; rfl
  · obtain ⟨r, c, A, F, f, t, so, p, l, ws, rfl, hF, e, k⟩ := h
    obtain ⟨dx, hl, ol, hs, hF'⟩ := id hF
    have h1 : H A = some _ := hF'.obj.1
    refine ⟨_, pss_cons (ps_set (i := 6) (f_look_by T).nd rfl (Or.inl rfl) (x_call (ok_page_of T) (can hr) (g_page_of T) (f_page_of T).kp (fun _ => pas0) (pa_cons (pv 1) pa_nil))) (pss_cons (ps_if (pt_not (pt_val (x_call (ok_has T) (can hr) (g_has T) (f_has T).kp (fun _ => pas0) (pa_cons (pv 1) (pa_cons (x_glob (k_PRESENT T)) pa_nil))))) (pss_one ps_never) pss_nil) (pss_cons (ps_if (pt_not (pt_val (x_m (ok_Frames_has T) (can hr) (kls_Frames T) (m_Frames_has T) (fun _ => pas0) (pv 0) (pa_cons (pv 6) pa_nil)))) (pss_one ps_never) pss_nil) (pss_cons (ps_if (PW.pt (pw_and (pt_val (x_call (ok_has T) (can hr) (g_has T) (f_has T).kp (fun _ => pas0) (pa_cons (pv 1) (pa_cons (x_glob (k_KERNEL T)) pa_nil)))) (pw_and1 (pt_not (pt_val (pv 5)))))) (pss_one ps_never) pss_nil) (pss_cons (ps_if (PW.pt (pw_and (pt_val (pv 4)) (pw_and1 (pt_not (pt_val (x_call (ok_has T) (can hr) (g_has T) (f_has T).kp (fun _ => pas0) (pa_cons (pv 1) (pa_cons (x_glob (k_WRITABLE T)) pa_nil)))))))) (pss_one (L2N.ps_raise rfl (L2N.takes_of rfl rfl rfl rfl) (pmk_err (ox_Fault T).1 (ox_Fault T).2.1 (ox_Fault T).2.2 (ok_Fault_init T) (hr.mono (by decide)) (g_Fault T) (pa_cons pe_str (pa_cons (pv 2) (pa_cons (pv 3) pa_nil)))))) pss_nil) (pss_one (ps_ret (pv 6))))))), ?_⟩
    walk_at "w"
    rw [row_has1, row_page]
    walk_at "w"
    refine ⟨r, c, A, F, f, ws, rfl, hF, e, ?_⟩
    walk_at "w"
    rw [row_has4]
    walk_at "w"
    rw [row_has2]
    walk_at "w"
    unfold tMkO
    walk_at "w"
    refine ⟨(show 3 ≤ 1000 by decide), fun a ha => ⟨a, _, _, _, rfl, upd_same, fun d fs H' hd h1 h2 h3 => ⟨rfl, d, fs, h1, h2, ?_, ?_⟩⟩⟩
    · have hda : d ≠ a := by
        intro z
        subst z
        rw [upd_same] at hd
        cases hd
      rw [upd_ne hda] at hd
      exact hd
    · refine k d _ fun b o e => ?_
      have hba : b ≠ a := ne_of_none e ha
      have e2 : (upd H a (exo a (He.ga K "Fault") none)) b = some o := (upd_ne hba).trans e
      have hbd : b ≠ d := ne_of_none e2 hd
      rw [upd_ne hbd, del_ne hba]
      exact h3 b o hba e2
theorem look_in {H : Hp} {Q : VK} {E : XK} {p : Nat × Nat} {σ : L2.St} (h : p.1 < 8 ∧ p.2 < 8) (k : ∀ a H', Same H H' → H' a = some (.tup [.int (0 : Nat), .int (p.1 : Nat), .int (p.2 : Nat)]) → Q (.ref a) H') : sp_parts_of [.int ((8 * p.1 + p.2 : Nat) : Int)] H Q E := by
  refine ⟨_, rfl, by omega, by omega, fun a H' e d => k a H' e ?_⟩
  rw [d, show ((8 * p.1 + p.2 : Nat) : Int) / 8 / 8 = (0 : Nat) by omega, show ((8 * p.1 + p.2 : Nat) : Int) / 8 % 8 = (p.1 : Nat) by omega, show ((8 * p.1 + p.2 : Nat) : Int) % 8 = (p.2 : Nat) by omega]
theorem ok_look (T : TX K mg) : Fn P w K mg base true 6 (He.ga K "look") (sp_look K) := by
  refine (f_look T).dual 5 (fun vs H Q E h => ?_) (fun cdv A outer s H vs Q E m hr h => ?_)
  · obtain ⟨r, c, A, F, m0, m1, f, pg, ce, hw, lw, ws, t1, s1, ww, t, so, wr, rfl, _⟩ := h; rfl
  · obtain ⟨r, c, A, F, m0, m1, f, pg, ce, hw, lw, ws, t1, s1, ww, t, so, wr, rfl, hF, hp, hc, L, hww, k⟩ := h
    obtain ⟨dx, hl, ol, hs, hF'⟩ := id hF
    have h1 : H A = some _ := hF'.obj.1
    refine ⟨_, pss_cons (ps_if (pt_cmpR op_gt (pv 2) (x_glob (k_LAST T)) (nomark _)) (pss_one ps_never) pss_nil) (pss_cons (ps_if (pt_not (pt_val (x_m (ok_Frames_has T) (can2 hr) (kls_Frames T) (m_Frames_has T) (fun _ => pas0) (pv 0) (pa_cons (pv 1) pa_nil)))) (pss_one ps_never) pss_nil) (pss_cons (ps_asg (x_call (ok_parts_of T) (can2 hr) (g_parts_of T) (f_parts_of T).kp (fun _ => pas0) (pa_cons (pv 2) pa_nil)) (x_tup (n := 3) hr.calm (pgs_cons (pg_name (i := 5) (f_look T).nd rfl (Or.inl rfl)) (pgs_cons (pg_name (i := 6) (f_look T).nd rfl (Or.inl rfl)) (pgs_cons (pg_name (i := 7) (f_look T).nd rfl (Or.inl rfl)) pgs_nil))))) (pss_cons (ps_set (i := 8) (f_look T).nd rfl (Or.inl rfl) (x_m (ok_Frames_read T) (can2 hr) (kls_Frames T) (m_Frames_read T) (fun _ => pas0) (pv 0) (pa_cons (pv 1) (pa_cons (pv 5) pa_nil)))) (pss_cons (ps_set (i := 9) (f_look T).nd rfl (Or.inl rfl) (x_call (ok_look_by T) (can2 hr) (g_look_by T) (f_look_by T).kp (fun _ => pas0) (pa_cons (pv 0) (pa_cons (pv 8) (pa_cons (pv 2) (pa_cons pe_int (pa_cons (pv 3) (pa_cons (pv 4) pa_nil)))))))) (pss_cons (ps_set (i := 10) (f_look T).nd rfl (Or.inl rfl) (x_m (ok_Frames_read T) (can2 hr) (kls_Frames T) (m_Frames_read T) (fun _ => pas0) (pv 0) (pa_cons (pv 9) (pa_cons (pv 6) pa_nil)))) (pss_cons (ps_set (i := 11) (f_look T).nd rfl (Or.inl rfl) (x_call (ok_look_by T) (can2 hr) (g_look_by T) (f_look_by T).kp (fun _ => pas0) (pa_cons (pv 0) (pa_cons (pv 10) (pa_cons (pv 2) (pa_cons pe_int (pa_cons (pv 3) (pa_cons (pv 4) pa_nil)))))))) (pss_one (ps_ret (pe_tup (pa_cons (pe_tup (pa_cons (pv 1) (pa_cons (pv 5) pa_nil))) (pa_cons (pe_tup (pa_cons (pv 9) (pa_cons (pv 6) pa_nil))) (pa_cons (pv 11) (pa_cons (x_call (ok_rights_of T) (can2 hr) (g_rights_of T) (f_rights_of T).kp (fun _ => pas0) (pa_cons (pv 8) (pa_cons (pv 10) pa_nil))) pa_nil))))))))))))), ?_⟩
    walk_at "w"
    refine ⟨r, c, A, F, m0, hw, rfl, hF, L.hi, ?_⟩
    walk_at "w"
    refine look_in (p := (pg, ce)) (σ := []) ⟨hp, hc⟩ fun a H1 e1 d1 => ?_
    refine q_tup d1 rfl ?_
    have hF1 := hF.same e1
    have h2 := e1 _ _ h1
    walk_at "w"
    refine ⟨r, c, A, F, m0, hw, 0, _, rfl, hF1, L.hi, L.hr, ?_⟩
    walk_at "w"
    refine ⟨r, c, A, F, m1, true, t1, s1, _, _, wr, lw, rfl, hF1, L.lo, fun _ => rfl, ?_⟩
    walk_at "w"
    refine ⟨r, c, A, F, m1, lw, pg, _, rfl, hF1, L.lo, L.lr, ?_⟩
    walk_at "w"
    refine ⟨r, c, A, F, f, ww, t, so, _, _, wr, ws, rfl, hF1, L.pg_, hww, ?_⟩
    walk_at "w"
    refine ⟨(show 2 ≤ sizeLine by decide), fun p1 n1 => ?_⟩
    walk_at "w"
    refine ⟨(show 2 ≤ sizeLine by decide), fun p2 n2 => ?_⟩
    walk_at "w"
    refine ⟨_, _, rfl, fun kk => ?_⟩
    walk_at "w"
    refine ⟨(show 4 ≤ sizeLine by decide), fun p3 n3 => ?_⟩
    have a1 := ((At.made (s := HS.mk H1 r) (a := p1) (q := (0, 0)) (o := .tup [.int m0, .int (0 : Nat)])).new (q := (0, 0)) (o := .tup [.int m1, .int pg]) n2).new (q := (0, 0)) (o := .tup [.ref p1, .ref p2, .int f, .int kk]) n3
    have a2 := (At.made (s := (HS.mk H1 r).new p1 (0, 0) (.tup [.int m0, .int (0 : Nat)])) (a := p2) (q := (0, 0)) (o := .tup [.int m1, .int pg])).new (q := (0, 0)) (o := .tup [.ref p1, .ref p2, .int f, .int kk]) n3
    refine k _ ((((HS.mk H1 r).new p1 (0, 0) (.tup [.int m0, .int (0 : Nat)])).new p2 (0, 0) (.tup [.int m1, .int pg])).new p3 (0, 0) (.tup [.ref p1, .ref p2, .int f, .int kk])) ?_ ⟨p3, rfl, p1, p2, kk, At.made, a1, a2⟩
    exact (Step.same e1).trans ((Step.new (s := HS.mk H1 r) n1).trans ((Step.new n2).trans (Step.new n3)))
theorem ok_lookF (T : TX K mg) : Fn P w K mg base false 6 (He.ga K "look") (sp_lookF K) := by
  refine (f_look T).calm 5 (fun vs H Q E h => ?_) (fun cdv A outer s H vs Q E hr h => ?_)
  · obtain ⟨r, c, A, F, m0, m1, f, pg, ce, hw, lw, ws, t1, s1, t, so, rfl, _⟩ := h; rfl
  · obtain ⟨r, c, A, F, m0, m1, f, pg, ce, hw, lw, ws, t1, s1, t, so, rfl, hF, hp, hc, L, k⟩ := h
    obtain ⟨dx, hl, ol, hs, hF'⟩ := id hF
    have h1 : H A = some _ := hF'.obj.1
    refine ⟨_, pss_cons (ps_if (pt_cmpR op_gt (pv 2) (x_glob (k_LAST T)) (nomark _)) (pss_one ps_never) pss_nil) (pss_cons (ps_if (pt_not (pt_val (x_m (ok_Frames_has T) (can hr) (kls_Frames T) (m_Frames_has T) (fun _ => pas0) (pv 0) (pa_cons (pv 1) pa_nil)))) (pss_one ps_never) pss_nil) (pss_cons (ps_asg (x_call (ok_parts_of T) (can hr) (g_parts_of T) (f_parts_of T).kp (fun _ => pas0) (pa_cons (pv 2) pa_nil)) (x_tup (n := 3) (.inl hr.hd) (pgs_cons (pg_name (i := 5) (f_look T).nd rfl (Or.inl rfl)) (pgs_cons (pg_name (i := 6) (f_look T).nd rfl (Or.inl rfl)) (pgs_cons (pg_name (i := 7) (f_look T).nd rfl (Or.inl rfl)) pgs_nil))))) (pss_cons (ps_set (i := 8) (f_look T).nd rfl (Or.inl rfl) (x_m (ok_Frames_read T) (can hr) (kls_Frames T) (m_Frames_read T) (fun _ => pas0) (pv 0) (pa_cons (pv 1) (pa_cons (pv 5) pa_nil)))) (pss_cons (ps_set (i := 9) (f_look T).nd rfl (Or.inl rfl) (x_call (ok_look_by T) (can hr) (g_look_by T) (f_look_by T).kp (fun _ => pas0) (pa_cons (pv 0) (pa_cons (pv 8) (pa_cons (pv 2) (pa_cons pe_int (pa_cons (pv 3) (pa_cons (pv 4) pa_nil)))))))) (pss_cons (ps_set (i := 10) (f_look T).nd rfl (Or.inl rfl) (x_m (ok_Frames_read T) (can hr) (kls_Frames T) (m_Frames_read T) (fun _ => pas0) (pv 0) (pa_cons (pv 9) (pa_cons (pv 6) pa_nil)))) (pss_cons (ps_set (i := 11) (f_look T).nd rfl (Or.inl rfl) (x_call (ok_look_byF T) (can hr) (g_look_by T) (f_look_by T).kp (pasE (L2N.takes_of rfl rfl rfl rfl)) (pa_cons (pv 0) (pa_cons (pv 10) (pa_cons (pv 2) (pa_cons pe_int (pa_cons (pv 3) (pa_cons (pv 4) pa_nil)))))))) (pss_one (ps_ret (pe_tup (pa_cons (pe_tup (pa_cons (pv 1) (pa_cons (pv 5) pa_nil))) (pa_cons (pe_tup (pa_cons (pv 9) (pa_cons (pv 6) pa_nil))) (pa_cons (pv 11) (pa_cons (x_call (ok_rights_of T) (can hr) (g_rights_of T) (f_rights_of T).kp (fun _ => pas0) (pa_cons (pv 8) (pa_cons (pv 10) pa_nil))) pa_nil))))))))))))), ?_⟩
    walk_at "w"
    refine ⟨r, c, A, F, m0, hw, rfl, hF, L.hi, ?_⟩
    walk_at "w"
    refine look_in (p := (pg, ce)) (σ := []) ⟨hp, hc⟩ fun a H1 e1 d1 => ?_
    refine q_tup d1 rfl ?_
    have hF1 := hF.same e1
    have h2 := e1 _ _ h1
    walk_at "w"
    refine ⟨r, c, A, F, m0, hw, 0, _, rfl, hF1, L.hi, L.hr, ?_⟩
    walk_at "w"
    refine ⟨r, c, A, F, m1, true, t1, s1, _, _, true, lw, rfl, hF1, L.lo, fun _ => rfl, ?_⟩
    walk_at "w"
    refine ⟨r, c, A, F, m1, lw, pg, _, rfl, hF1, L.lo, L.lr, ?_⟩
    walk_at "w"
    exact ⟨r, c, A, F, f, t, so, _, _, ws, rfl, hF1, L.pg_, fun d H' e => k d H' (e1.trans e)⟩
theorem ok_stamp (T : TX K mg) : Fn P w K mg base false 6 (He.ga K "stamp") (sp_stamp K) := by
  refine (f_stamp T).calm 5 (fun vs H Q E h => ?_) (fun cdv A outer s H vs Q E hr h => ?_)
  · obtain ⟨r, c, A, F, sp, m, j, f, ws, ww, t, so, b, rfl, _⟩ := h; rfl
  · obtain ⟨r, c, A, F, sp, m, j, f, ws, ww, t, so, b, rfl, hF, hsp, e, ej, hf, k⟩ := h
    obtain ⟨dx, hl, ol, hs, hF'⟩ := id hF
    have h1 : H A = some _ := hF'.obj.1
    have h2 : H sp = some _ := hsp.1
    have hj := (List.getElem?_eq_some_iff.mp ej).1
    rw [(hF.okPg e).1] at hj
    refine ⟨_, pss_cons (ps_set (i := 3) (f_stamp T).nd rfl (Or.inl rfl) (x_m (ok_Frames_read T) (can hr) (kls_Frames T) (m_Frames_read T) (fun _ => pas0) (pv 0) (pa_cons (pe_ix ix_tup (pv 1) pe_int (fun _ _ => rfl)) (pa_cons (pe_ix ix_tup (pv 1) pe_int (fun _ _ => rfl)) pa_nil)))) (pss_one (ps_if (pt_not (pt_val (x_call (ok_has T) (can hr) (g_has T) (f_has T).kp (fun _ => pas0) (pa_cons (pv 3) (pa_cons (pv 2) pa_nil))))) (pss_one (ps_expr (x_m (ok_Frames_write T) (can hr) (kls_Frames T) (m_Frames_write T) (fun _ => pas0) (pv 0) (pa_cons (pe_ix ix_tup (pv 1) pe_int (fun _ _ => rfl)) (pa_cons (pe_ix ix_tup (pv 1) pe_int (fun _ _ => rfl)) (pa_cons (x_call (ok_put T) (can hr) (g_put T) (f_put T).kp (fun _ => pas0) (pa_cons (pv 3) (pa_cons (pv 2) pa_nil))) pa_nil)))))) pss_nil)), ?_⟩
    walk_at "w"
    refine q_ixT h2 (v := .int m) rfl ?_
    walk_at "w"
    refine q_ixT h2 (v := .int j) rfl ?_
    refine ⟨r, c, A, F, m, ws, j, _, rfl, hF, e, ej, ?_⟩
    walk_at "w"
    have key : ∀ b2, b2 = decide (Builtin.bitAnd (rowW f ww t so) (if b = true then 24 else 8) = (if b = true then 24 else 8)) → b2 = (t && (so || !b)) := by
      intro b2 e
      rw [e]
      cases b with
      | true =>
        rw [if_pos rfl, row_has24]
        simp
      | false =>
        rw [if_neg (by simp), row_has8]
        simp
    rw [key _ rfl]
    cases hb : (t && (so || !b)) with
    | true =>
      walk_at "w"
      refine k _ _ Step.refl ⟨rfl, ?_⟩
      have e1 : ww = ww ∧ t = true ∧ (so || b) = so := by
        cases t <;> cases so <;> cases b <;> simp at hb ⊢
      rw [e1.2.2, ← e1.2.1, FR.put_same]
      · exact hF
      · rw [e, set_eq_self_of ej]
    | false =>
      walk_at "w"
      refine q_ixT h2 (v := .int m) rfl ?_
      walk_at "w"
      refine q_ixT h2 (v := .int j) rfl ?_
      walk_at "w"
      have e2 : Builtin.bitOr (rowW f ww t so) (if b = true then 24 else 8) = rowW f ww true (so || b) := by
        cases b with
        | true => rw [if_pos rfl, row_put24]; simp
        | false => rw [if_neg (by simp), row_put8]; simp
      rw [e2]
      refine ⟨r, c, A, F, m, ws, j, _, rfl, hF, e, hj, row_ok hf _ _ _, fun v u st ⟨_, hF2⟩ => ?_⟩
      exact k _ _ st ⟨rfl, hF2⟩
theorem ok_mark (T : TX K mg) : Fn P w K mg base false 7 (He.ga K "mark") (sp_mark K) := by
  refine (f_mark T).calm 6 (fun vs H Q E h => ?_) (fun cdv A outer s H vs Q E hr h => ?_)
  · obtain ⟨r, c, A, F, tr, m0, m1, f, pg, hw, lw, ws, t1, s1, ww, t, so, wr, rfl, _⟩ := h; rfl
  · obtain ⟨r, c, A, F, tr, m0, m1, f, pg, hw, lw, ws, t1, s1, ww, t, so, wr, rfl, c0, hF, ⟨a, b, kk, h1, h2, h3⟩, hm, L, k⟩ := h
    have g1 : H tr = some _ := h1.1
    have hm1 := hF.lt L.lo
    have hf := hF.lt L.pg_
    have n0 : ¬ (fun x => x = c) 0 := fun z => c0 z.symm
    refine ⟨_, pss_cons (ps_expr (x_call (ok_stamp T) (can hr) (g_stamp T) (f_stamp T).kp (fun _ => pas0) (pa_cons (pv 0) (pa_cons (pe_ix ix_tup (pv 1) pe_int (fun _ _ => rfl)) (pa_cons (x_glob (k_TOUCHED T)) pa_nil))))) (pss_cons (ps_if (pt_not (pt_val (pv 2))) (pss_cons (ps_expr (x_call (ok_stamp T) (can hr) (g_stamp T) (f_stamp T).kp (fun _ => pas0) (pa_cons (pv 0) (pa_cons (pe_ix ix_tup (pv 1) pe_int (fun _ _ => rfl)) (pa_cons (x_glob (k_TOUCHED T)) pa_nil))))) (pss_one (ps_ret (pe_ix ix_tup (pv 1) pe_int (fun _ _ => rfl))))) pss_nil) (pss_cons (ps_expr (x_call (ok_stamp T) (can hr) (g_stamp T) (f_stamp T).kp (fun _ => pas0) (pa_cons (pv 0) (pa_cons (pe_ix ix_tup (pv 1) pe_int (fun _ _ => rfl)) (pa_cons (pe_op op_or (x_glob (k_TOUCHED T)) (x_glob (k_SOILED T))) pa_nil))))) (pss_one (ps_ret (pe_op op_or (pe_ix ix_tup (pv 1) pe_int (fun _ _ => rfl)) (x_glob (k_SOILED T))))))), ?_⟩
    walk_at "w"
    refine q_ixT g1 (v := .ref a) rfl ?_
    walk_at "w"
    refine ⟨r, c, A, F, a, m0, 0, m1, hw, true, t1, s1, false, rfl, hF, h2, L.hi, L.hr, by omega, fun v u st ⟨_, hF2⟩ => ?_⟩
    have h1u := h1.step st n0
    have g1u : u.h tr = some _ := h1u.1
    have h3u := h3.step st n0
    have L2 : (F.put m0 (some (hw.set 0 (rowW m1 true true (s1 || false))))).tk[m1]? = some (some lw) := by
      rw [FR.get_ne fun z => hm z.symm]
      exact L.lo
    rw [Bool.or_false] at hF2 L2
    cases wr with
    | false =>
      walk_at "w"
      refine q_ixT g1u (v := .ref b) rfl ?_
      walk_at "w"
      refine ⟨u.r, c, A, _, b, m1, pg, f, lw, ww, t, so, false, rfl, hF2, h3u, L2, L.lr, by omega, fun v u2 st2 ⟨_, hF3⟩ => ?_⟩
      have g3 := h1u.step st2 n0
      walk_at "w"
      refine q_ixT g3.1 (v := .int kk) rfl ?_
      exact k _ u2 (st.trans st2) ⟨kk, rfl, hF3⟩
    | true =>
      walk_at "w"
      refine q_ixT g1u (v := .ref b) rfl ?_
      walk_at "w"
      rw [show Builtin.bitOr 8 16 = 24 by decide +kernel]
      refine ⟨u.r, c, A, _, b, m1, pg, f, lw, ww, t, so, true, rfl, hF2, h3u, L2, L.lr, by omega, fun v u2 st2 ⟨_, hF3⟩ => ?_⟩
      have g3 := h1u.step st2 n0
      walk_at "w"
      refine q_ixT g3.1 (v := .int kk) rfl ?_
      walk_at "w"
      exact k _ u2 (st.trans st2) ⟨_, rfl, hF3⟩
end
end SP

/-! B8 -/
set_option maxHeartbeats 4100000
namespace SP
open PySem PySem.Spec PyProof.Rows L2 L2H
local macro_rules | `(tactic| walk_at "u") => `(tactic| (dsimp only [tRet, tSeq, tAsg, tDrop, tIfS, tNext, tRetN, tBreak, tCont, tOp, tUn, tCons, tNil, tCallX, tM, tF, sSet, sNew, sAug, tMakeX, tTest, tB, tAnd, tOr, tNot, tAndV, tOrV, tNotV, tIf, tChain, tCB, tBM, tBM0, tTup, tLst, gName, tC, tIsN, tNotN, tDIn, tDNotIn, tDGet, sDPut, tDPop1, gCons, gNil, tSl, tPart, tNoPart, tYes, tVeI]))
local macro_rules | `(tactic| walk_at "o") => `(tactic| (first | assumption | omega | (simp only [List.length_map, List.length_replicate, List.length_range, List.length_append, List.length_cons, List.length_nil]; omega)))
local macro_rules | `(tactic| walk_at "q") => `(tactic| (repeat (first
  | ((with_reducible refine' q_var ?hq ?_); (case hq => rfl))
  | ((with_reducible refine' q_pF ?ha ?hq ?_); (case ha => assumption); (case hq => rfl))
  | ((with_reducible refine' q_pM ?ha ?_); (case ha => assumption))
  | (with_reducible refine q_I0 ?_)
  | (with_reducible refine q_isInt ?_)
  | (with_reducible refine q_isBool ?_)
  | (with_reducible refine iteT ?_)
  | (with_reducible refine iteF ?_)
  | (with_reducible refine iteNT ?_)
  | (with_reducible refine iteNF ?_)
  | (with_reducible refine q_eqI ?_)
  | (with_reducible refine q_neI ?_)
  | ((with_reducible refine' q_eq ?hq ?_); (case hq => rfl))
  | ((with_reducible refine' q_ne ?hq ?_); (case hq => rfl))
  | (with_reducible refine q_lenL (by assumption) ?_)
  | (with_reducible refine q_lenT (by assumption) ?_)
  | (with_reducible refine q_is_whole ?_)
  | (with_reducible refine q_is_word ?_)
  | (with_reducible refine q_is_below ?_)
  | ((with_reducible refine' And.intro (q_tyL ?ha) ?_); (case ha => assumption))
  | (with_reducible refine q_ip ?_)
  | (with_reducible refine q_rAdd ?_)
  | (with_reducible refine q_rSub ?_)
  | (with_reducible refine q_has ?_)
  | (with_reducible refine q_put ?_)
  | (with_reducible refine q_taken ?_)
  | (with_reducible refine q_page_of ?_)
  | (with_reducible refine q_pow48 ?_)
  | (with_reducible refine q_pow40 ?_)
  | ((with_reducible refine' q_I ?hq ?_); (case hq => first | assumption | decide | omega | exact q_div1 (by omega) _ | exact mul_ok (by omega) | exact pow_ok (by decide)))
  | ((with_reducible refine' ite_y ?hq ?_); (case hq => walk_at "o"))
  | ((with_reducible refine' ite_n ?hq ?_); (case hq => walk_at "o"))
  | ((with_reducible refine' ite_nn ?hq ?_); (case hq => walk_at "o"))
  | ((with_reducible refine' ite_ny ?hq ?_); (case hq => walk_at "o"))
  | (with_reducible
                    refine ⟨_, rfl, ?_⟩)
  | (with_reducible refine ⟨_, _, rfl, ?_⟩)
  | (with_reducible refine ⟨rfl, ?_⟩))))
local macro_rules | `(tactic| walk_at "w") => `(tactic| ((try (walk_at "u")); (walk_at "q"); (try (walk_at "u")); (walk_at "q")))
/-! ### the two kept ways -/
def clsN (b : Bool) : Str := if b then "Pairs" else "Shadows"
def l_W (b : Bool) : List Str := if b then l_Pairs else l_Shadows
theorem iW0 (b : Bool) : (l_W b)[0]? = some (Str.ofString "held") := by cases b <;> rfl
theorem iW1 (b : Bool) : (l_W b)[1]? = some (Str.ofString "base") := by cases b <;> rfl
theorem iW2 (b : Bool) : (l_W b)[2]? = some (Str.ofString "ground") := by cases b <;> rfl
theorem iW3 (b : Bool) : (l_W b)[3]? = some (Str.ofString "mine") := by cases b <;> rfl
theorem iW4 (b : Bool) : (l_W b)[4]? = some (Str.ofString "part") := by cases b <;> rfl
theorem iW5 (b : Bool) : (l_W b)[5]? = some (Str.ofString "changed") := by cases b <;> rfl
theorem iW6 (b : Bool) : (l_W b)[6]? = some (Str.ofString "answers") := by cases b <;> rfl
section
variable {K : PySem.W.Frag} {mg : Str → Option Value}
theorem kls_W (T : TX K mg) (b : Bool) : Kls K (He.ga K (clsN b)) (l_W b) := match b with
  | false => kls_Shadows T
  | true => kls_Pairs T
def wf_size (K : PySem.W.Frag) (b : Bool) : Addr := He.ma K (He.ga K "Kept") "size"
theorem m_W_size (T : TX K mg) (b : Bool) : Mth K (He.ga K (clsN b)) (l_W b) "size" (wf_size K b) := match b with | false => m_Shadows_size T | true => m_Pairs_size T
def wf_has (K : PySem.W.Frag) (b : Bool) : Addr := He.ma K (He.ga K "Kept") "has"
theorem m_W_has (T : TX K mg) (b : Bool) : Mth K (He.ga K (clsN b)) (l_W b) "has" (wf_has K b) := match b with | false => m_Shadows_has T | true => m_Pairs_has T
def wf_look_for (K : PySem.W.Frag) (b : Bool) : Addr := He.ma K (He.ga K "Kept") "look_for"
theorem m_W_look_for (T : TX K mg) (b : Bool) : Mth K (He.ga K (clsN b)) (l_W b) "look_for" (wf_look_for K b) := match b with | false => m_Shadows_look_for T | true => m_Pairs_look_for T
def wf_read (K : PySem.W.Frag) (b : Bool) : Addr := He.ma K (He.ga K "Kept") "read"
theorem m_W_read (T : TX K mg) (b : Bool) : Mth K (He.ga K (clsN b)) (l_W b) "read" (wf_read K b) := match b with | false => m_Shadows_read T | true => m_Pairs_read T
def wf_write (K : PySem.W.Frag) (b : Bool) : Addr := He.ma K (He.ga K "Kept") "write"
theorem m_W_write (T : TX K mg) (b : Bool) : Mth K (He.ga K (clsN b)) (l_W b) "write" (wf_write K b) := match b with | false => m_Shadows_write T | true => m_Pairs_write T
def wf_fetch (K : PySem.W.Frag) (b : Bool) : Addr := if b then He.ma K (He.ga K "Pairs") "fetch" else He.ma K (He.ga K "Kept") "fetch"
theorem m_W_fetch (T : TX K mg) (b : Bool) : Mth K (He.ga K (clsN b)) (l_W b) "fetch" (wf_fetch K b) := match b with | false => m_Shadows_fetch T | true => m_Pairs_fetch T
def wf_deposit (K : PySem.W.Frag) (b : Bool) : Addr := if b then He.ma K (He.ga K "Pairs") "deposit" else He.ma K (He.ga K "Shadows") "deposit"
theorem m_W_deposit (T : TX K mg) (b : Bool) : Mth K (He.ga K (clsN b)) (l_W b) "deposit" (wf_deposit K b) := match b with | false => m_Shadows_deposit T | true => m_Pairs_deposit T
def wf_put_alone (K : PySem.W.Frag) (b : Bool) : Addr := He.ma K (He.ga K "Kept") "put_alone"
theorem m_W_put_alone (T : TX K mg) (b : Bool) : Mth K (He.ga K (clsN b)) (l_W b) "put_alone" (wf_put_alone K b) := match b with | false => m_Shadows_put_alone T | true => m_Pairs_put_alone T
def wf_frame (K : PySem.W.Frag) (b : Bool) : Addr := He.ma K (He.ga K "Kept") "frame"
theorem m_W_frame (T : TX K mg) (b : Bool) : Mth K (He.ga K (clsN b)) (l_W b) "frame" (wf_frame K b) := match b with | false => m_Shadows_frame T | true => m_Pairs_frame T
def wf_soiled (K : PySem.W.Frag) (b : Bool) : Addr := if b then He.ma K (He.ga K "Pairs") "soiled" else He.ma K (He.ga K "Kept") "soiled"
theorem m_W_soiled (T : TX K mg) (b : Bool) : Mth K (He.ga K (clsN b)) (l_W b) "soiled" (wf_soiled K b) := match b with | false => m_Shadows_soiled T | true => m_Pairs_soiled T
def wf_clean (K : PySem.W.Frag) (b : Bool) : Addr := He.ma K (He.ga K "Kept") "clean"
theorem m_W_clean (T : TX K mg) (b : Bool) : Mth K (He.ga K (clsN b)) (l_W b) "clean" (wf_clean K b) := match b with | false => m_Shadows_clean T | true => m_Pairs_clean T
def wf_washed (K : PySem.W.Frag) (b : Bool) : Addr := if b then He.ma K (He.ga K "Pairs") "washed" else He.ma K (He.ga K "Shadows") "washed"
theorem m_W_washed (T : TX K mg) (b : Bool) : Mth K (He.ga K (clsN b)) (l_W b) "washed" (wf_washed K b) := match b with | false => m_Shadows_washed T | true => m_Pairs_washed T
def wf_said (K : PySem.W.Frag) (b : Bool) : Addr := He.ma K (He.ga K "Kept") "said"
theorem m_W_said (T : TX K mg) (b : Bool) : Mth K (He.ga K (clsN b)) (l_W b) "said" (wf_said K b) := match b with | false => m_Shadows_said T | true => m_Pairs_said T
def wf_resume (K : PySem.W.Frag) (b : Bool) : Addr := He.ma K (He.ga K "Kept") "resume"
theorem m_W_resume (T : TX K mg) (b : Bool) : Mth K (He.ga K (clsN b)) (l_W b) "resume" (wf_resume K b) := match b with | false => m_Shadows_resume T | true => m_Pairs_resume T
def wf_end (K : PySem.W.Frag) (b : Bool) : Addr := He.ma K (He.ga K "Kept") "end"
theorem m_W_end (T : TX K mg) (b : Bool) : Mth K (He.ga K (clsN b)) (l_W b) "end" (wf_end K b) := match b with | false => m_Shadows_end T | true => m_Pairs_end T
def wf_page_at (K : PySem.W.Frag) (b : Bool) : Addr := He.ma K (He.ga K "Ways") "page_at"
theorem m_W_page_at (T : TX K mg) (b : Bool) : Mth K (He.ga K (clsN b)) (l_W b) "page_at" (wf_page_at K b) := match b with | false => m_Shadows_page_at T | true => m_Pairs_page_at T
def wf_poke (K : PySem.W.Frag) (b : Bool) : Addr := He.ma K (He.ga K "Ways") "poke"
theorem m_W_poke (T : TX K mg) (b : Bool) : Mth K (He.ga K (clsN b)) (l_W b) "poke" (wf_poke K b) := match b with | false => m_Shadows_poke T | true => m_Pairs_poke T
def wf_root (K : PySem.W.Frag) (b : Bool) : Addr := He.ma K (He.ga K "Ways") "root"
theorem m_W_root (T : TX K mg) (b : Bool) : Mth K (He.ga K (clsN b)) (l_W b) "root" (wf_root K b) := match b with | false => m_Shadows_root T | true => m_Pairs_root T
def wf_shelf (K : PySem.W.Frag) (b : Bool) : Addr := He.ma K (He.ga K "Ways") "shelf"
theorem m_W_shelf (T : TX K mg) (b : Bool) : Mth K (He.ga K (clsN b)) (l_W b) "shelf" (wf_shelf K b) := match b with | false => m_Shadows_shelf T | true => m_Pairs_shelf T
def wf_words_of (K : PySem.W.Frag) (b : Bool) : Addr := if b then He.ma K (He.ga K "Pairs") "words_of" else He.ma K (He.ga K "Ways") "words_of"
theorem m_W_words_of (T : TX K mg) (b : Bool) : Mth K (He.ga K (clsN b)) (l_W b) "words_of" (wf_words_of K b) := match b with | false => m_Shadows_words_of T | true => m_Pairs_words_of T
def wf_pages (K : PySem.W.Frag) (b : Bool) : Addr := He.ma K (He.ga K "Ways") "pages"
theorem m_W_pages (T : TX K mg) (b : Bool) : Mth K (He.ga K (clsN b)) (l_W b) "pages" (wf_pages K b) := match b with | false => m_Shadows_pages T | true => m_Pairs_pages T
end
/-! a dict of pages -/
def dS (ks : List Nat) : List (Key × V) := ks.map fun (p : Nat) => (Sum.inl (p : Int), V.bl true)
theorem dS_any (ks : List Nat) (p : Nat) : ((dS ks).any fun kv => decide (kv.1 = Sum.inl (p : Int))) = decide (p ∈ ks) := by
  unfold dS
  rw [List.any_map]
  induction ks with
  | nil => rfl
  | cons x l ih =>
    rw [List.any_cons, ih]
    by_cases h : x = p
    · subst h; simp
    · have h2 : ¬ p = x := fun z => h z.symm
      have h3 : ¬ (x : Int) = p := by omega
      simp [h, h2, h3]
theorem dS_put (ks : List Nat) (p : Nat) : putK (dS ks) (Sum.inl (p : Int)) (V.bl true) = dS (if p ∈ ks then ks else ks ++ [p]) := by
  unfold putK
  rw [dS_any]
  by_cases h : p ∈ ks
  · rw [if_pos (by simpa
                         using h), if_pos h]
    unfold dS
    rw [List.map_map]
    refine List.map_congr_left
                               fun x _ => ?_
    simp only [Function.comp]
    by_cases e : (Sum.inl (x : Int) : Key) = Sum.inl (p : Int)
    · rw [if_pos e]
    · rw [if_neg e]
  · rw [if_neg (by simpa
                         using h), if_neg h]
    simp [dS]
theorem sub_len : ∀ {l m : List Nat}, l.Nodup → (∀ x ∈ l, x ∈ m) → l.length ≤ m.length
  | [], m, _, _ => Nat.zero_le _
  | x :: l, m, hn, hs => by
    have hx := hs x List.mem_cons_self
    obtain ⟨h1, h2⟩ :=
                       List.nodup_cons.mp hn
    have h3 : l.length ≤ (m.erase x).length := sub_len h2 fun y hy => (List.mem_erase_of_ne (show y ≠ x from fun z => h1 (by rw [← z]; exact hy))).mpr (hs y (List.mem_cons_of_mem _ hy))
    rw [List.length_erase_of_mem hx] at h3
    have := List.length_pos_of_mem hx
    rw [List.length_cons]
    omega
theorem below_len {l : List Nat} {n : Nat} (hn : l.Nodup) (h : ∀ x ∈ l, x < n) : l.length ≤ n := by
  have := sub_len (m := List.range n) hn fun x hx => List.mem_range.mpr (h x hx)
  rwa [List.length_range] at this
theorem has_none {tk : List (Option (List Int))} {L : List Nat} (hl : tk.length = 40) (h : ∀ (i : Nat) ws, tk[i]? = some (some ws) → i ∈ L) (hL : L.length < 40) : none ∈ tk := by
  refine Classical.byContradiction
                                   fun hn => ?_
  have h2 : ∀ x ∈ List.range 40, x ∈ L := fun x hx => by
    have hx := List.mem_range.mp hx
    cases e : tk[x]'(by omega) with
    | none => exact absurd (e ▸ List.getElem_mem _) hn
    | some ws => exact h x ws (by rw [List.getElem?_eq_getElem (by omega), e])
  have := sub_len List.nodup_range h2
  rw [List.length_range] at this
  omega
/-! what stands in the frames -/
def Tab (b : Bool) (F : FR) (mine lead : List Nat) (so : Nat → Bool) : Prop := match b with
  | true => ∃ m0 m1 hw lw t0 s0, mine = [m0, m1] ∧ F.tk[m0]? = some (some hw) ∧ hw[0]? = some (rowW m1 true t0 s0) ∧ F.tk[m1]? = some (some lw) ∧ ∀ p f : Nat, lead[p]? = some f → ∃ ww t, lw[p]? = some (rowW f ww t (so p))
  | false => ∃ m0, mine[0]? = some m0 ∧ F.tk[m0]? = some (some zeros)
structure WF (b : Bool) (F : FR) (mine lead : List Nat) (pgs : List (List Int)) (so : Nat → Bool) : Prop where
  nd : (mine ++ lead).Nodup
  ln : lead.length = pgs.length
  sz : 1 ≤ pgs.length ∧ pgs.length ≤ 8
  ml : mine.length ≤ 3
  pg : ∀ (p f : Nat) (ws : List Int), lead[p]? = some f → pgs[p]? = some ws → F.tk[f]? = some (some ws)
  mi : ∀ m ∈ mine, ∃ ws, F.tk[m]? = some (some ws)
  only : ∀ (i : Nat) (ws : List Int), F.tk[i]? = some (some ws) → i ∈ mine ++ lead
  pl : F.pl = ((mine.length + lead.length : Nat) : Int)
  tab : Tab b F mine lead so
section
variable {b : Bool} {F : FR} {mine lead : List Nat} {pgs : List (List Int)} {so so' : Nat → Bool} {p f m : Nat} {ws ws' : List Int}
theorem only_put (h : ∀ (i : Nat) (ws : List Int), F.tk[i]? = some (some ws) → i ∈ mine ++ lead) (hf : f ∈ mine ++ lead) (o : Option (List Int)) : ∀ (i : Nat) (ws : List Int), (F.put f o).tk[i]? = some (some ws) → i ∈ mine ++ lead := fun i ws e => by
  by_cases z : i = f
  · rw [z]; exact hf
  · rw [FR.get_ne z] at e
    exact h i ws e
theorem nd_apart (h : (mine ++ lead).Nodup) (hm : m ∈ mine) (hf : f ∈ lead) : m ≠ f := fun z => (List.nodup_append.mp h).2.2 m hm f hf z
theorem lead_inj (h : (mine ++ lead).Nodup) {p q : Nat} (h1 : lead[p]? = some f) (h2 : lead[q]? = some f) : p = q := by
  obtain ⟨hp, e1⟩ := List.getElem?_eq_some_iff.mp h1
  obtain ⟨hq, e2⟩ := List.getElem?_eq_some_iff.mp h2
  have hn := List.pairwise_iff_getElem.mp (List.nodup_append.mp h).2.1
  refine Classical.byContradiction fun z => ?_
  rcases Nat.lt_or_gt_of_ne z with z | z
  · exact hn _ _ hp hq z (e1.trans e2.symm)
  · exact hn _ _ hq hp z (e2.trans e1.symm)
theorem Tab.page (h : Tab b F mine lead so) (nd : (mine ++ lead).Nodup) (hf : f ∈ lead) (o : Option (List Int)) : Tab b (F.put f o) mine lead so := by
  cases b with
  | true =>
    obtain ⟨m0, m1, hw, lw, t0, s0, rfl, h1, h2, h3, h4⟩ := h
    exact ⟨m0, m1, hw, lw, t0, s0, rfl, by rw [FR.get_ne (nd_apart nd (by simp) hf)]; exact h1, h2, by rw [FR.get_ne (nd_apart nd (by simp) hf)]; exact h3, h4⟩
  | false =>
    obtain ⟨m0, h1, h2⟩ := h
    exact ⟨m0, h1, by rw [FR.get_ne (nd_apart nd (List.mem_of_getElem? h1) hf)]; exact h2⟩
theorem WF.page (h : WF b F mine lead pgs so) (hp : lead[p]? = some f) (hw : pgs[p]? = some ws) : WF b (F.put f (some ws')) mine lead (pgs.set p ws') so := by
  have hf := List.mem_of_getElem? hp
  have e := h.pg p f ws hp hw
  refine ⟨h.nd, by rw [List.length_set]; exact h.ln, by rw [List.length_set]; exact h.sz, h.ml, fun q g zs hq hz => ?_, fun m hm => ?_, only_put h.only (List.mem_append_right _ hf) _, h.pl, h.tab.page h.nd hf _⟩
  · rw [List.getElem?_set] at hz
    by_cases e1 : p = q
    · subst e1
      rw [if_pos rfl, if_pos (List.getElem?_eq_some_iff.mp hw).1] at hz
      cases hz
      cases hp.symm.trans hq
      exact FR.get_put e
    · rw [if_neg e1] at hz
      rw [FR.get_ne fun z => e1 (lead_inj h.nd hp (by rw [← z]; exact hq))]
      exact h.pg q g zs hq hz
  · rw [FR.get_ne (nd_apart h.nd hm hf)]
    exact h.mi m hm
theorem WF.table (h : WF b F mine lead pgs so) (hm : m ∈ mine) (t : Tab b (F.put m (some ws')) mine lead so') : WF b (F.put m (some ws')) mine lead pgs so' := by
  obtain ⟨ws, e⟩ := h.mi m hm
  refine ⟨h.nd, h.ln, h.sz, h.ml, fun q g zs hq hz => ?_, fun m' hm' => ?_, only_put h.only (List.mem_append_left _ hm) _, h.pl, t⟩
  · rw [FR.get_ne fun z => nd_apart h.nd hm (List.mem_of_getElem? hq) z.symm]
    exact h.pg q g zs hq hz
  · by_cases z : m' = m
    · rw [z]
      exact ⟨ws', FR.get_put e⟩
    · rw [FR.get_ne z]
      exact h.mi m' hm'
theorem WF.soS (h : WF false F mine lead pgs so) : WF false F mine lead pgs so' := ⟨h.nd, h.ln, h.sz, h.ml, h.pg, h.mi, h.only, h.pl, h.tab⟩
/-- the tables of pairs: one row written -/
theorem WF.low (h : WF true F mine lead pgs so) {m0 m1 : Nat} {lw : List Int} (hm : mine = [m0, m1]) (hl : F.tk[m1]? = some (some lw)) (hlen : lw.length = 8) (hp : lead[p]? = some f) {ww t s : Bool} :
    WF true (F.put m1 (some (lw.set p (rowW f ww t s)))) mine lead pgs (fun q => if q = p then s else so q) := by
  obtain ⟨m0', m1', hw, lw', t0, s0, hm', h1, h2, h3, h4⟩ := h.tab
  obtain ⟨rfl, rfl⟩ : m0 = m0' ∧ m1 = m1' := by
    rw [hm] at hm'
    simpa using hm'
  cases hl.symm.trans h3
  have hp8 : p < 8 := by
    have := (List.getElem?_eq_some_iff.mp hp).1
    have := h.sz.2
    have := h.ln
    omega
  have ne : m0 ≠ m1 := by
    have := (List.nodup_append.mp h.nd).1
    rw [hm] at this
    simpa using this
  refine h.table (by rw [hm]; simp) ⟨m0, m1, hw, _, t0, s0, hm, by rw [FR.get_ne ne]; exact h1, h2, FR.get_put hl, fun q g hq => ?_⟩
  rw [List.getElem?_set]
  by_cases e : p = q
  · subst e
    cases hp.symm.trans hq
    exact ⟨ww, t, by rw [if_pos rfl, if_pos (by omega)]; simp⟩
  · obtain ⟨w2, t2, e2⟩ := h4 q g hq
    exact ⟨w2, t2, by rw [if_neg e]; simp only [if_neg (fun z : q = p => e z.symm)]; exact e2⟩
theorem WF.high (h : WF true F mine lead pgs so) {m0 m1 : Nat} {hw : List Int} (hm : mine = [m0, m1]) (hl : F.tk[m0]? = some (some hw)) (hlen : hw.length = 8) {t s : Bool} : WF true (F.put m0 (some (hw.set 0 (rowW m1 true t s)))) mine lead pgs so := by
  obtain ⟨m0', m1', hw', lw', t0, s0, hm', h1, h2, h3, h4⟩ := h.tab
  obtain ⟨rfl, rfl⟩ : m0 = m0' ∧ m1 = m1' := by
    rw [hm] at hm'
    simpa using hm'
  have ne : m1 ≠ m0 := by
    have := (List.nodup_append.mp h.nd).1
    rw [hm] at this
    have := this
    simp at this
    exact fun z => this z.symm
  exact h.table (by rw [hm]; simp) ⟨m0, m1, _, lw', t, s, hm, FR.get_put hl, by rw [List.getElem?_set, if_pos rfl, if_pos (by omega)], by rw [FR.get_ne ne]; exact h3, h4⟩
/-- what a look at a page's row needs -/
theorem WF.look (h : WF true F mine lead pgs so) (hp : lead[p]? = some f) (hw : pgs[p]? = some ws) : ∃ m0 m1 hw lw t0 s0 ww t, mine = [m0, m1] ∧ m0 ≠ m1 ∧ LookAt F m0 m1 f p hw lw ws true t0 s0 ww t (so p) := by
  obtain ⟨m0, m1, hw', lw, t0, s0, hm, h1, h2, h3, h4⟩ := h.tab
  obtain ⟨ww, t, e⟩ := h4 p f hp
  refine ⟨m0, m1, hw', lw, t0, s0, ww, t, hm, ?_, h1, h3, h.pg p f ws hp hw, h2, e⟩
  have := (List.nodup_append.mp h.nd).1
  rw [hm] at this
  simpa using this
end
/-! the way's objects -/
structure WD where
  mine : List Nat
  lead : List Nat
  dx : Addr
  h0 : Addr
  ml : Addr
  pa : Addr
  cl : Addr
  al : Addr
  ext : List V
def natV (n : Nat) : V := .int n
def ChOk (b : Bool) (ks : List Nat) (n : Nat) (so : Nat → Bool) : Prop := ks.Nodup ∧ (∀ p ∈ ks, p < n) ∧ (b = false → ∀ p, p < n → so p = true → p ∈ ks)
def ExOk (s : HS) (k : Nat) (b : Bool) (n : Nat) (ext : List V) : Prop := match b with
  | true => ext = []
  | false => ∃ op sp ks, ext = [.ref op, .ref sp] ∧ At s op (4 * k + 5, 9) (.dK (dS ks)) ∧ ks.Nodup ∧ ∀ p ∈ ks, p < n
structure WayAt (K : PySem.W.Frag) (s : HS) (k : Nat) (b : Bool) (obj A : Addr) (F : FR) (pgs : List (List Int)) (so : Nat → Bool) (D : WD) : Prop where
  fr : FrAt K s (4 * k + 4) A F
  wf : WF b F D.mine D.lead pgs so
  ob : At s obj (4 * k + 5, 0) (.ins (He.ga K (clsN b)) D.dx ((l_W b).zip ([.ref D.h0, .int 0, .ref A, .ref D.ml, .ref D.pa, .ref D.cl, .ref D.al] ++ D.ext)))
  sh : ShelfAt K s (4 * k + 5) D.h0
  mi : At s D.ml (4 * k + 5, 4) (.lst (D.mine.map natV))
  pt : PartsAt K s (4 * k + 5) D.pa A (D.lead.map some)
  an : At s D.al (4 * k + 5, 8) (.lst [])
  ch : ∃ ks, At s D.cl (4 * k + 5, 7) (.dK (dS ks)) ∧ ChOk b ks pgs.length so
  ex : ExOk s k b pgs.length D.ext
section
variable {K : PySem.W.Frag} {s t : HS} {k : Nat} {b : Bool} {obj A : Addr} {F F' : FR} {pgs pgs' : List (List Int)} {so so' : Nat → Bool} {D : WD} {R : Nat → Prop} {p f : Nat}
theorem ShelfAt.step {c : Nat} {a : Addr} (h : ShelfAt K s c a) (st : Step R s t) (n : ¬ R c) : ShelfAt K t c a := by
  obtain ⟨dx, l, h1, h2⟩ := h
  exact ⟨dx, l, h1.step st n, h2.step st n⟩
theorem ExOk.step {n : Nat} {ext : List V} (h : ExOk s k b n ext) (st : Step R s t) (nr : ¬ R (4 * k + 5)) : ExOk t k b n ext := by
  cases b with
  | true => exact h
  | false =>
    obtain ⟨op, sp, ks, e, h1, h2, h3⟩ := h
    exact ⟨op, sp, ks, e, h1.step st nr, h2, h3⟩
theorem WayAt.step (h : WayAt K s k b obj A F pgs so D) (st : Step R s t) (n4 : ¬ R (4 * k + 4)) (n5 : ¬ R (4 * k + 5)) : WayAt K t k b obj A F pgs so D := by
  obtain ⟨ks, h1, h2⟩ := h.ch
  exact ⟨h.fr.step st n4, h.wf, h.ob.step st n5, h.sh.step st n5, h.mi.step st n5, h.pt.step st n5, h.an.step st n5, ⟨ks, h1.step st n5, h2⟩, h.ex.step st n5⟩
theorem WayAt.same {H H' : Hp} {r : Addr → Rg} (h : WayAt K ⟨H, r⟩ k b obj A F pgs so D) (e : Same H H') : WayAt K ⟨H', r⟩ k b obj A F pgs so D := h.step (R := fun _ => False) (Step.same e) id id
/-- the frames changed -/
theorem WayAt.frames (h : WayAt K s k b obj A F pgs so D) (st : Step (· = 4 * k + 4) s t) (hF : FrAt K t (4 * k + 4) A F') (wf : WF b F' D.mine D.lead pgs' so') (hl : pgs'.length = pgs.length) (hs : b = false → ∀ p, so' p = true → so p = true) :
    WayAt K t k b obj A F' pgs' so' D := by
  have n5 : ¬ (4 * k + 5 = 4 * k + 4) := by omega
  obtain ⟨ks, h1, h2, h3, h4⟩ := h.ch
  refine ⟨hF, wf, h.ob.step st n5, h.sh.step st n5, h.mi.step st n5, h.pt.step st n5, h.an.step st n5, ⟨ks, h1.step st n5, h2, by rw [hl]; exact h3, fun hb p hp hso => h4 hb p (by rw [← hl]; exact hp) (hs hb p hso)⟩, ?_⟩
  rw [hl]
  exact h.ex.step st n5
theorem WayAt.lead (h : WayAt K s k b obj A F pgs so D) {ws : List Int} (e : pgs[p]? = some ws) : ∃ f, D.lead[p]? = some f ∧ F.tk[f]? = some (some ws) := by
  have := (List.getElem?_eq_some_iff.mp e).1
  rw [← h.wf.ln] at this
  exact ⟨_, List.getElem?_eq_getElem this, h.wf.pg p _ ws (List.getElem?_eq_getElem this) e⟩
theorem WayAt.okPg (h : WayAt K s k b obj A F pgs so D) {ws : List Int} (e : pgs[p]? = some ws) : okPg ws := by
  obtain ⟨f, _, e2⟩ := h.lead e
  exact h.fr.okPg e2
end
def spW (K : PySem.W.Frag) (b : Bool) (body : HS → Nat → Addr → Addr → FR → List (List Int) → (Nat → Bool) → WD → List V → VK → Prop) : Sp := fun vs H Q _ => ∃ r k obj A F pgs so D xs, vs = .ref obj :: xs ∧ WayAt K ⟨H, r⟩ k b obj A F pgs so D ∧ body ⟨H, r⟩ k obj A F pgs so D xs Q
def sp_W_size (K : PySem.W.Frag) (b : Bool) : Sp := spW K b fun s k obj A F pgs so D xs Q => xs = [] ∧ Q (.int pgs.length) s.h
def sp_W_has (K : PySem.W.Frag) (b : Bool) : Sp := spW K b fun s k obj A F pgs so D xs Q => ∃ p : Nat, xs = [.int p] ∧ p < pgs.length ∧ Q (.bl true) s.h
def sp_W_frame (K : PySem.W.Frag) (b : Bool) : Sp := spW K b fun s k obj A F pgs so D xs Q => ∃ p f : Nat, xs = [.int p] ∧ D.lead[p]? = some f ∧ Q (.int f) s.h
def sp_W_look_for (K : PySem.W.Frag) (b : Bool) : Sp := spW K b fun s k obj A F pgs so D xs Q => ∃ p j : Nat, xs = [.int p, .int j] ∧ p < pgs.length ∧ j < 8 ∧ Q .non s.h
def sp_W_put_alone (K : PySem.W.Frag) (b : Bool) : Sp := spW K b fun s k obj A F pgs so D xs Q => ∃ p : Nat, xs = [.int p] ∧ p < pgs.length ∧ Q .non s.h
def sp_W_page_at (K : PySem.W.Frag) (b : Bool) : Sp := spW K b fun s k obj A F pgs so D xs Q => ∃ i : Int, xs = [.int i] ∧ 0 ≤ i ∧ i < 8 * pgs.length ∧ Q (.int (i / 8)) s.h
def sp_W_root (K : PySem.W.Frag) (b : Bool) : Sp := spW K b fun s k obj A F pgs so D xs Q => xs = [] ∧ Q (.int 0) s.h
/-- a new empty list -/
def sp_W_nil (K : PySem.W.Frag) (b : Bool) : Sp := spW K b fun s k obj A F pgs so D xs Q => xs = [] ∧ ∀ l, s.h l = none → Q (.ref l) (upd s.h l (.lst []))
section
variable {P : Program} {w : World} {K : PySem.W.Frag} {mg : Str → Option Value} {base : Heap} {b : Bool}
theorem len1 {f : HS → Nat → Addr → Addr → FR → List (List Int) → (Nat → Bool) → WD → List V → VK → Prop} {n : Nat} (h : ∀ s k obj A F pgs so D xs Q, f s k obj A F pgs so D xs Q → xs.length = n) {vs : List V} {H : Hp} {Q : VK} {E : XK} (z : spW K b f vs H Q E) : vs.length = n + 1 := by
  obtain ⟨r, k, obj, A, F, pgs, so, D, xs, rfl, _, q⟩ := z
  rw [List.length_cons, h _ _ _ _ _ _ _ _ _ _ q]
theorem ok_W_size (T : TX K mg) (b : Bool) : Fn P w K mg base false 2 (wf_size K b) (sp_W_size K b) := by
  refine (f_Kept_size T).calm 1 (fun vs H Q E h => len1 (n := 0) (fun s k obj A F pgs so D xs Q z => by rw [z.1] <;> rfl) h) (fun cdv A outer s H vs Q E hr h => ?_)
  obtain ⟨r, k, obj, A, F, pgs, so, D, xs, rfl, hW, rfl, q⟩ := h
  have h1 : H obj = some _ := hW.ob.1
  obtain ⟨dx, ll, g1, g2⟩ := hW.pt
  have h2 : H D.pa = some _ := g1.1
  refine ⟨_, pss_one (ps_ret (x_m0 (ok_Parts_size T) (can hr) (kls_Parts T) (m_Parts_size T) (fun _ => pas0) (x_fld (kls_W T b) 4 (pv 0) (iW4 b)))), ?_⟩
  walk_at "w"
  refine ⟨r, _, _, _, _, rfl, hW.pt, ?_⟩
  rw [List.length_map, hW.wf.ln]
  exact q
theorem ok_W_has (T : TX K mg) (b : Bool) : Fn P w K mg base false 4 (wf_has K b) (sp_W_has K b) := by
  refine (f_Kept_has T).calm 3 (fun vs H Q E h => len1 (n := 1) (fun s k obj A F pgs so D xs Q z => by obtain ⟨_, z, _⟩ := z; rw [z] <;> rfl) h) (fun cdv A outer s H vs Q E hr h => ?_)
  obtain ⟨r, k, obj, A, F, pgs, so, D, xs, rfl, hW, p, rfl, hp, q⟩ := h
  have h1 : H obj = some _ := hW.ob.1
  obtain ⟨dx, ll, g1, g2⟩ := hW.pt
  have h2 : H D.pa = some _ := g1.1
  obtain ⟨f, ef, _⟩ := hW.lead (List.getElem?_eq_getElem hp)
  refine ⟨_, pss_one (ps_ret (pe_cmp (pc_notN (x_m (ok_Parts_frame T) (can hr) (kls_Parts T) (m_Parts_frame T) (fun _ => pas0) (x_fld (kls_W T b) 4 (pv 0) (iW4 b)) (pa_cons (pv 1) pa_nil))))), ?_⟩
  walk_at "w"
  refine ⟨r, _, _, _, _, p, f, rfl, hW.pt, by rw [List.getElem?_map, ef] <;> rfl, ?_⟩
  exact q
theorem ok_W_frame (T : TX K mg) (b : Bool) : Fn P w K mg base false 4 (wf_frame K b) (sp_W_frame K b) := by
  refine (f_Kept_frame T).calm 3 (fun vs H Q E h => len1 (n := 1) (fun s k obj A F pgs so D xs Q z => by obtain ⟨_, _, z, _⟩ := z; rw [z] <;> rfl) h) (fun cdv A outer s H vs Q E hr h => ?_)
  obtain ⟨r, k, obj, A, F, pgs, so, D, xs, rfl, hW, p, f, rfl, ef, q⟩ := h
  have h1 : H obj = some _ := hW.ob.1
  obtain ⟨dx, ll, g1, g2⟩ := hW.pt
  have h2 : H D.pa = some _ := g1.1
  refine ⟨_, pss_one (ps_ret (x_m (ok_Parts_frame T) (can hr) (kls_Parts T) (m_Parts_frame T) (fun _ => pas0) (x_fld (kls_W T b) 4 (pv 0) (iW4 b)) (pa_cons (pv 1) pa_nil))), ?_⟩
  walk_at "w"
  exact ⟨r, _, _, _, _, p, f, rfl, hW.pt, by rw [List.getElem?_map, ef] <;> rfl, q⟩
theorem ok_W_look_for (T : TX K mg) (b : Bool) : Fn P w K mg base false 5 (wf_look_for K b) (sp_W_look_for K b) := by
  refine (f_Kept_look_for T).calm 4 (fun vs H Q E h => len1 (n := 2) (fun s k obj A F pgs so D xs Q z => by obtain ⟨_, _, z, _⟩ := z; rw [z] <;> rfl) h) (fun cdv A outer s H vs Q E hr h => ?_)
  obtain ⟨r, k, obj, A, F, pgs, so, D, xs, rfl, hW, p, j, rfl, hp, hj, q⟩ := h
  have h1 : H obj = some _ := hW.ob.1
  refine ⟨_, pss_cons (ps_if (pt_not (pt_val (x_m (ok_W_has T b) (can hr) (kls_W T b) (m_W_has T b) (fun _ => pas0) (pv 0) (pa_cons (pv 1) pa_nil)))) (pss_one ps_never) pss_nil) (pss_one (ps_if (pt_not (pt_val (x_call (ok_is_below T) (can hr) (g_is_below T) (f_is_below T).kp (fun _ => pas0) (pa_cons (pv 2) (pa_cons (x_glob (k_CELLS T)) pa_nil))))) (pss_one ps_never) pss_nil)), ?_⟩
  walk_at "w"
  refine ⟨r, k, obj, A, F, pgs, so, D, _, rfl, hW, p, rfl, hp, ?_⟩
  walk_at "w"
  exact q
theorem ok_W_put_alone (T : TX K mg) (b : Bool) : Fn P w K mg base true 6 (wf_put_alone K b) (sp_W_put_alone K b) := by
  refine (f_Kept_put_alone T).dual 5 (fun vs H Q E h => len1 (n := 1) (fun s k obj A F pgs so D xs Q z => by obtain ⟨_, z, _⟩ := z; rw [z] <;> rfl) h) (fun cdv A outer s H vs Q E m hr h => ?_)
  obtain ⟨r, k, obj, A, F, pgs, so, D, xs, rfl, hW, p, rfl, hp, q⟩ := h
  have h1 : H obj = some _ := hW.ob.1
  obtain ⟨dx, ll, g1, g2⟩ := hW.pt
  have h2 : H D.pa = some _ := g1.1
  obtain ⟨f, ef, et⟩ := hW.lead (List.getElem?_eq_getElem hp)
  refine ⟨_, pss_one (ps_if (pt_val (x_m (ok_Parts_alone T) (can2 hr) (kls_Parts T) (m_Parts_alone T) (fun _ => pas0) (x_fld (kls_W T b) 4 (pv 0) (iW4 b)) (pa_cons (pv 1) pa_nil))) (pss_one ps_never) pss_nil), ?_⟩
  walk_at "w"
  refine ⟨r, _, _, _, _, _, F, _, p, f, rfl, hW.pt, by rw [List.getElem?_map, ef] <;> rfl, hW.fr, et, ?_⟩
  walk_at "w"
  exact q
theorem ok_W_page_at (T : TX K mg) (b : Bool) : Fn P w K mg base false 5 (wf_page_at K b) (sp_W_page_at K b) := by
  refine (f_Ways_page_at T).calm 4 (fun vs H Q E h => len1 (n := 1) (fun s k obj A F pgs so D xs Q z => by obtain ⟨_, z, _⟩ := z; rw [z] <;> rfl) h) (fun cdv A outer s H vs Q E hr h => ?_)
  obtain ⟨r, k, obj, A, F, pgs, so, D, xs, rfl, hW, i, rfl, h0, h8, q⟩ := h
  have h1 : H obj = some _ := hW.ob.1
  obtain ⟨p, hp⟩ : ∃ p : Nat, i / 8 = p := Int.eq_ofNat_of_zero_le (by omega)
  refine ⟨_, pss_cons (ps_set (i := 2) (f_Ways_page_at T).nd rfl (Or.inl rfl) (pe_op op_fdiv (pv 1) pe_int)) (pss_cons (ps_if (pt_not (pt_val (x_m (ok_W_has T b) (can hr) (kls_W T b) (m_W_has T b) (fun _ => pas0) (pv 0) (pa_cons (pv 2) pa_nil)))) (pss_one ps_never) pss_nil) (pss_one (ps_ret (pv 2)))), ?_⟩
  rw [hp] at q
  walk_at "w"
  rw [hp]
  walk_at "w"
  refine ⟨r, k, obj, A, F, pgs, so, D, _, rfl, hW, p, rfl, by omega, ?_⟩
  walk_at "w"
  exact q
theorem ok_W_root (T : TX K mg) (b : Bool) : Fn P w K mg base false 1 (wf_root K b) (sp_W_root K b) := by
  refine (f_Ways_root T).calm 0 (fun vs H Q E h => len1 (n := 0) (fun s k obj A F pgs so D xs Q z => by rw [z.1] <;> rfl) h) (fun cdv A outer s H vs Q E hr h => ?_)
  obtain ⟨r, k, obj, A, F, pgs, so, D, xs, rfl, hW, rfl, q⟩ := h
  have h1 : H obj = some _ := hW.ob.1
  refine ⟨_, pss_one (ps_ret (x_fld (kls_W T b) 1 (pv 0) (iW1 b))), ?_⟩
  walk_at "w"
  exact q
theorem ok_W_shelf (T : TX K mg) (b : Bool) : Fn P w K mg base false 2 (wf_shelf K b) (sp_W_nil K b) := by
  refine (f_Ways_shelf T).calm 1 (fun vs H Q E h => len1 (n := 0) (fun s k obj A F pgs so D xs Q z => by rw [z.1] <;> rfl) h) (fun cdv A outer s H vs Q E hr h => ?_)
  obtain ⟨r, k, obj, A, F, pgs, so, D, xs, rfl, hW, rfl, q⟩ := h
  have h1 : H obj = some _ := hW.ob.1
  obtain ⟨dx, l, g1, g2⟩ := hW.sh
  have h2 : H D.h0 = some _ := g1.1
  refine ⟨_, pss_one (ps_ret (x_m0 (ok_Shelf_told T) (can hr) (kls_Shelf T) (m_Shelf_told T) (fun _ => pas0) (x_fld (kls_W T b) 0 (pv 0) (iW0 b)))), ?_⟩
  walk_at "w"
  exact ⟨r, _, _, rfl, hW.sh, q⟩
theorem ok_W_said (T : TX K mg) (b : Bool) : Fn P w K mg base false 2 (wf_said K b) (sp_W_nil K b) := by
  refine (f_Kept_said T).calm 1 (fun vs H Q E h => len1 (n := 0) (fun s k obj A F pgs so D xs Q z => by rw [z.1] <;> rfl) h) (fun cdv A outer s H vs Q E hr h => ?_)
  obtain ⟨r, k, obj, A, F, pgs, so, D, xs, rfl, hW, rfl, q⟩ := h
  have h1 : H obj = some _ := hW.ob.1
  refine ⟨_, pss_one (ps_ret (x_list (z_list T) (x_fld (kls_W T b) 6 (pv 0) (iW6 b)))), ?_⟩
  walk_at "w"
  exact q_list hW.an.1 q
end
end SP

/-! B9 -/
set_option maxHeartbeats 4100000
namespace SP
open PySem PySem.Spec PyProof.Rows L2 L2H
local macro_rules | `(tactic| walk_at "u") => `(tactic| (dsimp only [tRet, tSeq, tAsg, tDrop, tIfS, tNext, tRetN, tBreak, tCont, tOp, tUn, tCons, tNil, tCallX, tM, tF, sSet, sNew, sAug, tMakeX, tTest, tB, tAnd, tOr, tNot, tAndV, tOrV, tNotV, tIf, tChain, tCB, tBM, tBM0, tTup, tLst, gName, tC, tIsN, tNotN, tDIn, tDNotIn, tDGet, sDPut, tDPop1, gCons, gNil, tSl, tPart, tNoPart, tYes, tVeI]))
local macro_rules | `(tactic| walk_at "o") => `(tactic| (first | assumption | omega | (simp only [List.length_map, List.length_replicate, List.length_range, List.length_append, List.length_cons, List.length_nil]; omega)))
local macro_rules | `(tactic| walk_at "q") => `(tactic| (repeat (first
  | ((with_reducible refine' q_var ?hq ?_); (case hq => rfl))
  | ((with_reducible refine' q_pF ?ha ?hq ?_); (case ha => assumption); (case hq => rfl))
  | ((with_reducible refine' q_pM ?ha ?_); (case ha => assumption))
  | (with_reducible refine q_I0 ?_)
  | (with_reducible refine q_isInt ?_)
  | (with_reducible refine q_isBool ?_)
  | (with_reducible refine iteT ?_)
  | (with_reducible refine iteF ?_)
  | (with_reducible refine iteNT ?_)
  | (with_reducible refine iteNF ?_)
  | (with_reducible refine q_eqI ?_)
  | (with_reducible refine q_neI ?_)
  | ((with_reducible refine' q_eq ?hq ?_); (case hq => rfl))
  | ((with_reducible refine' q_ne ?hq ?_); (case hq => rfl))
  | (with_reducible refine q_lenL (by assumption) ?_)
  | (with_reducible refine q_lenT (by assumption) ?_)
  | (with_reducible refine q_is_whole ?_)
  | (with_reducible refine q_is_word ?_)
  | (with_reducible refine q_is_below ?_)
  | ((with_reducible refine' And.intro (q_tyL ?ha) ?_); (case ha => assumption))
  | (with_reducible refine q_ip ?_)
  | (with_reducible refine q_rAdd ?_)
  | (with_reducible refine q_rSub ?_)
  | (with_reducible refine q_has ?_)
  | (with_reducible refine q_put ?_)
  | (with_reducible refine q_taken ?_)
  | (with_reducible refine q_page_of ?_)
  | (with_reducible refine q_pow48 ?_)
  | (with_reducible refine q_pow40 ?_)
  | ((with_reducible refine' q_I ?hq ?_); (case hq => first | assumption | decide | omega | exact q_div1 (by omega) _ | exact mul_ok (by omega) | exact pow_ok (by decide)))
  | ((with_reducible refine' ite_y ?hq ?_); (case hq => walk_at "o"))
  | ((with_reducible refine' ite_n ?hq ?_); (case hq => walk_at "o"))
  | ((with_reducible refine' ite_nn ?hq ?_); (case hq => walk_at "o"))
  | ((with_reducible refine' ite_ny ?hq ?_); (case hq => walk_at "o"))
  | (with_reducible
                    refine ⟨_, rfl, ?_⟩)
  | (with_reducible refine ⟨_, _, rfl, ?_⟩)
  | (with_reducible refine ⟨rfl, ?_⟩))))
local macro_rules | `(tactic| walk_at "w") => `(tactic| ((try (walk_at "u")); (walk_at "q"); (try (walk_at "u")); (walk_at "q")))
theorem can_suite {X : Cx} {k : Nat} {a : Addr} {oe : Obj} {pn : List (Addr × Obj)} {cls : Value} {d : Option Addr} (r : Room k X.A) (hz : L2N.Zn cls d oe) (hv : ∃ vs, oe.data = .fields vs) : Can true k (X.suite a ((a, oe) :: pn)) := by
  obtain ⟨vs, hv⟩ := hv
  exact .inr ⟨rfl, ⟨r.dp, r.un⟩, (a, oe), ⟨rfl, vs, hv, hz.2.2 vs hv⟩, by simp⟩
/-! ### pairs -/
theorem WayAt.ob1 {K : PySem.W.Frag} {s : HS} {k : Nat} {obj A : Addr} {F : FR} {pgs : List (List Int)} {so : Nat → Bool} {D : WD} (h : WayAt K s k true obj A F pgs so D) :
    s.h obj = some (.ins (He.ga K "Pairs") D.dx (l_Pairs.zip [.ref D.h0, .int 0, .ref A, .ref D.ml, .ref D.pa, .ref D.cl, .ref D.al])) := by
  have h1 := h.ob.1
  have h2 : D.ext = [] := h.ex
  rw [h2, List.append_nil] at h1
  exact h1
theorem WayAt.mi2 {K : PySem.W.Frag} {s : HS} {k : Nat} {b : Bool} {obj A : Addr} {F : FR} {pgs : List (List Int)} {so : Nat → Bool} {D : WD} (h : WayAt K s k b obj A F pgs so D) {m0 m1 : Nat} (e : D.mine = [m0, m1]) : s.h D.ml = some (.lst [.int m0, .int m1]) := by
  have h1 := h.mi.1
  rw [e] at h1
  exact h1
def sp_Pr_row_at (K : PySem.W.Frag) : Sp := spW K true fun s k obj A F pgs so D xs Q => ∃ (p m0 m1 : Nat) (lw : List Int) (x : Int), xs = [.int p] ∧ p < 8 ∧ D.mine = [m0, m1] ∧ F.tk[m1]? = some (some lw) ∧ lw[p]? = some x ∧ Q (.int x) s.h
def sp_Pr_lay_row (K : PySem.W.Frag) : Sp := spW K true fun s k obj A F pgs so D xs Q => ∃ (p m0 m1 : Nat) (lw : List Int) (x : Int), xs = [.int p, .int x] ∧ p < 8 ∧ isW x ∧ D.mine = [m0, m1] ∧ F.tk[m1]? = some (some lw) ∧
  Does (· = 4 * k + 4) s Q fun v t => v = .non ∧ FrAt K t (4 * k + 4) A (F.put m1 (some (lw.set p x)))
def sp_Pr_open_row (K : PySem.W.Frag) : Sp := spW K true fun s k obj A F pgs so D xs Q => ∃ (p m0 m1 f : Nat) (lw : List Int) (ww t so' : Bool), xs = [.int p] ∧ p < pgs.length ∧ f < 40 ∧ D.mine = [m0, m1] ∧ F.tk[m1]? = some (some lw) ∧ lw[p]? = some (rowW f ww t so') ∧
  Does (· = 4 * k + 4) s Q fun v u => v = .non ∧ FrAt K u (4 * k + 4) A (F.put m1 (some (lw.set p (rowW f true t so'))))
def RWy (k : Nat) (x : Nat) : Prop := x = 4 * k + 4 ∨ x = 4 * k + 5
def sp_W_read (K : PySem.W.Frag) (b : Bool) : Sp := spW K b fun s k obj A F pgs so D xs Q => ∃ (p j : Nat) (ws : List Int) (x : Int), xs = [.int p, .int j] ∧ pgs[p]? = some ws ∧ ws[j]? = some x ∧
  Does (fun c => b = true ∧ c = 4 * k + 4) s Q fun v t => v = .int x ∧ ∃ F', (b = false → F' = F) ∧ WayAt K t k b obj A F' pgs so D
def addSo (so : Nat → Bool) (p : Nat) : Nat → Bool := fun q => if q = p then true else so q
def sp_W_write (K : PySem.W.Frag) (b : Bool) : Sp := spW K b fun s k obj A F pgs so D xs Q => ∃ (p j : Nat) (ws : List Int) (x : Int), xs = [.int p, .int j, .int x] ∧ pgs[p]? = some ws ∧ j < 8 ∧ isW x ∧
  Does (RWy k) s Q fun v t => v = .non ∧ ∃ F', WayAt K t k b obj A F' (pgs.set p (ws.set j x)) (addSo so p) D
def sp_W_words_of (K : PySem.W.Frag) (b : Bool) : Sp := spW K b fun s k obj A F pgs so D xs Q => ∃ (p : Nat) (ws : List Int), xs = [.int p] ∧ pgs[p]? = some ws ∧ ∀ l H', s.h l = none → Same s.h H' → H' l = some (.lst (ws.map V.int)) → Q (.ref l) H'
def sp_W_soiled (K : PySem.W.Frag) (b : Bool) : Sp := spW K b fun s k obj A F pgs so D xs Q => xs = [] ∧ ∀ l H' (ps : List Nat), s.h l = none → Same s.h H' → H' l = some (.lst (ps.map natV)) → ps.length ≤ 64 → (∀ p ∈ ps, p < pgs.length) → (∀ p, p < pgs.length → so p = true → p ∈ ps) → Q (.ref l) H'
def sp_W_washed (K : PySem.W.Frag) (b : Bool) : Sp := spW K b fun s k obj A F pgs so D xs Q => xs = [] ∧ Does (RWy k) s Q fun v t => v = .non ∧ ∃ F' D', WayAt K t k b obj A F' pgs (fun _ => false) D'
section
variable {P : Program} {w : World} {K : PySem.W.Frag} {mg : Str → Option Value} {base : Heap} {b : Bool}
theorem ok_look2 (T : TX K mg) : Fn P w K mg base false 6 (He.ga K "look") (fun vs H Q E => sp_look K vs H Q E ∨ sp_lookF K vs H Q E) := (ok_look T).weak.or (ok_lookF T)
theorem ok_Pairs_row_at (T : TX K mg) : Fn P w K mg base true 6 (He.ma K (He.ga K "Pairs") "row_at") (sp_Pr_row_at K) := by
  refine (f_Pairs_row_at T).dual 5 (fun vs H Q E h => len1 (n := 1) (fun s k obj A F pgs so D xs Q z => by obtain ⟨_, _, _, _, _, z, _⟩ := z; rw [z] <;> rfl) h) (fun cdv A outer s H vs Q E m hr h => ?_)
  obtain ⟨r, k, obj, A, F, pgs, so, D, xs, rfl, hW, p, m0, m1, lw, x, rfl, hp, hm, hl, hx, q⟩ := h
  have h1 : H obj = some _ := hW.ob1
  have h2 : H D.ml = some _ := hW.mi2 hm
  obtain ⟨dx, hl', ol, hs, hF'⟩ := hW.fr
  have h3 : H A = some _ := hF'.obj.1
  refine ⟨_, pss_one (ps_ret (x_m (ok_Frames_read T) (can2 hr) (kls_Frames T) (m_Frames_read T) (fun _ => pas0) (x_fld (kls_Pairs T) 2 (pv 0)) (pa_cons (pe_ix ix_list (x_fld (kls_Pairs T) 3 (pv 0)) (pe_op op_add pe_int (pe_op op_fdiv (pv 1) (x_glob (k_EACH T)))) (fun _ _ => rfl)) (pa_cons (pe_op op_mod (pv 1) (x_glob (k_EACH T))) pa_nil)))), ?_⟩
  walk_at "w"
  rw [show (p : Int) / 8 = 0 by omega]
  refine q_ixL h2 (v := .int m1) rfl ?_
  walk_at "w"
  rw [show (p : Int) % 8 = p by omega]
  exact ⟨r, _, A, F, m1, lw, p, x, rfl, hW.fr, hl, hx, q⟩
theorem ok_Pairs_lay_row (T : TX K mg) : Fn P w K mg base true 6 (He.ma K (He.ga K "Pairs") "lay_row") (sp_Pr_lay_row K) := by
  refine (f_Pairs_lay_row T).dual 5 (fun vs H Q E h => len1 (n := 2) (fun s k obj A F pgs so D xs Q z => by obtain ⟨_, _, _, _, _, z, _⟩ := z; rw [z] <;> rfl) h) (fun cdv A outer s H vs Q E m hr h => ?_)
  obtain ⟨r, k, obj, A, F, pgs, so, D, xs, rfl, hW, p, m0, m1, lw, x, rfl, hp, hx, hm, hl, q⟩ := h
  have h1 : H obj = some _ := hW.ob1
  have h2 : H D.ml = some _ := hW.mi2 hm
  obtain ⟨dx, hl', ol, hs, hF'⟩ := hW.fr
  have h3 : H A = some _ := hF'.obj.1
  refine ⟨_, pss_one (ps_expr (x_m (ok_Frames_write T) (can2 hr) (kls_Frames T) (m_Frames_write T) (fun _ => pas0) (x_fld (kls_Pairs T) 2 (pv 0)) (pa_cons (pe_ix ix_list (x_fld (kls_Pairs T) 3 (pv 0)) (pe_op op_add pe_int (pe_op op_fdiv (pv 1) (x_glob (k_EACH T)))) (fun _ _ => rfl)) (pa_cons (pe_op op_mod (pv 1) (x_glob (k_EACH T))) (pa_cons (pv 2) pa_nil))))), ?_⟩
  walk_at "w"
  rw [show (p : Int) / 8 = 0 by omega]
  refine q_ixL h2 (v := .int m1) rfl ?_
  walk_at "w"
  rw [show (p : Int) % 8 = p by omega]
  refine ⟨r, _, A, F, m1, lw, p, x, rfl, hW.fr, hl, hp, hx, fun v t st ⟨_, hF⟩ => ?_⟩
  walk_at "w"
  exact q _ t st ⟨rfl, hF⟩
theorem ok_Pairs_open_row (T : TX K mg) : Fn P w K mg base true 7 (He.ma K (He.ga K "Pairs") "open_row") (sp_Pr_open_row K) := by
  refine (f_Pairs_open_row T).dual 6 (fun vs H Q E h => len1 (n := 1) (fun s k obj A F pgs so D xs Q z => by obtain ⟨_, _, _, _, _, _, _, _, z, _⟩ := z; rw [z] <;> rfl) h) (fun cdv A outer s H vs Q E m hr h => ?_)
  obtain ⟨r, k, obj, A, F, pgs, so, D, xs, rfl, hW, p, m0, m1, f, lw, ww, t, so', rfl, hp, hf, hm, hl, hx, q⟩ := h
  have h1 : H obj = some _ := hW.ob1
  have h2 : H D.ml = some _ := hW.mi2 hm
  have hp8 : p < 8 := Nat.lt_of_lt_of_le hp hW.wf.sz.2
  refine ⟨_, pss_cons (ps_expr (x_m (ok_W_put_alone T true) (can2 hr) (kls_Pairs T) (m_Pairs_put_alone T) (fun _ => pas0) (pv 0) (pa_cons (pv 1) pa_nil))) (pss_one (ps_expr (x_m (ok_Pairs_lay_row T) (can2 hr) (kls_Pairs T) (m_Pairs_lay_row T) (fun _ => pas0) (pv 0) (pa_cons (pv 1) (pa_cons (x_call (ok_put T) (can2 hr) (g_put T) (f_put T).kp (fun _ => pas0) (pa_cons (x_m (ok_Pairs_row_at T) (can2 hr) (kls_Pairs T) (m_Pairs_row_at T) (fun _ => pas0) (pv 0) (pa_cons (pv 1) pa_nil)) (pa_cons (x_glob (k_WRITABLE T)) pa_nil))) pa_nil))))), ?_⟩
  walk_at "w"
  refine ⟨r, k, obj, A, F, pgs, so, D, _, rfl, hW, p, rfl, hp, ?_⟩
  walk_at "w"
  refine ⟨r, k, obj, A, F, pgs, so, D, _, rfl, hW, p, m0, m1, lw, _, rfl, hp8, hm, hl, hx, ?_⟩
  walk_at "w"
  rw [row_put2]
  refine ⟨r, k, obj, A, F, pgs, so, D, _, rfl, hW, p, m0, m1, lw, _, rfl, hp8, row_ok (by omega) _ _ _, hm, hl, fun v u st ⟨_, hF⟩ => ?_⟩
  walk_at "w"
  exact q _ u st ⟨rfl, hF⟩
theorem ok_Pairs_fetch (T : TX K mg) : Fn P w K mg base false 8 (He.ma K (He.ga K "Pairs") "fetch") (sp_W_read K true) := by
  refine (f_Pairs_fetch T).calm 7 (fun vs H Q E h => len1 (n := 2) (fun s k obj A F pgs so D xs Q z => by obtain ⟨_, _, _, _, z, _⟩ := z; rw [z] <;> rfl) h) (fun cdv A outer s H vs Q E hr h => ?_)
  obtain ⟨r, k, obj, A, F, pgs, so, D, xs, rfl, hW, p, j, ws, x, rfl, hp, hx, q⟩ := h
  obtain ⟨f, ef, et⟩ := hW.lead hp
  obtain ⟨m0, m1, hw, lw, t0, s0, ww, t, hm, hne, L⟩ := hW.wf.look ef hp
  have h1 : H obj = some _ := hW.ob1
  have h2 : H D.ml = some _ := hW.mi2 hm
  have hp8 : p < 8 := Nat.lt_of_lt_of_le (List.getElem?_eq_some_iff.mp hp).1 hW.wf.sz.2
  have okp := hW.okPg hp
  have hj : j < 8 := by rw [← okp.1]; exact (List.getElem?_eq_some_iff.mp hx).1
  refine ⟨_, pss_cons (ps_set (i := 3) (f_Pairs_fetch T).nd rfl (Or.inl rfl) (x_call (ok_look T) (can hr) (g_look T) (f_look T).kp (fun _ => pas0) (pa_cons (x_fld (kls_Pairs T) 2 (pv 0)) (pa_cons (pe_ix ix_list (x_fld (kls_Pairs T) 3 (pv 0)) pe_int (fun _ _ => rfl)) (pa_cons (pe_op op_add (pe_op op_mul (x_glob (k_EACH T)) (pv 1)) (pv 2)) (pa_cons pe_bl (pa_cons pe_bl pa_nil))))))) (pss_cons (ps_expr (x_call (ok_mark T) (can hr) (g_mark T) (f_mark T).kp (fun _ => pas0) (pa_cons (x_fld (kls_Pairs T) 2 (pv 0)) (pa_cons (pv 3) (pa_cons pe_bl pa_nil))))) (pss_one (ps_ret (x_m (ok_Frames_read T) (can hr) (kls_Frames T) (m_Frames_read T) (fun _ => pas0) (x_fld (kls_Pairs T) 2 (pv 0)) (pa_cons (pe_ix ix_tup (pv 3) pe_int (fun _ _ => rfl)) (pa_cons (pv 2) pa_nil)))))), ?_⟩
  walk_at "w"
  refine q_ixL h2 (v := .int m0) rfl ?_
  walk_at "w"
  rw [show (8 : Int) * p + j = ((8 * p + j : Nat) : Int) by omega]
  refine ⟨r, _, A, F, m0, m1, f, p, j, hw, lw, ws, t0, s0, ww, t, so p, false, rfl, hW.fr, hp8, hj, L, (fun z => by cases z), ?_⟩
  rintro v u st ⟨tr, rfl, htr⟩
  have hW2 := hW.step st id id
  have h1u : u.h obj = some _ := hW2.ob1
  walk_at "w"
  refine ⟨u.r, _, A, F, tr, m0, m1, f, p, hw, lw, ws, t0, s0, ww, t, so p, false, rfl, by omega, hW2.fr, htr, hne, L, ?_⟩
  rintro v u2 st2 ⟨kk, rfl, hF2⟩
  have htr2 := htr.step st2 (by omega)
  obtain ⟨ta, tb, tk, g1, g2, g3⟩ := htr2
  have g1 : u2.h tr = some _ := g1.1
  have hlo : (F.put m0 (some (hw.set 0 (rowW m1 true true s0)))).tk[m1]? = some (some lw) := by
    rw [FR.get_ne fun z => hne z.symm]; exact L.lo
  have w1 := hW.wf.high hm L.hi (hW.fr.okPg L.hi).1 (t := true) (s := s0)
  have w2 := w1.low hm hlo (hW.fr.okPg L.lo).1 ef (ww := ww) (t := true) (s := so p || false)
  have e3 : (fun q => if q = p then (so p || false) else so q) = so := by
    funext q
    by_cases z : q = p
    · rw [if_pos z, z, Bool.or_false]
    · rw [if_neg z]
  rw [e3] at w2
  have hW3 := hW2.frames st2 hF2 w2 rfl (fun _ _ z => z)
  have h3u : u2.h obj = some _ := hW3.ob1
  obtain ⟨f', ef', et'⟩ := hW3.lead hp
  cases ef.symm.trans ef'
  obtain ⟨dx, hl', ol, hs, hF'⟩ := hF2
  have h4 : u2.h A = some _ := hF'.obj.1
  walk_at "w"
  refine q_ixT g1 (v := .int f) rfl ?_
  walk_at "w"
  refine ⟨u2.r, _, A, _, f, ws, j, x, rfl, hW3.fr, et', hx, ?_⟩
  exact q _ u2 ((st.mono fun _ z => z.elim).trans (st2.mono fun c z => ⟨rfl, z⟩)) ⟨rfl, _, (fun z => by cases z), hW3⟩
end
end SP

/-! B10 -/
set_option maxHeartbeats 4100000
namespace SP
open PySem PySem.Spec PyProof.Rows L2 L2H
local macro_rules | `(tactic| walk_at "u") => `(tactic| (dsimp only [tRet, tSeq, tAsg, tDrop, tIfS, tNext, tRetN, tBreak, tCont, tOp, tUn, tCons, tNil, tCallX, tM, tF, sSet, sNew, sAug, tMakeX, tTest, tB, tAnd, tOr, tNot, tAndV, tOrV, tNotV, tIf, tChain, tCB, tBM, tBM0, tTup, tLst, gName, tC, tIsN, tNotN, tDIn, tDNotIn, tDGet, sDPut, tDPop1, gCons, gNil, tSl, tPart, tNoPart, tYes, tVeI]))
local macro_rules | `(tactic| walk_at "o") => `(tactic| (first | assumption | (with_reducible rfl) | omega | (intro hh; cases hh; done) | (simp only [List.length_map, List.length_replicate, List.length_range, List.length_append, List.length_cons, List.length_nil]; omega)))
local macro_rules | `(tactic| walk_at "q") => `(tactic| (repeat (first
  | ((with_reducible refine' q_var ?hq ?_); (case hq => rfl))
  | ((with_reducible refine' q_pF ?ha ?hq ?_); (case ha => assumption); (case hq => rfl))
  | ((with_reducible refine' q_pM ?ha ?_); (case ha => assumption))
  | (with_reducible refine q_I0 ?_)
  | (with_reducible refine q_isInt ?_)
  | (with_reducible refine q_isBool ?_)
  | (with_reducible refine iteT ?_)
  | (with_reducible refine iteF ?_)
  | (with_reducible refine iteNT ?_)
  | (with_reducible refine iteNF ?_)
  | (with_reducible refine q_eqI ?_)
  | (with_reducible refine q_neI ?_)
  | ((with_reducible refine' q_eq ?hq ?_); (case hq => rfl))
  | ((with_reducible refine' q_ne ?hq ?_); (case hq => rfl))
  | (with_reducible refine q_lenL (by assumption) ?_)
  | (with_reducible refine q_lenT (by assumption) ?_)
  | (with_reducible refine q_is_whole ?_)
  | (with_reducible refine q_is_word ?_)
  | (with_reducible refine q_is_below ?_)
  | ((with_reducible refine' And.intro (q_tyL ?ha) ?_); (case ha => assumption))
  | (with_reducible refine q_ip ?_)
  | (with_reducible refine q_rAdd ?_)
  | (with_reducible refine q_rSub ?_)
  | (with_reducible refine q_has ?_)
  | (with_reducible refine q_put ?_)
  | (with_reducible refine q_taken ?_)
  | (with_reducible refine q_page_of ?_)
  | (with_reducible refine q_pow48 ?_)
  | (with_reducible refine q_pow40 ?_)
  | ((with_reducible refine' q_I ?hq ?_); (case hq => first | assumption | decide | omega | exact q_div1 (by omega) _ | exact mul_ok (by omega) | exact pow_ok (by decide)))
  | ((with_reducible refine' ite_y ?hq ?_); (case hq => walk_at "o"))
  | ((with_reducible refine' ite_n ?hq ?_); (case hq => walk_at "o"))
  | ((with_reducible refine' ite_nn ?hq ?_); (case hq => walk_at "o"))
  | ((with_reducible refine' ite_ny ?hq ?_); (case hq => walk_at "o"))
  | (with_reducible
                    refine ⟨_, rfl, ?_⟩)
  | (with_reducible refine ⟨_, _, rfl, ?_⟩)
  | (with_reducible refine ⟨rfl, ?_⟩))))
local macro_rules | `(tactic| walk_at "w") => `(tactic| ((try (walk_at "u")); (walk_at "q"); (try (walk_at "u")); (walk_at "q")))
theorem y_fld {X : Cx} {C : Addr} {l : List Str} {e : Expr} {f : Str} {pos : Pos} {ta : TE} {i : Nat} (k : Kls X.K C l) (he : PE X e ta) (hi : l[i]? = some f := by rfl) (hb : attributeBase e f X.env (eval e X.env) = eval e X.env := by rfl) : PE X (.Attribute e f pos) (tF C l i ta) := x_fld k i he hi hb
/-! ### try, its readings found where it is walked -/
def tTryX (X : Cx) (Wout : WX) (c : Value) (body suite : List Stmt) : TS := fun D σ H => ∃ ts : TS, (∀ (a : Addr) (oe : Obj) (cls : Value) (d : Option Addr) (pn : List (Addr × Obj)), L2N.Zn cls d oe → (∃ vs, oe.data = .fields vs) → PSs (X.suite a ((a, oe) :: pn)) suite ts) ∧
  ∃ tb : TS, (∀ (pn : List (Addr × Obj)) (xe : Value → Shared → Prop), L2N.Takes (X.tr pn xe) (wMany X.K Wout D [(c, fun _ _ _ => ts)]) → PSs (X.tr pn xe) body tb) ∧ tb D σ H
theorem x_tryF {X : Cx} {Wout : WX} {c : Value} {x : Str} {body suite : List Stmt} {b₀ : Stmt} {np pos pos' : Pos} (hs : X.stack = X.env :: X.outer) (hf : X.env.frame = some X.env.locals) (tk : L2N.Takes X Wout) (hc : Names X x c) :
    PS X (.Try body [.ExceptHandler (some (.Name x np)) none (b₀ :: suite) pos'] [] [] pos) (tTryX X Wout c body (b₀ :: suite)) := by
  refine ⟨fun pins s σ H D I ⟨ts, hsu, tb, hb, h⟩ => ?_⟩
  refine (L2N.ps_try_many (tb := fun W D' σ' H' => W = wMany X.K Wout D [(c, fun _ _ _ => ts)] ∧ tb D' σ' H') (l := [(c, fun _ _ _ => ts)]) hs hf tk (fun W pn xe tkW _ => ?_) (L2N.HdsOk.cons hc (fun a oe cls d pn hz hv => hsu a oe cls d pn hz hv) L2N.HdsOk.nil)).run pins s σ H D I ⟨rfl, h⟩
  exact ⟨fun pins' s' σ' H' D' I' ⟨e, h'⟩ => (hb pn xe (e ▸ tkW)).run pins' s' σ' H' D' I' h'⟩
/-! ### comprehensions with a test -/
section
variable {K : PySem.W.Frag} {te tl : TE} {tt : TT} {ta : TA} {s : Nat} {σ : L2.St} {H : Hp} {Q : VK} {a : Addr} {xs : List V}
theorem lc_filR {m : Nat} (g : Nat → Bool) (h0 : ∀ R : List V → Hp → Prop, R [.int m] H → ta σ H R) (hm : m < 10000)
    (test : ∀ (i : Nat) (H1 : Hp), i < m → Same H H1 → ∀ Q' : Bool → Hp → Prop, (∀ H2, Same H1 H2 → Q' (g i) H2) → tt ((wipe σ [s]).set s (some (.int i))) H1 Q')
    (body : ∀ (i : Nat) (H1 : Hp), i < m → g i = true → Same H H1 → ∀ Q' : VK, (∀ H2, Same H1 H2 → Q' (natV i) H2) → te ((wipe σ [s]).set s (some (.int i))) H1 Q')
    (fin : ∀ D H', H D = none → Same H H' → H' D = some (.lst (((List.range m).filter g).map natV)) → Q (.ref D) H') : tLc (iRng1 ta) (gName s) tt te [s] σ H Q := by
  have hz : (10000 : Nat) ≤ sizeLine := by decide
  refine h0 _ ⟨_, rfl, by omega, by omega, fun D n => ?_⟩
  refine lc_range (lo := 0) (n := (m : Int).toNat) (fun i H1 => Same H H1 ∧ H1 D = some (.lst (((List.range i).filter g).map natV))) ⟨same_new n, upd_same⟩ (fun i H1 hi h => ?_) fun H1 h => ?_
  · have hi : i < m := by simpa using hi
    rw [show (0 : Int) + (i : Nat) = ((i : Nat) : Int) by omega]
    refine ⟨wipe1, test i H1 hi h.1 _ fun H2 e2 => ?_⟩
    have d2 := e2 _ _ h.2
    have e3 := h.1.trans e2
    cases hg : g i with
    | true =>
      rw [if_pos rfl]
      refine body i H2 hi hg e3 _ fun H4 e4 => ⟨_, e4 _ _ d2, ?_, ?_, ?_⟩
      · have h1 := List.length_filter_le g (List.range i)
        rw [List.length_range] at h1
        rw [List.length_map]
        omega
      · intro b o hb
        rw [upd_ne (ne_of_none hb n)]
        exact e4 _ _ (e3 _ _ hb)
      · rw [upd_same, List.range_succ, List.filter_append, List.map_append]
        simp [hg]
    | false =>
      rw [if_neg (by simp)]
      refine ⟨e3, ?_⟩
      rw [d2, List.range_succ, List.filter_append, List.map_append]
      simp [hg]
  · refine fin D H1 n h.1 ?_
    rw [h.2, Int.toNat_natCast]
theorem lc_selL (h0 : ∀ R : VK, R (.ref a) H → tl σ H R) (hS : H a = some (.lst xs)) (hz : xs.length < 10000)
    (test : ∀ (i : Nat) (x : V) (H1 : Hp), xs[i]? = some x → Same H H1 → ∀ Q' : Bool → Hp → Prop, (∀ H2, Same H1 H2 → Q' true H2) → tt ((wipe σ [s]).set s (some x)) H1 Q')
    (body : ∀ (i : Nat) (x : V) (H1 : Hp), xs[i]? = some x → Same H H1 → ∀ Q' : VK, (∀ H2, Same H1 H2 → Q' x H2) → te ((wipe σ [s]).set s (some x)) H1 Q')
    (fin : ∀ D H', H D = none → Same H H' → H' D = some (.lst xs) → Q (.ref D) H') : tLc (iList K tl) (gName s) tt te [s] σ H Q := by
  have hz' : (10000 : Nat) ≤ sizeLine := by decide
  refine h0 _ ⟨a, rfl, ⟨xs, SqL.of hS⟩, fun D n => lc_list (K := K) (a := a) (xs := xs) (fun i H1 => Same H H1 ∧ H1 D = some (.lst (xs.take i))) ⟨same_new n, upd_same⟩ (fun i H1 _ h => SqL.of (h.1 _ _ hS)) (fun i x H1 hx h => ?_) fun H1 h => ?_⟩
  · refine ⟨wipe1, test i x H1 hx h.1 _ fun H2 e2 => ?_⟩
    have d2 := e2 _ _ h.2
    have e3 := h.1.trans e2
    rw [if_pos rfl]
    refine body i x H2 hx e3 _ fun H4 e4 => ⟨_, e4 _ _ d2, ?_, ?_, ?_⟩
    · rw [List.length_take]; omega
    · intro b o hb
      rw [upd_ne (ne_of_none hb n)]
      exact e4 _ _ (e3 _ _ hb)
    · rw [upd_same, List.take_add_one, hx] <;> rfl
  · refine fin D H1 n h.1 ?_
    rw [h.2, List.take_of_length_le (Nat.le_refl _)]
end
section
variable {P : Program} {w : World} {K : PySem.W.Frag} {mg : Str → Option Value} {base : Heap} {b : Bool}
theorem ok_Pairs_deposit (T : TX K mg) : Fn P w K mg base false 9 (He.ma K (He.ga K "Pairs") "deposit") (sp_W_write K true) := by
  refine (f_Pairs_deposit T).calm 8 (fun vs H Q E h => len1 (n := 3) (fun s k obj A F pgs so D xs Q z => by obtain ⟨_, _, _, _, z, _⟩ := z; rw [z] <;> rfl) h) (fun cdv A outer s H vs Q E hr h => ?_)
  obtain ⟨r, k, obj, A, F, pgs, so, D, xs, rfl, hW, p, j, ws, x, rfl, hp, hj, hx, q⟩ := h
  obtain ⟨f, ef, et⟩ := hW.lead hp
  obtain ⟨m0, m1, hw, lw, t0, s0, ww, t, hm, hne, L⟩ := hW.wf.look ef hp
  have h1 : H obj = some _ := hW.ob1
  have h2 : H D.ml = some _ := hW.mi2 hm
  have hpl := (List.getElem?_eq_some_iff.mp hp).1
  have hp8 : p < 8 := Nat.lt_of_lt_of_le hpl hW.wf.sz.2
  have hf40 := hW.fr.lt et
  refine ⟨_, pss_cons (x_tryF rfl rfl (L2N.takes_of rfl rfl rfl rfl) ⟨rfl, by decide, .inl (g_Fault T)⟩) (pss_cons (ps_expr (x_call (ok_mark T) (can hr) (g_mark T) (f_mark T).kp (fun _ => pas0) (pa_cons (x_fld (kls_Pairs T) 2 (pv 0)) (pa_cons (pv 4) (pa_cons pe_bl pa_nil))))) (pss_one (ps_expr (x_m (ok_Frames_write T) (can hr) (kls_Frames T) (m_Frames_write T) (fun _ => pas0) (x_fld (kls_Pairs T) 2 (pv 0)) (pa_cons (pe_ix ix_tup (pv 4) pe_int (fun _ _ => rfl)) (pa_cons (pv 2) (pa_cons (pv 3) pa_nil))))))), ?_⟩
  walk_at "w"
  refine ⟨_, fun a oe cls d pn hz hv => pss_cons (ps_expr (x_m (ok_Pairs_open_row T) (can2 (can_suite hr hz hv)) (kls_Pairs T) (m_Pairs_open_row T) (fun _ => pas0) (pv 0) (pa_cons (pv 1) pa_nil))) (pss_one (ps_set (i := 4) (f_Pairs_deposit T).nd rfl (Or.inl rfl) (x_call (ok_look T) (can2 (can_suite hr hz hv)) (g_look T) (f_look T).kp (fun _ => pas0) (pa_cons (y_fld (i := 2) (kls_Pairs T) (pv 0)) (pa_cons (pe_ix (show IxR _ (rIxL K) from ix_list) (y_fld (i := 3) (kls_Pairs T) (pv 0)) pe_int (fun _ _ => rfl)) (pa_cons (pe_op op_add (pe_op op_mul (x_glob (k_EACH T)) (pv 1)) (pv 2)) (pa_cons pe_bl (pa_cons pe_bl pa_nil)))))))), _, fun pn xe tk => pss_one (ps_set (i := 4) (f_Pairs_deposit T).nd rfl (Or.inl rfl) (x_call (ok_look2 T) (can hr) (g_look T) (f_look T).kp (fun σ => L2N.passAt tk σ) (pa_cons (y_fld (i := 2) (kls_Pairs T) (pv 0)) (pa_cons (pe_ix (show IxR _ (rIxL K) from ix_list) (y_fld (i := 3) (kls_Pairs T) (pv 0)) pe_int (fun _ _ => rfl)) (pa_cons (pe_op op_add (pe_op op_mul (x_glob (k_EACH T)) (pv 1)) (pv 2)) (pa_cons pe_bl (pa_cons pe_bl pa_nil))))))), ?_⟩
  walk_at "w"
  refine q_ixL h2 (v := .int m0) rfl ?_
  walk_at "w"
  rw [show (8 : Int) * p + j = ((8 * p + j : Nat) : Int) by omega]
  have g0 : ∀ q : Nat → Bool, (fun r => if r = p then q p else q r) = q := fun q => by
    funext r
    by_cases z : r = p
    · rw [if_pos z, z]
    · rw [if_neg z]
  cases ww
  case' false =>
    refine .inr ⟨r, _, A, F, m0, m1, f, p, j, hw, lw, ws, t0, s0, t, so p, rfl, hW.fr, hp8, hj, L, fun d H' e0 => ?_⟩
    refine ⟨true, xm_Fault T, fun _ a ha => ?_, fun z => by cases z⟩
    have hW0 := hW.same e0
    have h1' : H' obj = some _ := hW0.ob1
    walk_at "w"
    refine ⟨r, k, obj, A, F, pgs, so, D, _, rfl, hW0, p, m0, m1, f, lw, _, _, _, rfl, hpl, hf40, hm, L.lo, L.lr, ?_⟩
    rintro v0 u0 su0 ⟨rfl, hF0⟩
    have wl := hW.wf.low hm L.lo (hW.fr.okPg L.lo).1 ef (ww := true) (t := t) (s := so p)
    rw [g0] at wl
    have hW1 := hW0.frames su0 hF0 wl rfl (fun _ _ z => z)
    have L1 : LookAt (F.put m1 (some (lw.set p (rowW f true t (so p))))) m0 m1 f p hw (lw.set p (rowW f true t (so p))) ws true t0 s0 true t (so p) := by
      obtain ⟨f', ef', et'⟩ := hW1.lead hp
      cases ef.symm.trans ef'
      have := (hW.fr.okPg L.lo).1
      exact ⟨by rw [FR.get_ne hne]; exact L.hi, FR.get_put L.lo, et', L.hr, by rw [List.getElem?_set, if_pos rfl, if_pos (by omega)]⟩
    have h1u : u0.h obj = some _ := hW1.ob1
    have h2u : u0.h D.ml = some _ := hW1.mi2 hm
    walk_at "w"
    refine q_ixL h2u (v := .int m0) rfl ?_
    walk_at "w"
    rw [show (8 : Int) * p + j = ((8 * p + j : Nat) : Int) by omega]
    refine ⟨u0.r, _, A, _, m0, m1, f, p, j, hw, _, ws, t0, s0, true, t, so p, true, rfl, hW1.fr, hp8, hj, L1, (fun _ => rfl), ?_⟩
    rintro v u st ⟨tr, rfl, htr⟩
    have hWu := hW1.step st id id
    have stu : Step (RWy k) ⟨H, r⟩ u := ((Step.same e0).trans (su0.mono fun _ z => .inl z)).trans (st.mono fun _ z => z.elim)
  case' true =>
    refine .inl ⟨r, _, A, F, m0, m1, f, p, j, hw, lw, ws, t0, s0, true, t, so p, true, rfl, hW.fr, hp8, hj, L, (fun _ => rfl), ?_⟩
    rintro v u st ⟨tr, rfl, htr⟩
    have hWu := hW.step st id id
    have L1 := L
    have stu : Step (RWy k) ⟨H, r⟩ u := st.mono fun _ z => z.elim
  all_goals (
    have h1u : u.h obj = some _ := hWu.ob1
    walk_at "w"
    refine ⟨u.r, _, A, _, tr, m0, m1, f, p, hw, _, ws, t0, s0, true, t, so p, true, rfl, by omega, hWu.fr, htr, hne, L1, ?_⟩
    rintro v u2 st2 ⟨kk, rfl, hF2⟩
    obtain ⟨ta, tb, tk, g1, g2, g3⟩ := htr.step st2 (by omega)
    have g1 : u2.h tr = some _ := g1.1
    have w1 := hWu.wf.high hm L1.hi (hWu.fr.okPg L1.hi).1 (t := true) (s := s0)
    have w2 := w1.low hm (by rw [FR.get_ne fun z => hne z.symm]; exact L1.lo) (hWu.fr.okPg L1.lo).1 ef (ww := true) (t := true) (s := so p || true)
    have e3 : (fun q => if q = p then (so p || true) else so q) = addSo so p := by
      funext q
      unfold addSo
      by_cases z : q = p
      · rw [if_pos z, if_pos z, Bool.or_true]
      · rw [if_neg z, if_neg z]
    rw [e3] at w2
    have hW3 := hWu.frames st2 hF2 w2 rfl (fun z => by cases z)
    have h3u : u2.h obj = some _ := hW3.ob1
    obtain ⟨f', ef', et'⟩ := hW3.lead hp
    cases ef.symm.trans ef'
    obtain ⟨dx, hl', ol, hs, hF'⟩ := id hF2
    have h4 : u2.h A = some _ := hF'.obj.1
    walk_at "w"
    refine q_ixT g1 (v := .int f) rfl ?_
    walk_at "w"
    refine ⟨u2.r, _, A, _, f, ws, j, x, rfl, hW3.fr, et', hj, hx, ?_⟩
    rintro v u3 st3 ⟨rfl, hF3⟩
    have hW4 := hW3.frames st3 hF3 (hW3.wf.page ef hp (ws' := ws.set j x)) (by rw [List.length_set]) (fun z => by cases z)
    walk_at "w"
    exact q _ u3 (stu.trans ((st2.mono fun _ z => .inl z).trans (st3.mono fun _ z => .inl z))) ⟨rfl, _, hW4⟩)
theorem ok_Pairs_words_of (T : TX K mg) : Fn P w K mg base false 7 (He.ma K (He.ga K "Pairs") "words_of") (sp_W_words_of K true) := by
  refine (f_Pairs_words_of T).calm 6 (fun vs H Q E h => len1 (n := 1) (fun s k obj A F pgs so D xs Q z => by obtain ⟨_, _, z, _⟩ := z; rw [z] <;> rfl) h) (fun cdv A outer s H vs Q E hr h => ?_)
  obtain ⟨r, k, obj, A, F, pgs, so, D, xs, rfl, hW, p, ws, rfl, hp, q⟩ := h
  obtain ⟨f, ef, et⟩ := hW.lead hp
  have h1 : H obj = some _ := hW.ob1
  refine ⟨_, pss_cons (ps_set (i := 2) (f_Pairs_words_of T).nd rfl (Or.inl rfl) (x_m (ok_W_frame T true) (can hr) (kls_Pairs T) (m_Pairs_frame T) (fun _ => pas0) (pv 0) (pa_cons (pv 1) pa_nil))) (pss_cons (ps_if (pt_cmp (pc_isN (pv 2))) (pss_one (ps_ret pe_non)) pss_nil) (pss_one (ps_ret (x_call (ok_words_at T) (can hr) (g_words_at T) (f_words_at T).kp (fun _ => pas0) (pa_cons (x_fld (kls_Pairs T) 2 (pv 0)) (pa_cons (pv 2) pa_nil)))))), ?_⟩
  walk_at "w"
  refine ⟨r, k, obj, A, F, pgs, so, D, _, rfl, hW, p, f, rfl, ef, ?_⟩
  walk_at "w"
  exact ⟨r, _, A, F, f, ws, rfl, hW.fr, et, fun l H' n e d => q l H' n e d⟩
theorem ok_Pairs_soiled (T : TX K mg) : Fn P w K mg base false 7 (He.ma K (He.ga K "Pairs") "soiled") (sp_W_soiled K true) := by
  refine (f_Pairs_soiled T).calm 6 (fun vs H Q E h => len1 (n := 0) (fun s k obj A F pgs so D xs Q z => by rw [z.1] <;> rfl) h) (fun cdv A outer s H vs Q E hr h => ?_)
  obtain ⟨r, k, obj, A, F, pgs, so, D, xs, rfl, hW, rfl, q⟩ := h
  have h1 : H obj = some _ := hW.ob1
  have hn := hW.wf.sz.2
  refine ⟨_, pss_one (ps_ret (pe_lc (own := [("page", 1)]) (g := gName 1) rfl (f_Pairs_soiled T).nd (pi_range1 rfl (z_range T) (pa_cons (x_m0 (ok_W_size T true) (can hr) (kls_Pairs T) (m_Pairs_size T) (fun _ => pas0) (pv 0)) pa_nil)) (blkOk_by (own := [("page", 1)]) (N := ["self", "page"]) (sc := defScope s_Pairs_soiled) (by decide +kernel)) (fun _ _ _ _ _ => pg_name (i := 1) (f_Pairs_soiled T).nd rfl (Or.inl rfl)) (fun _ _ _ _ _ => (pts_one (pt_val (x_call (ok_has T) (can hr) (g_has T) (f_has T).kp (fun _ => pas0) (pa_cons (x_m (ok_Pairs_row_at T) (can hr) (kls_Pairs T) (m_Pairs_row_at T) (fun _ => pas0) (pv 0) (pa_cons (pv 1) pa_nil)) (pa_cons (x_glob (k_SOILED T)) pa_nil)))))) (fun _ _ _ _ _ => (pv 1)))), ?_⟩
  walk_at "w"
  refine lc_filR (m := pgs.length) so (fun R z => ?_) (by omega) (fun i H1 hi e1 Q' z => ?_) (fun i H1 hi hg e1 Q' z => ?_) fun l H' n e d => ?_
  · walk_at "w"
    refine ⟨r, k, obj, A, F, pgs, so, D, _, rfl, hW, rfl, ?_⟩
    exact z
  · have hW1 := hW.same e1
    obtain ⟨f, ef, et⟩ := hW1.lead (List.getElem?_eq_getElem hi)
    obtain ⟨m0, m1, hw, lw, t0, s0, ww, t, hm, hne, L⟩ := hW1.wf.look ef (List.getElem?_eq_getElem hi)
    have h1 : H1 obj = some _ := hW1.ob1
    walk_at "w"
    refine ⟨r, k, obj, A, F, pgs, so, D, _, rfl, hW1, i, m0, m1, lw, _, rfl, by omega, hm, L.lo, L.lr, ?_⟩
    walk_at "w"
    rw [row_has16]
    exact z _ (Same.refl _)
  · walk_at "w"
    exact z _ (Same.refl _)
  · have hl : ((List.range pgs.length).filter so).length ≤ 64 := by
      have h1 := List.length_filter_le so (List.range pgs.length)
      rw [List.length_range] at h1
      omega
    exact q l H' _ n e d hl (fun p hp => by simpa using (List.mem_filter.mp hp).1) fun p hp hs => List.mem_filter.mpr ⟨List.mem_range.mpr hp, hs⟩
theorem ok_Pairs_washed (T : TX K mg) : Fn P w K mg base false 7 (He.ma K (He.ga K "Pairs") "washed") (sp_W_washed K true) := by
  refine (f_Pairs_washed T).calm 6 (fun vs H Q E h => len1 (n := 0) (fun s k obj A F pgs so D xs Q z => by rw [z.1] <;> rfl) h) (fun cdv A outer s H vs Q E hr h => ?_)
  obtain ⟨r, k, obj, A, F, pgs, so, D, xs, rfl, hW, rfl, q⟩ := h
  have h1 : H obj = some _ := hW.ob1
  have hn := hW.wf.sz.2
  refine ⟨_, pss_one (ps_for (passes_of rfl) rfl (pi_range1 rfl (z_range T) (pa_cons (x_m0 (ok_W_size T true) (can hr) (kls_Pairs T) (m_Pairs_size T) (fun _ => pas0) (pv 0)) pa_nil)) (pg_name (i := 1) (f_Pairs_washed T).nd rfl (Or.inl rfl)) (pss_one (ps_expr (x_m (ok_Pairs_lay_row T) (can hr) (kls_Pairs T) (m_Pairs_lay_row T) (fun _ => pas0) (pv 0) (pa_cons (pv 1) (pa_cons (x_call (ok_taken T) (can hr) (g_taken T) (f_taken T).kp (fun _ => pas0) (pa_cons (x_m (ok_Pairs_row_at T) (can hr) (kls_Pairs T) (m_Pairs_row_at T) (fun _ => pas0) (pv 0) (pa_cons (pv 1) pa_nil)) (pa_cons (x_glob (k_SOILED T)) pa_nil))) pa_nil)))))), ?_⟩
  walk_at "w"
  refine fr_range (m := pgs.length) (fun i σ H2 => (∃ u, σ = [some (V.ref obj), u]) ∧ ∃ t F', t.h = H2 ∧ Step (· = 4 * k + 4) ⟨H, r⟩ t ∧ WayAt K t k true obj A F' pgs (fun q => if q < i then false else so q) D) (fun R z => ?_) (by omega)
    ⟨⟨_, rfl⟩, ⟨H, r⟩, F, rfl, Step.refl, by simpa using hW⟩ (fun i σ H2 hi ⟨⟨u, hσ⟩, t, F', e2, st, hW1⟩ => ?_) fun σ H2 ⟨⟨u, hσ⟩, t, F', e2, st, hW1⟩ => ?_
  · walk_at "w"
    refine ⟨r, k, obj, A, F, pgs, so, D, _, rfl, hW, rfl, ?_⟩
    exact z
  · subst hσ e2
    obtain ⟨f, ef, et⟩ := hW1.lead (List.getElem?_eq_getElem hi)
    obtain ⟨m0, m1, hw, lw, t0, s0, ww, t', hm, hne, L⟩ := hW1.wf.look ef (List.getElem?_eq_getElem hi)
    have h1 : t.h obj = some _ := hW1.ob1
    have hf := hW1.fr.lt et
    walk_at "w"
    refine ⟨t.r, k, obj, A, F', pgs, _, D, _, rfl, hW1, i, m0, m1, lw, _, rfl, by omega, hm, L.lo, L.lr, ?_⟩
    walk_at "w"
    rw [row_taken16]
    refine ⟨t.r, k, obj, A, F', pgs, _, D, _, rfl, hW1, i, m0, m1, lw, _, rfl, by omega, row_ok (by omega) _ _ _, hm, L.lo, ?_⟩
    rintro v t2 st2 ⟨_, hF2⟩
    have w2 := hW1.wf.low hm L.lo (hW1.fr.okPg L.lo).1 ef (ww := ww) (t := t') (s := false)
    have e3 : (fun q => if q = i then false else if q < i then false else so q) = fun q => if q < i + 1 then false else so q := by
      funext q
      by_cases z1 : q = i
      · rw [if_pos z1, if_pos (by omega)]
      · rw [if_neg z1]
        by_cases z2 : q < i
        · rw [if_pos z2, if_pos (by omega)]
        · rw [if_neg z2, if_neg (by omega)]
    rw [e3] at w2
    walk_at "w"
    exact ⟨⟨_, rfl⟩, t2, _, rfl, st.trans st2, hW1.frames st2 hF2 w2 rfl (fun z => by cases z)⟩
  · subst hσ e2
    walk_at "w"
    refine q _ t (st.mono fun _ z => .inl z) ⟨rfl, F', D, ?_⟩
    have w3 : WF true F' D.mine D.lead pgs fun _ => false := by
      have w := hW1.wf
      refine ⟨w.nd, w.ln, w.sz, w.ml, w.pg, w.mi, w.only, w.pl, ?_⟩
      obtain ⟨m0, m1, hw, lw, t0, s0, a1, a2, a3, a4, a5⟩ := w.tab
      refine ⟨m0, m1, hw, lw, t0, s0, a1, a2, a3, a4, fun p f hp => ?_⟩
      obtain ⟨ww, t', e⟩ := a5 p f hp
      have := (List.getElem?_eq_some_iff.mp hp).1
      rw [w.ln] at this
      simp only [if_pos this] at e
      exact ⟨ww, t', e⟩
    exact hW1.frames Step.refl hW1.fr w3 rfl (fun z => by cases z)
end
end SP

/-! B11 -/
set_option maxHeartbeats 4100000
namespace SP
open PySem PySem.Spec PyProof.Rows L2 L2H
local macro_rules | `(tactic| walk_at "u") => `(tactic| (dsimp only [tRet, tSeq, tAsg, tDrop, tIfS, tNext, tRetN, tBreak, tCont, tOp, tUn, tCons, tNil, tCallX, tM, tF, sSet, sNew, sAug, tMakeX, tTest, tB, tAnd, tOr, tNot, tAndV, tOrV, tNotV, tIf, tChain, tCB, tBM, tBM0, tTup, tLst, gName, tC, tIsN, tNotN, tDIn, tDNotIn, tDGet, sDPut, tDPop1, gCons, gNil, tSl, tPart, tNoPart, tYes, tVeI]))
local macro_rules | `(tactic| walk_at "o") => `(tactic| (first | assumption | (with_reducible rfl) | omega | (intro hh; cases hh; done) | (simp only [List.length_map, List.length_replicate, List.length_range, List.length_append, List.length_cons, List.length_nil]; omega)))
local macro_rules | `(tactic| walk_at "q") => `(tactic| (repeat (first
  | ((with_reducible refine' q_var ?hq ?_); (case hq => rfl))
  | ((with_reducible refine' q_pF ?ha ?hq ?_); (case ha => assumption); (case hq => rfl))
  | ((with_reducible refine' q_pM ?ha ?_); (case ha => assumption))
  | (with_reducible refine q_I0 ?_)
  | (with_reducible refine q_isInt ?_)
  | (with_reducible refine q_isBool ?_)
  | (with_reducible refine iteT ?_)
  | (with_reducible refine iteF ?_)
  | (with_reducible refine iteNT ?_)
  | (with_reducible refine iteNF ?_)
  | (with_reducible refine q_eqI ?_)
  | (with_reducible refine q_neI ?_)
  | ((with_reducible refine' q_eq ?hq ?_); (case hq => rfl))
  | ((with_reducible refine' q_ne ?hq ?_); (case hq => rfl))
  | (with_reducible refine q_lenL (by assumption) ?_)
  | (with_reducible refine q_lenT (by assumption) ?_)
  | (with_reducible refine q_is_whole ?_)
  | (with_reducible refine q_is_word ?_)
  | (with_reducible refine q_is_below ?_)
  | ((with_reducible refine' And.intro (q_tyL ?ha) ?_); (case ha => assumption))
  | (with_reducible refine q_ip ?_)
  | (with_reducible refine q_rAdd ?_)
  | (with_reducible refine q_rSub ?_)
  | (with_reducible refine q_has ?_)
  | (with_reducible refine q_put ?_)
  | (with_reducible refine q_taken ?_)
  | (with_reducible refine q_page_of ?_)
  | (with_reducible refine q_pow48 ?_)
  | (with_reducible refine q_pow40 ?_)
  | ((with_reducible refine' q_I ?hq ?_); (case hq => first | assumption | decide | omega | exact q_div1 (by omega) _ | exact mul_ok (by omega) | exact pow_ok (by decide)))
  | ((with_reducible refine' ite_y ?hq ?_); (case hq => walk_at "o"))
  | ((with_reducible refine' ite_n ?hq ?_); (case hq => walk_at "o"))
  | ((with_reducible refine' ite_nn ?hq ?_); (case hq => walk_at "o"))
  | ((with_reducible refine' ite_ny ?hq ?_); (case hq => walk_at "o"))
  | (with_reducible
                    refine ⟨_, rfl, ?_⟩)
  | (with_reducible refine ⟨_, _, rfl, ?_⟩)
  | (with_reducible refine ⟨rfl, ?_⟩))))
local macro_rules | `(tactic| walk_at "w") => `(tactic| ((try (walk_at "u")); (walk_at "q"); (try (walk_at "u")); (walk_at "q")))
/-! ### one object of a way changed -/
section
variable {K : PySem.W.Frag} {s t : HS} {k n : Nat} {b : Bool} {obj A a : Addr} {F F' : FR} {pgs pgs' : List (List Int)} {so so' : Nat → Bool} {D : WD} {R : Nat → Prop} {o o' : HO} {c : Nat}
theorem Step.toSame (st : Step R s t) (n : ∀ c, ¬ R c) : Same s.h t.h := fun x o e => (st x o e).2.2 (n _)
/-- a heap that grew by a new object -/
theorem HS.grow {l : Addr} {H' : Hp} (n : s.h l = none) (e : Same s.h H') (d : H' l = some o) (q : Rg) : ∃ u : HS, u.h = H' ∧ Step (fun _ => False) s u ∧ At u l q o :=
  ⟨⟨H', fun a => if a = l then q else s.r a⟩, rfl, fun x ox ex => ⟨if_neg (ne_of_none ex n), ⟨ox, e x ox ex⟩, fun _ => e x ox ex⟩, d, if_pos rfl⟩
theorem ShelfAt.put {a' : Addr} (h : ShelfAt K s c a') (hp : At s a (c, n) o) (h2 : n ≠ 2) (h3 : n ≠ 3) : ShelfAt K (s.put a o') c a' := by
  obtain ⟨dx, l, g1, g2⟩ := h
  exact ⟨dx, l, g1.put hp (by simpa using fun z => h2 z.symm), g2.put hp (by simpa using fun z => h3 z.symm)⟩
theorem PartsAt.put {pa A : Addr} {ld : List (Option Nat)} (h : PartsAt K s c pa A ld) (hp : At s a (c, n) o) (h2 : n ≠ 5) (h3 : n ≠ 6) : PartsAt K (s.put a o') c pa A ld := by
  obtain ⟨dx, l, g1, g2⟩ := h
  exact ⟨dx, l, g1.put hp (by simpa using fun z => h2 z.symm), g2.put hp (by simpa using fun z => h3 z.symm)⟩
theorem ExOk.put {m : Nat} {ext : List V} (h : ExOk s k b m ext) (hp : At s a (4 * k + 5, n) o) (h9 : n ≠ 9) : ExOk (s.put a o') k b m ext := by
  cases b with
  | true => exact h
  | false =>
    obtain ⟨op, sp, ks, e, h1, h2, h3⟩ := h
    exact ⟨op, sp, ks, e, h1.put hp (by simpa using fun z => h9 z.symm), h2, h3⟩
theorem WayAt.chg (h : WayAt K s k false obj A F pgs so D) {ks ks' : List Nat} (hc : At s D.cl (4 * k + 5, 7) (.dK (dS ks))) (ok : ChOk false ks' pgs.length so') : WayAt K (s.put D.cl (.dK (dS ks'))) k false obj A F pgs so' D :=
  ⟨h.fr.step (R := (· = 4 * k + 5)) (Step.put1 hc) (by omega), h.wf.soS, h.ob.put hc (by simp), h.sh.put hc (by decide) (by decide), h.mi.put hc (by simp), h.pt.put hc (by decide) (by decide), h.an.put hc (by simp), ⟨ks', hc.self, ok⟩, h.ex.put hc (by decide)⟩
theorem WayAt.opn (h : WayAt K s k false obj A F pgs so D) {op sp : Addr} {ks ks' : List Nat} (he : D.ext = [.ref op, .ref sp]) (hc : At s op (4 * k + 5, 9) (.dK (dS ks))) (n1 : ks'.Nodup) (n2 : ∀ p ∈ ks', p < pgs.length) :
    WayAt K (s.put op (.dK (dS ks'))) k false obj A F pgs so D := by
  obtain ⟨kc, g1, g2⟩ := h.ch
  exact ⟨h.fr.step (R := (· = 4 * k + 5)) (Step.put1 hc) (by omega), h.wf, h.ob.put hc (by simp), h.sh.put hc (by decide) (by decide), h.mi.put hc (by simp), h.pt.put hc (by decide) (by decide), h.an.put hc (by simp), ⟨kc, g1.put hc (by simp), g2⟩,
    op, sp, ks', he, hc.self, n1, n2⟩
theorem WayAt.setCl (h : WayAt K s k b obj A F pgs so D) {c2 : Addr} (h2 : At s c2 (4 * k + 5, 7) (.dK [])) :
    WayAt K (s.put obj (.ins (He.ga K (clsN b)) D.dx ((l_W b).zip ([.ref D.h0, .int 0, .ref A, .ref D.ml, .ref D.pa, .ref c2, .ref D.al] ++ D.ext)))) k b obj A F pgs (fun p => b && so p) { D with cl := c2 } := by
  have hc := h.ob
  refine ⟨h.fr.step (R := (· = 4 * k + 5)) (Step.put1 hc) (by omega), ?_, hc.self, h.sh.put hc (by decide) (by decide), h.mi.put hc (by simp), h.pt.put hc (by decide) (by decide), h.an.put hc (by simp), ⟨[], h2.put hc (by simp), List.nodup_nil, (fun p hp => by cases hp), fun hb p _ z => by rw [hb] at z; cases z⟩, h.ex.put hc (by decide)⟩
  cases b with
  | true => exact h.wf
  | false => exact h.wf.soS
theorem WayAt.setAl (h : WayAt K s k b obj A F pgs so D) {a2 : Addr} (h2 : At s a2 (4 * k + 5, 8) (.lst [])) :
    WayAt K (s.put obj (.ins (He.ga K (clsN b)) D.dx ((l_W b).zip ([.ref D.h0, .int 0, .ref A, .ref D.ml, .ref D.pa, .ref D.cl, .ref a2] ++ D.ext)))) k b obj A F pgs so { D with al := a2 } := by
  have hc := h.ob
  obtain ⟨kc, g1, g2⟩ := h.ch
  exact ⟨h.fr.step (R := (· = 4 * k + 5)) (Step.put1 hc) (by omega), h.wf, hc.self, h.sh.put hc (by decide) (by decide), h.mi.put hc (by simp), h.pt.put hc (by decide) (by decide), h2.put hc (by simp), ⟨kc, g1.put hc (by simp), g2⟩, h.ex.put hc (by decide)⟩
theorem WayAt.setOp (h : WayAt K s k false obj A F pgs so D) {op sp : Addr} (h2 : At s op (4 * k + 5, 9) (.dK [])) :
    WayAt K (s.put obj (.ins (He.ga K (clsN false)) D.dx ((l_W false).zip ([.ref D.h0, .int 0, .ref A, .ref D.ml, .ref D.pa, .ref D.cl, .ref D.al] ++ [.ref op, .ref sp])))) k false obj A F pgs so { D with ext := [.ref op, .ref sp] } := by
  have hc := h.ob
  obtain ⟨kc, g1, g2⟩ := h.ch
  exact ⟨h.fr.step (R := (· = 4 * k + 5)) (Step.put1 hc) (by omega), h.wf, hc.self, h.sh.put hc (by decide) (by decide), h.mi.put hc (by simp), h.pt.put hc (by decide) (by decide), h.an.put hc (by simp), ⟨kc, g1.put hc (by simp), g2⟩,
    op, sp, [], rfl, h2.put hc (by simp), List.nodup_nil, fun p hp => by cases hp⟩
theorem WayAt.new (h : WayAt K s k b obj A F pgs so D) {q : Rg} (n : s.h a = none) : WayAt K (s.new a q o) k b obj A F pgs so D := h.step (R := fun _ => False) (Step.new n) id id
theorem WayAt.ob0 (h : WayAt K s k false obj A F pgs so D) : ∃ op sp ks, D.ext = [.ref op, .ref sp] ∧ At s op (4 * k + 5, 9) (.dK (dS ks)) ∧ ks.Nodup ∧ (∀ p ∈ ks, p < pgs.length) ∧
    s.h obj = some (.ins (He.ga K "Shadows") D.dx (l_Shadows.zip [.ref D.h0, .int 0, .ref A, .ref D.ml, .ref D.pa, .ref D.cl, .ref D.al, .ref op, .ref sp])) := by
  obtain ⟨op, sp, ks, e, h1, h2, h3⟩ := h.ex
  refine ⟨op, sp, ks, e, h1, h2, h3, ?_⟩
  have z := h.ob.1
  rw [e] at z
  exact z
theorem dict_add {ks : List Nat} {p m : Nat} (h1 : ks.Nodup) (h2 : ∀ q ∈ ks, q < m) (hp : p < m) : (if p ∈ ks then ks else ks ++ [p]).Nodup ∧ (∀ q ∈ (if p ∈ ks then ks else ks ++ [p]), q < m) ∧ p ∈ (if p ∈ ks then ks else ks ++ [p]) ∧ ∀ q ∈ ks, q ∈ (if p ∈ ks then ks else ks ++ [p]) := by
  by_cases h : p ∈ ks
  · simp only [if_pos h]
    exact ⟨h1, h2, h, fun q z => z⟩
  · simp only [if_neg h]
    refine ⟨List.nodup_append.mpr ⟨h1, by simp, fun a ha b hb => ?_⟩, fun q hq => ?_, by simp, fun q hq => by simp [hq]⟩
    · have : b = p := by simpa using hb
      intro z
      rw [z, this] at ha
      exact h ha
    · rcases List.mem_append.mp hq with z | z
      · exact h2 q z
      · have : q = p := by simpa using z
        rw [this]; exact hp
theorem q_dput {H : Hp} {cl : Addr} {ks : List Nat} {p : Nat} {N : Hp → Prop} (h : H cl = some (.dK (dS ks))) (hl : ks.length ≤ 1000) (q : N (upd H cl (.dK (dS (if p ∈ ks then ks else ks ++ [p]))))) : ∃ a H4, V.ref cl = .ref a ∧ DPut H a (.int p) (.bl true) H4 ∧ N H4 := by
  refine ⟨cl, _, rfl, DPut.k (k := Sum.inl (p : Int)) h ?_, ?_⟩
  · have : (1001 : Nat) ≤ sizeLine := by decide
    rw [dS, List.length_map]
    omega
  · rw [dS_put]
    exact q
end
section
variable {P : Program} {w : World} {K : PySem.W.Frag} {mg : Str → Option Value} {base : Heap} {b : Bool}
theorem ok_Kept_fetch (T : TX K mg) : Fn P w K mg base false 6 (He.ma K (He.ga K "Kept") "fetch") (sp_W_read K false) := by
  refine (f_Kept_fetch T).calm 5 (fun vs H Q E h => len1 (n := 2) (fun s k obj A F pgs so D xs Q z => by obtain ⟨_, _, _, _, z, _⟩ := z; rw [z] <;> rfl) h) (fun cdv A outer s H vs Q E hr h => ?_)
  obtain ⟨r, k, obj, A, F, pgs, so, D, xs, rfl, hW, p, j, ws, x, rfl, hp, hx, q⟩ := h
  obtain ⟨f, ef, et⟩ := hW.lead hp
  have h1 : H obj = some _ := hW.ob.1
  obtain ⟨dx, ll, g1, g2⟩ := hW.pt
  have h2 : H D.pa = some _ := g1.1
  obtain ⟨dx', hl', ol, hs, hF'⟩ := hW.fr
  have h3 : H A = some _ := hF'.obj.1
  refine ⟨_, pss_one (ps_ret (x_m (ok_Frames_read T) (can hr) (kls_Frames T) (m_Frames_read T) (fun _ => pas0) (y_fld (i := 2) (kls_W T false) (pv 0) (iW2 false)) (pa_cons (x_m (ok_Parts_frame T) (can hr) (kls_Parts T) (m_Parts_frame T) (fun _ => pas0) (y_fld (i := 4) (kls_W T false) (pv 0) (iW4 false)) (pa_cons (pv 1) pa_nil)) (pa_cons (pv 2) pa_nil)))), ?_⟩
  walk_at "w"
  refine ⟨r, _, _, _, _, p, f, rfl, hW.pt, by rw [List.getElem?_map, ef] <;> rfl, ?_⟩
  walk_at "w"
  exact ⟨r, _, A, F, f, ws, j, x, rfl, hW.fr, et, hx, q _ ⟨H, r⟩ Step.refl ⟨rfl, F, (fun _ => rfl), hW⟩⟩
theorem ok_W_fetch (T : TX K mg) (b : Bool) : Fn P w K mg base false 8 (wf_fetch K b) (sp_W_read K b) := match b with
  | true => ok_Pairs_fetch T
  | false => (ok_Kept_fetch T).mono (by decide)
theorem ok_W_read (T : TX K mg) (b : Bool) : Fn P w K mg base false 9 (wf_read K b) (sp_W_read K b) := by
  refine (f_Kept_read T).calm 8 (fun vs H Q E h => len1 (n := 2) (fun s k obj A F pgs so D xs Q z => by obtain ⟨_, _, _, _, z, _⟩ := z; rw [z] <;> rfl) h) (fun cdv A outer s H vs Q E hr h => ?_)
  obtain ⟨r, k, obj, A, F, pgs, so, D, xs, rfl, hW, p, j, ws, x, rfl, hp, hx, q⟩ := h
  have h1 : H obj = some _ := hW.ob.1
  have okp := hW.okPg hp
  have hj : j < 8 := by rw [← okp.1]; exact (List.getElem?_eq_some_iff.mp hx).1
  refine ⟨_, pss_cons (ps_expr (x_m (ok_W_look_for T b) (can hr) (kls_W T b) (m_W_look_for T b) (fun _ => pas0) (pv 0) (pa_cons (pv 1) (pa_cons (pv 2) pa_nil)))) (pss_one (ps_ret (x_m (ok_W_fetch T b) (can hr) (kls_W T b) (m_W_fetch T b) (fun _ => pas0) (pv 0) (pa_cons (pv 1) (pa_cons (pv 2) pa_nil))))), ?_⟩
  walk_at "w"
  refine ⟨r, k, obj, A, F, pgs, so, D, _, rfl, hW, p, j, rfl, (List.getElem?_eq_some_iff.mp hp).1, hj, ?_⟩
  walk_at "w"
  exact ⟨r, k, obj, A, F, pgs, so, D, _, rfl, hW, p, j, ws, x, rfl, hp, hx, q⟩
theorem ok_Kept_deposit (T : TX K mg) : Fn P w K mg base false 7 (He.ma K (He.ga K "Kept") "deposit") (sp_W_write K false) := by
  refine (f_Kept_deposit T).calm 6 (fun vs H Q E h => len1 (n := 3) (fun s k obj A F pgs so D xs Q z => by obtain ⟨_, _, _, _, z, _⟩ := z; rw [z] <;> rfl) h) (fun cdv A outer s H vs Q E hr h => ?_)
  obtain ⟨r, k, obj, A, F, pgs, so, D, xs, rfl, hW, p, j, ws, x, rfl, hp, hj, hx, q⟩ := h
  obtain ⟨f, ef, et⟩ := hW.lead hp
  have hpl := (List.getElem?_eq_some_iff.mp hp).1
  have h1 : H obj = some _ := hW.ob.1
  obtain ⟨ks, hc, n1, n2, n3⟩ := hW.ch
  obtain ⟨k1, k2, k3, k4⟩ := dict_add n1 n2 hpl
  have hW1 : WayAt K _ k false obj A F pgs (addSo so p) D := hW.chg hc (ks' := if p ∈ ks then ks else ks ++ [p]) ⟨k1, k2, fun _ q hq hs => by
    by_cases z : q = p
    · rw [z]; exact k3
    · exact k4 q (n3 rfl q hq (by unfold addSo at hs; rw [if_neg z] at hs; exact hs))⟩
  have h2 : (upd H D.cl (.dK (dS (if p ∈ ks then ks else ks ++ [p])))) obj = some _ := hW1.ob.1
  obtain ⟨dx, ll, g1, g2⟩ := hW1.pt
  have h3 : (upd H D.cl (.dK (dS (if p ∈ ks then ks else ks ++ [p])))) D.pa = some _ := g1.1
  obtain ⟨dx', hl', ol, hs, hF'⟩ := hW1.fr
  have h4 : (upd H D.cl (.dK (dS (if p ∈ ks then ks else ks ++ [p])))) A = some _ := hF'.obj.1
  refine ⟨_, pss_cons (ps_expr (x_m (ok_W_put_alone T false) (can hr) (kls_W T false) (m_W_put_alone T false) (fun _ => pas0) (pv 0) (pa_cons (pv 1) pa_nil))) (pss_cons (ps_dput (hu_of hr) (y_fld (i := 5) (kls_W T false) (pv 0) (iW5 false)) (pv 1) pe_bl rfl) (pss_one (ps_expr (x_m (ok_Frames_write T) (can hr) (kls_Frames T) (m_Frames_write T) (fun _ => pas0) (y_fld (i := 2) (kls_W T false) (pv 0) (iW2 false)) (pa_cons (x_m (ok_Parts_frame T) (can hr) (kls_Parts T) (m_Parts_frame T) (fun _ => pas0) (y_fld (i := 4) (kls_W T false) (pv 0) (iW4 false)) (pa_cons (pv 1) pa_nil)) (pa_cons (pv 2) (pa_cons (pv 3) pa_nil))))))), ?_⟩
  walk_at "w"
  refine ⟨r, k, obj, A, F, pgs, so, D, _, rfl, hW, p, rfl, hpl, ?_⟩
  walk_at "w"
  refine q_dput hc.1 (Nat.le_trans (below_len n1 n2) (Nat.le_trans hW.wf.sz.2 (by decide))) ?_
  walk_at "w"
  refine ⟨r, _, _, _, _, p, f, rfl, hW1.pt, by rw [List.getElem?_map, ef] <;> rfl, ?_⟩
  walk_at "w"
  refine ⟨r, _, A, F, f, ws, j, x, rfl, hW1.fr, et, hj, hx, ?_⟩
  rintro v t st ⟨rfl, hF2⟩
  have hW2 := hW1.frames st hF2 (hW1.wf.page ef hp (ws' := ws.set j x)) (by rw [List.length_set]) (fun _ _ z => z)
  walk_at "w"
  exact q _ t ((Step.put (R := RWy k) hc (.inr rfl)).trans (st.mono fun _ z => .inl z)) ⟨rfl, _, hW2⟩
theorem ok_Shadows_deposit (T : TX K mg) : Fn P w K mg base false 8 (He.ma K (He.ga K "Shadows") "deposit") (sp_W_write K false) := by
  refine (f_Shadows_deposit T).calm 7 (fun vs H Q E h => len1 (n := 3) (fun s k obj A F pgs so D xs Q z => by obtain ⟨_, _, _, _, z, _⟩ := z; rw [z] <;> rfl) h) (fun cdv A outer s H vs Q E hr h => ?_)
  obtain ⟨r, k, obj, A, F, pgs, so, D, xs, rfl, hW, p, j, ws, x, rfl, hp, hj, hx, q⟩ := h
  have hpl := (List.getElem?_eq_some_iff.mp hp).1
  refine ⟨_, pss_cons (ps_expr (x_cls (ok_Kept_deposit T) (can hr) (cd_Kept_deposit T) (g_Kept T) (f_Kept_deposit T).kp (fun _ => pas0) (pa_cons (pv 0) (pa_cons (pv 1) (pa_cons (pv 2) (pa_cons (pv 3) pa_nil)))))) (pss_one (ps_dput (hu_of hr) (y_fld (i := 7) (kls_Shadows T) (pv 0)) (pv 1) pe_bl rfl)), ?_⟩
  walk_at "w"
  refine ⟨r, k, obj, A, F, pgs, so, D, _, rfl, hW, p, j, ws, x, rfl, hp, hj, hx, ?_⟩
  rintro v t st ⟨rfl, F', hW1⟩
  obtain ⟨op, sp, ks, he, hc, n1, n2, h1⟩ := hW1.ob0
  rw [List.length_set] at n2
  obtain ⟨k1, k2, k3, k4⟩ := dict_add n1 n2 hpl
  walk_at "w"
  refine q_dput hc.1 (Nat.le_trans (below_len n1 n2) (Nat.le_trans hW.wf.sz.2 (by decide))) ?_
  exact q _ _ (st.trans (Step.put hc (.inr rfl))) ⟨rfl, F', hW1.opn he hc k1 (by rw [List.length_set]; exact k2)⟩
theorem ok_W_deposit (T : TX K mg) (b : Bool) : Fn P w K mg base false 9 (wf_deposit K b) (sp_W_write K b) := match b with
  | true => ok_Pairs_deposit T
  | false => (ok_Shadows_deposit T).mono (by decide)
theorem ok_W_write (T : TX K mg) (b : Bool) : Fn P w K mg base false 10 (wf_write K b) (sp_W_write K b) := by
  refine (f_Kept_write T).calm 9 (fun vs H Q E h => len1 (n := 3) (fun s k obj A F pgs so D xs Q z => by obtain ⟨_, _, _, _, z, _⟩ := z; rw [z] <;> rfl) h) (fun cdv A outer s H vs Q E hr h => ?_)
  obtain ⟨r, k, obj, A, F, pgs, so, D, xs, rfl, hW, p, j, ws, x, rfl, hp, hj, hx, q⟩ := h
  have h1 : H obj = some _ := hW.ob.1
  refine ⟨_, pss_cons (ps_expr (x_m (ok_W_look_for T b) (can hr) (kls_W T b) (m_W_look_for T b) (fun _ => pas0) (pv 0) (pa_cons (pv 1) (pa_cons (pv 2) pa_nil)))) (pss_cons (ps_if (pt_not (pt_val (x_call (ok_is_word T) (can hr) (g_is_word T) (f_is_word T).kp (fun _ => pas0) (pa_cons (pv 3) pa_nil)))) (pss_one ps_never) pss_nil) (pss_one (ps_expr (x_m (ok_W_deposit T b) (can hr) (kls_W T b) (m_W_deposit T b) (fun _ => pas0) (pv 0) (pa_cons (pv 1) (pa_cons (pv 2) (pa_cons (pv 3) pa_nil))))))), ?_⟩
  walk_at "w"
  refine ⟨r, k, obj, A, F, pgs, so, D, _, rfl, hW, p, j, rfl, (List.getElem?_eq_some_iff.mp hp).1, hj, ?_⟩
  walk_at "w"
  refine ⟨r, k, obj, A, F, pgs, so, D, _, rfl, hW, p, j, ws, x, rfl, hp, hj, hx, ?_⟩
  rintro v t st ⟨rfl, z⟩
  walk_at "w"
  exact q _ t st ⟨rfl, z⟩
/-- a word poked: the spot of a page's cell -/
def sp_W_poke (K : PySem.W.Frag) (b : Bool) : Sp := spW K b fun s k obj A F pgs so D xs Q => ∃ (i x : Int) (p j : Nat) (ws : List Int), xs = [.int i, .int x] ∧ i = 8 * (p : Int) + j ∧ pgs[p]? = some ws ∧ j < 8 ∧ isW x ∧
  Does (RWy k) s Q fun v t => v = .non ∧ ∃ F', WayAt K t k b obj A F' (pgs.set p (ws.set j x)) (addSo so p) D
theorem ok_W_poke (T : TX K mg) (b : Bool) : Fn P w K mg base false 11 (wf_poke K b) (sp_W_poke K b) := by
  refine (f_Ways_poke T).calm 10 (fun vs H Q E h => len1 (n := 2) (fun s k obj A F pgs so D xs Q z => by obtain ⟨_, _, _, _, _, z, _⟩ := z; rw [z] <;> rfl) h) (fun cdv A outer s H vs Q E hr h => ?_)
  obtain ⟨r, k, obj, A, F, pgs, so, D, xs, rfl, hW, i, x, p, j, ws, rfl, hi, hp, hj, hx, q⟩ := h
  have h1 : H obj = some _ := hW.ob.1
  have hpl := (List.getElem?_eq_some_iff.mp hp).1
  refine ⟨_, pss_one (ps_expr (x_m (ok_W_write T b) (can hr) (kls_W T b) (m_W_write T b) (fun _ => pas0) (pv 0) (pa_cons (x_m (ok_W_page_at T b) (can hr) (kls_W T b) (m_W_page_at T b) (fun _ => pas0) (pv 0) (pa_cons (pv 1) pa_nil)) (pa_cons (pe_op op_mod (pv 1) pe_int) (pa_cons (pv 2) pa_nil))))), ?_⟩
  walk_at "w"
  refine ⟨r, k, obj, A, F, pgs, so, D, _, rfl, hW, i, rfl, by omega, by omega, ?_⟩
  rw [show i / 8 = (p : Nat) by omega]
  walk_at "w"
  rw [show i % 8 = (j : Nat) by omega]
  refine ⟨r, k, obj, A, F, pgs, so, D, _, rfl, hW, p, j, ws, x, rfl, hp, hj, hx, ?_⟩
  rintro v t st ⟨rfl, z⟩
  walk_at "w"
  exact q _ t st ⟨rfl, z⟩
theorem ok_Ways_words_of (T : TX K mg) : Fn P w K mg base false 10 (He.ma K (He.ga K "Ways") "words_of") (sp_W_words_of K false) := by
  refine (f_Ways_words_of T).calm 9 (fun vs H Q E h => len1 (n := 1) (fun s k obj A F pgs so D xs Q z => by obtain ⟨_, _, z, _⟩ := z; rw [z] <;> rfl) h) (fun cdv A outer s H vs Q E hr h => ?_)
  obtain ⟨r, k, obj, A, F, pgs, so, D, xs, rfl, hW, p, ws, rfl, hp, q⟩ := h
  have h1 : H obj = some _ := hW.ob.1
  have okp := hW.okPg hp
  refine ⟨_, pss_cons (ps_if (pt_not (pt_val (x_m (ok_W_has T false) (can hr) (kls_W T false) (m_W_has T false) (fun _ => pas0) (pv 0) (pa_cons (pv 1) pa_nil)))) (pss_one (ps_ret pe_non)) pss_nil) (pss_one (ps_ret (pe_lc (own := [("cell", 2)]) (g := gName 2) rfl (f_Ways_words_of T).nd (pi_range1 rfl (z_range T) (pa_cons pe_int pa_nil)) (blkOk_by (own := [("cell", 2)]) (N := ["self", "page", "cell"]) (sc := defScope s_Ways_words_of) (by decide +kernel)) (fun _ _ _ _ _ => pg_name (i := 2) (f_Ways_words_of T).nd rfl (Or.inl rfl)) (fun _ _ _ _ _ => pts_nil) (fun _ _ _ _ _ => (x_m (ok_W_read T false) (can hr) (kls_W T false) (m_W_read T false) (fun _ => pas0) (pv 0) (pa_cons (pv 1) (pa_cons (pv 2) pa_nil))))))), ?_⟩
  walk_at "w"
  refine ⟨r, k, obj, A, F, pgs, so, D, _, rfl, hW, p, rfl, (List.getElem?_eq_some_iff.mp hp).1, ?_⟩
  walk_at "w"
  refine lc_mapR (m := 8) (ys := ws.map V.int) (fun R z => ?_) (by decide) (by rw [List.length_map]; exact okp.1) (fun j y H1 hj hy e1 Q' z => ?_) fun l H' n e1 d => q l H' n e1 d
  · exact z
  · obtain ⟨x, hx, rfl⟩ := getMap hy
    have hW1 := hW.same e1
    have h1 : H1 obj = some _ := hW1.ob.1
    walk_at "w"
    refine ⟨r, k, obj, A, F, pgs, so, D, _, rfl, hW1, p, j, ws, x, rfl, hp, hx, ?_⟩
    rintro v t st ⟨rfl, _⟩
    exact z _ (Step.toSame (s := ⟨H1, r⟩) st (fun c hc => by cases hc.1))
theorem ok_W_words_of (T : TX K mg) (b : Bool) : Fn P w K mg base false 10 (wf_words_of K b) (sp_W_words_of K b) := match b with
  | true => (ok_Pairs_words_of T).mono (by decide)
  | false => ok_Ways_words_of T
/-- lists of words, by regions -/
def PgsR (s : HS) (l : Addr) (c0 c1 : Nat) (pgs : List (List Int)) : Prop := ∃ as : List Addr, At s l (c0, 0) (.lst (as.map V.ref)) ∧ as.length = pgs.length ∧ ∀ (i : Nat) (a : Addr) (ws : List Int), as[i]? = some a → pgs[i]? = some ws → At s a (c1, 0) (.lst (ws.map V.int))
theorem PgsR.step {s t : HS} {l : Addr} {c0 c1 : Nat} {pgs : List (List Int)} {R : Nat → Prop} (h : PgsR s l c0 c1 pgs) (st : Step R s t) (n0 : ¬ R c0) (n1 : ¬ R c1) : PgsR t l c0 c1 pgs := by
  obtain ⟨as, h1, h2, h3⟩ := h
  exact ⟨as, h1.step st n0, h2, fun i a ws x y => (h3 i a ws x y).step st n1⟩
def sp_W_pages (K : PySem.W.Frag) (b : Bool) : Sp := spW K b fun s k obj A F pgs so D xs Q => xs = [] ∧ Does (fun _ => False) s Q fun v t => ∃ l, v = .ref l ∧ PgsR t l 0 100 pgs
theorem ok_W_pages (T : TX K mg) (b : Bool) : Fn P w K mg base false 11 (wf_pages K b) (sp_W_pages K b) := by
  refine (f_Ways_pages T).calm 10 (fun vs H Q E h => len1 (n := 0) (fun s k obj A F pgs so D xs Q z => by rw [z.1] <;> rfl) h) (fun cdv A outer s H vs Q E hr h => ?_)
  obtain ⟨r, k, obj, A, F, pgs, so, D, xs, rfl, hW, rfl, q⟩ := h
  have h1 : H obj = some _ := hW.ob.1
  have hn := hW.wf.sz.2
  refine ⟨_, pss_one (ps_ret (pe_lc (own := [("page", 1)]) (g := gName 1) rfl (f_Ways_pages T).nd (pi_range1 rfl (z_range T) (pa_cons (x_m0 (ok_W_size T b) (can hr) (kls_W T b) (m_W_size T b) (fun _ => pas0) (pv 0)) pa_nil)) (blkOk_by (own := [("page", 1)]) (N := ["self", "page"]) (sc := defScope s_Ways_pages) (by decide +kernel)) (fun _ _ _ _ _ => pg_name (i := 1) (f_Ways_pages T).nd rfl (Or.inl rfl)) (fun _ _ _ _ _ => pts_nil) (fun _ _ _ _ _ => (x_m (ok_W_words_of T b) (can hr) (kls_W T b) (m_W_words_of T b) (fun _ => pas0) (pv 0) (pa_cons (pv 1) pa_nil))))), ?_⟩
  walk_at "w"
  refine lc_doesR (s0 := ⟨H, r⟩) (m := pgs.length) (R := fun _ => False) (J := fun i ys t => ∃ as : List Addr, ys = as.map V.ref ∧ as.length = i ∧ ∀ (j : Nat) (a : Addr) (ws : List Int), as[j]? = some a → pgs[j]? = some ws → At t a (100, 0) (.lst (ws.map V.int)))
    (0, 0) (fun R z => ?_) (by omega) id (fun i ys s t st ⟨as, e1, e2, e3⟩ => ⟨as, e1, e2, fun j a ws x y => (e3 j a ws x y).step st (by decide)⟩) ⟨[], rfl, rfl, fun j a ws x => by cases x⟩ (fun i ys t hi st ⟨as, e1, e2, e3⟩ Q' z => ?_) fun l t ys n st hl hlen ⟨as, e1, e2, e3⟩ => ?_
  · walk_at "w"
    refine ⟨r, k, obj, A, F, pgs, so, D, _, rfl, hW, rfl, ?_⟩
    exact z
  · have hW1 := hW.step st id id
    have h1 : t.h obj = some _ := hW1.ob.1
    walk_at "w"
    refine ⟨t.r, k, obj, A, F, pgs, so, D, _, rfl, hW1, i, _, rfl, List.getElem?_eq_getElem hi, fun l H' n e d => ?_⟩
    obtain ⟨u, rfl, su, hu⟩ := HS.grow (s := t) n e d (100, 0)
    refine z _ u su ⟨as ++ [l], by rw [e1, List.map_append] <;> rfl, by rw [List.length_append, e2] <;> rfl, fun j a ws x y => ?_⟩
    by_cases hj : j < as.length
    · rw [List.getElem?_append_left hj] at x
      exact (e3 j a ws x y).step su id
    · rw [List.getElem?_append_right (by omega)] at x
      have hj0 : j - as.length = 0 := by
        have := (List.getElem?_eq_some_iff.mp x).1
        simp at this
        omega
      rw [hj0] at x
      cases x
      have : j = i := by omega
      subst this
      rw [List.getElem?_eq_getElem hi] at y
      cases y
      exact hu
  · exact q _ t st ⟨l, rfl, as, by rw [← e1]; exact hl, e2, e3⟩
theorem ok_Kept_soiled (T : TX K mg) : Fn P w K mg base false 1 (He.ma K (He.ga K "Kept") "soiled") (sp_W_soiled K false) := by
  refine (f_Kept_soiled T).calm 0 (fun vs H Q E h => len1 (n := 0) (fun s k obj A F pgs so D xs Q z => by rw [z.1] <;> rfl) h) (fun cdv A outer s H vs Q E hr h => ?_)
  obtain ⟨r, k, obj, A, F, pgs, so, D, xs, rfl, hW, rfl, q⟩ := h
  have h1 : H obj = some _ := hW.ob.1
  have hn := hW.wf.sz.2
  obtain ⟨ks, hc, n1, n2, n3⟩ := hW.ch
  have hlen := below_len n1 n2
  refine ⟨_, pss_one (ps_ret (pe_callB (call_sortedDI rfl) (by rfl) (z_sorted T) bb_sorted (pa_cons (y_fld (i := 5) (kls_W T false) (pv 0) (iW5 false)) pa_nil))), ?_⟩
  walk_at "w"
  refine ⟨D.cl, _, ks.map Int.ofNat, rfl, Rd.of hc.1, ?_, by rw [List.length_map]; omega, fun ys p hp hs np => ?_⟩
  · rw [dS, List.map_map, List.map_map]
    rfl
  · have hy : ∀ y ∈ ys, 0 ≤ y := fun y hy => by
      obtain ⟨n, _, rfl⟩ := List.mem_map.mp (hp.mem_iff.mp hy)
      exact Int.natCast_nonneg n
    have e : ys.map V.int = (ys.map Int.toNat).map natV := by
      rw [List.map_map]
      refine List.map_congr_left fun y h => ?_
      simp only [Function.comp, natV]
      rw [Int.toNat_of_nonneg (hy y h)]
    refine q p _ (ys.map Int.toNat) np (same_new np) (by rw [upd_same, e]) (by rw [List.length_map, hp.length_eq, List.length_map]; omega) (fun x hx => ?_) fun x hx hs => ?_
    · obtain ⟨y, hy1, rfl⟩ := List.mem_map.mp hx
      obtain ⟨n, hn1, rfl⟩ := List.mem_map.mp (hp.mem_iff.mp hy1)
      exact n2 n hn1
    · exact List.mem_map.mpr ⟨Int.ofNat x, hp.mem_iff.mpr (List.mem_map.mpr ⟨x, n3 rfl x hx hs, rfl⟩), rfl⟩
theorem ok_W_soiled (T : TX K mg) (b : Bool) : Fn P w K mg base false 7 (wf_soiled K b) (sp_W_soiled K b) := match b with
  | true => ok_Pairs_soiled T
  | false => (ok_Kept_soiled T).mono (by decide)
end
end SP

/-! B12 -/
set_option maxHeartbeats 4100000
namespace SP
open PySem PySem.Spec PyProof.Rows L2 L2H
local macro_rules | `(tactic| walk_at "u") => `(tactic| (dsimp only [tRet, tSeq, tAsg, tDrop, tIfS, tNext, tRetN, tBreak, tCont, tOp, tUn, tCons, tNil, tCallX, tM, tF, sSet, sNew, sAug, tMakeX, tTest, tB, tAnd, tOr, tNot, tAndV, tOrV, tNotV, tIf, tChain, tCB, tBM, tBM0, tTup, tLst, gName, tC, tIsN, tNotN, tDIn, tDNotIn, tDGet, sDPut, tDPop1, gCons, gNil, tSl, tPart, tNoPart, tYes, tVeI]))
local macro_rules | `(tactic| walk_at "o") => `(tactic| (first | assumption | (with_reducible rfl) | omega | (intro hh; cases hh; done) | (simp only [List.length_map, List.length_replicate, List.length_range, List.length_append, List.length_cons, List.length_nil]; omega)))
local macro_rules | `(tactic| walk_at "q") => `(tactic| (repeat (first
  | ((with_reducible refine' q_var ?hq ?_); (case hq => rfl))
  | ((with_reducible refine' q_pF ?ha ?hq ?_); (case ha => assumption); (case hq => rfl))
  | ((with_reducible refine' q_pM ?ha ?_); (case ha => assumption))
  | (with_reducible refine q_I0 ?_)
  | (with_reducible refine q_isInt ?_)
  | (with_reducible refine q_isBool ?_)
  | (with_reducible refine iteT ?_)
  | (with_reducible refine iteF ?_)
  | (with_reducible refine iteNT ?_)
  | (with_reducible refine iteNF ?_)
  | (with_reducible refine q_eqI ?_)
  | (with_reducible refine q_neI ?_)
  | ((with_reducible refine' q_eq ?hq ?_); (case hq => rfl))
  | ((with_reducible refine' q_ne ?hq ?_); (case hq => rfl))
  | (with_reducible refine q_lenL (by assumption) ?_)
  | (with_reducible refine q_lenT (by assumption) ?_)
  | (with_reducible refine q_is_whole ?_)
  | (with_reducible refine q_is_word ?_)
  | (with_reducible refine q_is_below ?_)
  | ((with_reducible refine' And.intro (q_tyL ?ha) ?_); (case ha => assumption))
  | (with_reducible refine q_ip ?_)
  | (with_reducible refine q_rAdd ?_)
  | (with_reducible refine q_rSub ?_)
  | (with_reducible refine q_has ?_)
  | (with_reducible refine q_put ?_)
  | (with_reducible refine q_taken ?_)
  | (with_reducible refine q_page_of ?_)
  | (with_reducible refine q_pow48 ?_)
  | (with_reducible refine q_pow40 ?_)
  | ((with_reducible refine' q_I ?hq ?_); (case hq => first | assumption | decide | omega | exact q_div1 (by omega) _ | exact mul_ok (by omega) | exact pow_ok (by decide)))
  | ((with_reducible refine' ite_y ?hq ?_); (case hq => walk_at "o"))
  | ((with_reducible refine' ite_n ?hq ?_); (case hq => walk_at "o"))
  | ((with_reducible refine' ite_nn ?hq ?_); (case hq => walk_at "o"))
  | ((with_reducible refine' ite_ny ?hq ?_); (case hq => walk_at "o"))
  | (with_reducible
                    refine ⟨_, rfl, ?_⟩)
  | (with_reducible refine ⟨_, _, rfl, ?_⟩)
  | (with_reducible refine ⟨rfl, ?_⟩))))
local macro_rules | `(tactic| walk_at "w") => `(tactic| ((try (walk_at "u")); (walk_at "q"); (try (walk_at "u")); (walk_at "q")))
theorem zeros_get {i : Nat} (h : i < 8) : zeros[i]? = some 0 := by
  unfold zeros
  rw [List.getElem?_replicate, if_pos h]
theorem has0 : decide (Builtin.bitAnd 0 1 = 1) = false := by decide +kernel
def sp_Sh_low_table (K : PySem.W.Frag) : Sp := spW K false fun s k obj A F pgs so D xs Q => ∃ p : Nat, xs = [.int p] ∧ p < 8 ∧ Q .non s.h
section
variable {P : Program} {w : World} {K : PySem.W.Frag} {mg : Str → Option Value} {base : Heap} {b : Bool}
theorem ok_Shadows_low_table (T : TX K mg) : Fn P w K mg base false 6 (He.ma K (He.ga K "Shadows") "low_table") (sp_Sh_low_table K) := by
  refine (f_Shadows_low_table T).calm 5 (fun vs H Q E h => len1 (n := 1) (fun s k obj A F pgs so D xs Q z => by obtain ⟨_, z, _⟩ := z; rw [z] <;> rfl) h) (fun cdv A outer s H vs Q E hr h => ?_)
  obtain ⟨r, k, obj, A, F, pgs, so, D, xs, rfl, hW, p, rfl, hp, q⟩ := h
  obtain ⟨op, sp, ks, he, hc, n1, n2, h1⟩ := hW.ob0
  have h1 : H obj = some _ := h1
  obtain ⟨m0, e0, t0⟩ := hW.wf.tab
  obtain ⟨dx', hl', ol, hs, hF'⟩ := hW.fr
  have h3 : H A = some _ := hF'.obj.1
  refine ⟨_, pss_cons (ps_set (i := 2) (f_Shadows_low_table T).nd rfl (Or.inl rfl) (x_m (ok_Frames_read T) (can hr) (kls_Frames T) (m_Frames_read T) (fun _ => pas0) (y_fld (i := 2) (kls_Shadows T) (pv 0)) (pa_cons (pe_ix ix_list (y_fld (i := 3) (kls_Shadows T) (pv 0)) pe_int (fun _ _ => rfl)) (pa_cons (pv 1) pa_nil)))) (pss_cons (ps_if (pt_not (pt_val (x_call (ok_has T) (can hr) (g_has T) (f_has T).kp (fun _ => pas0) (pa_cons (pv 2) (pa_cons (x_glob (k_PRESENT T)) pa_nil))))) (pss_one (ps_ret pe_non)) pss_nil) (pss_one (ps_ret (x_call (ok_page_of T) (can hr) (g_page_of T) (f_page_of T).kp (fun _ => pas0) (pa_cons (pv 2) pa_nil))))), ?_⟩
  walk_at "w"
  refine q_ixL hW.mi.1 (v := .int m0) (atI_nat (j := 0) (by rw [List.getElem?_map, e0] <;> rfl)) ?_
  walk_at "w"
  refine ⟨r, _, A, F, m0, zeros, p, 0, rfl, hW.fr, t0, zeros_get hp, ?_⟩
  walk_at "w"
  exact q
theorem ok_Shadows_rows (T : TX K mg) : Fn P w K mg base false 7 (He.ma K (He.ga K "Shadows") "rows") (sp_W_nil K false) := by
  refine (f_Shadows_rows T).calm 6 (fun vs H Q E h => len1 (n := 0) (fun s k obj A F pgs so D xs Q z => by rw [z.1] <;> rfl) h) (fun cdv A outer s H vs Q E hr h => ?_)
  obtain ⟨r, k, obj, A, F, pgs, so, D, xs, rfl, hW, rfl, q⟩ := h
  refine ⟨_, pss_cons (ps_set (i := 1) (f_Shadows_rows T).nd rfl (Or.inl rfl) (pe_lst pa_nil)) (pss_cons (ps_for (passes_of rfl) rfl (pi_range1 rfl (z_range T) (pa_cons pe_int pa_nil)) (pg_name (i := 2) (f_Shadows_rows T).nd rfl (Or.inl rfl)) (pss_cons (ps_set (i := 3) (f_Shadows_rows T).nd rfl (Or.inl rfl) (x_m (ok_Shadows_low_table T) (can hr) (kls_Shadows T) (m_Shadows_low_table T) (fun _ => pas0) (pv 0) (pa_cons (pv 2) pa_nil))) (pss_cons (ps_if (pt_cmp (pc_isN (pv 3))) (pss_one ps_continue) pss_nil) (pss_one ps_never)))) (pss_one (ps_ret (pv 1)))), ?_⟩
  walk_at "w"
  refine ⟨(show 0 ≤ sizeLine by decide), fun l hl => ?_⟩
  have hW1 := hW.new (o := .lst []) (q := (0, 0)) hl
  obtain ⟨op, sp, ks, he, hc, n1, n2, h1⟩ := hW1.ob0
  have h1 : (upd H l (.lst [])) obj = some _ := h1
  walk_at "w"
  refine fr_range (m := 8) (fun i σ H2 => (∃ u v w z, σ = [some (V.ref obj), some (V.ref l), u, v, w, z]) ∧ H2 = upd H l (.lst [])) (fun R z => z) (by decide) ⟨⟨_, _, _, _, rfl⟩, rfl⟩ (fun i σ H2 hi ⟨⟨u, v, w, z, hσ⟩, e2⟩ => ?_) fun σ H2 ⟨⟨u, v, w, z, hσ⟩, e2⟩ => ?_
  · subst hσ e2
    walk_at "w"
    refine ⟨_, k, obj, A, F, pgs, so, D, _, rfl, hW1, i, rfl, hi, ?_⟩
    walk_at "w"
    exact ⟨⟨_, _, _, _, rfl⟩, rfl⟩
  · subst hσ e2
    walk_at "w"
    exact q l hl
theorem ok_Shadows_washed (T : TX K mg) : Fn P w K mg base false 8 (He.ma K (He.ga K "Shadows") "washed") (fun vs H Q E => ∃ r k obj A F pgs D, vs = [.ref obj] ∧ WayAt K ⟨H, r⟩ k false obj A F pgs (fun _ => false) D ∧ Does (RWy k) ⟨H, r⟩ Q fun v t => v = .non ∧ ∃ F' D', WayAt K t k false obj A F' pgs (fun _ => false) D') := by
  refine (f_Shadows_washed T).calm 7 (fun vs H Q E h => by obtain ⟨_, _, _, _, _, _, _, z, _⟩ := h; rw [z] <;> rfl) (fun cdv A outer s H vs Q E hr h => ?_)
  obtain ⟨r, k, obj, A, F, pgs, D, rfl, hW, q⟩ := h
  obtain ⟨op, sp, ks, he, hc, n1, n2, h1⟩ := hW.ob0
  refine ⟨_, pss_cons (x_set (kls_Shadows T) 7 (pv 0) pe_dnewK) (pss_one (ps_for (passes_of rfl) rfl (pi_list (x_m0 (ok_Shadows_rows T) (can hr) (kls_Shadows T) (m_Shadows_rows T) (fun _ => pas0) (pv 0))) (pg_name (i := 1) (f_Shadows_washed T).nd rfl (Or.inl rfl)) (pss_one ps_never))), ?_⟩
  unfold tDNewK
  walk_at "w"
  refine fun d hd => ?_
  have hW1 := hW.new (o := .dK []) (q := (4 * k + 5, 9)) hd
  have hd1 := At.made (s := HS.mk H r) (a := d) (q := (4 * k + 5, 9)) (o := .dK [])
  obtain ⟨_, _, _, he', _, _, _, h1'⟩ := hW1.ob0
  rw [he] at he'
  obtain ⟨rfl, rfl⟩ : op = _ ∧ sp = _ := by simpa using he'
  walk_at "w"
  refine q_pSet h1' (by simp) ?_
  have hW2 := hW1.setOp (op := d) (sp := sp) hd1
  have h2 : _ = some _ := hW2.ob.1
  have st : Step (RWy k) ⟨H, r⟩ _ := (Step.new (s := HS.mk H r) (q := (4 * k + 5, 9)) (o := .dK []) hd).trans (Step.put (o' := .ins (He.ga K (clsN false)) D.dx ((l_W false).zip ([.ref D.h0, .int 0, .ref A, .ref D.ml, .ref D.pa, .ref D.cl, .ref D.al] ++ [.ref d, .ref sp]))) hW1.ob (.inr rfl))
  refine fr_list0 ?_
  walk_at "u"
  refine q_var rfl ?_
  refine q_pM h2 ?_
  walk_at "w"
  refine ⟨_, k, obj, A, F, pgs, _, _, _, rfl, hW2, rfl, fun l hl => ?_⟩
  refine ⟨l, rfl, ⟨_, SqL.of upd_same⟩, ?_⟩
  refine fo_list (xs := []) (fun i σ H2 => H2 = upd _ l (.lst []) ) rfl (fun i σ H2 _ e => by subst e; exact SqL.of upd_same) (fun i x σ H2 hx => by cases hx) fun σ H2 e => ?_
  subst e
  exact q _ (HS.new _ l (0, 0) (.lst [])) (st.trans (Step.new hl)) ⟨rfl, F, _, hW2.new hl⟩
def sp_W_washed0 (K : PySem.W.Frag) (b : Bool) : Sp := spW K b fun s k obj A F pgs so D xs Q => xs = [] ∧ (b = false → so = fun _ => false) ∧ Does (RWy k) s Q fun v t => v = .non ∧ ∃ F' D', WayAt K t k b obj A F' pgs (fun _ => false) D'
theorem ok_W_washed (T : TX K mg) (b : Bool) : Fn P w K mg base false 8 (wf_washed K b) (sp_W_washed0 K b) := match b with
  | true => ((ok_Pairs_washed T).mono (by decide)).imp fun vs H Q E ⟨r, k, obj, A, F, pgs, so, D, xs, e, hW, e2, _, q⟩ => ⟨r, k, obj, A, F, pgs, so, D, xs, e, hW, e2, q⟩
  | false => (ok_Shadows_washed T).imp fun vs H Q E ⟨r, k, obj, A, F, pgs, so, D, xs, e, hW, e2, z, q⟩ => by
    obtain rfl := z rfl
    subst e2
    exact ⟨r, k, obj, A, F, pgs, D, e, hW, q⟩
theorem vals_lt {D : WD} {x0 x1 x2 x3 x4 x5 x6 : V} {i : Nat} (h : i < 7) : i < ([x0, x1, x2, x3, x4, x5, x6] ++ D.ext).length := by
  rw [List.length_append]
  exact Nat.lt_of_lt_of_le h (Nat.le_add_right 7 _)
theorem ok_W_clean (T : TX K mg) (b : Bool) : Fn P w K mg base false 9 (wf_clean K b) (sp_W_washed K b) := by
  refine (f_Kept_clean T).calm 8 (fun vs H Q E h => len1 (n := 0) (fun s k obj A F pgs so D xs Q z => by rw [z.1] <;> rfl) h) (fun cdv A outer s H vs Q E hr h => ?_)
  obtain ⟨r, k, obj, A, F, pgs, so, D, xs, rfl, hW, rfl, q⟩ := h
  refine ⟨_, pss_cons (x_set (kls_W T b) 5 (pv 0) pe_dnewK (iW5 b)) (pss_one (ps_expr (x_m0 (ok_W_washed T b) (can hr) (kls_W T b) (m_W_washed T b) (fun _ => pas0) (pv 0)))), ?_⟩
  unfold tDNewK
  walk_at "w"
  refine fun d hd => ?_
  have hW1 := hW.new (o := .dK []) (q := (4 * k + 5, 7)) hd
  have hd1 := At.made (s := HS.mk H r) (a := d) (q := (4 * k + 5, 7)) (o := .dK [])
  have h1 : (upd H d (.dK [])) obj = some _ := hW1.ob.1
  walk_at "w"
  refine q_pSet h1 (vals_lt (by decide)) ?_
  have hW2 := hW1.setCl hd1
  have h2 := hW2.ob.1
  have st : Step (RWy k) ⟨H, r⟩ _ := (Step.new (s := HS.mk H r) (q := (4 * k + 5, 7)) (o := .dK []) hd).trans (Step.put (o' := .ins (He.ga K (clsN b)) D.dx ((l_W b).zip ([.ref D.h0, .int 0, .ref A, .ref D.ml, .ref D.pa, .ref d, .ref D.al] ++ D.ext))) hW1.ob (.inr rfl))
  walk_at "u"
  refine q_var rfl ?_
  refine q_pM h2 ?_
  refine ⟨_, k, obj, A, F, pgs, _, _, _, rfl, hW2, rfl, (fun hb => by subst hb; rfl), ?_⟩
  rintro v t st2 ⟨rfl, F', D', hW3⟩
  exact q _ t (st.trans st2) ⟨rfl, F', D', hW3⟩
def sp_W_resume (K : PySem.W.Frag) (b : Bool) : Sp := spW K b fun s k obj A F pgs so D xs Q => ∃ sh sd, xs = [.int 0, .ref sh, .ref sd] ∧ s.h sh = some (.lst []) ∧ s.h sd = some (.lst []) ∧ Does (RWy k) s Q fun v t => v = .non ∧ ∃ D', WayAt K t k b obj A F pgs so D'
theorem ok_W_resume (T : TX K mg) (b : Bool) : Fn P w K mg base false 1 (wf_resume K b) (sp_W_resume K b) := by
  refine (f_Kept_resume T).calm 0 (fun vs H Q E h => len1 (n := 3) (fun s k obj A F pgs so D xs Q z => by obtain ⟨_, _, z, _⟩ := z; rw [z] <;> rfl) h) (fun cdv A outer s H vs Q E hr h => ?_)
  obtain ⟨r, k, obj, A, F, pgs, so, D, xs, rfl, hW, sh, sd, rfl, hsh, hsd, q⟩ := h
  have h1 : H obj = some _ := hW.ob.1
  have ne1 : sh ≠ obj := fun z => by rw [z] at hsh; rw [hW.ob.1] at hsh; cases hsh
  have ne2 : sd ≠ obj := fun z => by rw [z] at hsd; rw [hW.ob.1] at hsd; cases hsd
  refine ⟨_, pss_cons (x_set (kls_W T b) 1 (pv 0) (pv 1) (iW1 b)) (pss_cons (ps_for (passes_of rfl) rfl (pi_list (pv 2)) (x_tup (n := 3) (.inl hr.hd) (pgs_cons (pg_name (i := 4) (f_Kept_resume T).nd rfl (Or.inl rfl)) (pgs_cons (pg_name (i := 5) (f_Kept_resume T).nd rfl (Or.inl rfl)) (pgs_cons (pg_name (i := 6) (f_Kept_resume T).nd rfl (Or.inl rfl)) pgs_nil)))) (pss_one ps_never)) (pss_one (x_set (kls_W T b) 6 (pv 0) (x_list (z_list T) (pv 3)) (iW6 b)))), ?_⟩
  walk_at "w"
  refine q_pSet h1 (vals_lt (by decide)) ?_
  have hW1 := hW.setAl hW.an
  have st1 : Step (RWy k) ⟨H, r⟩ _ := Step.put (o' := .ins (He.ga K (clsN b)) D.dx ((l_W b).zip ([.ref D.h0, .int 0, .ref A, .ref D.ml, .ref D.pa, .ref D.cl, .ref D.al] ++ D.ext))) hW.ob (.inr rfl)
  have g1 : (upd H obj (.ins (He.ga K (clsN b)) D.dx ((l_W b).zip ([.ref D.h0, .int 0, .ref A, .ref D.ml, .ref D.pa, .ref D.cl, .ref D.al] ++ D.ext)))) sh = some (.lst []) := (upd_ne ne1).trans hsh
  have g2 : (upd H obj (.ins (He.ga K (clsN b)) D.dx ((l_W b).zip ([.ref D.h0, .int 0, .ref A, .ref D.ml, .ref D.pa, .ref D.cl, .ref D.al] ++ D.ext)))) sd = some (.lst []) := (upd_ne ne2).trans hsd
  refine fr_list (xs := []) (fun i σ H2 => (∃ u v w, σ = [some (V.ref obj), some (V.int 0), some (V.ref sh), some (V.ref sd), u, v, w]) ∧ H2 = upd H obj (.ins (He.ga K (clsN b)) D.dx ((l_W b).zip ([.ref D.h0, .int 0, .ref A, .ref D.ml, .ref D.pa, .ref D.cl, .ref D.al] ++ D.ext))))
    (fun R q => q_var rfl q) (SqL.of g1) ⟨⟨_, _, _, rfl⟩, rfl⟩ (fun i σ H2 _ ⟨_, e⟩ => by subst e; exact SqL.of g1) (fun i x σ H2 hx => by cases hx) fun σ H2 ⟨⟨u, v, w, hσ⟩, e⟩ => ?_
  subst hσ e
  walk_at "w"
  refine q_list g2 fun p hp => ?_
  have hW2 := hW1.new (o := .lst []) (q := (4 * k + 5, 8)) hp
  have hp1 := At.made (s := (HS.mk H r).put obj (.ins (He.ga K (clsN b)) D.dx ((l_W b).zip ([.ref D.h0, .int 0, .ref A, .ref D.ml, .ref D.pa, .ref D.cl, .ref D.al] ++ D.ext)))) (a := p) (q := (4 * k + 5, 8)) (o := .lst [])
  have h3 := hW2.ob.1
  refine q_var rfl ?_
  refine q_pSet h3 (vals_lt (by decide)) ?_
  exact q _ _ (st1.trans ((Step.new hp).trans (Step.put (o' := .ins (He.ga K (clsN b)) D.dx ((l_W b).zip ([.ref D.h0, .int 0, .ref A, .ref D.ml, .ref D.pa, .ref D.cl, .ref p] ++ D.ext))) hW2.ob (.inr rfl)))) ⟨rfl, _, hW2.setAl hp1⟩
/-! the end of a way -/
def FR.drops (F : FR) (L : List Nat) : FR := L.foldl (fun F f => F.put f none) F
theorem FR.drops_get (L : List Nat) : ∀ (F : FR) (x : Nat), (F.drops L).tk[x]? = if x ∈ L ∧ x < F.tk.length then some none else F.tk[x]? := by
  induction L with
  | nil => intro F x; simp [FR.drops]
  | cons f L ih =>
    intro F x
    show ((F.put f none).drops L).tk[x]? = _
    rw [ih]
    have hl : (F.put f none).tk.length = F.tk.length := by simp [FR.put]
    rw [hl]
    by_cases h1 : x ∈ L ∧ x < F.tk.length
    · rw [if_pos h1, if_pos ⟨List.mem_cons_of_mem _ h1.1, h1.2⟩]
    · rw [if_neg h1]
      by_cases h2 : x = f
      · subst h2
        by_cases h3 : x < F.tk.length
        · rw [if_pos ⟨List.mem_cons_self, h3⟩]
          exact FR.get_put (List.getElem?_eq_getElem h3)
        · rw [if_neg fun z => h3 z.2, List.getElem?_eq_none (by omega), List.getElem?_eq_none (by omega)]
      · rw [FR.get_ne h2]
        by_cases h3 : x < F.tk.length
        · rw [if_neg fun z => h1 ⟨(List.mem_cons.mp z.1).resolve_left h2, h3⟩]
        · rw [if_neg fun z => h3 z.2]
theorem FR.drops_pl (L : List Nat) : ∀ F : FR, (F.drops L).pl = F.pl := by
  induction L with
  | nil => intro F; rfl
  | cons f L ih => intro F; exact ih (F.put f none)
theorem FR.drops_snoc (F : FR) (L : List Nat) (f : Nat) : F.drops (L ++ [f]) = (F.drops L).put f none := by simp [FR.drops, List.foldl_append]
theorem take_snoc {α : Type} {l : List α} {i : Nat} {x : α} (h : l[i]? = some x) : l.take (i + 1) = l.take i ++ [x] := by rw [List.take_add_one, h] <;> rfl
theorem not_mem_take {l : List Nat} (hn : l.Nodup) {i x : Nat} (h : l[i]? = some x) : x ∉ l.take i := fun hm => by
  obtain ⟨j, hj, e⟩ := List.mem_iff_getElem.mp hm
  rw [List.length_take] at hj
  rw [List.getElem_take] at e
  obtain ⟨hi, e2⟩ := List.getElem?_eq_some_iff.mp h
  exact (List.pairwise_iff_getElem.mp hn) j i (by omega) hi (by omega) (e.trans e2.symm)
/-- the leads of which the first i are given -/
def given (lead : List Nat) (i : Nat) : List (Option Nat) := (List.replicate i none ++ (lead.drop i).map some)
theorem given_set {lead : List Nat} {i f : Nat} (h : lead[i]? = some f) : (given lead i).set i none = given lead (i + 1) := by
  have hi := (List.getElem?_eq_some_iff.mp h).1
  unfold given
  rw [List.set_append_right _ _ (by simp), List.length_replicate, Nat.sub_self, List.drop_eq_getElem_cons hi, List.map_cons, List.set_cons_zero, List.replicate_succ', List.append_assoc] <;> rfl
theorem given_get {lead : List Nat} {i f : Nat} (h : lead[i]? = some f) : (given lead i)[i]? = some (some f) := by
  have hi := (List.getElem?_eq_some_iff.mp h).1
  unfold given
  rw [List.getElem?_append_right (by simp), List.length_replicate, Nat.sub_self, List.drop_eq_getElem_cons hi]
  rw [List.getElem?_eq_getElem hi] at h
  rw [Option.some.inj h] <;> rfl
def sp_W_end (K : PySem.W.Frag) (b : Bool) : Sp := spW K b fun s k obj A F pgs so D xs Q => xs = [] ∧ Does (RWy k) s Q fun v t => v = .non ∧ FrAt K t (4 * k + 4) A ⟨List.replicate 40 none, 0⟩
theorem ok_W_end (T : TX K mg) (b : Bool) : Fn P w K mg base false 7 (wf_end K b) (sp_W_end K b) := by
  refine (f_Kept_end T).calm 6 (fun vs H Q E h => len1 (n := 0) (fun s k obj A F pgs so D xs Q z => by rw [z.1] <;> rfl) h) (fun cdv A outer s H vs Q E hr h => ?_)
  obtain ⟨r, k, obj, A, F, pgs, so, D, xs, rfl, hW, rfl, q⟩ := h
  have h1 : H obj = some _ := hW.ob.1
  have hn := hW.wf.sz.2
  have hln := hW.wf.ln
  have hlen := hW.fr.len
  have nd := List.nodup_append.mp hW.wf.nd
  refine ⟨_, pss_cons (ps_setLc (i := 1) (own := [("page", 2)]) (g := gName 2) rfl (f_Kept_end T).nd rfl rfl (sw_true rfl rfl rfl (by decide +kernel)) (pi_range1 rfl (z_range T) (pa_cons (x_m0 (ok_W_size T b) (can hr) (kls_W T b) (m_W_size T b) (fun _ => pas0) (pv 0)) pa_nil)) (blkOk_by (own := [("page", 2)]) (N := ["self", "here", "page", "frame"]) (sc := defScope s_Kept_end) (by decide +kernel)) (fun _ _ _ _ _ => pg_name (i := 2) (f_Kept_end T).nd rfl (Or.inl rfl)) (fun _ _ _ _ _ => (pts_one (pt_val (x_m (ok_W_has T b) (can hr) (kls_W T b) (m_W_has T b) (fun _ => pas0) (pv 0) (pa_cons (pv 2) pa_nil))))) (fun _ _ _ _ _ => (pv 2))) (pss_cons (ps_for (passes_of rfl) rfl (pi_list (pv 1)) (pg_name (i := 2) (f_Kept_end T).nd rfl (Or.inl rfl)) (pss_one (ps_expr (x_m (ok_Parts_give T) (can hr) (kls_Parts T) (m_Parts_give T) (fun _ => pas0) (y_fld (i := 4) (kls_W T b) (pv 0) (iW4 b)) (pa_cons (pv 2) pa_nil))))) (pss_cons (ps_for (passes_of rfl) rfl (pi_list (y_fld (i := 3) (kls_W T b) (pv 0) (iW3 b))) (pg_name (i := 3) (f_Kept_end T).nd rfl (Or.inl rfl)) (pss_one (ps_expr (x_m (ok_Frames_drop T) (can hr) (kls_Frames T) (m_Frames_drop T) (fun _ => pas0) (y_fld (i := 2) (kls_W T b) (pv 0) (iW2 b)) (pa_cons (pv 3) pa_nil))))) (pss_one (ps_expr (x_m (ok_Frames_back T) (can hr) (kls_Frames T) (m_Frames_back T) (fun _ => pas0) (y_fld (i := 2) (kls_W T b) (pv 0) (iW2 b)) (pa_cons (pe_op op_add (x_len (z_len T) (pv 1)) (x_len (z_len T) (y_fld (i := 3) (kls_W T b) (pv 0) (iW3 b)))) pa_nil)))))), ?_⟩
  walk_at "w"
  refine lc_filR (m := pgs.length) (fun _ => true) (fun R z => ?_) (by omega) (fun i H1 hi e1 Q' z => ?_) (fun i H1 hi hg e1 Q' z => ?_) fun l H' n e d => ?_
  · walk_at "w"
    refine ⟨r, k, obj, A, F, pgs, so, D, _, rfl, hW, rfl, ?_⟩
    exact z
  · have hW1 := hW.same e1
    have h1 : H1 obj = some _ := hW1.ob.1
    walk_at "w"
    refine ⟨r, k, obj, A, F, pgs, so, D, _, rfl, hW1, i, rfl, hi, ?_⟩
    walk_at "w"
    exact z _ (Same.refl _)
  · walk_at "w"
    exact z _ (Same.refl _)
  · rw [List.filter_eq_self.mpr fun _ _ => rfl] at d
    obtain ⟨u, rfl, su, hu⟩ := HS.grow (s := ⟨H, r⟩) n e d (0, 0)
    have hW1 := hW.step su id id
    walk_at "w"
    refine fr_list (fun i σ H2 => (∃ a b, σ = [some (V.ref obj), some (V.ref l), a, b]) ∧ ∃ t, t.h = H2 ∧ Step (RWy k) ⟨H, r⟩ t ∧ At t l (0, 0) (.lst ((List.range pgs.length).map natV)) ∧ At t obj (4 * k + 5, 0) (.ins (He.ga K (clsN b)) D.dx ((l_W b).zip ([.ref D.h0, .int 0, .ref A, .ref D.ml, .ref D.pa, .ref D.cl, .ref D.al] ++ D.ext))) ∧
      At t D.ml (4 * k + 5, 4) (.lst (D.mine.map natV)) ∧ PartsAt K t (4 * k + 5) D.pa A (given D.lead i) ∧ FrAt K t (4 * k + 4) A (F.drops (D.lead.take i))) (fun R q => q_var rfl q) (SqL.of d)
      ⟨⟨_, _, rfl⟩, u, rfl, su.mono fun _ z => z.elim, hu, hW1.ob, hW1.mi, by simpa [given] using hW1.pt, by simpa [FR.drops] using hW1.fr⟩ (fun i σ H2 _ ⟨_, t, e2, _, hl, _⟩ => by subst e2; exact SqL.of hl.1) (fun i x σ H2 hx ⟨⟨a, c, hσ⟩, t, e2, st, hl, ho, hm, hP, hF⟩ => ?_) fun σ H2 ⟨⟨a, c, hσ⟩, t, e2, st, hl, ho, hm, hP, hF⟩ => ?_
    · subst hσ e2
      obtain ⟨p, hp, rfl⟩ := getMap hx
      have hi := (List.getElem?_eq_some_iff.mp hp).1
      rw [List.length_range] at hi
      obtain rfl : i = p := by
        rw [List.getElem?_eq_getElem (by simpa using hi), List.getElem_range] at hp
        exact Option.some.inj hp
      obtain ⟨f, ef, et⟩ := hW.lead (List.getElem?_eq_getElem hi)
      have g1 : t.h obj = some _ := ho.1
      obtain ⟨dx, ll, g2, _⟩ := id hP
      have g2 : t.h D.pa = some _ := g2.1
      walk_at "w"
      refine ⟨t.r, _, _, _, _, _, _, pgs[i]'hi, i, f, rfl, by omega, hP, given_get ef, hF, ?_, ?_⟩
      · rw [FR.drops_get, if_neg fun z => not_mem_take nd.2.1 ef z.1]
        exact et
      rintro v t2 st2 ⟨rfl, hP2, hF2, hk⟩
      rw [given_set ef] at hP2
      rw [← FR.drops_snoc, ← take_snoc ef] at hF2
      walk_at "w"
      exact ⟨⟨_, _, rfl⟩, t2, rfl, st.trans (st2.mono fun _ z => z.elim .inr .inl), hl.step st2 (by omega), hk _ _ _ (by decide) ho, hk _ _ _ (by decide) hm, hP2, hF2⟩
    · subst hσ e2
      rw [List.length_map, List.length_range, List.take_of_length_le (by omega)] at hF
      have g1 : t.h obj = some _ := ho.1
      walk_at "w"
      refine fr_list (fun i σ H2 => (∃ a b, σ = [some (V.ref obj), some (V.ref l), a, b]) ∧ ∃ t2, t2.h = H2 ∧ Step (· = 4 * k + 4) t t2 ∧ FrAt K t2 (4 * k + 4) A ((F.drops D.lead).drops (D.mine.take i))) (fun R q => ?_) (SqL.of hm.1)
        ⟨⟨_, _, rfl⟩, t, rfl, Step.refl, by simpa [FR.drops] using hF⟩ (fun i σ H2 _ ⟨_, t2, e2, st2, _⟩ => by subst e2; exact SqL.of (hm.step st2 (by omega)).1) (fun i x σ H2 hx ⟨⟨a, c, hσ⟩, t2, e2, st2, hF2⟩ => ?_) fun σ H2 ⟨⟨a, c, hσ⟩, t2, e2, st2, hF2⟩ => ?_
      · walk_at "w"
        exact q
      · subst hσ e2
        obtain ⟨m, em, rfl⟩ := getMap hx
        have hmm := List.mem_of_getElem? em
        obtain ⟨ws, ew⟩ := hW.wf.mi m hmm
        have g1 : t2.h obj = some _ := (ho.step st2 (by omega)).1
        obtain ⟨dx', hl', ol, hs, hF'⟩ := id hF2
        have h3 : t2.h A = some _ := hF'.obj.1
        walk_at "w"
        refine ⟨t2.r, _, A, _, m, ws, rfl, hF2, ?_, ?_⟩
        · rw [FR.drops_get, if_neg fun z => not_mem_take nd.1 em z.1, FR.drops_get, if_neg fun z => nd.2.2 m hmm m z.1 rfl]
          exact ew
        rintro v t3 st3 ⟨rfl, hF3⟩
        rw [← FR.drops_snoc, ← take_snoc em] at hF3
        walk_at "w"
        exact ⟨⟨_, _, rfl⟩, t3, rfl, st2.trans st3, hF3⟩
      · subst hσ e2
        rw [List.length_map, List.take_of_length_le (Nat.le_refl _)] at hF2
        have g1 : t2.h obj = some _ := (ho.step st2 (by omega)).1
        have g2 : t2.h l = some _ := (hl.step st2 (by omega)).1
        have g3 : t2.h D.ml = some _ := (hm.step st2 (by omega)).1
        obtain ⟨dx', hl', ol, hs, hF'⟩ := id hF2
        have h3 : t2.h A = some _ := hF'.obj.1
        walk_at "w"
        refine ⟨t2.r, _, A, _, _, rfl, hF2, ?_⟩
        rintro v t3 st3 ⟨rfl, hF3⟩
        have e4 : (⟨((F.drops D.lead).drops D.mine).tk, ((F.drops D.lead).drops D.mine).pl - ((((List.range pgs.length).map natV).length : Int) + ((D.mine.map natV).length : Int))⟩ : FR) = ⟨List.replicate 40 none, 0⟩ := by
          rw [FR.drops_pl, FR.drops_pl, hW.wf.pl, List.length_map, List.length_range, List.length_map, hln]
          congr 1
          · refine List.ext_getElem? fun x => ?_
            rw [FR.drops_get, FR.drops_get, List.getElem?_replicate]
            have hl1 : (F.drops D.lead).tk.length = 40 := (hW.fr.len ▸ by
              have : ∀ (L : List Nat) (F : FR), (F.drops L).tk.length = F.tk.length := fun L => by
                induction L with
                | nil => intro F; rfl
                | cons f L ih => intro F; exact (ih _).trans (by simp [FR.put])
              exact this _ _)
            rw [hl1, hlen]
            by_cases hx : x < 40
            · rw [if_pos hx]
              by_cases m1 : x ∈ D.mine
              · rw [if_pos ⟨m1, hx⟩]
              · rw [if_neg fun z => m1 z.1]
                by_cases m2 : x ∈ D.lead
                · rw [if_pos ⟨m2, hx⟩]
                · rw [if_neg fun z => m2 z.1, List.getElem?_eq_getElem (by omega)]
                  cases eo : F.tk[x]'(by omega) with
                  | none => rfl
                  | some ws =>
                    have := hW.wf.only x ws (by rw [List.getElem?_eq_getElem (by omega), eo])
                    rcases List.mem_append.mp this with z | z
                    · exact absurd z m1
                    · exact absurd z m2
            · rw [if_neg hx, if_neg fun z => hx z.2, if_neg fun z => hx z.2, List.getElem?_eq_none (by omega)]
          · omega
        walk_at "w"
        rw [e4] at hF3
        exact q _ t3 (st.trans ((st2.mono fun _ z => .inl z).trans (st3.mono fun _ z => .inl z))) ⟨rfl, hF3⟩
end
end SP

/-! B13 -/
set_option maxHeartbeats 4100000
namespace SP
open PySem PySem.Spec PyProof.Rows L2 L2H
local macro_rules | `(tactic| walk_at "u") => `(tactic| (dsimp only [tRet, tSeq, tAsg, tDrop, tIfS, tNext, tRetN, tBreak, tCont, tOp, tUn, tCons, tNil, tCallX, tM, tF, sSet, sNew, sAug, tMakeX, tTest, tB, tAnd, tOr, tNot, tAndV, tOrV, tNotV, tIf, tChain, tCB, tBM, tBM0, tTup, tLst, gName, tC, tIsN, tNotN, tDIn, tDNotIn, tDGet, sDPut, tDPop1, gCons, gNil, tSl, tPart, tNoPart, tYes, tVeI]))
local macro_rules | `(tactic| walk_at "o") => `(tactic| (first | assumption | (with_reducible rfl) | omega | (intro hh; cases hh; done) | (simp only [List.length_map, List.length_replicate, List.length_range, List.length_append, List.length_cons, List.length_nil]; omega)))
local macro_rules | `(tactic| walk_at "q") => `(tactic| (repeat (first
  | ((with_reducible refine' q_var ?hq ?_); (case hq => rfl))
  | ((with_reducible refine' q_pF ?ha ?hq ?_); (case ha => assumption); (case hq => rfl))
  | ((with_reducible refine' q_pM ?ha ?_); (case ha => assumption))
  | (with_reducible refine q_I0 ?_)
  | (with_reducible refine q_isInt ?_)
  | (with_reducible refine q_isBool ?_)
  | (with_reducible refine iteT ?_)
  | (with_reducible refine iteF ?_)
  | (with_reducible refine iteNT ?_)
  | (with_reducible refine iteNF ?_)
  | (with_reducible refine q_eqI ?_)
  | (with_reducible refine q_neI ?_)
  | ((with_reducible refine' q_eq ?hq ?_); (case hq => rfl))
  | ((with_reducible refine' q_ne ?hq ?_); (case hq => rfl))
  | (with_reducible refine q_lenL (by assumption) ?_)
  | (with_reducible refine q_lenT (by assumption) ?_)
  | (with_reducible refine q_is_whole ?_)
  | (with_reducible refine q_is_word ?_)
  | (with_reducible refine q_is_below ?_)
  | ((with_reducible refine' And.intro (q_tyL ?ha) ?_); (case ha => assumption))
  | (with_reducible refine q_ip ?_)
  | (with_reducible refine q_rAdd ?_)
  | (with_reducible refine q_rSub ?_)
  | (with_reducible refine q_has ?_)
  | (with_reducible refine q_put ?_)
  | (with_reducible refine q_taken ?_)
  | (with_reducible refine q_page_of ?_)
  | (with_reducible refine q_pow48 ?_)
  | (with_reducible refine q_pow40 ?_)
  | ((with_reducible refine' q_I ?hq ?_); (case hq => first | assumption | decide | omega | exact q_div1 (by omega) _ | exact mul_ok (by omega) | exact pow_ok (by decide)))
  | ((with_reducible refine' ite_y ?hq ?_); (case hq => walk_at "o"))
  | ((with_reducible refine' ite_n ?hq ?_); (case hq => walk_at "o"))
  | ((with_reducible refine' ite_nn ?hq ?_); (case hq => walk_at "o"))
  | ((with_reducible refine' ite_ny ?hq ?_); (case hq => walk_at "o"))
  | (with_reducible
                    refine ⟨_, rfl, ?_⟩)
  | (with_reducible refine ⟨_, _, rfl, ?_⟩)
  | (with_reducible refine ⟨rfl, ?_⟩))))
local macro_rules | `(tactic| walk_at "w") => `(tactic| ((try (walk_at "u")); (walk_at "q"); (try (walk_at "u")); (walk_at "q")))
/-! ### a way made -/
theorem HS.make {s : HS} {x dx C : Addr} (q : Rg) (h1 : s.h x = none) (h2 : s.h dx = none) (h3 : dx ≠ x) {Pq : Hp → Prop} (k : ∀ u : HS, Step (fun _ => False) s u → At u x q (.ins C dx []) → Pq u.h) : Pq (upd (upd s.h dx (.own x)) x (.ins C dx [])) := by
  have h4 : (s.new dx (0, 0) (.own x)).h x = none := (upd_ne fun z => h3 z.symm).trans h1
  exact k ((s.new dx (0, 0) (.own x)).new x q (.ins C dx [])) ((Step.new h2).trans (Step.new h4)) At.made
theorem lW_nil (b : Bool) : (l_W b).zip ([] : List V) = [] := by cases b <;> rfl
def sp_Ways_init (K : PySem.W.Frag) (b : Bool) : Sp := fun vs H Q _ => ∃ r k obj dx, vs = [.ref obj, .int 2] ∧ At ⟨H, r⟩ obj (4 * k + 5, 0) (.ins (He.ga K (clsN b)) dx []) ∧
  Does (· = 4 * k + 5) ⟨H, r⟩ Q fun v t => v = .non ∧ ∃ h0, At t obj (4 * k + 5, 0) (.ins (He.ga K (clsN b)) dx ((l_W b).zip [.ref h0, .int 0])) ∧ ShelfAt K t (4 * k + 5) h0
def sp_P_init (K : PySem.W.Frag) : Sp := fun vs H Q _ => ∃ (r : Addr → Rg) (k : Nat) (pa dx A : Addr) (F : FR) (pg : Addr) (c0 c1 : Nat) (pgs : List (List Int)) (L : List Nat), vs = [.ref pa, .ref A, .ref pg] ∧ At ⟨H, r⟩ pa (4 * k + 5, 5) (.ins (He.ga K "Parts") dx []) ∧ FrAt K ⟨H, r⟩ (4 * k + 4) A F ∧ PgsR ⟨H, r⟩ pg c0 c1 pgs ∧ ¬ RWy k c0 ∧ ¬ RWy k c1 ∧
  (∀ (i : Nat) ws, pgs[i]? = some ws → okPg ws) ∧ 1 ≤ pgs.length ∧ pgs.length ≤ 24 ∧ (∀ (i : Nat) ws, F.tk[i]? = some (some ws) → i ∈ L) ∧ L.length + pgs.length < 40 ∧
  Does (RWy k) ⟨H, r⟩ Q fun v t => v = .non ∧ (∀ a n o, n ≠ 5 → n ≠ 6 → At ⟨H, r⟩ a (4 * k + 5, n) o → At t a (4 * k + 5, n) o) ∧ ∃ (lead : List Nat) (F' : FR), PartsAt K t (4 * k + 5) pa A (lead.map some) ∧ lead.length = pgs.length ∧ lead.Nodup ∧ FrAt K t (4 * k + 4) A F' ∧ F'.pl = F.pl ∧
    (∀ f ∈ lead, F.tk[f]? = some none) ∧ (∀ (p f : Nat) (ws : List Int), lead[p]? = some f → pgs[p]? = some ws → F'.tk[f]? = some (some ws)) ∧ ∀ i : Nat, i ∉ lead → F'.tk[i]? = F.tk[i]?
theorem PgsR.at {s : HS} {l : Addr} {c0 c1 : Nat} {pgs : List (List Int)} (h : PgsR s l c0 c1 pgs) (ok : ∀ (i : Nat) ws, pgs[i]? = some ws → okPg ws) : PgsAt s.h l pgs := by
  obtain ⟨as, h1, h2, h3⟩ := h
  exact ⟨as, h1.1, h2, fun i b p x y => ⟨(h3 i b p x y).1, ok i p y⟩⟩
section
variable {P : Program} {w : World} {K : PySem.W.Frag} {mg : Str → Option Value} {base : Heap} {b : Bool}
theorem ok_Ways_init (T : TX K mg) (b : Bool) : Fn P w K mg base false 4 (He.ma K (He.ga K "Ways") "__init__") (sp_Ways_init K b) := by
  refine (f_Ways_init T).calm 3 (fun vs H Q E h => by obtain ⟨_, _, _, _, z, _⟩ := h; rw [z] <;> rfl) (fun cdv A outer s H vs Q E hr h => ?_)
  obtain ⟨r, k, obj, dx, rfl, ho, q⟩ := h
  refine ⟨_, pss_cons (x_new (kls_W T b) 0 (pv 0) (x_make (mk_Shelf T) (ok_Shelf_init T) (hr.mono (by decide)) (g_Shelf T) (fun _ => pas0) (pa_cons (pv 1) pa_nil)) (iW0 b)) (pss_one (x_new (kls_W T b) 1 (pv 0) pe_int (iW1 b))), ?_⟩
  walk_at "w"
  refine fun x dx2 hx hdx hne => ?_
  refine HS.make (s := ⟨H, r⟩) (C := He.ga K "Shelf") (Pq := fun H' => sp_Shelf_init K [.ref x, .int 2] H' _ _) (4 * k + 5, 2) hx hdx hne fun u su hu => ?_
  have ho1 := ho.step su id
  refine ⟨u.r, 4 * k + 5, x, dx2, rfl, hu, ?_⟩
  rintro v t st ⟨rfl, hS, hk⟩
  have ho2 := hk _ _ _ (by decide) ho1
  refine ⟨rfl, ?_⟩
  walk_at "w"
  refine q_pNew (vals := []) (by rw [lW_nil]; exact ho2.1) rfl ?_
  walk_at "w"
  have ho3 := ho2.self (o' := .ins (He.ga K (clsN b)) dx ((l_W b).zip [.ref x]))
  refine q_pNew (vals := [.ref x]) ho3.1 rfl ?_
  exact q _ ((t.put obj (.ins (He.ga K (clsN b)) dx ((l_W b).zip [.ref x]))).put obj (.ins (He.ga K (clsN b)) dx ((l_W b).zip [.ref x, .int 0]))) ((su.mono fun _ z => z.elim).trans (st.trans ((Step.put1 ho2).trans (Step.put1 ho3)))) ⟨rfl, x, ho3.self, (hS.put ho2 (by decide) (by decide)).put ho3 (by decide) (by decide)⟩
theorem ok_Parts_init (T : TX K mg) : Fn P w K mg base false 7 (He.ma K (He.ga K "Parts") "__init__") (sp_P_init K) := by
  refine (f_Parts_init T).calm 6 (fun vs H Q E h => by obtain ⟨_, _, _, _, _, _, _, _, _, _, _, z, _⟩ := h; rw [z] <;> rfl) (fun cdv A outer s H vs Q E hr h => ?_)
  obtain ⟨r, k, pa, dx, A, F, pg, c0, c1, pgs, L, rfl, hp, hF, hg, n0, n1, okp, hl1, hl2, hL, hLl, q⟩ := h
  refine ⟨_, pss_cons (ps_if (pt_not (pt_val (x_call (ok_is_image T) (can hr) (g_is_image T) (f_is_image T).kp (fun _ => pas0) (pa_cons (pv 2) pa_nil)))) (pss_one ps_never) pss_nil) (pss_cons (x_new (kls_Parts T) 0 (pv 0) (pv 1)) (pss_one (x_new (kls_Parts T) 1 (pv 0) (pe_lc (own := [("words", 3)]) (g := gName 3) rfl (f_Parts_init T).nd (pi_list (pv 2)) (blkOk_by (own := [("words", 3)]) (N := ["self", "frames", "pages", "words"]) (sc := defScope s_Parts_init) (by decide +kernel)) (fun _ _ _ _ _ => pg_name (i := 3) (f_Parts_init T).nd rfl (Or.inl rfl)) (fun _ _ _ _ _ => pts_nil) (fun _ _ _ _ _ => (pe_ifExp (pt_cmp (pc_isN (pv 3))) pe_non (x_call (ok_laid_out T) (can hr) (g_laid_out T) (f_laid_out T).kp (fun _ => pas0) (pa_cons (pv 1) (pa_cons (pv 3) pa_nil))))))))), ?_⟩
  walk_at "w"
  refine ⟨pg, pgs, rfl, hg.at okp, hl1, hl2, fun H1 e1 => ?_⟩
  have st1 : Step (RWy k) ⟨H, r⟩ ⟨H1, r⟩ := Step.same e1
  have hp1 := hp.same e1
  walk_at "w"
  refine q_pNew (vals := []) hp1.1 rfl ?_
  have hp2 := hp1.self (o' := .ins (He.ga K "Parts") dx (l_Parts.zip [.ref A]))
  have st2 : Step (RWy k) ⟨H1, r⟩ _ := Step.put (o' := .ins (He.ga K "Parts") dx (l_Parts.zip [.ref A])) hp1 (.inr rfl)
  have hF2 := (hF.same e1).step (R := (· = 4 * k + 5)) (Step.put1 (o' := .ins (He.ga K "Parts") dx (l_Parts.zip [.ref A])) hp1) (by omega)
  obtain ⟨as, ha, hal, has⟩ := (hg.step st1 n0 n1).step st2 n0 n1
  walk_at "w"
  refine lc_doesL (s0 := (HS.mk H1 r).put pa (.ins (He.ga K "Parts") dx (l_Parts.zip [.ref A]))) (R := (· = 4 * k + 4)) (J := fun i ys t => ∃ (ld : List Nat) (Fi : FR), ys = ld.map natV ∧ ld.length = i ∧ ld.Nodup ∧ FrAt K t (4 * k + 4) A Fi ∧ Fi.pl = F.pl ∧
    (∀ f ∈ ld, F.tk[f]? = some none) ∧ (∀ (p f : Nat) (ws : List Int), ld[p]? = some f → pgs[p]? = some ws → Fi.tk[f]? = some (some ws)) ∧ ∀ i : Nat, i ∉ ld → Fi.tk[i]? = F.tk[i]?) (4 * k + 5, 6) (fun R q => q_var rfl q) ha (by rw [List.length_map]; omega) (by omega) (fun z => n0 (.inl z))
    (fun i ys s t st ⟨ld, Fi, a1, a2, a3, a4, a5⟩ => ⟨ld, Fi, a1, a2, a3, a4.step st (by omega), a5⟩) ⟨[], F, rfl, rfl, List.nodup_nil, hF2, rfl, (fun f hf => by cases hf), (fun p f ws hp => by cases hp), fun i _ => rfl⟩
    (fun i x ys t hx st ⟨ld, Fi, a1, a2, a3, a4, a5, a6, a7, a8⟩ Q' z => ?_) fun ll t ys nn st hll hlen ⟨ld, Fi, a1, a2, a3, a4, a5, a6, a7, a8⟩ => ?_
  · obtain ⟨wa, hwa, rfl⟩ := getMap hx
    have hi := (List.getElem?_eq_some_iff.mp hwa).1
    have hw := List.getElem?_eq_getElem (show i < pgs.length by omega)
    have hwt := (has i wa _ hwa hw).step st (fun z => n1 (.inl z))
    have hnone : none ∈ Fi.tk := by
      refine has_none (L := L ++ ld) a4.len (fun j ws e => ?_) (by rw [List.length_append, a2]; omega)
      by_cases hj : j ∈ ld
      · exact List.mem_append_right _ hj
      · rw [a8 j hj] at e
        exact List.mem_append_left _ (hL j ws e)
    obtain ⟨dx', hl', ol, hs, hF'⟩ := id a4
    have h3 : t.h A = some _ := hF'.obj.1
    walk_at "w"
    refine ⟨t.r, 4 * k + 4, A, Fi, wa, (c1, 0), _, rfl, by omega, a4, hwt, (fun z => n1 (.inl z)), okp i _ hw, hnone, ?_⟩
    rintro v u su ⟨f, rfl, ef, hFu⟩
    have hfl : f ∉ ld := fun hm => by
      obtain ⟨p, hp, e⟩ := List.mem_iff_getElem.mp hm
      have := a7 p f _ (by rw [List.getElem?_eq_getElem hp, e]) (List.getElem?_eq_getElem (show p < pgs.length by omega))
      rw [ef] at this
      cases this
    refine z _ u su ⟨ld ++ [f], _, by rw [a1, List.map_append] <;> rfl, by rw [List.length_append, a2] <;> rfl, List.nodup_append.mpr ⟨a3, by simp, fun x hx y hy => ?_⟩, hFu, a5, fun g hg => ?_, fun p g ws hp hw2 => ?_, fun j hj => ?_⟩
    · have : y = f := by simpa using hy
      rw [this]
      intro z
      exact hfl (z ▸ hx)
    · rcases List.mem_append.mp hg with h | h
      · exact a6 g h
      · have : g = f := by simpa using h
        rw [this, ← a8 f hfl]
        exact ef
    · by_cases hp2 : p < ld.length
      · rw [List.getElem?_append_left hp2] at hp
        rw [FR.get_ne (show g ≠ f from fun z => hfl (by rw [← z]; exact List.mem_of_getElem? hp))]
        exact a7 p g ws hp hw2
      · have hp3 := (List.getElem?_eq_some_iff.mp hp).1
        rw [List.length_append, List.length_singleton] at hp3
        have : p = i := by omega
        subst this
        rw [List.getElem?_append_right (by omega), show p - ld.length = 0 by omega] at hp
        have : f = g := by simpa using hp
        subst this
        rw [FR.get_put ef]
        rw [hw2] at hw
        exact congrArg some hw.symm
    · have h1 : j ∉ ld := fun z => hj (List.mem_append_left _ z)
      have h2 : j ≠ f := fun z => hj (by rw [z]; simp)
      rw [FR.get_ne h2]
      exact a8 j h1
  · have hp3 := hp2.step st (by simp)
    walk_at "w"
    refine q_pNew (vals := [.ref A]) hp3.1 rfl ?_
    rw [a1] at hll
    refine q _ (t.put pa (.ins (He.ga K "Parts") dx (l_Parts.zip [.ref A, .ref ll]))) (st1.trans (st2.trans ((st.mono fun _ z => .inl z).trans (Step.put hp3 (.inr rfl))))) ⟨rfl, fun a n o h5 h6 ha => ?_, ld, Fi, ⟨dx, ll, hp3.self, ?_⟩, ?_, a3, a4.step (R := (· = 4 * k + 5)) (Step.put1 hp3) (by omega), a5, a6, a7, a8⟩
    · exact (((ha.same e1).put hp1 (by simpa using h5)).step st (by simp)).put hp3 (by simpa using h5)
    · have := hll.put (o'' := .ins (He.ga K "Parts") dx (l_Parts.zip [.ref A, .ref ll])) hp3 (by simp)
      rw [List.map_map]
      exact this
    · rw [a2, List.length_map, hal]
/-- a kept way made, its tables not yet laid -/
structure WayPre (K : PySem.W.Frag) (s : HS) (k : Nat) (b : Bool) (obj A : Addr) (F : FR) (pgs : List (List Int)) (D : WD) : Prop where
  fr : FrAt K s (4 * k + 4) A F
  wf : WF false F D.mine D.lead pgs fun _ => false
  z : ∀ m ∈ D.mine, F.tk[m]? = some (some zeros)
  ob : At s obj (4 * k + 5, 0) (.ins (He.ga K (clsN b)) D.dx ((l_W b).zip [.ref D.h0, .int 0, .ref A, .ref D.ml, .ref D.pa, .ref D.cl, .ref D.al]))
  ext : D.ext = []
  sh : ShelfAt K s (4 * k + 5) D.h0
  mi : At s D.ml (4 * k + 5, 4) (.lst (D.mine.map natV))
  pt : PartsAt K s (4 * k + 5) D.pa A (D.lead.map some)
  an : At s D.al (4 * k + 5, 8) (.lst [])
  cl : At s D.cl (4 * k + 5, 7) (.dK [])
def sp_Kept_init (K : PySem.W.Frag) (b : Bool) : Sp := fun vs H Q _ => ∃ (r : Addr → Rg) (k : Nat) (obj dx A pg : Addr) (c0 c1 : Nat) (pgs : List (List Int)) (m : Nat), vs = [.ref obj, .ref A, .ref pg, .int 2, .int m] ∧ At ⟨H, r⟩ obj (4 * k + 5, 0) (.ins (He.ga K (clsN b)) dx []) ∧
  FrAt K ⟨H, r⟩ (4 * k + 4) A ⟨List.replicate 40 none, 0⟩ ∧ PgsR ⟨H, r⟩ pg c0 c1 pgs ∧ ¬ RWy k c0 ∧ ¬ RWy k c1 ∧ (∀ (i : Nat) ws, pgs[i]? = some ws → okPg ws) ∧ 1 ≤ pgs.length ∧ pgs.length ≤ 8 ∧ 1 ≤ m ∧ m ≤ 3 ∧
  Does (RWy k) ⟨H, r⟩ Q fun v t => v = .non ∧ ∃ F D, D.mine.length = m ∧ WayPre K t k b obj A F pgs D
theorem rep_none (i : Nat) (ws : List Int) : (List.replicate 40 (none : Option (List Int)))[i]? ≠ some (some ws) := fun e => by
  rw [List.getElem?_replicate] at e
  split at e <;> cases e
theorem ok_Kept_init (T : TX K mg) (b : Bool) : Fn P w K mg base false 10 (He.ma K (He.ga K "Kept") "__init__") (sp_Kept_init K b) := by
  refine (f_Kept_init T).calm 9 (fun vs H Q E h => by obtain ⟨_, _, _, _, _, _, _, _, _, _, z, _⟩ := h; rw [z] <;> rfl) (fun cdv A outer s H vs Q E hr h => ?_)
  obtain ⟨r, k, obj, dx, A, pg, c0, c1, pgs, m, rfl, ho, hF, hg, n0, n1, okp, hl1, hl2, hm1, hm2, q⟩ := h
  refine ⟨_, pss_cons (ps_if (pt_not (pt_val (x_call (ok_is_image T) (can hr) (g_is_image T) (f_is_image T).kp (fun _ => pas0) (pa_cons (pv 2) pa_nil)))) (pss_one ps_never) pss_nil) (pss_cons (ps_expr (x_cls (ok_Ways_init T b) (can hr) (cd_Ways_init T) (g_Ways T) (f_Ways_init T).kp (fun _ => pas0) (pa_cons (pv 0) (pa_cons (pv 3) pa_nil)))) (pss_cons (ps_if (pt_not (pt_val (x_m (ok_Frames_ask T) (can hr) (kls_Frames T) (m_Frames_ask T) (fun _ => pas0) (pv 1) (pa_cons (pe_op op_add (pv 4) (x_len (z_len T) (pe_lc (own := [("words", 6)]) (g := gName 6) rfl (f_Kept_init T).nd (pi_list (pv 2)) (blkOk_by (own := [("words", 6)]) (N := ["self", "frames", "pages", "most", "many", "k", "words"]) (sc := defScope s_Kept_init) (by decide +kernel)) (fun _ _ _ _ _ => pg_name (i := 6) (f_Kept_init T).nd rfl (Or.inl rfl)) (fun _ _ _ _ _ => (pts_one (pt_cmp (pc_notN (pv 6))))) (fun _ _ _ _ _ => (pv 6))))) pa_nil)))) (pss_one ps_never) pss_nil) (pss_cons (x_new (kls_W T b) 2 (pv 0) (pv 1) (iW2 b)) (pss_cons (x_new (kls_W T b) 3 (pv 0) (pe_lc (own := [("k", 5)]) (g := gName 5) rfl (f_Kept_init T).nd (pi_range1 rfl (z_range T) (pa_cons (pv 4) pa_nil)) (blkOk_by (own := [("k", 5)]) (N := ["self", "frames", "pages", "most", "many", "k", "words"]) (sc := defScope s_Kept_init) (by decide +kernel)) (fun _ _ _ _ _ => pg_name (i := 5) (f_Kept_init T).nd rfl (Or.inl rfl)) (fun _ _ _ _ _ => pts_nil) (fun _ _ _ _ _ => (x_m0 (ok_Frames_take T) (can hr) (kls_Frames T) (m_Frames_take T) (fun _ => pas0) (pv 1)))) (iW3 b)) (pss_cons (x_new (kls_W T b) 4 (pv 0) (x_make (mk_Parts T) (ok_Parts_init T) (hr.mono (by decide)) (g_Parts T) (fun _ => pas0) (pa_cons (pv 1) (pa_cons (pv 2) pa_nil))) (iW4 b)) (pss_cons (x_new (kls_W T b) 5 (pv 0) pe_dnewK (iW5 b)) (pss_one (x_new (kls_W T b) 6 (pv 0) (pe_lst pa_nil) (iW6 b))))))))), ?_⟩
  walk_at "w"
  refine ⟨pg, pgs, rfl, hg.at okp, hl1, by omega, fun H1 e1 => ?_⟩
  have st1 : Step (RWy k) ⟨H, r⟩ ⟨H1, r⟩ := Step.same e1
  walk_at "w"
  refine ⟨r, k, obj, dx, rfl, ho.same e1, ?_⟩
  rintro v t2 st2 ⟨rfl, h0, ho2, hS2⟩
  have hF2 := (hF.same e1).step st2 (by omega)
  have hg2 := (hg.step st1 n0 n1).step (st2.mono (R' := RWy k) fun _ z => .inr z) n0 n1
  obtain ⟨dx2, hl', ol, hs, hF'⟩ := id hF2
  have h3 : t2.h A = some _ := hF'.obj.1
  walk_at "w"
  obtain ⟨as, ha, hal, has⟩ := id hg2
  refine lc_selL (fun R z => q_var rfl z) ha.1 (by rw [List.length_map]; omega) (fun i x H3 hx e3 Q' z => ?_) (fun i x H3 hx e3 Q' z => ?_) fun l H3 nl e3 dl => ?_
  · obtain ⟨wa, _, rfl⟩ := getMap hx
    walk_at "w"
    exact z _ (Same.refl _)
  · walk_at "w"
    exact z _ (Same.refl _)
  obtain ⟨t3, rfl, st3, hl3⟩ := HS.grow (s := t2) nl e3 dl (0, 0)
  have h3' : t3.h l = some _ := hl3.1
  have ho3 := ho2.step st3 id
  have hF3 := hF2.step st3 id
  have hS3 := hS2.step st3 id
  have hg3 := hg2.step st3 id id
  walk_at "w"
  rw [List.length_map, hal]
  refine ⟨t3.r, 4 * k + 4, A, _, _, rfl, hF3, ?_, ?_⟩
  · show (0 : Int) + (m + pgs.length) ≤ 40
    omega
  rintro v t4 st4 ⟨rfl, hF4⟩
  have ho4 := ho3.step st4 (by simp)
  have hS4 := hS3.step st4 (by omega)
  have hg4 := hg3.step (st4.mono (R' := RWy k) fun _ z => .inl z) n0 n1
  walk_at "w"
  refine q_pNew (vals := [.ref h0, .int 0]) ho4.1 rfl ?_
  have ho5 := ho4.self (o' := .ins (He.ga K (clsN b)) dx ((l_W b).zip [.ref h0, .int 0, .ref A]))
  have st5 : Step (· = 4 * k + 5) t4 (t4.put obj (.ins (He.ga K (clsN b)) dx ((l_W b).zip [.ref h0, .int 0, .ref A]))) := Step.put1 ho4
  have hF5 := hF4.step st5 (by omega)
  have hS5 := hS4.put (o' := .ins (He.ga K (clsN b)) dx ((l_W b).zip [.ref h0, .int 0, .ref A])) ho4 (by decide) (by decide)
  have hg5 := hg4.step (st5.mono (R' := RWy k) fun _ z => .inr z) n0 n1
  walk_at "w"
  refine lc_doesR (s0 := t4.put obj (.ins (He.ga K (clsN b)) dx ((l_W b).zip [.ref h0, .int 0, .ref A]))) (R := (· = 4 * k + 4)) (m := m) (J := fun i ys t => ∃ (ms : List Nat) (Fi : FR), ys = ms.map natV ∧ ms.length = i ∧ ms.Nodup ∧ FrAt K t (4 * k + 4) A Fi ∧ Fi.pl = ((m + pgs.length : Nat) : Int) ∧
    (∀ x ∈ ms, Fi.tk[x]? = some (some zeros)) ∧ ∀ (i : Nat) ws, Fi.tk[i]? = some (some ws) → i ∈ ms) (4 * k + 5, 4) (fun R z => ?_) (by omega) (by omega)
    (fun i ys s t st ⟨ms, Fi, a1, a2, a3, a4, a5⟩ => ⟨ms, Fi, a1, a2, a3, a4.step st (by omega), a5⟩) ⟨[], _, rfl, rfl, List.nodup_nil, hF5, by show (0 : Int) + (m + pgs.length) = _; omega, (fun x hx => by cases hx), fun i ws e => absurd e (rep_none i ws)⟩
    (fun i ys t hi st ⟨ms, Fi, a1, a2, a3, a4, a5, a6, a7⟩ Q' z => ?_) fun ml t6 ys nn st6 hml hlen ⟨ms, Fi, a1, a2, a3, a4, a5, a6, a7⟩ => ?_
  · walk_at "w"
    exact z
  · obtain ⟨dx2, hl', ol, hs, hF'⟩ := id a4
    have h3 : t.h A = some _ := hF'.obj.1
    walk_at "w"
    refine ⟨t.r, 4 * k + 4, A, Fi, rfl, by omega, a4, has_none a4.len a7 (by omega), ?_⟩
    rintro v u su ⟨f, rfl, ef, hFu⟩
    have hfl : f ∉ ms := fun hm => by
      have := a6 f hm
      rw [ef] at this
      cases this
    refine z _ u su ⟨ms ++ [f], _, by rw [a1, List.map_append] <;> rfl, by rw [List.length_append, a2] <;> rfl, List.nodup_append.mpr ⟨a3, by simp, fun x hx y hy => ?_⟩, hFu, a5, fun g hg => ?_, fun j ws e => ?_⟩
    · have : y = f := by simpa using hy
      rw [this]
      intro z
      exact hfl (z ▸ hx)
    · rcases List.mem_append.mp hg with h | h
      · rw [FR.get_ne (show g ≠ f from fun z => hfl (z ▸ h))]
        exact a6 g h
      · have : g = f := by simpa using h
        rw [this]
        exact FR.get_put ef
    · by_cases hj : j = f
      · rw [hj]; simp
      · rw [FR.get_ne hj] at e
        exact List.mem_append_left _ (a7 j ws e)
  rw [a1] at hml
  have ho6 := ho5.step st6 (by simp)
  have hS6 := hS5.step st6 (by omega)
  have hg6 := hg5.step (st6.mono (R' := RWy k) fun _ z => .inl z) n0 n1
  walk_at "w"
  refine q_pNew (vals := [.ref h0, .int 0, .ref A]) ho6.1 rfl ?_
  have ho7 := ho6.self (o' := .ins (He.ga K (clsN b)) dx ((l_W b).zip [.ref h0, .int 0, .ref A, .ref ml]))
  have st7 : Step (· = 4 * k + 5) t6 (t6.put obj (.ins (He.ga K (clsN b)) dx ((l_W b).zip [.ref h0, .int 0, .ref A, .ref ml]))) := Step.put1 ho6
  have hF7 := a4.step st7 (by omega)
  have hS7 := hS6.put (o' := .ins (He.ga K (clsN b)) dx ((l_W b).zip [.ref h0, .int 0, .ref A, .ref ml])) ho6 (by decide) (by decide)
  have hm7 := hml.put (o'' := .ins (He.ga K (clsN b)) dx ((l_W b).zip [.ref h0, .int 0, .ref A, .ref ml])) ho6 (by simp)
  have hg7 := hg6.step (st7.mono (R' := RWy k) fun _ z => .inr z) n0 n1
  walk_at "w"
  refine fun pa pdx hx hdx hne => ?_
  refine HS.make (s := t6.put obj (.ins (He.ga K (clsN b)) dx ((l_W b).zip [.ref h0, .int 0, .ref A, .ref ml]))) (C := He.ga K "Parts") (Pq := fun H' => sp_P_init K [.ref pa, .ref A, .ref pg] H' _ _) (4 * k + 5, 5) hx hdx hne fun u8 su8 hu8 => ?_
  refine ⟨u8.r, k, pa, pdx, A, Fi, pg, c0, c1, pgs, ms, rfl, hu8, hF7.step su8 id, hg7.step su8 id id, n0, n1, okp, hl1, by omega, a7, by omega, ?_⟩
  rintro v t9 st9 ⟨rfl, hk9, lead, F9, hP9, hll, hln, hF9, hpl, hf1, hf2, hf3⟩
  refine ⟨rfl, ?_⟩
  have ho9 := hk9 _ _ _ (by decide) (by decide) (ho7.step su8 id)
  have hm9 := hk9 _ _ _ (by decide) (by decide) (hm7.step su8 id)
  have hS9 : ShelfAt K t9 (4 * k + 5) h0 := by
    obtain ⟨x1, x2, g1, g2⟩ := hS7.step su8 id
    exact ⟨x1, x2, hk9 _ _ _ (by decide) (by decide) g1, hk9 _ _ _ (by decide) (by decide) g2⟩
  walk_at "w"
  refine q_pNew (vals := [.ref h0, .int 0, .ref A, .ref ml]) ho9.1 rfl ?_
  unfold tDNewK
  walk_at "w"
  refine fun cl hcl => ?_
  have ho10 := (ho9.self (o' := .ins (He.ga K (clsN b)) dx ((l_W b).zip [.ref h0, .int 0, .ref A, .ref ml, .ref pa]))).new (q := (4 * k + 5, 7)) (o := .dK []) hcl
  have hm10 := (hm9.put (o'' := .ins (He.ga K (clsN b)) dx ((l_W b).zip [.ref h0, .int 0, .ref A, .ref ml, .ref pa])) ho9 (by simp)).new (q := (4 * k + 5, 7)) (o := .dK []) hcl
  have hS10 := (hS9.put (o' := .ins (He.ga K (clsN b)) dx ((l_W b).zip [.ref h0, .int 0, .ref A, .ref ml, .ref pa])) ho9 (by decide) (by decide)).step (Step.new (R := fun _ => False) (q := (4 * k + 5, 7)) (o := .dK []) hcl) id
  have hP10 := (hP9.put (o' := .ins (He.ga K (clsN b)) dx ((l_W b).zip [.ref h0, .int 0, .ref A, .ref ml, .ref pa])) ho9 (by decide) (by decide)).step (Step.new (R := fun _ => False) (q := (4 * k + 5, 7)) (o := .dK []) hcl) id
  have hF10 := (hF9.step (R := (· = 4 * k + 5)) (Step.put1 (o' := .ins (He.ga K (clsN b)) dx ((l_W b).zip [.ref h0, .int 0, .ref A, .ref ml, .ref pa])) ho9) (by omega)).new (q := (4 * k + 5, 7)) (ob := .dK []) hcl
  have hc10 := At.made (s := t9.put obj (.ins (He.ga K (clsN b)) dx ((l_W b).zip [.ref h0, .int 0, .ref A, .ref ml, .ref pa]))) (a := cl) (q := (4 * k + 5, 7)) (o := .dK [])
  have st10 : Step (RWy k) t9 _ := (Step.put (o' := .ins (He.ga K (clsN b)) dx ((l_W b).zip [.ref h0, .int 0, .ref A, .ref ml, .ref pa])) ho9 (.inr rfl)).trans (Step.new (q := (4 * k + 5, 7)) (o := .dK []) hcl)
  walk_at "w"
  refine q_pNew (vals := [.ref h0, .int 0, .ref A, .ref ml, .ref pa]) ho10.1 rfl ?_
  walk_at "w"
  refine ⟨(show 0 ≤ sizeLine by decide), fun al hal2 => ?_⟩
  have ho11 := (ho10.self (o' := .ins (He.ga K (clsN b)) dx ((l_W b).zip [.ref h0, .int 0, .ref A, .ref ml, .ref pa, .ref cl]))).new (q := (4 * k + 5, 8)) (o := .lst []) hal2
  have hm11 := (hm10.put (o'' := .ins (He.ga K (clsN b)) dx ((l_W b).zip [.ref h0, .int 0, .ref A, .ref ml, .ref pa, .ref cl])) ho10 (by simp)).new (q := (4 * k + 5, 8)) (o := .lst []) hal2
  have hc11 := (hc10.put (o'' := .ins (He.ga K (clsN b)) dx ((l_W b).zip [.ref h0, .int 0, .ref A, .ref ml, .ref pa, .ref cl])) ho10 (by simp)).new (q := (4 * k + 5, 8)) (o := .lst []) hal2
  have hS11 := (hS10.put (o' := .ins (He.ga K (clsN b)) dx ((l_W b).zip [.ref h0, .int 0, .ref A, .ref ml, .ref pa, .ref cl])) ho10 (by decide) (by decide)).step (Step.new (R := fun _ => False) (q := (4 * k + 5, 8)) (o := .lst []) hal2) id
  have hP11 := (hP10.put (o' := .ins (He.ga K (clsN b)) dx ((l_W b).zip [.ref h0, .int 0, .ref A, .ref ml, .ref pa, .ref cl])) ho10 (by decide) (by decide)).step (Step.new (R := fun _ => False) (q := (4 * k + 5, 8)) (o := .lst []) hal2) id
  have hF11 := (hF10.step (R := (· = 4 * k + 5)) (Step.put1 (o' := .ins (He.ga K (clsN b)) dx ((l_W b).zip [.ref h0, .int 0, .ref A, .ref ml, .ref pa, .ref cl])) ho10) (by omega)).new (q := (4 * k + 5, 8)) (ob := .lst []) hal2
  have hl11 := At.made (s := ((t9.put obj (.ins (He.ga K (clsN b)) dx ((l_W b).zip [.ref h0, .int 0, .ref A, .ref ml, .ref pa]))).new cl (4 * k + 5, 7) (.dK [])).put obj (.ins (He.ga K (clsN b)) dx ((l_W b).zip [.ref h0, .int 0, .ref A, .ref ml, .ref pa, .ref cl]))) (a := al) (q := (4 * k + 5, 8)) (o := .lst [])
  have st11 : Step (RWy k) _ _ := (Step.put (o' := .ins (He.ga K (clsN b)) dx ((l_W b).zip [.ref h0, .int 0, .ref A, .ref ml, .ref pa, .ref cl])) ho10 (.inr rfl)).trans (Step.new (q := (4 * k + 5, 8)) (o := .lst []) hal2)
  walk_at "w"
  refine q_pNew (vals := [.ref h0, .int 0, .ref A, .ref ml, .ref pa, .ref cl]) ho11.1 rfl ?_
  have st12 : Step (RWy k) _ _ := Step.put (o' := .ins (He.ga K (clsN b)) dx ((l_W b).zip [.ref h0, .int 0, .ref A, .ref ml, .ref pa, .ref cl, .ref al])) ho11 (.inr rfl)
  have hx1 : ∀ x ∈ ms, x ∉ lead := fun x hx hl => by
    have := a6 x hx
    rw [hf1 x hl] at this
    cases this
  refine q _ _ (st1.trans ((st2.mono fun _ z => .inr z).trans ((st3.mono fun _ z => z.elim).trans ((st4.mono fun _ z => .inl z).trans ((st5.mono fun _ z => .inr z).trans ((st6.mono fun _ z => .inl z).trans ((st7.mono fun _ z => .inr z).trans ((su8.mono fun _ z => z.elim).trans (st9.trans (st10.trans (st11.trans st12)))))))))))
    ⟨rfl, F9, ⟨ms, lead, dx, h0, ml, pa, cl, al, []⟩, a2, hF11.step (R := (· = 4 * k + 5)) (Step.put1 ho11) (by omega), ?_, fun x hx => ?_, ho11.self, rfl, hS11.put ho11 (by decide) (by decide), hm11.put ho11 (by simp), hP11.put ho11 (by decide) (by decide), hl11.put ho11 (by simp), hc11.put ho11 (by simp)⟩
  · refine ⟨List.nodup_append.mpr ⟨a3, hln, fun x hx y hy z => hx1 x hx (z ▸ hy)⟩, hll, ⟨hl1, hl2⟩, by rw [a2]; exact hm2, hf2, fun x hx => ⟨zeros, by rw [hf3 x (hx1 x hx)]; exact a6 x hx⟩, fun i ws e => ?_, by rw [hpl, a5, a2, hll], ?_⟩
    · by_cases hi : i ∈ lead
      · exact List.mem_append_right _ hi
      · rw [hf3 i hi] at e
        exact List.mem_append_left _ (a7 i ws e)
    · cases hms : ms with
      | nil => rw [hms] at a2; simp at a2; omega
      | cons x l => exact ⟨x, rfl, by rw [hf3 x (hx1 x (by rw [hms]; simp))]; exact a6 x (by rw [hms]; simp)⟩
  · show F9.tk[x]? = _
    rw [hf3 x (hx1 x hx)]
    exact a6 x hx
end
end SP

/-! B14 -/
set_option maxHeartbeats 4100000
namespace SP
open PySem PySem.Spec PyProof.Rows L2 L2H
local macro_rules | `(tactic| walk_at "u") => `(tactic| (dsimp only [tRet, tSeq, tAsg, tDrop, tIfS, tNext, tRetN, tBreak, tCont, tOp, tUn, tCons, tNil, tCallX, tM, tF, sSet, sNew, sAug, tMakeX, tTest, tB, tAnd, tOr, tNot, tAndV, tOrV, tNotV, tIf, tChain, tCB, tBM, tBM0, tTup, tLst, gName, tC, tIsN, tNotN, tDIn, tDNotIn, tDGet, sDPut, tDPop1, gCons, gNil, tSl, tPart, tNoPart, tYes, tVeI]))
local macro_rules | `(tactic| walk_at "o") => `(tactic| (first | assumption | (with_reducible rfl) | omega | (intro hh; cases hh; done) | (simp only [List.length_map, List.length_replicate, List.length_range, List.length_append, List.length_cons, List.length_nil]; omega)))
local macro_rules | `(tactic| walk_at "q") => `(tactic| (repeat (first
  | ((with_reducible refine' q_var ?hq ?_); (case hq => rfl))
  | ((with_reducible refine' q_pF ?ha ?hq ?_); (case ha => assumption); (case hq => rfl))
  | ((with_reducible refine' q_pM ?ha ?_); (case ha => assumption))
  | (with_reducible refine q_I0 ?_)
  | (with_reducible refine q_isInt ?_)
  | (with_reducible refine q_isBool ?_)
  | (with_reducible refine iteT ?_)
  | (with_reducible refine iteF ?_)
  | (with_reducible refine iteNT ?_)
  | (with_reducible refine iteNF ?_)
  | (with_reducible refine q_eqI ?_)
  | (with_reducible refine q_neI ?_)
  | ((with_reducible refine' q_eq ?hq ?_); (case hq => rfl))
  | ((with_reducible refine' q_ne ?hq ?_); (case hq => rfl))
  | (with_reducible refine q_lenL (by assumption) ?_)
  | (with_reducible refine q_lenT (by assumption) ?_)
  | (with_reducible refine q_is_whole ?_)
  | (with_reducible refine q_is_word ?_)
  | (with_reducible refine q_is_below ?_)
  | ((with_reducible refine' And.intro (q_tyL ?ha) ?_); (case ha => assumption))
  | (with_reducible refine q_ip ?_)
  | (with_reducible refine q_rAdd ?_)
  | (with_reducible refine q_rSub ?_)
  | (with_reducible refine q_has ?_)
  | (with_reducible refine q_put ?_)
  | (with_reducible refine q_taken ?_)
  | (with_reducible refine q_page_of ?_)
  | (with_reducible refine q_pow48 ?_)
  | (with_reducible refine q_pow40 ?_)
  | ((with_reducible refine' q_I ?hq ?_); (case hq => first | assumption | decide | omega | exact q_div1 (by omega) _ | exact mul_ok (by omega) | exact pow_ok (by decide)))
  | ((with_reducible refine' ite_y ?hq ?_); (case hq => walk_at "o"))
  | ((with_reducible refine' ite_n ?hq ?_); (case hq => walk_at "o"))
  | ((with_reducible refine' ite_nn ?hq ?_); (case hq => walk_at "o"))
  | ((with_reducible refine' ite_ny ?hq ?_); (case hq => walk_at "o"))
  | (with_reducible
                    refine ⟨_, rfl, ?_⟩)
  | (with_reducible refine ⟨_, _, rfl, ?_⟩)
  | (with_reducible refine ⟨rfl, ?_⟩))))
local macro_rules | `(tactic| walk_at "w") => `(tactic| ((try (walk_at "u")); (walk_at "q"); (try (walk_at "u")); (walk_at "q")))
/-! ### a way before its tables are laid -/
def sp_W0 (K : PySem.W.Frag) (b : Bool) (body : (Addr → Rg) → Hp → List V → List V → VK → Prop) : Sp := fun vs H Q _ => ∃ r obj dx vals xs, vs = .ref obj :: xs ∧ H obj = some (.ins (He.ga K (clsN b)) dx ((l_W b).zip vals)) ∧ body r H vals xs Q
def sp_W0_size (K : PySem.W.Frag) (b : Bool) : Sp := sp_W0 K b fun r H vals xs Q => ∃ c pa A ld, xs = [] ∧ vals[4]? = some (V.ref pa) ∧ PartsAt K ⟨H, r⟩ c pa A ld ∧ Q (.int (ld.length : Nat)) H
def sp_W0_has (K : PySem.W.Frag) (b : Bool) : Sp := sp_W0 K b fun r H vals xs Q => ∃ c pa A ld, ∃ p f : Nat, xs = [.int p] ∧ vals[4]? = some (V.ref pa) ∧ PartsAt K ⟨H, r⟩ c pa A ld ∧ ld[p]? = some (some f) ∧ Q (.bl true) H
def sp_W0_frame (K : PySem.W.Frag) (b : Bool) : Sp := sp_W0 K b fun r H vals xs Q => ∃ c pa A ld, ∃ p f : Nat, xs = [.int p] ∧ vals[4]? = some (V.ref pa) ∧ PartsAt K ⟨H, r⟩ c pa A ld ∧ ld[p]? = some (some f) ∧ Q (.int f) H
def sp_W0_lay_row (K : PySem.W.Frag) : Sp := sp_W0 K true fun r H vals xs Q => ∃ (c : Nat) (A ml : Addr) (F : FR) (p m0 m1 : Nat) (lw : List Int) (x : Int), xs = [.int p, .int x] ∧ p < 8 ∧ isW x ∧ vals[2]? = some (V.ref A) ∧ vals[3]? = some (V.ref ml) ∧ H ml = some (.lst [.int m0, .int m1]) ∧ FrAt K ⟨H, r⟩ c A F ∧ F.tk[m1]? = some (some lw) ∧
  Does (· = c) ⟨H, r⟩ Q fun v t => v = .non ∧ FrAt K t c A (F.put m1 (some (lw.set p x)))
section
variable {P : Program} {w : World} {K : PySem.W.Frag} {mg : Str → Option Value} {base : Heap} {b : Bool}
theorem ok_W_size0 (T : TX K mg) (b : Bool) : Fn P w K mg base false 2 (wf_size K b) (sp_W0_size K b) := by
  refine (f_Kept_size T).calm 1 (fun vs H Q E h => by obtain ⟨_, _, _, _, _, z, _, _, _, _, _, z2, _⟩ := h; rw [z, z2] <;> rfl) (fun cdv A outer s H vs Q E hr h => ?_)
  obtain ⟨r, obj, dx, vals, xs, rfl, h1, c, pa, A, ld, rfl, h4, hP, q⟩ := h
  obtain ⟨dx, ll, g1, g2⟩ := id hP
  have h2 : H pa = some _ := g1.1
  refine ⟨_, pss_one (ps_ret (x_m0 (ok_Parts_size T) (can hr) (kls_Parts T) (m_Parts_size T) (fun _ => pas0) (y_fld (i := 4) (kls_W T b) (pv 0) (iW4 b)))), ?_⟩
  walk_at "w"
  refine q_pF h1 h4 ?_
  walk_at "w"
  exact ⟨r, _, _, _, _, rfl, hP, q⟩
theorem ok_W_has0 (T : TX K mg) (b : Bool) : Fn P w K mg base false 4 (wf_has K b) (sp_W0_has K b) := by
  refine (f_Kept_has T).calm 3 (fun vs H Q E h => by obtain ⟨_, _, _, _, _, z, _, _, _, _, _, _, _, z2, _⟩ := h; rw [z, z2] <;> rfl) (fun cdv A outer s H vs Q E hr h => ?_)
  obtain ⟨r, obj, dx, vals, xs, rfl, h1, c, pa, A, ld, p, f, rfl, h4, hP, e, q⟩ := h
  obtain ⟨dx, ll, g1, g2⟩ := id hP
  have h2 : H pa = some _ := g1.1
  refine ⟨_, pss_one (ps_ret (pe_cmp (pc_notN (x_m (ok_Parts_frame T) (can hr) (kls_Parts T) (m_Parts_frame T) (fun _ => pas0) (y_fld (i := 4) (kls_W T b) (pv 0) (iW4 b)) (pa_cons (pv 1) pa_nil))))), ?_⟩
  walk_at "w"
  refine q_pF h1 h4 ?_
  walk_at "w"
  exact ⟨r, _, _, _, _, p, f, rfl, hP, e, q⟩
theorem ok_W_frame0 (T : TX K mg) (b : Bool) : Fn P w K mg base false 4 (wf_frame K b) (sp_W0_frame K b) := by
  refine (f_Kept_frame T).calm 3 (fun vs H Q E h => by obtain ⟨_, _, _, _, _, z, _, _, _, _, _, _, _, z2, _⟩ := h; rw [z, z2] <;> rfl) (fun cdv A outer s H vs Q E hr h => ?_)
  obtain ⟨r, obj, dx, vals, xs, rfl, h1, c, pa, A, ld, p, f, rfl, h4, hP, e, q⟩ := h
  obtain ⟨dx, ll, g1, g2⟩ := id hP
  have h2 : H pa = some _ := g1.1
  refine ⟨_, pss_one (ps_ret (x_m (ok_Parts_frame T) (can hr) (kls_Parts T) (m_Parts_frame T) (fun _ => pas0) (y_fld (i := 4) (kls_W T b) (pv 0) (iW4 b)) (pa_cons (pv 1) pa_nil))), ?_⟩
  walk_at "w"
  refine q_pF h1 h4 ?_
  walk_at "w"
  exact ⟨r, _, _, _, _, p, f, rfl, hP, e, q⟩
theorem ok_Pairs_lay_row0 (T : TX K mg) : Fn P w K mg base false 6 (He.ma K (He.ga K "Pairs") "lay_row") (sp_W0_lay_row K) := by
  refine Fn.weak ((f_Pairs_lay_row T).dual 5 (fun vs H Q E h => by obtain ⟨_, _, _, _, _, z, _, _, _, _, _, _, _, _, _, _, z2, _⟩ := h; rw [z, z2] <;> rfl) (fun cdv A outer s H vs Q E m hr h => ?_))
  obtain ⟨r, obj, dx, vals, xs, rfl, h1, c, A, ml, F, p, m0, m1, lw, x, rfl, hp, hx, hA, hm, h2, hF, hl, q⟩ := h
  obtain ⟨dx', hl', ol, hs, hF'⟩ := id hF
  have h3 : H A = some _ := hF'.obj.1
  refine ⟨_, pss_one (ps_expr (x_m (ok_Frames_write T) (can2 hr) (kls_Frames T) (m_Frames_write T) (fun _ => pas0) (y_fld (i := 2) (kls_Pairs T) (pv 0)) (pa_cons (pe_ix ix_list (y_fld (i := 3) (kls_Pairs T) (pv 0)) (pe_op op_add pe_int (pe_op op_fdiv (pv 1) (x_glob (k_EACH T)))) (fun _ _ => rfl)) (pa_cons (pe_op op_mod (pv 1) (x_glob (k_EACH T))) (pa_cons (pv 2) pa_nil))))), ?_⟩
  walk_at "w"
  refine q_pF h1 hA ?_
  walk_at "w"
  refine q_pF h1 hm ?_
  walk_at "w"
  rw [show (p : Int) / 8 = 0 by omega]
  refine q_ixL h2 (v := .int m1) rfl ?_
  walk_at "w"
  rw [show (p : Int) % 8 = p by omega]
  refine ⟨r, _, A, F, m1, lw, p, x, rfl, hF, hl, hp, hx, fun v t st ⟨_, hF⟩ => ?_⟩
  walk_at "w"
  exact q _ t st ⟨rfl, hF⟩
end
def RMk (k : Nat) (x : Nat) : Prop := x = 4 * k + 4 ∨ x = 4 * k + 5 ∨ x = 101
/-- a way made -/
def sp_W_init (K : PySem.W.Frag) (b : Bool) : Sp := fun vs H Q _ => ∃ (r : Addr → Rg) (k : Nat) (obj dx A pg : Addr) (c0 c1 : Nat) (pgs : List (List Int)), vs = (if b then [.ref obj, .ref A, .ref pg, .int 2] else [.ref obj, .ref A, .ref pg, .int 2, .int 3]) ∧ At ⟨H, r⟩ obj (4 * k + 5, 0) (.ins (He.ga K (clsN b)) dx []) ∧
  FrAt K ⟨H, r⟩ (4 * k + 4) A ⟨List.replicate 40 none, 0⟩ ∧ PgsR ⟨H, r⟩ pg c0 c1 pgs ∧ ¬ RMk k c0 ∧ ¬ RMk k c1 ∧ k < 10 ∧ (∀ (i : Nat) ws, pgs[i]? = some ws → okPg ws) ∧ 1 ≤ pgs.length ∧ pgs.length ≤ 8 ∧
  Does (RMk k) ⟨H, r⟩ Q fun v t => v = .non ∧ ∃ F D, WayAt K t k b obj A F pgs (fun _ => false) D
theorem RMk.of {k x : Nat} (h : RWy k x) : RMk k x := h.elim .inl fun z => .inr (.inl z)
section
variable {P : Program} {w : World} {K : PySem.W.Frag} {mg : Str → Option Value} {base : Heap} {b : Bool}
theorem ok_Pairs_init (T : TX K mg) : Fn P w K mg base false 11 (He.ma K (He.ga K "Pairs") "__init__") (sp_W_init K true) := by
  refine (f_Pairs_init T).calm 10 (fun vs H Q E h => by obtain ⟨_, _, _, _, _, _, _, _, _, z, _⟩ := h; rw [z] <;> rfl) (fun cdv A outer s H vs Q E hr h => ?_)
  obtain ⟨r, k, obj, dx, A, pg, c0, c1, pgs, rfl, ho, hF, hg, n0, n1, hk10, okp, hl1, hl2, q⟩ := h
  rw [if_pos rfl]
  have hg' := hg
  obtain ⟨as, ha, hal, has⟩ := hg'
  refine ⟨_, pss_cons (ps_if (pt_not (pt_val (x_call (ok_is_image T) (can hr) (g_is_image T) (f_is_image T).kp (fun _ => pas0) (pa_cons (pv 2) pa_nil)))) (pss_one ps_never) pss_nil) (pss_cons (ps_expr (x_cls (ok_Kept_init T true) (can hr) (cd_Kept_init T) (g_Kept T) (f_Kept_init T).kp (fun _ => pas0) (pa_cons (pv 0) (pa_cons (pv 1) (pa_cons (pv 2) (pa_cons (pv 3) (pa_cons (pe_op op_add pe_int (pe_op op_fdiv (pe_op op_sub (pe_op op_add (x_len (z_len T) (pv 2)) (x_glob (k_EACH T))) pe_int) (x_glob (k_EACH T)))) pa_nil))))))) (pss_cons (ps_for (passes_of rfl) rfl (pi_enum (by rfl) (z_enumerate T) (pa_cons (pe_slice sl_list (y_fld (i := 3) (kls_Pairs T) (pv 0)) (po_some pe_int) po_none) pa_nil)) (x_tup (n := 2) (.inl hr.hd) (pgs_cons (pg_name (i := 4) (f_Pairs_init T).nd rfl (Or.inl rfl)) (pgs_cons (pg_name (i := 5) (f_Pairs_init T).nd rfl (Or.inl rfl)) pgs_nil))) (pss_one (ps_expr (x_m (ok_Frames_write T) (can hr) (kls_Frames T) (m_Frames_write T) (fun _ => pas0) (y_fld (i := 2) (kls_Pairs T) (pv 0)) (pa_cons (pe_ix ix_list (y_fld (i := 3) (kls_Pairs T) (pv 0)) pe_int (fun _ _ => rfl)) (pa_cons (pv 4) (pa_cons (x_call (ok_row_of T) (can hr) (g_row_of T) (f_row_of T).kp (fun _ => pas0) (pa_cons (pv 5) (pa_cons (pe_op op_or (x_glob (k_PRESENT T)) (x_glob (k_WRITABLE T))) pa_nil))) pa_nil))))))) (pss_one (ps_for (passes_of rfl) rfl (pi_range1 rfl (z_range T) (pa_cons (x_m0 (ok_W_size0 T true) (can hr) (kls_Pairs T) (m_Pairs_size T) (fun _ => pas0) (pv 0)) pa_nil)) (pg_name (i := 6) (f_Pairs_init T).nd rfl (Or.inl rfl)) (pss_one (ps_if (pt_val (x_m (ok_W_has0 T true) (can hr) (kls_Pairs T) (m_Pairs_has T) (fun _ => pas0) (pv 0) (pa_cons (pv 6) pa_nil))) (pss_one (ps_expr (x_m (ok_Pairs_lay_row0 T) (can hr) (kls_Pairs T) (m_Pairs_lay_row T) (fun _ => pas0) (pv 0) (pa_cons (pv 6) (pa_cons (x_call (ok_row_of T) (can hr) (g_row_of T) (f_row_of T).kp (fun _ => pas0) (pa_cons (x_m (ok_W_frame0 T true) (can hr) (kls_Pairs T) (m_Pairs_frame T) (fun _ => pas0) (pv 0) (pa_cons (pv 6) pa_nil)) (pa_cons (x_glob (k_PRESENT T)) pa_nil))) pa_nil))))) pss_nil)))))), ?_⟩
  walk_at "w"
  refine ⟨pg, pgs, rfl, hg.at okp, hl1, by omega, fun H1 e1 => ?_⟩
  have st1 : Step (RMk k) ⟨H, r⟩ ⟨H1, r⟩ := Step.same e1
  have hg1 := hg.step st1 n0 n1
  have ha1 : H1 pg = some _ := (ha.same e1).1
  walk_at "w"
  rw [List.length_map, hal, show (1 : Int) + (((pgs.length : Nat) : Int) + 8 - 1) / 8 = ((2 : Nat) : Int) by omega]
  refine ⟨r, k, obj, dx, A, pg, c0, c1, pgs, 2, rfl, ho.same e1, hF.same e1, hg1, (fun z => n0 (.of z)), (fun z => n1 (.of z)), okp, hl1, hl2, by decide, by decide, ?_⟩
  rintro v t2 st2 ⟨rfl, F, D, hml, W⟩
  obtain ⟨m0, m1, hm⟩ : ∃ m0 m1, D.mine = [m0, m1] := by
    cases h : D.mine with
    | nil => rw [h] at hml; cases hml
    | cons a l => cases l with
      | nil => rw [h] at hml; cases hml
      | cons b l => cases l with
        | nil => exact ⟨a, b, rfl⟩
        | cons _ _ => rw [h] at hml; cases hml
  have h1 : t2.h obj = some (.ins (He.ga K "Pairs") D.dx (l_Pairs.zip [.ref D.h0, .int 0, .ref A, .ref D.ml, .ref D.pa, .ref D.cl, .ref D.al])) := W.ob.1
  have h2 : t2.h D.ml = some (.lst [.int m0, .int m1]) := by
    have z := W.mi.1
    rw [hm] at z
    exact z
  have hm0 := W.z m0 (by rw [hm]; simp)
  have hm1 := W.z m1 (by rw [hm]; simp)
  have hne : m1 ≠ m0 := by
    have := (List.nodup_append.mp W.wf.nd).1
    rw [hm] at this
    simp at this
    exact fun z => this z.symm
  have hm1' : (F.put m0 (some (zeros.set 0 (rowW m1 true false false)))).tk[m1]? = some (some zeros) := by rw [FR.get_ne hne]; exact hm1
  have hlt1 := W.fr.lt hm1
  have n45 : ¬ (4 * k + 5 = 4 * k + 4) := by omega
  have e3 : Builtin.bitOr ((m1 : Int) * 2 ^ (8 : Nat)) (Builtin.bitOr 1 2) = rowW m1 true false false := by
    rw [show Builtin.bitOr 1 2 = ((mkW true false false : Nat) : Int) by decide +kernel]
    exact row_make _ _ _ _
  walk_at "w"
  refine fr_enum0 ?_
  walk_at "w"
  refine ⟨D.ml, _, rfl, SqL.of h2, fun p hp => ?_⟩
  refine ⟨p, [.int m1], rfl, SqL.of upd_same, ?_⟩
  have st3 : Step (fun _ => False) t2 (t2.new p (0, 0) (.lst [.int m1])) := Step.new hp
  have hp3 := At.made (s := t2) (a := p) (q := (0, 0)) (o := .lst [.int m1])
  refine fo_enum (xs := [.int m1]) (fun i σ H2 => (∃ u v w, σ = [some (V.ref obj), some (V.ref A), some (V.ref pg), some (V.int 2), u, v, w]) ∧ ∃ t, t.h = H2 ∧ Step (· = 4 * k + 4) (t2.new p (0, 0) (.lst [.int m1])) t ∧ FrAt K t (4 * k + 4) A (if i = 0 then F else F.put m0 (some (zeros.set 0 (rowW m1 true false false)))))
    ⟨⟨_, _, _, rfl⟩, _, rfl, Step.refl, by rw [if_pos rfl]; exact W.fr.step st3 id⟩ (fun i σ H2 _ ⟨_, t, e2, st, _⟩ => by subst e2; exact SqL.of (hp3.step st (by omega)).1) (fun i x σ H2 T1 hx ⟨⟨u, v, w, hσ⟩, t, e2, st, hF2⟩ hT => ?_) fun σ H2 ⟨⟨u, v, w, hσ⟩, t, e2, st, hF2⟩ => ?_
  · subst hσ e2
    have hi : i = 0 := by
      have := (List.getElem?_eq_some_iff.mp hx).1
      simp at this
      exact this
    subst hi
    cases hx
    rw [if_pos rfl] at hF2
    refine q_tup upd_same rfl ?_
    have st4 := Step.new (R := fun _ => False) (s := t) (q := (0, 0)) (o := .tup [.int (0 : Nat), .int m1]) hT
    have hF3 := hF2.step st4 id
    have g1 : (t.new T1 (0, 0) (.tup [.int (0 : Nat), .int m1])).h obj = some _ := (((W.ob.step st3 id).step st n45).step st4 id).1
    have g2 : (t.new T1 (0, 0) (.tup [.int (0 : Nat), .int m1])).h D.ml = some (.lst [.int m0, .int m1]) := by
      have z := (((W.mi.step st3 id).step st n45).step st4 id).1
      rw [hm] at z
      exact z
    obtain ⟨dx', hl', ol, hs, hF'⟩ := id hF3
    have g3 : (t.new T1 (0, 0) (.tup [.int (0 : Nat), .int m1])).h A = some _ := hF'.obj.1
    walk_at "w"
    refine q_ixL g2 (v := .int m0) rfl ?_
    walk_at "w"
    refine ⟨m1, _, rfl, by omega, by omega, by decide +kernel, by decide +kernel, ?_⟩
    rw [e3]
    refine ⟨_, _, A, F, m0, zeros, 0, _, rfl, hF3, hm0, by decide, row_ok (by omega) _ _ _, ?_⟩
    rintro v t5 st5 ⟨rfl, hF5⟩
    walk_at "w"
    exact ⟨⟨_, _, _, rfl⟩, t5, rfl, st.trans ((st4.mono fun _ z => z.elim).trans st5), by rw [if_neg (by omega)]; exact hF5⟩
  · subst hσ e2
    have hF2 : FrAt K t (4 * k + 4) A (F.put m0 (some (zeros.set 0 (rowW m1 true false false)))) := hF2
    have ho4 := (W.ob.step st3 id).step st n45
    have g1 : t.h obj = some _ := ho4.1
    have hP4 := (W.pt.step st3 id).step st n45
    walk_at "w"
    refine fr_range (m := pgs.length) (fun i σ H2 => (∃ u v w, σ = [some (V.ref obj), some (V.ref A), some (V.ref pg), some (V.int 2), u, v, w]) ∧ ∃ t5 lw, t5.h = H2 ∧ Step (· = 4 * k + 4) t t5 ∧ FrAt K t5 (4 * k + 4) A ((F.put m0 (some (zeros.set 0 (rowW m1 true false false)))).put m1 (some lw)) ∧ lw.length = 8 ∧
      ∀ p f : Nat, p < i → D.lead[p]? = some f → lw[p]? = some (rowW f false false false)) (fun R z => ?_) (by omega) ⟨⟨_, _, _, rfl⟩, t, zeros, rfl, Step.refl, by rw [FR.put_same hm1']; exact hF2, rfl, fun p f h => by omega⟩
      (fun i σ H2 hi ⟨⟨u, v, w, hσ⟩, t5, lw, e2, st5, hF5, hl8, hlw⟩ => ?_) fun σ H2 ⟨⟨u, v, w, hσ⟩, t5, lw, e2, st5, hF5, hl8, hlw⟩ => ?_
    · walk_at "w"
      refine ⟨t.r, _, _, _, _, rfl, g1, _, _, _, _, rfl, rfl, hP4, ?_⟩
      rw [List.length_map, W.wf.ln]
      exact z
    · subst hσ e2
      have g1 : t5.h obj = some _ := (ho4.step st5 n45).1
      have hP5 := hP4.step st5 n45
      have g2 : t5.h D.ml = some (.lst [.int m0, .int m1]) := by
        have z := (((W.mi.step st3 id).step st n45).step st5 n45).1
        rw [hm] at z
        exact z
      have ef : D.lead[i]? = some (D.lead[i]'(by rw [W.wf.ln]; exact hi)) := List.getElem?_eq_getElem _
      generalize D.lead[i]'(by rw [W.wf.ln]; exact hi) = f at ef
      have eld : (D.lead.map some)[i]? = some (some f) := by rw [List.getElem?_map, ef] <;> rfl
      have hf40 : f < 40 := W.fr.lt (W.wf.pg i f _ ef (List.getElem?_eq_getElem hi))
      have em : Builtin.bitOr ((f : Int) * 2 ^ (8 : Nat)) 1 = rowW f false false false := row_make f false false false
      walk_at "w"
      refine ⟨t5.r, _, _, _, _, rfl, g1, _, _, _, _, i, f, rfl, rfl, hP5, eld, ?_⟩
      walk_at "w"
      refine ⟨t5.r, _, _, _, _, rfl, g1, _, _, _, _, i, f, rfl, rfl, hP5, eld, ?_⟩
      walk_at "w"
      refine ⟨f, 1, rfl, by omega, by omega, by decide, by decide, ?_⟩
      rw [em]
      refine ⟨t5.r, _, _, _, _, rfl, g1, _, A, D.ml, _, i, m0, m1, lw, _, rfl, by omega, row_ok (by omega) _ _ _, rfl, rfl, g2, hF5, FR.get_put hm1', ?_⟩
      rintro v t6 st6 ⟨rfl, hF6⟩
      rw [FR.put_put] at hF6
      walk_at "w"
      refine ⟨⟨_, _, _, rfl⟩, t6, _, rfl, st5.trans st6, hF6, by rw [List.length_set]; exact hl8, fun p g hp hg => ?_⟩
      rw [List.getElem?_set]
      by_cases e : i = p
      · subst e
        cases ef.symm.trans hg
        rw [if_pos rfl, if_pos (by omega)]
      · rw [if_neg e]
        exact hlw p g (by omega) hg
    · subst hσ e2
      walk_at "w"
      have nd := W.wf.nd
      have hp0 : ∀ f ∈ D.lead, f ≠ m0 := fun f hf z => nd_apart nd (show m0 ∈ D.mine by rw [hm]; simp) hf z.symm
      have hp1 : ∀ f ∈ D.lead, f ≠ m1 := fun f hf z => nd_apart nd (show m1 ∈ D.mine by rw [hm]; simp) hf z.symm
      have wf : WF true ((F.put m0 (some (zeros.set 0 (rowW m1 true false false)))).put m1 (some lw)) D.mine D.lead pgs fun _ => false := by
        refine ⟨nd, W.wf.ln, W.wf.sz, W.wf.ml, fun p f ws h1 h2 => ?_, fun m hmm => ?_, only_put (only_put W.wf.only (List.mem_append_left _ (by rw [hm]; simp)) _) (List.mem_append_left _ (by rw [hm]; simp)) _, W.wf.pl, ?_⟩
        · rw [FR.get_ne (hp1 f (List.mem_of_getElem? h1)), FR.get_ne (hp0 f (List.mem_of_getElem? h1))]
          exact W.wf.pg p f ws h1 h2
        · rw [hm] at hmm
          rcases List.mem_cons.mp hmm with z | z
          · rw [z]
            exact ⟨_, by rw [FR.get_ne fun z => hne z.symm]; exact FR.get_put hm0⟩
          · have : m = m1 := by simpa using z
            rw [this]
            exact ⟨_, FR.get_put hm1'⟩
        · refine ⟨m0, m1, _, lw, false, false, hm, by rw [FR.get_ne fun z => hne z.symm]; exact FR.get_put hm0, rfl, FR.get_put hm1', fun p f hp => ⟨false, false, hlw p f ?_ hp⟩⟩
          have := (List.getElem?_eq_some_iff.mp hp).1
          rw [W.wf.ln] at this
          exact this
      refine q _ t5 (st1.trans ((st2.mono fun _ z => .of z).trans ((st3.mono fun _ z => z.elim).trans ((st.mono fun _ z => .inl z).trans (st5.mono fun _ z => .inl z))))) ⟨rfl, _, D, hF5, wf, ?_, ?_, ?_, ?_, ?_, ⟨[], ?_, List.nodup_nil, (fun p hp => by cases hp), fun z => by cases z⟩, W.ext⟩
      · have z := ho4.step st5 n45
        rw [W.ext, List.append_nil]
        exact z
      · exact ((W.sh.step st3 id).step st n45).step st5 n45
      · exact ((W.mi.step st3 id).step st n45).step st5 n45
      · exact hP4.step st5 n45
      · exact ((W.an.step st3 id).step st n45).step st5 n45
      · exact ((W.cl.step st3 id).step st n45).step st5 n45
def sp_look_at_shadows : Sp := fun vs H Q _ => ∃ (pg : Addr) (pgs : List (List Int)), vs = [.ref pg, .int 2, .int 3] ∧ PgsAt H pg pgs ∧ 1 ≤ pgs.length ∧ pgs.length ≤ 24 ∧ ∃ r, Does (· = 101) ⟨H, r⟩ Q fun v t => v = .non
theorem ok_look_at_shadows (T : TX K mg) : Fn P w K mg base false 5 (He.ga K "look_at_shadows") sp_look_at_shadows := by
  refine (f_look_at_shadows T).calm 4 (fun vs H Q E h => by obtain ⟨_, _, z, _⟩ := h; rw [z] <;> rfl) (fun cdv A outer s H vs Q E hr h => ?_)
  obtain ⟨pg, pgs, rfl, hg, hl1, hl2, r, q⟩ := h
  refine ⟨_, pss_cons (ps_if (pt_not (pt_val (x_call (ok_is_image T) (can hr) (g_is_image T) (f_is_image T).kp (fun _ => pas0) (pa_cons (pv 0) pa_nil)))) (pss_one ps_never) pss_nil) (pss_cons (ps_expr (x_make (mk_Shelf T) (ok_Shelf_init T) (hr.mono (by decide)) (g_Shelf T) (fun _ => pas0) (pa_cons (pv 1) pa_nil))) (pss_one (ps_if (PW.pt (pw_or (pt_not (pt_val (x_call (ok_is_whole T) (can hr) (g_is_whole T) (f_is_whole T).kp (fun _ => pas0) (pa_cons (pv 2) pa_nil)))) (pw_or1 (pt_not (pt_chain op_le op_le pe_int (pv 2) pe_int))))) (pss_one ps_never) pss_nil))), ?_⟩
  walk_at "w"
  refine ⟨pg, pgs, rfl, hg, hl1, hl2, fun H1 e1 => ?_⟩
  walk_at "w"
  refine fun x dx2 hx hdx hne => ?_
  refine HS.make (s := ⟨H1, r⟩) (C := He.ga K "Shelf") (Pq := fun H' => sp_Shelf_init K [.ref x, .int 2] H' _ _) (101, 2) hx hdx hne fun u su hu => ?_
  refine ⟨u.r, 101, x, dx2, rfl, hu, ?_⟩
  rintro v t st ⟨rfl, _, _⟩
  refine ⟨rfl, ?_⟩
  walk_at "w"
  exact q _ t ((Step.same e1).trans ((su.mono fun _ z => z.elim).trans st)) rfl
theorem ok_Shadows_init (T : TX K mg) : Fn P w K mg base false 11 (He.ma K (He.ga K "Shadows") "__init__") (sp_W_init K false) := by
  refine (f_Shadows_init T).calm 10 (fun vs H Q E h => by obtain ⟨_, _, _, _, _, _, _, _, _, z, _⟩ := h; rw [z] <;> rfl) (fun cdv A outer s H vs Q E hr h => ?_)
  obtain ⟨r, k, obj, dx, A, pg, c0, c1, pgs, rfl, ho, hF, hg, n0, n1, hk10, okp, hl1, hl2, q⟩ := h
  rw [if_neg (by simp)]
  refine ⟨_, pss_cons (ps_expr (x_call (ok_look_at_shadows T) (can hr) (g_look_at_shadows T) (f_look_at_shadows T).kp (fun _ => pas0) (pa_cons (pv 2) (pa_cons (pv 3) (pa_cons (pv 4) pa_nil))))) (pss_cons (ps_expr (x_cls (ok_Kept_init T false) (can hr) (cd_Kept_init T) (g_Kept T) (f_Kept_init T).kp (fun _ => pas0) (pa_cons (pv 0) (pa_cons (pv 1) (pa_cons (pv 2) (pa_cons (pv 3) (pa_cons (pv 4) pa_nil))))))) (pss_cons (x_new (kls_Shadows T) 7 (pv 0) pe_dnewK) (pss_one (x_new (kls_Shadows T) 8 (pv 0) (pe_slice sl_list (y_fld (i := 3) (kls_Shadows T) (pv 0)) (po_some pe_int) po_none))))), ?_⟩
  walk_at "w"
  refine ⟨pg, pgs, rfl, hg.at okp, hl1, by omega, r, ?_⟩
  rintro v t1 st1 rfl
  have ho1 := ho.step st1 (by omega)
  have hF1 := hF.step st1 (by omega)
  have hg1 := hg.step (st1.mono (R' := RMk k) fun _ z => .inr (.inr z)) n0 n1
  walk_at "w"
  refine ⟨t1.r, k, obj, dx, A, pg, c0, c1, pgs, 3, rfl, ho1, hF1, hg1, (fun z => n0 (.of z)), (fun z => n1 (.of z)), okp, hl1, hl2, by decide, by decide, ?_⟩
  rintro v t2 st2 ⟨rfl, F, D, hml, W⟩
  unfold tDNewK
  walk_at "w"
  refine fun op hop => ?_
  have st3 := Step.new (R := fun _ => False) (s := t2) (q := (4 * k + 5, 9)) (o := .dK []) hop
  have hop3 := At.made (s := t2) (a := op) (q := (4 * k + 5, 9)) (o := .dK [])
  have ho3 := W.ob.step st3 id
  walk_at "w"
  refine q_pNew (l := l_Shadows) (vals := [.ref D.h0, .int 0, .ref A, .ref D.ml, .ref D.pa, .ref D.cl, .ref D.al]) ho3.1 rfl ?_
  have ho4 := ho3.self (o' := .ins (He.ga K (clsN false)) D.dx (l_Shadows.zip [.ref D.h0, .int 0, .ref A, .ref D.ml, .ref D.pa, .ref D.cl, .ref D.al, .ref op]))
  have hm4 := (W.mi.step st3 id).put (o'' := .ins (He.ga K (clsN false)) D.dx (l_Shadows.zip [.ref D.h0, .int 0, .ref A, .ref D.ml, .ref D.pa, .ref D.cl, .ref D.al, .ref op])) ho3 (by simp)
  have hop4 := hop3.put (o'' := .ins (He.ga K (clsN false)) D.dx (l_Shadows.zip [.ref D.h0, .int 0, .ref A, .ref D.ml, .ref D.pa, .ref D.cl, .ref D.al, .ref op])) ho3 (by simp)
  have st4 : Step (RMk k) (t2.new op (4 * k + 5, 9) (.dK [])) _ := Step.put (o' := .ins (He.ga K (clsN false)) D.dx (l_Shadows.zip [.ref D.h0, .int 0, .ref A, .ref D.ml, .ref D.pa, .ref D.cl, .ref D.al, .ref op])) ho3 (.inr (.inl rfl))
  walk_at "w"
  refine q_pF (l := l_Shadows) ho4.1 rfl ?_
  walk_at "w"
  refine ⟨D.ml, _, rfl, SqL.of hm4.1, fun sp hsp => ?_⟩
  have st5 := Step.new (R := fun _ => False) (s := (t2.new op (4 * k + 5, 9) (.dK [])).put obj (.ins (He.ga K (clsN false)) D.dx (l_Shadows.zip [.ref D.h0, .int 0, .ref A, .ref D.ml, .ref D.pa, .ref D.cl, .ref D.al, .ref op]))) (q := (0, 0)) (o := .lst (cutV (D.mine.map natV) (some 1) none)) hsp
  have ho5 := ho4.step st5 id
  have hop5 := hop4.step st5 id
  walk_at "w"
  refine q_pNew (l := l_Shadows) (vals := [.ref D.h0, .int 0, .ref A, .ref D.ml, .ref D.pa, .ref D.cl, .ref D.al, .ref op]) ho5.1 rfl ?_
  have st6 : Step (· = 4 * k + 5) _ _ := Step.put1 (o' := .ins (He.ga K (clsN false)) D.dx (l_Shadows.zip [.ref D.h0, .int 0, .ref A, .ref D.ml, .ref D.pa, .ref D.cl, .ref D.al, .ref op, .ref sp])) ho5
  have st4' : Step (· = 4 * k + 5) (t2.new op (4 * k + 5, 9) (.dK [])) _ := Step.put1 (o' := .ins (He.ga K (clsN false)) D.dx (l_Shadows.zip [.ref D.h0, .int 0, .ref A, .ref D.ml, .ref D.pa, .ref D.cl, .ref D.al, .ref op])) ho3
  have n54 : ¬ (4 * k + 4 = 4 * k + 5) := by omega
  refine q _ _ ((st1.mono fun _ z => .inr (.inr z)).trans ((st2.mono fun _ z => .of z).trans ((st3.mono fun _ z => z.elim).trans (st4.trans ((st5.mono fun _ z => z.elim).trans (st6.mono fun _ z => .inr (.inl z))))))) ⟨rfl, F, { D with ext := [.ref op, .ref sp] }, ?_, W.wf, ho5.self, ?_, ?_, ?_, ?_, ⟨[], ?_, List.nodup_nil, (fun p hp => by cases hp), fun _ p _ z => by cases z⟩, op, sp, [], rfl, ?_, List.nodup_nil, fun p hp => by cases hp⟩
  · exact (((W.fr.step st3 id).step st4' n54).step st5 id).step st6 n54
  · exact (((W.sh.step st3 id).put ho3 (by decide) (by decide)).step st5 id).put ho5 (by decide) (by decide)
  · exact (hm4.step st5 id).put ho5 (by simp)
  · exact (((W.pt.step st3 id).put ho3 (by decide) (by decide)).step st5 id).put ho5 (by decide) (by decide)
  · exact (((W.an.step st3 id).put ho3 (by simp)).step st5 id).put ho5 (by simp)
  · exact (((W.cl.step st3 id).put ho3 (by simp)).step st5 id).put ho5 (by simp)
  · exact hop5.put ho5 (by simp)
end
end SP

/-! B15 -/
set_option maxHeartbeats 4100000
namespace SP
open PySem PySem.Spec PyProof.Rows L2 L2H
local macro_rules | `(tactic| walk_at "u") => `(tactic| (dsimp only [tRet, tSeq, tAsg, tDrop, tIfS, tNext, tRetN, tBreak, tCont, tOp, tUn, tCons, tNil, tCallX, tM, tF, sSet, sNew, sAug, tMakeX, tTest, tB, tAnd, tOr, tNot, tAndV, tOrV, tNotV, tIf, tChain, tCB, tBM, tBM0, tTup, tLst, gName, tC, tIsN, tNotN, tDIn, tDNotIn, tDGet, sDPut, tDPop1, gCons, gNil, tSl, tPart, tNoPart, tYes, tVeI]))
local macro_rules | `(tactic| walk_at "o") => `(tactic| (first | assumption | (with_reducible rfl) | omega | (intro hh; cases hh; done) | (simp only [List.length_map, List.length_replicate, List.length_range, List.length_append, List.length_cons, List.length_nil]; omega)))
local macro_rules | `(tactic| walk_at "q") => `(tactic| (repeat (first
  | ((with_reducible refine' q_var ?hq ?_); (case hq => rfl))
  | ((with_reducible refine' q_pF ?ha ?hq ?_); (case ha => assumption); (case hq => rfl))
  | ((with_reducible refine' q_pM ?ha ?_); (case ha => assumption))
  | (with_reducible refine q_I0 ?_)
  | (with_reducible refine q_isInt ?_)
  | (with_reducible refine q_isBool ?_)
  | (with_reducible refine iteT ?_)
  | (with_reducible refine iteF ?_)
  | (with_reducible refine iteNT ?_)
  | (with_reducible refine iteNF ?_)
  | (with_reducible refine q_eqI ?_)
  | (with_reducible refine q_neI ?_)
  | ((with_reducible refine' q_eq ?hq ?_); (case hq => rfl))
  | ((with_reducible refine' q_ne ?hq ?_); (case hq => rfl))
  | (with_reducible refine q_lenL (by assumption) ?_)
  | (with_reducible refine q_lenT (by assumption) ?_)
  | (with_reducible refine q_is_whole ?_)
  | (with_reducible refine q_is_word ?_)
  | (with_reducible refine q_is_below ?_)
  | ((with_reducible refine' And.intro (q_tyL ?ha) ?_); (case ha => assumption))
  | (with_reducible refine q_ip ?_)
  | (with_reducible refine q_rAdd ?_)
  | (with_reducible refine q_rSub ?_)
  | (with_reducible refine q_has ?_)
  | (with_reducible refine q_put ?_)
  | (with_reducible refine q_taken ?_)
  | (with_reducible refine q_page_of ?_)
  | (with_reducible refine q_pow48 ?_)
  | (with_reducible refine q_pow40 ?_)
  | ((with_reducible refine' q_I ?hq ?_); (case hq => first | assumption | decide | omega | exact q_div1 (by omega) _ | exact mul_ok (by omega) | exact pow_ok (by decide)))
  | ((with_reducible refine' ite_y ?hq ?_); (case hq => walk_at "o"))
  | ((with_reducible refine' ite_n ?hq ?_); (case hq => walk_at "o"))
  | ((with_reducible refine' ite_nn ?hq ?_); (case hq => walk_at "o"))
  | ((with_reducible refine' ite_ny ?hq ?_); (case hq => walk_at "o"))
  | (with_reducible
                    refine ⟨_, rfl, ?_⟩)
  | (with_reducible refine ⟨_, _, rfl, ?_⟩)
  | (with_reducible refine ⟨rfl, ?_⟩))))
local macro_rules | `(tactic| walk_at "w") => `(tactic| ((try (walk_at "u")); (walk_at "q"); (try (walk_at "u")); (walk_at "q")))
theorem x_try_as0 {X : Cx} {x n : Str} {c : Value} {i : Nat} {body suite : List Stmt} {b₀ : Stmt} {np pos pos' : Pos} {tb : TS} {Wout : WX} (hs : X.stack = X.env :: X.outer) (hf : X.env.frame = some X.env.locals) (hN : X.N.Nodup) (hi : X.N[i]? = some n) (hln : X.env.kindOf n = some .local) (hc : Names X x c)
    (tk : L2N.Takes X Wout) (hb : ∀ (pn : List (Addr × Obj)) (xe : Value → Shared → Prop), PSs (X.tr pn xe) body tb) : PS X (.Try body [.ExceptHandler (some (.Name x np)) (some n) (b₀ :: suite) pos'] [] [] pos) tb := by
  refine ⟨fun pins
                   s σ H D I h => ?_⟩
  exact (L2N.ps_try_as (tb := fun _ => tb) (ts := fun _ _ _ => tNever) hs hf hN hi hln hc tk (fun W pn xe _ _ => hb pn xe) (fun _ _ _ _ _ _ _ => pss_never)).run pins s σ H D I h
/-! ### the machine, in plain words -/
structure MS where
  r0 : Int
  r1 : Int
  c : Nat
  pgs : List (List Int)
def pokeP (pgs : List (List Int)) (sp x : Int) : List (List Int) := match pgs[(sp / 8).toNat]? with
  | some ws => pgs.set (sp / 8).toNat (ws.set (sp % 8).toNat x)
  | none => pgs
def stepM (os : List Ord) (m : MS) : MS := match os[m.c]? with
  | some (.set a w) => if a = 0 then ⟨w, m.r1, m.c + 1, m.pgs⟩ else ⟨m.r0, w, m.c + 1, m.pgs⟩
  | some .poke => ⟨m.r0, m.r1, m.c + 1, pokeP m.pgs m.r1 m.r0⟩
  | _ => ⟨m.r0, m.r1, 0, m.pgs⟩
def iterM (os : List Ord) : Nat → MS → MS
  | 0, m => m
  | n + 1, m => iterM os n (stepM os m)
theorem iterM_add (os : List Ord) : ∀ (a b : Nat) (m : MS), iterM os (a + b) m = iterM os b (iterM os a m)
  | 0, b, m => by rw
                     [Nat.zero_add] <;> rfl
  | a + 1, b, m => by
    rw [Nat.add_right_comm]
    exact iterM_add os a b (stepM os m)
theorem iterM_succ (os : List Ord) (a : Nat) (m : MS) : iterM os (a + 1) m = stepM os (iterM os a m) := iterM_add os a 1 m
structure PrgOk (os : List Ord) (n : Nat) : Prop where
  len1 : 1 ≤ os.length
  len2 : os.length ≤ 60
  last : ∀ (i : Nat) (o : Ord), os[i]? = some o → o = .nought ∨ i + 1 < os.length
  set : ∀ (i : Nat) (a w : Int), os[i]? = some (.set a w) → (a = 0 ∨ a = 1) ∧ isW w
  poke : ∀ i : Nat, os[i + 1]? = some .poke → ∃ sp : Int, os[i]? = some (.set 1 sp) ∧ 0 ≤ sp ∧ sp < 8 * n
  first : os[0]? ≠ some .poke
theorem PrgOk.ok {os : List Ord} {n : Nat} (h : PrgOk os n) {i : Nat} {o : Ord} (e : os[i]? = some o) : o.ok := by
  cases o with
  | set a w =>
    obtain ⟨h1, h2⟩ := h.set i a w e
    rcases h1 with rfl | rfl
    · exact ⟨by decide, by decide, h2⟩
    · exact ⟨by decide, by decide, h2⟩
  | poke => trivial
  | nought => trivial
structure MOk (os : List Ord) (n : Nat) (m : MS) : Prop where
  c : m.c < os.length
  w0 : isW m.r0
  w1 : isW m.r1
  sp : os[m.c]? = some .poke → 0 ≤ m.r1 ∧ m.r1 < 8 * n
  n : m.pgs.length = n
theorem pokeP_len (pgs : List (List Int)) (sp x : Int) : (pokeP pgs sp x).length = pgs.length := by
  unfold pokeP
  split
  · rw [List.length_set]
  · rfl
theorem stepM_set {os : List Ord} {m : MS} {a w : Int} (e : os[m.c]? = some (.set a w)) : stepM os m = if a = 0 then ⟨w, m.r1, m.c + 1, m.pgs⟩ else ⟨m.r0, w, m.c + 1, m.pgs⟩ := by
  unfold stepM
  rw [e]
theorem stepM_poke {os : List Ord} {m : MS} (e : os[m.c]? = some .poke) : stepM os m = ⟨m.r0, m.r1, m.c + 1, pokeP m.pgs m.r1 m.r0⟩ := by
  unfold stepM
  rw [e]
theorem stepM_nought {os : List Ord} {m : MS} (e : os[m.c]? = some .nought) : stepM os m = ⟨m.r0, m.r1, 0, m.pgs⟩ := by
  unfold stepM
  rw [e]
theorem stepM_ok {os : List Ord} {n : Nat} {m : MS} (h : PrgOk os n) (k : MOk os n m) : MOk os n (stepM os m) := by
  have e : os[m.c]? = some (os[m.c]'k.c) := List.getElem?_eq_getElem k.c
  generalize os[m.c]'k.c = o at e
  have hl := h.last _ _ e
  cases o with
  | set a w =>
    have hl2 : m.c + 1 < os.length := hl.resolve_left nofun
    obtain ⟨ha, hw⟩ := h.set _ _ _ e
    rw [stepM_set e]
    have hp : os[m.c + 1]? = some .poke → a = 1 ∧ 0 ≤ w ∧ w < 8 * (n : Int) := fun z => by
      obtain ⟨sp, e2, h3⟩ := h.poke m.c z
      rw [e] at e2
      cases e2
      exact ⟨rfl, h3⟩
    by_cases h0 : a = 0
    · rw [if_pos h0]
      exact ⟨hl2, hw, k.w1, fun z => absurd (h0.symm.trans (hp z).1) (by decide), k.n⟩
    · rw [if_neg h0]
      exact ⟨hl2, k.w0, hw, fun z => (hp z).2, k.n⟩
  | poke =>
    have hl2 : m.c + 1 < os.length := hl.resolve_left nofun
    rw [stepM_poke e]
    refine ⟨hl2, k.w0, k.w1, fun z => ?_, by rw [← k.n]; exact pokeP_len _ _ _⟩
    obtain ⟨sp, e2, _⟩ := h.poke m.c z
    rw [e] at e2
    cases e2
  | nought =>
    rw [stepM_nought e]
    exact ⟨h.len1, k.w0, k.w1, fun z => absurd z h.first, k.n⟩
theorem iterM_ok {os : List Ord} {n : Nat} (h : PrgOk os n) : ∀ (t : Nat) {m : MS}, MOk os n m → MOk os n (iterM os t m)
  | 0, m, k => k
  | t + 1, m, k => iterM_ok h t (stepM_ok h k)
/-! ### the machine's objects -/
def PrgR (s : HS) (ol : Addr) (q : Rg) (os : List Ord) : Prop := ∃ as : List Addr, At s ol q (.lst (as.map V.ref)) ∧ as.length = os.length ∧ ∀ (i : Nat) (a : Addr) (o : Ord), as[i]? = some a → os[i]? = some o → At s a (2, 1) (.tup o.vals)
theorem PrgR.step {s t : HS} {ol : Addr} {q : Rg} {os : List Ord} {R : Nat → Prop} (h : PrgR s ol q os) (st : Step R s t) (n0 : ¬ R q.1) (n2 : ¬ R 2) : PrgR t ol q os := by
  obtain ⟨as, h1, h2, h3⟩ := h
  exact ⟨as, h1.step st n0, h2, fun i a o x y => (h3 i a o x y).step st n2⟩
structure MD where
  dx : Addr
  ol : Addr
  cl : Addr
  ft : Addr
  nl : Addr
structure MachAt (K : PySem.W.Frag) (s : HS) (k : Nat) (mo obj : Addr) (os : List Ord) (m : MS) (D : MD) : Prop where
  ob : At s mo (4 * k + 6, 0) (.ins (He.ga K "Machine") D.dx (l_Machine.zip [.ref obj, .ref D.ol, .int 0, .ref D.cl, .int m.c, .bl true, .ref D.ft, .bl false, .ref D.nl]))
  or_ : PrgR s D.ol (4 * k + 6, 1) os
  ce : At s D.cl (4 * k + 6, 2) (.lst [.int m.r0, .int m.r1, .int 0, .int 0])
  fa : At s D.ft (2, 2) (.tup [.int 0, .int 0, .int 0, .bl true])
  no : At s D.nl (4 * k + 6, 4) (.lst [])
section
variable {K : PySem.W.Frag} {s t : HS} {k : Nat} {mo obj : Addr} {os : List Ord} {m : MS} {D : MD} {R : Nat → Prop}
theorem MachAt.step (h : MachAt K s k mo obj os m D) (st : Step R s t) (n6 : ¬ R (4 * k + 6)) (n2 : ¬ R 2) : MachAt K t k mo obj os m D := ⟨h.ob.step st n6, h.or_.step st n6 n2, h.ce.step st n6, h.fa.step st n2, h.no.step st n6⟩
theorem MachAt.pgs (h : MachAt K s k mo obj os m D) (pgs : List (List Int)) : MachAt K s k mo obj os { m with pgs := pgs } D := ⟨h.ob, h.or_, h.ce, h.fa, h.no⟩
theorem PrgR.put {a : Addr} {n : Nat} {o o' : HO} {ol : Addr} (h : PrgR s ol (4 * k + 6, 1) os) (hp : At s a (4 * k + 6, n) o) (hn : n ≠ 1) : PrgR (s.put a o') ol (4 * k + 6, 1) os := by
  obtain ⟨as, h1, h2, h3⟩ := h
  exact ⟨as, h1.put hp (by simpa using fun z => hn z.symm), h2, fun i a o x y => (h3 i a o x y).put hp (by simp)⟩
theorem MachAt.ctr (h : MachAt K s k mo obj os m D) (c : Nat) : MachAt K (s.put mo (.ins (He.ga K "Machine") D.dx (l_Machine.zip [.ref obj, .ref D.ol, .int 0, .ref D.cl, .int c, .bl true, .ref D.ft, .bl false, .ref D.nl]))) k mo obj os { m with c := c } D :=
  ⟨h.ob.self, h.or_.put h.ob (by decide), h.ce.put h.ob (by simp), h.fa.put h.ob (by simp), h.no.put h.ob (by simp)⟩
theorem MachAt.cells (h : MachAt K s k mo obj os m D) (r0 r1 : Int) : MachAt K (s.put D.cl (.lst [.int r0, .int r1, .int 0, .int 0])) k mo obj os { m with r0 := r0, r1 := r1 } D :=
  ⟨h.ob.put h.ce (by simp), h.or_.put h.ce (by decide), h.ce.self, h.fa.put h.ce (by simp), h.no.put h.ce (by simp)⟩
theorem MachAt.row (h : MachAt K s k mo obj os m D) {o : Ord} (e : os[m.c]? = some o) : ∃ as a, s.h D.ol = some (.lst as) ∧ as[m.c]? = some (V.ref a) ∧ At s a (2, 1) (.tup o.vals) := by
  obtain ⟨as, h1, h2, h3⟩ := h.or_
  have hi := (List.getElem?_eq_some_iff.mp e).1
  have ea := List.getElem?_eq_getElem (show m.c < as.length by omega)
  exact ⟨_, _, h1.1, by rw [List.getElem?_map, ea] <;> rfl, h3 _ _ _ ea e⟩
end
def spM (K : PySem.W.Frag) (body : HS → Nat → Addr → Addr → List Ord → MS → MD → List V → VK → Prop) : Sp := fun vs H Q _ => ∃ r k mo obj os m D xs, vs = .ref mo :: xs ∧ MachAt K ⟨H, r⟩ k mo obj os m D ∧ body ⟨H, r⟩ k mo obj os m D xs Q
def sp_M_go (K : PySem.W.Frag) : Sp := spM K fun s k mo obj os m D xs Q => ∃ a, xs = [.ref a] ∧ At s a (2, 1) (.tup Ord.nought.vals) ∧ Does (· = 4 * k + 6) s Q fun v t => v = .non ∧ MachAt K t k mo obj os { m with c := 0 } D
def sp_M_reckon (K : PySem.W.Frag) : Sp := spM K fun s k mo obj os m D xs Q => ∃ a i x, xs = [.ref a] ∧ At s a (2, 1) (.tup (Ord.set i x).vals) ∧ (i = 0 ∨ i = 1) ∧ Does (· = 4 * k + 6) s Q fun v t => v = .non ∧ MachAt K t k mo obj os (if i = 0 then { m with r0 := x } else { m with r1 := x }) D
def innerB : Ord → Bool
  | .poke => true
  | _ => false
def sp_is_inner : Sp := fun vs H Q _ => ∃ o : Ord, vs = [.str o.word] ∧ ∀ H', Same H H' → Q (.bl (innerB o)) H'
section
variable {P : Program} {w : World} {K : PySem.W.Frag} {mg : Str → Option Value} {base : Heap} {b : Bool}
theorem lenM {f : HS → Nat → Addr → Addr → List Ord → MS → MD → List V → VK → Prop} {n : Nat} (h : ∀ s k mo obj os m D xs Q, f s k mo obj os m D xs Q → xs.length = n) {vs : List V} {H : Hp} {Q : VK} {E : XK} (z : spM K f vs H Q E) : vs.length = n + 1 := by
  obtain ⟨r, k, mo, obj, os, m, D, xs, rfl, _, q⟩ := z
  rw [List.length_cons, h _ _ _ _ _ _ _ _ _ q]
theorem ok_is_inner (T : TX K mg) : Fn P w K mg base false 1 (He.ga K "is_inner") sp_is_inner := by
  refine (f_is_inner T).calm 0 (fun vs H Q E h => by obtain ⟨_, z, _⟩ := h; rw [z] <;> rfl) (fun cdv A outer s H vs Q E hr h => ?_)
  obtain ⟨o, rfl, k⟩ := h
  refine ⟨_, pss_one (ps_ret (pe_cmpR op_in_seq (pv 0) (pe_tup (pa_cons pe_str (pa_cons pe_str (pa_cons pe_str (pa_cons pe_str (pa_cons pe_str (pa_cons pe_str (pa_cons pe_str (pa_cons pe_str (pa_cons pe_str (pa_cons pe_str pa_nil))))))))))) (by rfl))), ?_⟩
  walk_at "w"
  cases o with
  | set a x => dsimp only [Ord.word]; exact q_inW (b := false) (by decide +kernel) (show 10 ≤ 1000 by decide) fun H1 e1 => k H1 e1
  | poke => exact q_inW (b := true) (by decide +kernel) (show 10 ≤ 1000 by decide) fun H1 e1 => k H1 e1
  | nought => exact q_inW (b := false) (by decide +kernel) (show 10 ≤ 1000 by decide) fun H1 e1 => k H1 e1
theorem ok_Machine_go (T : TX K mg) : Fn P w K mg base false 1 (He.ma K (He.ga K "Machine") "go") (sp_M_go K) := by
  refine (f_Machine_go T).calm 0 (fun vs H Q E h => lenM (n := 1) (fun s k mo obj os m D xs Q z => by obtain ⟨_, z, _⟩ := z; rw [z] <;> rfl) h) (fun cdv A outer s H vs Q E hr h => ?_)
  obtain ⟨r, k, mo, obj, os, m, D, xs, rfl, hM, a, rfl, ha, q⟩ := h
  have h1 : H mo = some _ := hM.ob.1
  have h2 : H a = some _ := ha.1
  have h3 : H D.cl = some _ := hM.ce.1
  refine ⟨_, pss_cons (ps_set (i := 2) (f_Machine_go T).nd rfl (Or.inl rfl) (pe_ix ix_tup (pv 1) pe_int (fun _ _ => rfl))) (pss_cons (ps_if (pt_cmpR op_eq (pv 2) pe_str (nomark _)) (pss_one ps_never) pss_nil) (pss_one (ps_if (pt_cmpR op_eq (pv 2) pe_str (nomark _)) (pss_one (x_set (kls_Machine T) 7 (pv 0) pe_bl)) (pss_one (ps_if (pt_cmpR op_eq (pv 2) pe_str (nomark _)) (pss_one (x_set (kls_Machine T) 4 (pv 0) (pe_ix ix_tup (pv 1) pe_int (fun _ _ => rfl)))) (pss_one (ps_if (pt_cmpR op_eq (pv 2) pe_str (nomark _)) (pss_cons (x_set (kls_Machine T) 5 (pv 0) pe_bl) (pss_one (x_set (kls_Machine T) 4 (pv 0) (pe_ix ix_tup (pv 1) pe_int (fun _ _ => rfl))))) (pss_one (ps_if (pt_cmpR op_eq (pv 2) pe_str (nomark _)) (pss_cons (x_set (kls_Machine T) 4 (pv 0) (pe_op op_add (y_fld (i := 4) (kls_Machine T) (pv 0)) pe_int)) (pss_one (ps_if (pt_cmpR op_eq (pe_ix ix_list (y_fld (i := 3) (kls_Machine T) (pv 0)) (pe_ix ix_tup (pv 1) pe_int (fun _ _ => rfl)) (fun _ _ => rfl)) pe_int (nomark _)) (pss_one (x_set (kls_Machine T) 4 (pv 0) (pe_ix ix_tup (pv 1) pe_int (fun _ _ => rfl)))) pss_nil))) (pss_cons (x_set (kls_Machine T) 4 (pv 0) (pe_ix ix_tup (y_fld (i := 6) (kls_Machine T) (pv 0)) pe_int (fun _ _ => rfl))) (pss_cons (ps_if (pt_cmpR op_eq (pv 2) pe_str (nomark _)) (pss_one (x_set (kls_Machine T) 4 (pv 0) (pe_op op_add (pe_ix ix_tup (y_fld (i := 6) (kls_Machine T) (pv 0)) pe_int (fun _ _ => rfl)) pe_int))) pss_nil) (pss_one (x_set (kls_Machine T) 5 (pv 0) (pe_ix ix_tup (y_fld (i := 6) (kls_Machine T) (pv 0)) pe_int (fun _ _ => rfl))))))))))))))), ?_⟩
  walk_at "w"
  refine q_ixT h2 (v := .str "nought") rfl ?_
  walk_at "w"
  rw [show (m.c : Int) + 1 = ((m.c + 1 : Nat) : Int) by omega]
  refine q_pSet h1 (by simp) ?_
  have hM1 := hM.ctr (m.c + 1)
  have st1 : Step (· = 4 * k + 6) ⟨H, r⟩ _ := Step.put1 (o' := .ins (He.ga K "Machine") D.dx (l_Machine.zip [.ref obj, .ref D.ol, .int 0, .ref D.cl, .int (m.c + 1 : Nat), .bl true, .ref D.ft, .bl false, .ref D.nl])) hM.ob
  have g1 := hM1.ob.1
  have g3 := hM1.ce.1
  have g2 := (ha.step st1 (by omega)).1
  walk_at "w"
  refine q_ixT g2 (v := .int 2) rfl ?_
  refine q_ixL g3 (v := .int 0) rfl ?_
  walk_at "w"
  refine q_ixT g2 (v := .int 0) rfl ?_
  walk_at "w"
  refine q_pSet g1 (by simp) ?_
  exact q _ _ (st1.trans (Step.put1 hM1.ob)) ⟨rfl, hM1.ctr 0⟩
theorem ok_Machine_reckon (T : TX K mg) : Fn P w K mg base false 1 (He.ma K (He.ga K "Machine") "reckon") (sp_M_reckon K) := by
  refine (f_Machine_reckon T).calm 0 (fun vs H Q E h => lenM (n := 1) (fun s k mo obj os m D xs Q z => by obtain ⟨_, _, _, z, _⟩ := z; rw [z] <;> rfl) h) (fun cdv A outer s H vs Q E hr h => ?_)
  obtain ⟨r, k, mo, obj, os, m, D, xs, rfl, hM, a, i, x, rfl, ha, hi, q⟩ := h
  have h1 : H mo = some _ := hM.ob.1
  have h2 : H a = some _ := ha.1
  have h3 : H D.cl = some _ := hM.ce.1
  refine ⟨_, pss_cons (ps_set (i := 2) (f_Machine_reckon T).nd rfl (Or.inl rfl) (pe_ix ix_tup (pv 1) pe_int (fun _ _ => rfl))) (pss_cons (ps_set (i := 3) (f_Machine_reckon T).nd rfl (Or.inl rfl) (pe_ix ix_tup (pv 1) pe_int (fun _ _ => rfl))) (pss_one (ps_if (pt_cmpR op_eq (pv 2) pe_str (nomark _)) (pss_one (ps_asg (pe_ix ix_tup (pv 1) pe_int (fun _ _ => rfl)) (pg_sub (y_fld (i := 3) (kls_Machine T) (pv 0)) (pv 3) set_list))) (pss_one (ps_if (pt_cmpR op_eq (pv 2) pe_str (nomark _)) (pss_one (ps_expr (x_app (y_fld (i := 8) (kls_Machine T) (pv 0)) (pe_tup (pa_cons pe_str (pa_cons (pe_ix ix_list (y_fld (i := 3) (kls_Machine T) (pv 0)) (pv 3) (fun _ _ => rfl)) pa_nil)))))) (pss_one (ps_if (pt_cmpR op_eq (pv 2) pe_str (nomark _)) (pss_one ps_never) (pss_one (ps_if (pt_cmpR op_eq (pv 2) pe_str (nomark _)) (pss_one ps_never) (pss_one (ps_if (pt_cmpR op_eq (pv 2) pe_str (nomark _)) (pss_one ps_never) (pss_cons (ps_asg (pe_ix ix_tup (y_fld (i := 6) (kls_Machine T) (pv 0)) pe_int (fun _ _ => rfl)) (pg_sub (y_fld (i := 3) (kls_Machine T) (pv 0)) (pv 3) set_list)) (pss_one (ps_asg (pe_ix ix_tup (y_fld (i := 6) (kls_Machine T) (pv 0)) pe_int (fun _ _ => rfl)) (pg_sub (y_fld (i := 3) (kls_Machine T) (pv 0)) (pe_ix ix_tup (pv 1) pe_int (fun _ _ => rfl)) set_list))))))))))))))), ?_⟩
  walk_at "w"
  refine q_ixT h2 (v := .str "set") rfl ?_
  walk_at "w"
  refine q_ixT h2 (v := .int i) rfl ?_
  walk_at "w"
  refine q_ixT h2 (v := .int x) rfl ?_
  unfold gSub
  walk_at "w"
  rcases hi with rfl | rfl
  · refine q_setL (j := 0) h3 (show 0 < 4 by decide) ?_
    exact q _ _ (Step.put1 hM.ce) ⟨rfl, hM.cells x m.r1⟩
  · refine q_setL (j := 1) h3 (show 1 < 4 by decide) ?_
    exact q _ _ (Step.put1 hM.ce) ⟨rfl, hM.cells m.r0 x⟩
theorem Fn.ex {α : Type} {md : Bool} {k : Nat} {f : Addr} {sp : α → Sp} (h : ∀ a, Fn P w K mg base md k f (sp a)) : Fn P w K mg base md k f (fun vs H Q E => ∃ a, sp a vs H Q E) :=
  ⟨fun A outer s H us vs Q E hr e0 r ⟨a, hs⟩ => (h a).calm A outer s H us vs Q E hr e0 r hs, fun hm A outer s H us vs Q E p hr hot hpin e0 r ⟨a, hs⟩ => (h a).hot hm A outer s H us vs Q E p hr hot hpin e0 r hs⟩
def RM (k : Nat) (x : Nat) : Prop := x = 4 * k + 4 ∨ x = 4 * k + 5 ∨ x = 4 * k + 6
theorem RM.of {k x : Nat} (h : RWy k x) : RM k x := h.elim .inl fun z => .inr (.inl z)
/-- what a step may change in a way: pages changed are soiled -/
def Soil (so so' : Nat → Bool) (p p' : List (List Int)) : Prop := (∀ i, so i = true → so' i = true) ∧ ∀ i : Nat, p'[i]? ≠ p[i]? → so' i = true
theorem Soil.refl {so : Nat → Bool} {p : List (List Int)} : Soil so so p p := ⟨fun _ h => h, fun i h => absurd rfl h⟩
theorem Soil.trans {so so' so'' : Nat → Bool} {p p' p'' : List (List Int)} (a : Soil so so' p p') (b : Soil so' so'' p' p'') : Soil so so'' p p'' :=
  ⟨fun i h => b.1 i (a.1 i h), fun i h => by
    by_cases z : p''[i]? = p'[i]?
    · exact b.1 i (a.2 i (by rw [← z]; exact h))
    · exact b.2 i z⟩
theorem poke_at {pgs : List (List Int)} {sp : Int} (x : Int) (h0 : 0 ≤ sp) (h1 : sp < 8 * pgs.length) : ∃ (p j : Nat) (ws : List Int), sp = 8 * (p : Int) + j ∧ j < 8 ∧ pgs[p]? = some ws ∧ pokeP pgs sp x = pgs.set p (ws.set j x) := by
  obtain ⟨p, hp⟩ : ∃ p : Nat, sp / 8 = p := Int.eq_ofNat_of_zero_le (by omega)
  obtain ⟨j, hj⟩ : ∃ j : Nat, sp % 8 = j := Int.eq_ofNat_of_zero_le (by omega)
  have e := List.getElem?_eq_getElem (show p < pgs.length by omega)
  refine ⟨p, j, _, by omega, by omega, e, ?_⟩
  unfold pokeP
  rw [hp, hj, Int.toNat_natCast, Int.toNat_natCast, e]
def sp_M_carry (K : PySem.W.Frag) (b : Bool) : Sp := spM K fun s k mo obj os m D xs Q => ∃ a A F so DW, ∃ (p j : Nat) (ws : List Int), xs = [.ref a] ∧ At s a (2, 1) (.tup Ord.poke.vals) ∧ WayAt K s k b obj A F m.pgs so DW ∧ m.r1 = 8 * (p : Int) + j ∧ m.pgs[p]? = some ws ∧ j < 8 ∧ isW m.r0 ∧
  Does (RM k) s Q fun v t => v = .non ∧ ∃ F', WayAt K t k b obj A F' (m.pgs.set p (ws.set j m.r0)) (addSo so p) DW ∧ MachAt K t k mo obj os m D
theorem ok_Machine_carry_word (T : TX K mg) : Fn P w K mg base false 12 (He.ma K (He.ga K "Machine") "carry_word") (fun vs H Q E => ∃ b, sp_M_carry K b vs H Q E) := by
  refine Fn.ex fun b => ?_
  refine (f_Machine_carry_word T).calm 11 (fun vs H Q E h => lenM (n := 1) (fun s k mo obj os m D xs Q z => by obtain ⟨_, _, _, _, _, _, _, _, z, _⟩ := z; rw [z] <;> rfl) h) (fun cdv A outer s H vs Q E hr h => ?_)
  obtain ⟨r, k, mo, obj, os, m, D, xs, rfl, hM, a, A, F, so, DW, p, j, ws, rfl, ha, hW, hr1, hp, hj, hw, q⟩ := h
  have h1 : H mo = some _ := hM.ob.1
  have h2 : H a = some _ := ha.1
  have h3 : H D.cl = some _ := hM.ce.1
  have h4 : H obj = some _ := hW.ob.1
  refine ⟨_, pss_cons (ps_set (i := 2) (f_Machine_carry_word T).nd rfl (Or.inl rfl) (pe_ix ix_tup (pv 1) pe_int (fun _ _ => rfl))) (pss_cons (ps_set (i := 3) (f_Machine_carry_word T).nd rfl (Or.inl rfl) (pe_ix ix_list (y_fld (i := 3) (kls_Machine T) (pv 0)) (pe_ix ix_tup (pv 1) pe_int (fun _ _ => rfl)) (fun _ _ => rfl))) (pss_one (ps_if (pt_cmpR op_eq (pe_ix ix_tup (pv 1) pe_int (fun _ _ => rfl)) pe_str (nomark _)) (pss_one ps_never) (pss_one (ps_if (pt_cmpR op_eq (pe_ix ix_tup (pv 1) pe_int (fun _ _ => rfl)) pe_str (nomark _)) (pss_one ps_never) (pss_one (ps_if (pt_cmpR op_eq (pe_ix ix_tup (pv 1) pe_int (fun _ _ => rfl)) pe_str (nomark _)) (pss_one ps_never) (pss_one (ps_expr (x_m (ok_W_poke T b) (can hr) (kls_W T b) (m_W_poke T b) (fun _ => pas0) (y_fld (i := 0) (kls_Machine T) (pv 0)) (pa_cons (pv 3) (pa_cons (pe_ix ix_list (y_fld (i := 3) (kls_Machine T) (pv 0)) (pv 2) (fun _ _ => rfl)) pa_nil)))))))))))), ?_⟩
  walk_at "w"
  refine q_ixT h2 (v := .int 0) rfl ?_
  walk_at "w"
  refine q_ixT h2 (v := .int 1) rfl ?_
  refine q_ixL h3 (v := .int m.r1) rfl ?_
  walk_at "w"
  refine q_ixT h2 (v := .str "poke") rfl ?_
  walk_at "w"
  refine q_ixT h2 (v := .str "poke") rfl ?_
  walk_at "w"
  refine q_ixT h2 (v := .str "poke") rfl ?_
  walk_at "w"
  refine q_ixL h3 (v := .int m.r0) rfl ?_
  refine ⟨r, k, obj, A, F, m.pgs, so, DW, _, rfl, hW, _, _, p, j, ws, rfl, hr1, hp, hj, hw, ?_⟩
  rintro v t st ⟨rfl, F', hW'⟩
  exact q _ t (st.mono fun _ z => .of z) ⟨rfl, F', hW', hM.step st (fun z => by rcases z with z | z <;> omega) (fun z => by rcases z with z | z <;> omega)⟩
/-- a step of the machine, the way behind it -/
def StepTo (K : PySem.W.Frag) (k : Nat) (b : Bool) (mo obj A : Addr) (os : List Ord) (so : Nat → Bool) (pgs : List (List Int)) (m' : MS) (D : MD) (DW : WD) (t : HS) : Prop :=
  ∃ F' so', WayAt K t k b obj A F' m'.pgs so' DW ∧ MachAt K t k mo obj os m' D ∧ Soil so so' pgs m'.pgs
def sp_M_do (K : PySem.W.Frag) (b : Bool) : Sp := spM K fun s k mo obj os m D xs Q => ∃ a A F so DW o n, xs = [.ref a] ∧ os[m.c]? = some o ∧ At s a (2, 1) (.tup o.vals) ∧ WayAt K s k b obj A F m.pgs so DW ∧ PrgOk os n ∧ MOk os n m ∧
  Does (RM k) s Q fun v t => v = .non ∧ StepTo K k b mo obj A os so m.pgs (stepM os m) D DW t
theorem Soil.poke {so : Nat → Bool} {pgs : List (List Int)} {p : Nat} {w : List Int} : Soil so (addSo so p) pgs (pgs.set p w) := by
  refine ⟨fun i h => ?_, fun i h => ?_⟩
  · unfold addSo
    split
    · rfl
    · exact h
  · unfold addSo
    by_cases e : i = p
    · rw [if_pos e]
    · rw [List.getElem?_set_ne fun z => e z.symm] at h
      exact absurd rfl h
theorem ok_Machine_do (T : TX K mg) : Fn P w K mg base false 13 (He.ma K (He.ga K "Machine") "do") (fun vs H Q E => ∃ b, sp_M_do K b vs H Q E) := by
  refine Fn.ex fun b => ?_
  refine (f_Machine_do T).calm 12 (fun vs H Q E h => lenM (n := 1) (fun s k mo obj os m D xs Q z => by obtain ⟨_, _, _, _, _, _, _, z, _⟩ := z; rw [z] <;> rfl) h) (fun cdv A outer s H vs Q E hr h => ?_)
  obtain ⟨r, k, mo, obj, os, m, D, xs, rfl, hM, a, A, F, so, DW, o, n, rfl, eo, ha, hW, hP, hO, q⟩ := h
  have h2 : H a = some _ := ha.1
  refine ⟨_, pss_cons (ps_set (i := 2) (f_Machine_do T).nd rfl (Or.inl rfl) (pe_ix ix_tup (pv 1) pe_int (fun _ _ => rfl))) (pss_cons (ps_if (PW.pt (pw_and (pt_val (x_call (ok_is_inner T) (can hr) (g_is_inner T) (f_is_inner T).kp (fun _ => pas0) (pa_cons (pv 2) pa_nil))) (pw_and1 (pt_not (pt_val (y_fld (i := 5) (kls_Machine T) (pv 0))))))) (pss_one ps_never) pss_nil) (pss_cons (ps_if (pt_cmpR op_in_seq (pv 2) (pe_tup (pa_cons pe_str (pa_cons pe_str (pa_cons pe_str (pa_cons pe_str (pa_cons pe_str (pa_cons pe_str (pa_cons pe_str pa_nil)))))))) (by rfl)) (pss_cons (ps_expr (x_m (ok_Machine_go T) (can hr) (kls_Machine T) (m_Machine_go T) (fun _ => pas0) (pv 0) (pa_cons (pv 1) pa_nil))) (pss_one ps_retN)) pss_nil) (pss_cons (ps_if (pt_cmpR op_in_seq (pv 2) (pe_tup (pa_cons pe_str (pa_cons pe_str (pa_cons pe_str (pa_cons pe_str (pa_cons pe_str (pa_cons pe_str pa_nil))))))) (by rfl)) (pss_one (ps_expr (x_m (ok_Machine_reckon T) (can hr) (kls_Machine T) (m_Machine_reckon T) (fun _ => pas0) (pv 0) (pa_cons (pv 1) pa_nil)))) (pss_one (ps_if (pt_cmpR op_in_seq (pv 2) (pe_tup (pa_cons pe_str (pa_cons pe_str (pa_cons pe_str (pa_cons pe_str pa_nil))))) (by rfl)) (pss_one (ps_expr (x_m (ok_Machine_carry_word T) (can hr) (kls_Machine T) (m_Machine_carry_word T) (fun _ => pas0) (pv 0) (pa_cons (pv 1) pa_nil)))) (pss_one ps_never)))) (pss_one (x_set (kls_Machine T) 4 (pv 0) (pe_op op_add (y_fld (i := 4) (kls_Machine T) (pv 0)) pe_int)))))), ?_⟩
  walk_at "w"
  refine q_ixT h2 (v := .str o.word) (by cases o <;> rfl) ?_
  walk_at "w"
  refine ⟨o, rfl, fun H1 e1 => ?_⟩
  have hM1 := hM.step (R := fun _ => False) (Step.same (r := r) e1) id id
  have hW1 := hW.same e1
  have ha1 := ha.same e1
  have h1 : H1 mo = some _ := hM1.ob.1
  have st1 : Step (RM k) ⟨H, r⟩ ⟨H1, r⟩ := Step.same e1
  cases o with
  | nought =>
    rw [stepM_nought eo] at q
    dsimp only [innerB, Ord.word]
    walk_at "w"
    refine q_inW (b := true) (by decide +kernel) (show 7 ≤ 1000 by decide) fun H2 e2 => ?_
    have hM2 := hM1.step (R := fun _ => False) (Step.same (r := r) e2) id id
    have h1 : H2 mo = some _ := hM2.ob.1
    walk_at "w"
    refine ⟨r, k, mo, obj, os, m, D, _, rfl, hM2, a, rfl, ha1.same e2, ?_⟩
    rintro v t st ⟨rfl, hM3⟩
    walk_at "w"
    exact q _ t (st1.trans ((Step.same e2).trans (st.mono fun _ z => .inr (.inr z)))) ⟨rfl, F, so, (hW1.same e2).step st (by omega) (by omega), hM3, Soil.refl⟩
  | set i x =>
    obtain ⟨hi, hx⟩ := hP.set _ _ _ eo
    rw [stepM_set eo] at q
    dsimp only [innerB, Ord.word]
    walk_at "w"
    refine q_inW (b := false) (by decide +kernel) (show 7 ≤ 1000 by decide) fun H2 e2 => ?_
    walk_at "w"
    refine q_inW (b := true) (by decide +kernel) (show 6 ≤ 1000 by decide) fun H3 e3 => ?_
    have hM3 := (hM1.step (R := fun _ => False) (Step.same (r := r) e2) id id).step (R := fun _ => False) (Step.same (r := r) e3) id id
    have h1 : H3 mo = some _ := hM3.ob.1
    walk_at "w"
    refine ⟨r, k, mo, obj, os, m, D, _, rfl, hM3, a, i, x, rfl, (ha1.same e2).same e3, hi, ?_⟩
    rintro v t st ⟨rfl, hM4⟩
    have h5 := hM4.ob.1
    have hc : ((if i = 0 then { m with r0 := x } else { m with r1 := x } : MS).c) = m.c := by split <;> rfl
    rw [hc] at h5
    walk_at "w"
    rw [show (m.c : Int) + 1 = ((m.c + 1 : Nat) : Int) by omega]
    refine q_pSet h5 (by simp) ?_
    have hM5 := hM4.ctr (m.c + 1)
    refine q _ _ (st1.trans ((Step.same e2).trans ((Step.same e3).trans ((st.mono fun _ z => .inr (.inr z)).trans (Step.put hM4.ob (.inr (.inr rfl))))))) ⟨rfl, F, so, ?_, ?_, ?_⟩
    · have hW5 := ((((hW1.same e2).same e3).step st (by omega) (by omega)).step (Step.put1 (o' := .ins (He.ga K "Machine") D.dx (l_Machine.zip [.ref obj, .ref D.ol, .int 0, .ref D.cl, .int (m.c + 1 : Nat), .bl true, .ref D.ft, .bl false, .ref D.nl])) hM4.ob) (by omega) (by omega))
      by_cases z : i = 0
      · rw [if_pos z]; exact hW5
      · rw [if_neg z]; exact hW5
    · by_cases z : i = 0
      · rw [if_pos z] at hM5 ⊢; exact hM5
      · rw [if_neg z] at hM5 ⊢; exact hM5
    · by_cases z : i = 0
      · rw [if_pos z]; exact Soil.refl
      · rw [if_neg z]; exact Soil.refl
  | poke =>
    obtain ⟨s0, s1⟩ := hO.sp eo
    rw [← hO.n] at s1
    obtain ⟨p, j, ws, e1', hj, hp, e2'⟩ := poke_at m.r0 s0 s1
    rw [stepM_poke eo, e2'] at q
    dsimp only [innerB, Ord.word]
    walk_at "w"
    refine q_inW (b := false) (by decide +kernel) (show 7 ≤ 1000 by decide) fun H2 e2 => ?_
    walk_at "w"
    refine q_inW (b := false) (by decide +kernel) (show 6 ≤ 1000 by decide) fun H3 e3 => ?_
    walk_at "w"
    refine q_inW (b := true) (by decide +kernel) (show 4 ≤ 1000 by decide) fun H4 e4 => ?_
    have hM4 := ((hM1.step (R := fun _ => False) (Step.same (r := r) e2) id id).step (R := fun _ => False) (Step.same (r := r) e3) id id).step (R := fun _ => False) (Step.same (r := r) e4) id id
    have h1 : H4 mo = some _ := hM4.ob.1
    walk_at "w"
    refine ⟨b, r, k, mo, obj, os, m, D, _, rfl, hM4, a, A, F, so, DW, p, j, ws, rfl, ((ha1.same e2).same e3).same e4, ((hW1.same e2).same e3).same e4, e1', hp, hj, hO.w0, ?_⟩
    rintro v t st ⟨rfl, F', hW5, hM5⟩
    have h5 := hM5.ob.1
    walk_at "w"
    rw [show (m.c : Int) + 1 = ((m.c + 1 : Nat) : Int) by omega]
    refine q_pSet h5 (by simp) ?_
    exact q _ _ (st1.trans ((Step.same e2).trans ((Step.same e3).trans ((Step.same e4).trans (st.trans (Step.put hM5.ob (.inr (.inr rfl)))))))) ⟨rfl, F', addSo so p, hW5.step (Step.put1 (o' := .ins (He.ga K "Machine") D.dx (l_Machine.zip [.ref obj, .ref D.ol, .int 0, .ref D.cl, .int (m.c + 1 : Nat), .bl true, .ref D.ft, .bl false, .ref D.nl])) hM5.ob) (by omega) (by omega), (hM5.ctr (m.c + 1)).pgs _, Soil.poke⟩
def sp_M_step (K : PySem.W.Frag) (b : Bool) : Sp := spM K fun s k mo obj os m D xs Q => ∃ A F so DW n, xs = [] ∧ WayAt K s k b obj A F m.pgs so DW ∧ PrgOk os n ∧ MOk os n m ∧ Does (RM k) s Q fun v t => v = .non ∧ StepTo K k b mo obj A os so m.pgs (stepM os m) D DW t
theorem ok_Machine_step (T : TX K mg) : Fn P w K mg base false 14 (He.ma K (He.ga K "Machine") "step") (fun vs H Q E => ∃ b, sp_M_step K b vs H Q E) := by
  refine Fn.ex fun b => ?_
  refine (f_Machine_step T).calm 13 (fun vs H Q E h => lenM (n := 0) (fun s k mo obj os m D xs Q z => by obtain ⟨_, _, _, _, _, z, _⟩ := z; rw [z] <;> rfl) h) (fun cdv A outer s H vs Q E hr h => ?_)
  obtain ⟨r, k, mo, obj, os, m, D, xs, rfl, hM, A, F, so, DW, n, rfl, hW, hP, hO, q⟩ := h
  have h1 : H mo = some _ := hM.ob.1
  have eo : os[m.c]? = some (os[m.c]'hO.c) := List.getElem?_eq_getElem hO.c
  obtain ⟨as, a, h2, h3, ha⟩ := hM.row eo
  refine ⟨_, pss_cons (ps_set (i := 1) (f_Machine_step T).nd rfl (Or.inl rfl) (pe_ix ix_list (y_fld (i := 1) (kls_Machine T) (pv 0)) (y_fld (i := 4) (kls_Machine T) (pv 0)) (fun _ _ => rfl))) (pss_cons (x_try_as0 (i := 2) rfl rfl (f_Machine_step T).nd rfl rfl ⟨rfl, by decide, .inl (g_Fault T)⟩ (L2N.takes_of rfl rfl rfl rfl) (fun pn xe => (pss_one (ps_expr (x_m (ok_Machine_do T) (can hr) (kls_Machine T) (m_Machine_do T) (fun _ => pas0) (pv 0) (pa_cons (pv 1) pa_nil)))))) (pss_one (ps_if (pt_cmpR op_ge (y_fld (i := 4) (kls_Machine T) (pv 0)) (x_len (z_len T) (y_fld (i := 1) (kls_Machine T) (pv 0))) (nomark _)) (pss_one (x_set (kls_Machine T) 7 (pv 0) pe_bl)) pss_nil))), ?_⟩
  walk_at "w"
  refine q_ixN h2 h3 ?_
  walk_at "w"
  refine ⟨b, r, k, mo, obj, os, m, D, _, rfl, hM, a, A, F, so, DW, _, n, rfl, eo, ha, hW, hP, hO, ?_⟩
  rintro v t st ⟨rfl, F', so', hW', hM', hs⟩
  have h5 := hM'.ob.1
  obtain ⟨as', g1, g2, g3⟩ := hM'.or_
  have g1 : t.h D.ol = some _ := g1.1
  have hc := (stepM_ok hP hO).c
  have hn : ¬ ((stepM os m).c : Int) ≥ ((as'.map V.ref).length : Int) := by rw [List.length_map]; omega
  walk_at "w"
  exact q _ t st ⟨rfl, F', so', hW', hM', hs⟩
def sp_M_turn (K : PySem.W.Frag) (b : Bool) : Sp := spM K fun s k mo obj os m D xs Q => ∃ A F so DW n, ∃ t : Nat, xs = [.int t] ∧ t ≤ 500 ∧ WayAt K s k b obj A F m.pgs so DW ∧ PrgOk os n ∧ MOk os n m ∧ Does (RM k) s Q fun v u => v = .int t ∧ StepTo K k b mo obj A os so m.pgs (iterM os t m) D DW u
theorem ok_Machine_turn (T : TX K mg) : Fn P w K mg base false 15 (He.ma K (He.ga K "Machine") "turn") (fun vs H Q E => ∃ b, sp_M_turn K b vs H Q E) := by
  refine Fn.ex fun b => ?_
  refine (f_Machine_turn T).calm 14 (fun vs H Q E h => lenM (n := 1) (fun s k mo obj os m D xs Q z => by obtain ⟨_, _, _, _, _, _, z, _⟩ := z; rw [z] <;> rfl) h) (fun cdv A outer s H vs Q E hr h => ?_)
  obtain ⟨r, k, mo, obj, os, m, D, xs, rfl, hM, A, F, so, DW, n, t, rfl, ht, hW, hP, hO, q⟩ := h
  refine ⟨_, pss_cons (ps_if (PW.pt (pw_or (pt_not (pt_val (x_call (ok_is_whole T) (can hr) (g_is_whole T) (f_is_whole T).kp (fun _ => pas0) (pa_cons (pv 1) pa_nil)))) (pw_or1 (pt_not (pt_chain op_le op_le pe_int (pv 1) (x_glob (k_MOST_STEPS T))))))) (pss_one ps_never) pss_nil) (pss_cons (ps_set (i := 2) (f_Machine_turn T).nd rfl (Or.inl rfl) pe_int) (pss_cons (ps_while (passes_of rfl) (PW.pt (pw_and (pt_cmpR op_lt (pv 2) (pv 1) (nomark _)) (pw_and1 (pt_not (pt_val (y_fld (i := 7) (kls_Machine T) (pv 0))))))) (pss_cons (ps_expr (x_m0 (ok_Machine_step T) (can hr) (kls_Machine T) (m_Machine_step T) (fun _ => pas0) (pv 0))) (pss_one (ps_set (i := 2) (f_Machine_turn T).nd rfl (Or.inl rfl) (pe_op op_add (pv 2) pe_int))))) (pss_one (ps_ret (pv 2))))), ?_⟩
  walk_at "w"
  refine ⟨fun i σ H2 => ∃ d u, i = t - d ∧ d ≤ t ∧ σ = [some (V.ref mo), some (V.int (t : Nat)), some (V.int (d : Nat))] ∧ u.h = H2 ∧ Step (RM k) ⟨H, r⟩ u ∧ StepTo K k b mo obj A os so m.pgs (iterM os d m) D DW u, ⟨t, 0, ⟨H, r⟩, by omega, by omega, rfl, rfl, Step.refl, F, so, hW, hM, Soil.refl⟩, ?_⟩
  rintro i σ H2 ⟨d, u, rfl, hd, rfl, rfl, st, F', so', hW', hM', hs⟩
  have h1 := hM'.ob.1
  walk_at "w"
  by_cases hdt : d = t
  · refine ite_n (by omega) ?_
    walk_at "w"
    subst hdt
    exact q _ u st ⟨rfl, F', so', hW', hM', hs⟩
  · refine ite_y (by omega) ?_
    walk_at "w"
    refine ⟨fun σ' H' => ∃ u, σ' = [some (V.ref mo), some (V.int (t : Nat)), some (V.int (d + 1 : Nat))] ∧ u.h = H' ∧ Step (RM k) ⟨H, r⟩ u ∧ StepTo K k b mo obj A os so m.pgs (iterM os (d + 1) m) D DW u, fun σ' H' ⟨u, h1, h2, h3, h4⟩ => ⟨t - (d + 1), by omega, d + 1, u, rfl, by omega, h1, h2, h3, h4⟩, ?_⟩
    walk_at "w"
    refine ⟨b, u.r, k, mo, obj, os, _, D, _, rfl, hM', A, F', so', DW, n, rfl, hW', hP, iterM_ok hP d hO, ?_⟩
    rintro v u2 st2 ⟨rfl, F2, so2, hW2, hM2, hs2⟩
    walk_at "w"
    refine ⟨u2, by rw [show (d : Int) + 1 = ((d + 1 : Nat) : Int) by omega] <;> rfl, rfl, st.trans st2, F2, so2, ?_, ?_, ?_⟩
    · rw [iterM_succ]; exact hW2
    · rw [iterM_succ]; exact hM2
    · rw [iterM_succ]; exact hs.trans hs2
end
end SP

/-! B16 -/
set_option maxHeartbeats 4100000
namespace SP
open PySem PySem.Spec PyProof.Rows L2 L2H
local macro_rules | `(tactic| walk_at "u") => `(tactic| (dsimp only [tRet, tSeq, tAsg, tDrop, tIfS, tNext, tRetN, tBreak, tCont, tOp, tUn, tCons, tNil, tCallX, tM, tF, sSet, sNew, sAug, tMakeX, tTest, tB, tAnd, tOr, tNot, tAndV, tOrV, tNotV, tIf, tChain, tCB, tBM, tBM0, tTup, tLst, gName, tC, tIsN, tNotN, tDIn, tDNotIn, tDGet, sDPut, tDPop1, gCons, gNil, tSl, tPart, tNoPart, tYes, tVeI]))
local macro_rules | `(tactic| walk_at "o") => `(tactic| (first | assumption | (with_reducible rfl) | omega | (intro hh; cases hh; done) | (simp only [List.length_map, List.length_replicate, List.length_range, List.length_append, List.length_cons, List.length_nil]; omega)))
local macro_rules | `(tactic| walk_at "q") => `(tactic| (repeat (first
  | ((with_reducible refine' q_var ?hq ?_); (case hq => rfl))
  | ((with_reducible refine' q_pF ?ha ?hq ?_); (case ha => assumption); (case hq => rfl))
  | ((with_reducible refine' q_pM ?ha ?_); (case ha => assumption))
  | (with_reducible refine q_I0 ?_)
  | (with_reducible refine q_isInt ?_)
  | (with_reducible refine q_isBool ?_)
  | (with_reducible refine iteT ?_)
  | (with_reducible refine iteF ?_)
  | (with_reducible refine iteNT ?_)
  | (with_reducible refine iteNF ?_)
  | (with_reducible refine q_eqI ?_)
  | (with_reducible refine q_neI ?_)
  | ((with_reducible refine' q_eq ?hq ?_); (case hq => rfl))
  | ((with_reducible refine' q_ne ?hq ?_); (case hq => rfl))
  | (with_reducible refine q_lenL (by assumption) ?_)
  | (with_reducible refine q_lenT (by assumption) ?_)
  | (with_reducible refine q_is_whole ?_)
  | (with_reducible refine q_is_word ?_)
  | (with_reducible refine q_is_below ?_)
  | ((with_reducible refine' And.intro (q_tyL ?ha) ?_); (case ha => assumption))
  | (with_reducible refine q_ip ?_)
  | (with_reducible refine q_rAdd ?_)
  | (with_reducible refine q_rSub ?_)
  | (with_reducible refine q_has ?_)
  | (with_reducible refine q_put ?_)
  | (with_reducible refine q_taken ?_)
  | (with_reducible refine q_page_of ?_)
  | (with_reducible refine q_pow48 ?_)
  | (with_reducible refine q_pow40 ?_)
  | ((with_reducible refine' q_I ?hq ?_); (case hq => first | assumption | decide | omega | exact q_div1 (by omega) _ | exact mul_ok (by omega) | exact pow_ok (by decide)))
  | ((with_reducible refine' ite_y ?hq ?_); (case hq => walk_at "o"))
  | ((with_reducible refine' ite_n ?hq ?_); (case hq => walk_at "o"))
  | ((with_reducible refine' ite_nn ?hq ?_); (case hq => walk_at "o"))
  | ((with_reducible refine' ite_ny ?hq ?_); (case hq => walk_at "o"))
  | (with_reducible
                    refine ⟨_, rfl, ?_⟩)
  | (with_reducible refine ⟨_, _, rfl, ?_⟩)
  | (with_reducible refine ⟨rfl, ?_⟩))))
local macro_rules | `(tactic| walk_at "w") => `(tactic| ((try (walk_at "u")); (walk_at "q"); (try (walk_at "u")); (walk_at "q")))
/-! ### what a machine tells -/
def coreV (m : MS) (cs ft : Addr) : List V := [.ref cs, .int m.c, .bl true, .ref ft, .bl false]
def CoreAt (s : HS) (a : Addr) (m : MS) : Prop := ∃ cs ft, At s a (0, 0) (.tup (coreV m cs ft)) ∧ At s cs (0, 0) (.lst [.int m.r0, .int m.r1, .int 0, .int 0]) ∧ At s ft (2, 2) (.tup [.int 0, .int 0, .int 0, .bl true])
def ToldAt (s : HS) (a : Addr) (m : MS) : Prop := ∃ co sh pg, At s a (0, 0) (.tup [.ref co, .int 0, .ref sh, .ref pg]) ∧ CoreAt s co m ∧ At s sh (0, 0) (.lst []) ∧ PgsR s pg 0 100 m.pgs
theorem CoreAt.step {s t : HS} {a : Addr} {m : MS} {R : Nat → Prop} (h : CoreAt s a m) (st : Step R s t) (n0 : ¬ R 0) (n2 : ¬ R 2) : CoreAt t a m := by
  obtain ⟨cs, ft, h1, h2, h3⟩ := h
  exact ⟨cs, ft, h1.step st n0, h2.step st n0, h3.step st n2⟩
theorem ToldAt.step {s t : HS} {a : Addr} {m : MS} {R : Nat → Prop} (h : ToldAt s a m) (st : Step R s t) (n0 : ¬ R 0) (n2 : ¬ R 2) (n100 : ¬ R 100) : ToldAt t a m := by
  obtain ⟨co, sh, pg, h1, h2, h3, h4⟩ := h
  exact ⟨co, sh, pg, h1.step st n0, h2.step st n0 n2, h3.step st n0, h4.step st n0 n100⟩
def sp_M_core (K : PySem.W.Frag) : Sp := spM K fun s k mo obj os m D xs Q => xs = [] ∧ Does (fun _ => False) s Q fun v t => ∃ a, v = .ref a ∧ CoreAt t a m
def sp_M_events (K : PySem.W.Frag) : Sp := spM K fun s k mo obj os m D xs Q => xs = [] ∧ ∀ l, s.h l = none → Q (.ref l) (upd s.h l (.lst []))
def sp_M_entry (K : PySem.W.Frag) : Sp := spM K fun s k mo obj os m D xs Q => xs = [] ∧ Q (.int 0) s.h
def sp_M_program (K : PySem.W.Frag) : Sp := spM K fun s k mo obj os m D xs Q => xs = [] ∧ Does (fun _ => False) s Q fun v t => ∃ l, v = .ref l ∧ PrgR t l (0, 0) os
def sp_M_told (K : PySem.W.Frag) (b : Bool) : Sp := spM K fun s k mo obj os m D xs Q => ∃ A F so DW, xs = [] ∧ WayAt K s k b obj A F m.pgs so DW ∧ Does (fun _ => False) s Q fun v t => ∃ a, v = .ref a ∧ ToldAt t a m
section
variable {P : Program} {w : World} {K : PySem.W.Frag} {mg : Str → Option Value} {base : Heap} {b : Bool}
theorem ok_Machine_core (T : TX K mg) : Fn P w K mg base false 1 (He.ma K (He.ga K "Machine") "core") (sp_M_core K) := by
  refine (f_Machine_core T).calm 0 (fun vs H Q E h => lenM (n := 0) (fun s k mo obj os m D xs Q z => by rw [z.1] <;> rfl) h) (fun cdv A outer s H vs Q E hr h => ?_)
  obtain ⟨r, k, mo, obj, os, m, D, xs, rfl, hM, rfl, q⟩ := h
  have h1 : H mo = some _ := hM.ob.1
  refine ⟨_, pss_one (ps_ret (pe_tup (pa_cons (x_list (z_list T) (y_fld (i := 3) (kls_Machine T) (pv 0))) (pa_cons (y_fld (i := 4) (kls_Machine T) (pv 0)) (pa_cons (y_fld (i := 5) (kls_Machine T) (pv 0)) (pa_cons (y_fld (i := 6) (kls_Machine T) (pv 0)) (pa_cons (y_fld (i := 7) (kls_Machine T) (pv 0)) pa_nil))))))), ?_⟩
  walk_at "w"
  refine q_list hM.ce.1 fun cs hcs => ?_
  have st1 := Step.new (R := fun _ => False) (s := ⟨H, r⟩) (q := (0, 0)) (o := .lst [.int m.r0, .int m.r1, .int 0, .int 0]) hcs
  have hM1 := hM.step st1 id id
  have h1 := hM1.ob.1
  walk_at "w"
  refine ⟨(show 5 ≤ sizeLine by decide), fun a ha => ?_⟩
  have st2 := Step.new (R := fun _ => False) (s := (HS.mk H r).new cs (0, 0) (.lst [.int m.r0, .int m.r1, .int 0, .int 0])) (q := (0, 0)) (o := .tup (coreV m cs D.ft)) ha
  exact q _ _ (st1.trans st2) ⟨a, rfl, cs, D.ft, At.made, At.made.step st2 id, hM1.fa.step st2 id⟩
theorem ok_Machine_events (T : TX K mg) : Fn P w K mg base false 1 (He.ma K (He.ga K "Machine") "events") (sp_M_events K) := by
  refine (f_Machine_events T).calm 0 (fun vs H Q E h => lenM (n := 0) (fun s k mo obj os m D xs Q z => by rw [z.1] <;> rfl) h) (fun cdv A outer s H vs Q E hr h => ?_)
  obtain ⟨r, k, mo, obj, os, m, D, xs, rfl, hM, rfl, q⟩ := h
  have h1 : H mo = some _ := hM.ob.1
  refine ⟨_, pss_one (ps_ret (x_list (z_list T) (y_fld (i := 8) (kls_Machine T) (pv 0)))), ?_⟩
  walk_at "w"
  exact q_list hM.no.1 q
theorem ok_Machine_entry (T : TX K mg) : Fn P w K mg base false 1 (He.ma K (He.ga K "Machine") "entry") (sp_M_entry K) := by
  refine (f_Machine_entry T).calm 0 (fun vs H Q E h => lenM (n := 0) (fun s k mo obj os m D xs Q z => by rw [z.1] <;> rfl) h) (fun cdv A outer s H vs Q E hr h => ?_)
  obtain ⟨r, k, mo, obj, os, m, D, xs, rfl, hM, rfl, q⟩ := h
  have h1 : H mo = some _ := hM.ob.1
  refine ⟨_, pss_one (ps_ret (y_fld (i := 2) (kls_Machine T) (pv 0))), ?_⟩
  walk_at "w"
  exact q
theorem ok_Machine_program (T : TX K mg) : Fn P w K mg base false 1 (He.ma K (He.ga K "Machine") "program") (sp_M_program K) := by
  refine (f_Machine_program T).calm 0 (fun vs H Q E h => lenM (n := 0) (fun s k mo obj os m D xs Q z => by rw [z.1] <;> rfl) h) (fun cdv A outer s H vs Q E hr h => ?_)
  obtain ⟨r, k, mo, obj, os, m, D, xs, rfl, hM, rfl, q⟩ := h
  have h1 : H mo = some _ := hM.ob.1
  obtain ⟨as, h2, h3, h4⟩ := hM.or_
  refine ⟨_, pss_one (ps_ret (x_list (z_list T) (y_fld (i := 1) (kls_Machine T) (pv 0)))), ?_⟩
  walk_at "w"
  refine q_list h2.1 fun l hl => ?_
  have st := Step.new (R := fun _ => False) (s := ⟨H, r⟩) (q := (0, 0)) (o := .lst (as.map V.ref)) hl
  exact q _ _ st ⟨l, rfl, as, At.made, h3, fun i a o x y => (h4 i a o x y).step st id⟩
theorem ok_Machine_told (T : TX K mg) : Fn P w K mg base false 12 (He.ma K (He.ga K "Machine") "told") (fun vs H Q E => ∃ b, sp_M_told K b vs H Q E) := by
  refine Fn.ex fun b => ?_
  refine (f_Machine_told T).calm 11 (fun vs H Q E h => lenM (n := 0) (fun s k mo obj os m D xs Q z => by obtain ⟨_, _, _, _, z, _⟩ := z; rw [z] <;> rfl) h) (fun cdv A outer s H vs Q E hr h => ?_)
  obtain ⟨r, k, mo, obj, os, m, D, xs, rfl, hM, A, F, so, DW, rfl, hW, q⟩ := h
  have h1 : H mo = some _ := hM.ob.1
  refine ⟨_, pss_one (ps_ret (pe_tup (pa_cons (x_m0 (ok_Machine_core T) (can hr) (kls_Machine T) (m_Machine_core T) (fun _ => pas0) (pv 0)) (pa_cons (x_m0 (ok_W_root T b) (can hr) (kls_W T b) (m_W_root T b) (fun _ => pas0) (y_fld (i := 0) (kls_Machine T) (pv 0))) (pa_cons (x_m0 (ok_W_shelf T b) (can hr) (kls_W T b) (m_W_shelf T b) (fun _ => pas0) (y_fld (i := 0) (kls_Machine T) (pv 0))) (pa_cons (x_m0 (ok_W_pages T b) (can hr) (kls_W T b) (m_W_pages T b) (fun _ => pas0) (y_fld (i := 0) (kls_Machine T) (pv 0))) pa_nil)))))), ?_⟩
  walk_at "w"
  refine ⟨r, k, mo, obj, os, m, D, _, rfl, hM, rfl, ?_⟩
  rintro v t1 st1 ⟨co, rfl, hco⟩
  have hM1 := hM.step st1 id id
  have hW1 := hW.step st1 id id
  have h1 := hM1.ob.1
  have h2 := hW1.ob.1
  walk_at "w"
  refine ⟨t1.r, k, obj, A, F, m.pgs, so, DW, _, rfl, hW1, rfl, ?_⟩
  walk_at "w"
  refine ⟨t1.r, k, obj, A, F, m.pgs, so, DW, _, rfl, hW1, rfl, fun sh hsh => ?_⟩
  have st2 := Step.new (R := fun _ => False) (s := t1) (q := (0, 0)) (o := .lst []) hsh
  have hM2 := hM1.step st2 id id
  have hW2 := hW1.step st2 id id
  have h1 := hM2.ob.1
  have h2 := hW2.ob.1
  walk_at "w"
  refine ⟨_, k, obj, A, F, m.pgs, so, DW, _, rfl, hW2, rfl, ?_⟩
  rintro v t3 st3 ⟨pg, rfl, hpg⟩
  walk_at "w"
  refine ⟨(show 4 ≤ sizeLine by decide), fun a ha => ?_⟩
  have st4 := Step.new (R := fun _ => False) (s := t3) (q := (0, 0)) (o := .tup [.ref co, .int 0, .ref sh, .ref pg]) ha
  exact q _ _ (st1.trans (st2.trans (st3.trans st4))) ⟨a, rfl, co, sh, pg, At.made, ((hco.step st2 id id).step st3 id id).step st4 id id, (At.made.step st3 id).step st4 id, hpg.step st4 id id⟩
/-! ### a machine made -/
theorem b_Machine4 {fd : FuncData} (F : FunD K "__init__" "Machine.__init__" (defArgs s_Machine_init) (defBody s_Machine_init) (defScope s_Machine_init) [V.non, V.non] [] (He.ma K (He.ga K "Machine") "__init__") fd) : ∃ ds, Vals [V.non, V.non] ds ∧ Binds K fd ["self", "ways", "program", "entry", "core", "events"] ds :=
  F.binds1 4 0 nofun rfl fun T kV doc pm an cdv ct us its h1 h2 => match us, its, h1, h2 with
    | [_, _, _, _], [_, _], _, _ => ⟨_, rfl, rfl⟩
theorem b_Machine6 {fd : FuncData} (F : FunD K "__init__" "Machine.__init__" (defArgs s_Machine_init) (defBody s_Machine_init) (defScope s_Machine_init) [V.non, V.non] [] (He.ma K (He.ga K "Machine") "__init__") fd) : ∃ ds, Vals ([] : List V) ds ∧ Binds K fd ["self", "ways", "program", "entry", "core", "events"] ds :=
  F.binds1 6 2 nofun rfl fun T kV doc pm an cdv ct us its h1 h2 => match us, its, h1, h2 with
    | [_, _, _, _, _, _], [_, _], _, _ => ⟨_, rfl, rfl⟩
theorem b_House2 {fd : FuncData} (F : FunD K "__init__" "House.__init__" (defArgs s_House_init) (defBody s_House_init) (defScope s_House_init) [V.int 3] [] (He.ma K (He.ga K "House") "__init__") fd) : ∃ ds, Vals [V.int 3] ds ∧ Binds K fd ["self", "many", "pool"] ds :=
  F.binds1 2 0 nofun rfl fun T kV doc pm an cdv ct us its h1 h2 => match us, its, h1, h2 with
    | [_, _], [_], _, _ => ⟨_, rfl, rfl⟩
end
end SP

/-! B17 -/
set_option maxHeartbeats 4100000
namespace SP
open PySem PySem.Spec PyProof.Rows L2 L2H
local macro_rules | `(tactic| walk_at "u") => `(tactic| (dsimp only [tRet, tSeq, tAsg, tDrop, tIfS, tNext, tRetN, tBreak, tCont, tOp, tUn, tCons, tNil, tCallX, tM, tF, sSet, sNew, sAug, tMakeX, tTest, tB, tAnd, tOr, tNot, tAndV, tOrV, tNotV, tIf, tChain, tCB, tBM, tBM0, tTup, tLst, gName, tC, tIsN, tNotN, tDIn, tDNotIn, tDGet, sDPut, tDPop1, gCons, gNil, tSl, tPart, tNoPart, tYes, tVeI]))
local macro_rules | `(tactic| walk_at "o") => `(tactic| (first | assumption | (with_reducible rfl) | omega | (intro hh; cases hh; done) | (simp only [List.length_map, List.length_replicate, List.length_range, List.length_append, List.length_cons, List.length_nil]; omega)))
local macro_rules | `(tactic| walk_at "q") => `(tactic| (repeat (first
  | ((with_reducible refine' q_var ?hq ?_); (case hq => rfl))
  | ((with_reducible refine' q_pF ?ha ?hq ?_); (case ha => assumption); (case hq => rfl))
  | ((with_reducible refine' q_pM ?ha ?_); (case ha => assumption))
  | (with_reducible refine q_I0 ?_)
  | (with_reducible refine q_isInt ?_)
  | (with_reducible refine q_isBool ?_)
  | (with_reducible refine iteT ?_)
  | (with_reducible refine iteF ?_)
  | (with_reducible refine iteNT ?_)
  | (with_reducible refine iteNF ?_)
  | (with_reducible refine q_eqI ?_)
  | (with_reducible refine q_neI ?_)
  | ((with_reducible refine' q_eq ?hq ?_); (case hq => rfl))
  | ((with_reducible refine' q_ne ?hq ?_); (case hq => rfl))
  | (with_reducible refine q_lenL (by assumption) ?_)
  | (with_reducible refine q_lenT (by assumption) ?_)
  | (with_reducible refine q_is_whole ?_)
  | (with_reducible refine q_is_word ?_)
  | (with_reducible refine q_is_below ?_)
  | ((with_reducible refine' And.intro (q_tyL ?ha) ?_); (case ha => assumption))
  | (with_reducible refine q_ip ?_)
  | (with_reducible refine q_rAdd ?_)
  | (with_reducible refine q_rSub ?_)
  | (with_reducible refine q_has ?_)
  | (with_reducible refine q_put ?_)
  | (with_reducible refine q_taken ?_)
  | (with_reducible refine q_page_of ?_)
  | (with_reducible refine q_pow48 ?_)
  | (with_reducible refine q_pow40 ?_)
  | ((with_reducible refine' q_I ?hq ?_); (case hq => first | assumption | decide | omega | exact q_div1 (by omega) _ | exact mul_ok (by omega) | exact pow_ok (by decide)))
  | ((with_reducible refine' ite_y ?hq ?_); (case hq => walk_at "o"))
  | ((with_reducible refine' ite_n ?hq ?_); (case hq => walk_at "o"))
  | ((with_reducible refine' ite_nn ?hq ?_); (case hq => walk_at "o"))
  | ((with_reducible refine' ite_ny ?hq ?_); (case hq => walk_at "o"))
  | (with_reducible
                    refine ⟨_, rfl, ?_⟩)
  | (with_reducible refine ⟨_, _, rfl, ?_⟩)
  | (with_reducible refine ⟨rfl, ?_⟩))))
local macro_rules | `(tactic| walk_at "w") => `(tactic| ((try (walk_at "u")); (walk_at "q"); (try (walk_at "u")); (walk_at "q")))
section
variable {K : PySem.W.Frag} {s t : HS} {k : Nat} {mo obj : Addr} {os : List Ord} {m : MS} {D : MD}
theorem MachAt.setCl (h : MachAt K s k mo obj os m D) {c2 : Addr} {r0 r1 : Int} (h2 : At s c2 (4 * k + 6, 2) (.lst [.int r0, .int r1, .int 0, .int 0])) :
    MachAt K (s.put mo (.ins (He.ga K "Machine") D.dx (l_Machine.zip [.ref obj, .ref D.ol, .int 0, .ref c2, .int m.c, .bl true, .ref D.ft, .bl false, .ref D.nl]))) k mo obj os { m with r0 := r0, r1 := r1 } { D with cl := c2 } :=
  ⟨h.ob.self, h.or_.put h.ob (by decide), h2.put h.ob (by simp), h.fa.put h.ob (by simp), h.no.put h.ob (by simp)⟩
theorem MachAt.setFt (h : MachAt K s k mo obj os m D) {f2 : Addr} (h2 : At s f2 (2, 2) (.tup [.int 0, .int 0, .int 0, .bl true])) :
    MachAt K (s.put mo (.ins (He.ga K "Machine") D.dx (l_Machine.zip [.ref obj, .ref D.ol, .int 0, .ref D.cl, .int m.c, .bl true, .ref f2, .bl false, .ref D.nl]))) k mo obj os m { D with ft := f2 } :=
  ⟨h.ob.self, h.or_.put h.ob (by decide), h.ce.put h.ob (by simp), h2.put h.ob (by simp), h.no.put h.ob (by simp)⟩
theorem MachAt.setNl (h : MachAt K s k mo obj os m D) {n2 : Addr} (h2 : At s n2 (4 * k + 6, 4) (.lst [])) :
    MachAt K (s.put mo (.ins (He.ga K "Machine") D.dx (l_Machine.zip [.ref obj, .ref D.ol, .int 0, .ref D.cl, .int m.c, .bl true, .ref D.ft, .bl false, .ref n2]))) k mo obj os m { D with nl := n2 } :=
  ⟨h.ob.self, h.or_.put h.ob (by decide), h.ce.put h.ob (by simp), h.fa.put h.ob (by simp), h2.put h.ob (by simp)⟩
end
theorem PrgR.at {s : HS} {l : Addr} {q : Rg} {os : List Ord} (h : PrgR s l q os) (ok : ∀ (i : Nat) o, os[i]? = some o → o.ok) : PrgAt s.h l os := by
  obtain ⟨as, h1, h2, h3⟩ := h
  exact ⟨as, h1.1, h2, fun i b p x y => ⟨(h3 i b p x y).1, ok i p y⟩⟩
theorem At.stN {R : Nat → Prop} {s : HS} {a b : Addr} {q q' : Rg} {o o' : HO} (_ : At s b q' o') (n : s.h a = none) : Step R s (s.new a q o) := Step.new n
theorem At.md {s : HS} {a b : Addr} {q q' : Rg} {o o' : HO} (_ : At s b q' o') : At (s.new a q o) a q o := At.made
def sp_M_init (K : PySem.W.Frag) : Sp := fun vs H Q _ => ∃ (r : Addr → Rg) (k : Nat) (mo dx obj pr : Addr) (q : Rg) (os : List Ord) (n : Nat) (cv ev : V) (m : MS), vs = [.ref mo, .ref obj, .ref pr, .int 0, cv, ev] ∧ At ⟨H, r⟩ mo (4 * k + 6, 0) (.ins (He.ga K "Machine") dx []) ∧ PrgR ⟨H, r⟩ pr q os ∧ q.1 ≠ 4 * k + 6 ∧ PrgOk os n ∧
  ((cv = .non ∧ ev = .non ∧ m.r0 = 0 ∧ m.r1 = 0 ∧ m.c = 0) ∨ ∃ ca ea, cv = .ref ca ∧ ev = .ref ea ∧ CoreAt ⟨H, r⟩ ca m ∧ At ⟨H, r⟩ ea (0, 0) (.lst [])) ∧ Does (· = 4 * k + 6) ⟨H, r⟩ Q fun v t => v = .non ∧ ∃ D, MachAt K t k mo obj os m D
section
variable {P : Program} {w : World} {K : PySem.W.Frag} {mg : Str → Option Value} {base : Heap} {b : Bool}
theorem body_Machine_init (T : TX K mg) {cdv : Value} {A : Around} {outer : List Env} {s : Shared} {H : Hp} {vs : List V} {Q : VK} {E : XK} (hr : Room 6 (cxOf (L2N.CX P w) P w K mg base ["self", "ways", "program", "entry", "core", "events"] "Machine.__init__" (defScope s_Machine_init) (He.ma K (He.ga K "Machine") "__init__") cdv A outer s H E).A)
    (h : sp_M_init K vs H Q E) : ∃ t, PSs (cxOf (L2N.CX P w) P w K mg base ["self", "ways", "program", "entry", "core", "events"] "Machine.__init__" (defScope s_Machine_init) (He.ma K (He.ga K "Machine") "__init__") cdv A outer s H E) (defBody s_Machine_init) t ∧
      t { nx := fun _ H' => Q .non H', rt := Q } (start ["self", "ways", "program", "entry", "core", "events"] vs) H := by
  obtain ⟨r, k, mo, dx, obj, pr, q, os, n, cv, ev, m, rfl, ho, hpr, hq, hP, hv, k0⟩ := h
  refine ⟨_, pss_cons (ps_expr (x_call (ok_checked T) (can hr) (g_checked T) (f_checked T).kp (fun _ => pas0) (pa_cons (pv 2) (pa_cons (pv 3) pa_nil)))) (pss_cons (x_new (kls_Machine T) 0 (pv 0) (pv 1)) (pss_cons (x_new (kls_Machine T) 1 (pv 0) (x_list (z_list T) (pv 2))) (pss_cons (x_new (kls_Machine T) 2 (pv 0) (pv 3)) (pss_cons (x_new (kls_Machine T) 3 (pv 0) (pe_lst (pa_cons pe_int (pa_cons pe_int (pa_cons pe_int (pa_cons pe_int pa_nil)))))) (pss_cons (x_new (kls_Machine T) 4 (pv 0) pe_int) (pss_cons (x_new (kls_Machine T) 5 (pv 0) pe_bl) (pss_cons (x_new (kls_Machine T) 6 (pv 0) (pe_tup (pa_cons pe_int (pa_cons pe_int (pa_cons pe_int (pa_cons pe_bl pa_nil)))))) (pss_cons (x_new (kls_Machine T) 7 (pv 0) pe_bl) (pss_cons (x_new (kls_Machine T) 8 (pv 0) (pe_lst pa_nil)) (pss_cons (ps_if (pt_cmp (pc_notN (pv 4))) (pss_cons (x_set (kls_Machine T) 3 (pv 0) (x_list (z_list T) (pe_ix ix_tup (pv 4) pe_int (fun _ _ => rfl)))) (pss_cons (x_set (kls_Machine T) 4 (pv 0) (pe_ix ix_tup (pv 4) pe_int (fun _ _ => rfl))) (pss_cons (x_set (kls_Machine T) 5 (pv 0) (pe_ix ix_tup (pv 4) pe_int (fun _ _ => rfl))) (pss_cons (x_set (kls_Machine T) 6 (pv 0) (pe_ix ix_tup (pv 4) pe_int (fun _ _ => rfl))) (pss_one (x_set (kls_Machine T) 7 (pv 0) (pe_ix ix_tup (pv 4) pe_int (fun _ _ => rfl)))))))) pss_nil) (pss_one (ps_if (pt_cmp (pc_notN (pv 5))) (pss_one (x_set (kls_Machine T) 8 (pv 0) (x_list (z_list T) (pv 5)))) pss_nil)))))))))))), ?_⟩
  walk_at "w"
  refine ⟨pr, os, rfl, hpr.at fun i o e => hP.ok e, hP.len1, hP.len2, fun H1 e1 => ?_⟩
  have st1 : Step (· = 4 * k + 6) ⟨H, r⟩ ⟨H1, r⟩ := Step.same e1
  have o1 := ho.same e1
  walk_at "w"
  refine q_pNew (vals := []) o1.1 rfl ?_
  have st2 : Step (· = 4 * k + 6) ⟨H1, r⟩ _ := Step.put1 (o' := .ins (He.ga K "Machine") dx (l_Machine.zip [.ref obj])) o1
  have o2 := o1.self (o' := .ins (He.ga K "Machine") dx (l_Machine.zip [.ref obj]))
  obtain ⟨as, p1, p2, p3⟩ := hpr
  have s02 := st1.trans st2
  have p4 := p1.step s02 hq
  walk_at "w"
  refine q_list p4.1 fun ol hol => ?_
  have st3 := Step.new (R := (· = 4 * k + 6)) (s := (HS.mk H1 r).put mo (.ins (He.ga K "Machine") dx (l_Machine.zip [.ref obj]))) (q := (4 * k + 6, 1)) (o := .lst (as.map V.ref)) hol
  have o3 := o2.new (q := (4 * k + 6, 1)) (o := .lst (as.map V.ref)) hol
  have s03 := s02.trans st3
  have r3 : PrgR _ ol (4 * k + 6, 1) os := ⟨as, At.made, p2, fun i a o x y => (p3 i a o x y).step s03 (by simp)⟩
  walk_at "w"
  refine q_pNew (vals := [.ref obj]) o3.1 rfl ?_
  have st4 : Step (· = 4 * k + 6) _ _ := Step.put1 (o' := .ins (He.ga K "Machine") dx (l_Machine.zip [.ref obj, .ref ol])) o3
  have o4 := o3.self (o' := .ins (He.ga K "Machine") dx (l_Machine.zip [.ref obj, .ref ol]))
  have r4 := r3.put (o' := .ins (He.ga K "Machine") dx (l_Machine.zip [.ref obj, .ref ol])) o3 (by decide)
  walk_at "w"
  refine q_pNew (vals := [.ref obj, .ref ol]) o4.1 rfl ?_
  have st5 : Step (· = 4 * k + 6) _ _ := Step.put1 (o' := .ins (He.ga K "Machine") dx (l_Machine.zip [.ref obj, .ref ol, .int 0])) o4
  have o5 := o4.self (o' := .ins (He.ga K "Machine") dx (l_Machine.zip [.ref obj, .ref ol, .int 0]))
  have r5 := r4.put (o' := .ins (He.ga K "Machine") dx (l_Machine.zip [.ref obj, .ref ol, .int 0])) o4 (by decide)
  walk_at "w"
  refine ⟨(show 4 ≤ sizeLine by decide), fun cl hcl => ?_⟩
  have st6 := Step.new (R := (· = 4 * k + 6)) (s := ((((HS.mk H1 r).put mo (.ins (He.ga K "Machine") dx (l_Machine.zip [.ref obj]))).new ol (4 * k + 6, 1) (.lst (as.map V.ref))).put mo (.ins (He.ga K "Machine") dx (l_Machine.zip [.ref obj, .ref ol]))).put mo (.ins (He.ga K "Machine") dx (l_Machine.zip [.ref obj, .ref ol, .int 0])))
    (q := (4 * k + 6, 2)) (o := .lst [.int 0, .int 0, .int 0, .int 0]) hcl
  have o6 := o5.step (R := fun _ => False) (Step.new (q := (4 * k + 6, 2)) (o := .lst [.int 0, .int 0, .int 0, .int 0]) hcl) id
  have r6 := r5.step (R := fun _ => False) (Step.new (q := (4 * k + 6, 2)) (o := .lst [.int 0, .int 0, .int 0, .int 0]) hcl) id id
  have s06 := s03.trans (st4.trans (st5.trans st6))
  have c6 : At _ cl (4 * k + 6, 2) (.lst [.int 0, .int 0, .int 0, .int 0]) := At.made (s := ((((HS.mk H1 r).put mo (.ins (He.ga K "Machine") dx (l_Machine.zip [.ref obj]))).new ol (4 * k + 6, 1) (.lst (as.map V.ref))).put mo (.ins (He.ga K "Machine") dx (l_Machine.zip [.ref obj, .ref ol]))).put mo (.ins (He.ga K "Machine") dx (l_Machine.zip [.ref obj, .ref ol, .int 0])))
  walk_at "w"
  refine q_pNew (vals := [.ref obj, .ref ol, .int 0]) o6.1 rfl ?_
  have st7 : Step (· = 4 * k + 6) _ _ := Step.put1 (o' := .ins (He.ga K "Machine") dx (l_Machine.zip [.ref obj, .ref ol, .int 0, .ref cl])) o6
  have o7 := o6.self (o' := .ins (He.ga K "Machine") dx (l_Machine.zip [.ref obj, .ref ol, .int 0, .ref cl]))
  have r7 := r6.put (o' := .ins (He.ga K "Machine") dx (l_Machine.zip [.ref obj, .ref ol, .int 0, .ref cl])) o6 (by decide)
  have c7 := c6.put (o'' := .ins (He.ga K "Machine") dx (l_Machine.zip [.ref obj, .ref ol, .int 0, .ref cl])) o6 (by simp)
  walk_at "w"
  refine q_pNew (vals := [.ref obj, .ref ol, .int 0, .ref cl]) o7.1 rfl ?_
  have st8 : Step (· = 4 * k + 6) _ _ := Step.put1 (o' := .ins (He.ga K "Machine") dx (l_Machine.zip [.ref obj, .ref ol, .int 0, .ref cl, .int (0 : Nat)])) o7
  have o8 := o7.self (o' := .ins (He.ga K "Machine") dx (l_Machine.zip [.ref obj, .ref ol, .int 0, .ref cl, .int (0 : Nat)]))
  have r8 := r7.put (o' := .ins (He.ga K "Machine") dx (l_Machine.zip [.ref obj, .ref ol, .int 0, .ref cl, .int (0 : Nat)])) o7 (by decide)
  have c8 := c7.put (o'' := .ins (He.ga K "Machine") dx (l_Machine.zip [.ref obj, .ref ol, .int 0, .ref cl, .int (0 : Nat)])) o7 (by simp)
  walk_at "w"
  refine q_pNew (vals := [.ref obj, .ref ol, .int 0, .ref cl, .int (0 : Nat)]) o8.1 rfl ?_
  have st9 : Step (· = 4 * k + 6) _ _ := Step.put1 (o' := .ins (He.ga K "Machine") dx (l_Machine.zip [.ref obj, .ref ol, .int 0, .ref cl, .int (0 : Nat), .bl true])) o8
  have o9 := o8.self (o' := .ins (He.ga K "Machine") dx (l_Machine.zip [.ref obj, .ref ol, .int 0, .ref cl, .int (0 : Nat), .bl true]))
  have r9 := r8.put (o' := .ins (He.ga K "Machine") dx (l_Machine.zip [.ref obj, .ref ol, .int 0, .ref cl, .int (0 : Nat), .bl true])) o8 (by decide)
  have c9 := c8.put (o'' := .ins (He.ga K "Machine") dx (l_Machine.zip [.ref obj, .ref ol, .int 0, .ref cl, .int (0 : Nat), .bl true])) o8 (by simp)
  have s09 := s06.trans (st7.trans (st8.trans st9))
  walk_at "w"
  refine ⟨(show 4 ≤ sizeLine by decide), fun ft hft => ?_⟩
  have stA := o9.stN (R := (· = 4 * k + 6)) (q := (2, 2)) (o := .tup [.int 0, .int 0, .int 0, .bl true]) hft
  have stA0 := o9.stN (R := fun _ => False) (q := (2, 2)) (o := .tup [.int 0, .int 0, .int 0, .bl true]) hft
  have oA := o9.step stA0 id
  have rA := r9.step stA0 id id
  have cA := c9.step stA0 id
  have fA := o9.md (a := ft) (q := (2, 2)) (o := .tup [.int 0, .int 0, .int 0, .bl true])
  have sA := s09.trans stA
  walk_at "w"
  refine q_pNew (vals := [.ref obj, .ref ol, .int 0, .ref cl, .int (0 : Nat), .bl true]) oA.1 rfl ?_
  have oB := oA.self (o' := .ins (He.ga K "Machine") dx (l_Machine.zip [.ref obj, .ref ol, .int 0, .ref cl, .int (0 : Nat), .bl true, .ref ft]))
  have rB := rA.put (o' := .ins (He.ga K "Machine") dx (l_Machine.zip [.ref obj, .ref ol, .int 0, .ref cl, .int (0 : Nat), .bl true, .ref ft])) oA (by decide)
  have cB := cA.put (o'' := .ins (He.ga K "Machine") dx (l_Machine.zip [.ref obj, .ref ol, .int 0, .ref cl, .int (0 : Nat), .bl true, .ref ft])) oA (by simp)
  have fB := fA.put (o'' := .ins (He.ga K "Machine") dx (l_Machine.zip [.ref obj, .ref ol, .int 0, .ref cl, .int (0 : Nat), .bl true, .ref ft])) oA (by simp)
  have sB := sA.trans (Step.put1 (o' := .ins (He.ga K "Machine") dx (l_Machine.zip [.ref obj, .ref ol, .int 0, .ref cl, .int (0 : Nat), .bl true, .ref ft])) oA)
  walk_at "w"
  refine q_pNew (vals := [.ref obj, .ref ol, .int 0, .ref cl, .int (0 : Nat), .bl true, .ref ft]) oB.1 rfl ?_
  have oC := oB.self (o' := .ins (He.ga K "Machine") dx (l_Machine.zip [.ref obj, .ref ol, .int 0, .ref cl, .int (0 : Nat), .bl true, .ref ft, .bl false]))
  have rC := rB.put (o' := .ins (He.ga K "Machine") dx (l_Machine.zip [.ref obj, .ref ol, .int 0, .ref cl, .int (0 : Nat), .bl true, .ref ft, .bl false])) oB (by decide)
  have cC := cB.put (o'' := .ins (He.ga K "Machine") dx (l_Machine.zip [.ref obj, .ref ol, .int 0, .ref cl, .int (0 : Nat), .bl true, .ref ft, .bl false])) oB (by simp)
  have fC := fB.put (o'' := .ins (He.ga K "Machine") dx (l_Machine.zip [.ref obj, .ref ol, .int 0, .ref cl, .int (0 : Nat), .bl true, .ref ft, .bl false])) oB (by simp)
  have sC := sB.trans (Step.put1 (o' := .ins (He.ga K "Machine") dx (l_Machine.zip [.ref obj, .ref ol, .int 0, .ref cl, .int (0 : Nat), .bl true, .ref ft, .bl false])) oB)
  walk_at "w"
  refine ⟨(show 0 ≤ sizeLine by decide), fun nl hnl => ?_⟩
  have stD0 := oC.stN (R := fun _ => False) (q := (4 * k + 6, 4)) (o := .lst []) hnl
  have oD := oC.step stD0 id
  have rD := rC.step stD0 id id
  have cD := cC.step stD0 id
  have fD := fC.step stD0 id
  have nD := oC.md (a := nl) (q := (4 * k + 6, 4)) (o := .lst [])
  have sD := sC.trans (oC.stN (R := (· = 4 * k + 6)) (q := (4 * k + 6, 4)) (o := .lst []) hnl)
  walk_at "w"
  refine q_pNew (vals := [.ref obj, .ref ol, .int 0, .ref cl, .int (0 : Nat), .bl true, .ref ft, .bl false]) oD.1 rfl ?_
  have sE := sD.trans (Step.put1 (o' := .ins (He.ga K "Machine") dx (l_Machine.zip [.ref obj, .ref ol, .int 0, .ref cl, .int (0 : Nat), .bl true, .ref ft, .bl false, .ref nl])) oD)
  have hM : MachAt K _ k mo obj os ⟨0, 0, 0, m.pgs⟩ ⟨dx, ol, cl, ft, nl⟩ := ⟨oD.self (o' := .ins (He.ga K "Machine") dx (l_Machine.zip [.ref obj, .ref ol, .int 0, .ref cl, .int (0 : Nat), .bl true, .ref ft, .bl false, .ref nl])), rD.put oD (by decide), cD.put oD (by simp), fD.put oD (by simp), nD.put oD (by simp)⟩
  rcases hv with ⟨rfl, rfl, z0, z1, z2⟩ | ⟨ca, ea, rfl, rfl, hco, hea⟩
  · walk_at "w"
    obtain ⟨r0, r1, c, pgs⟩ := m
    obtain rfl : r0 = 0 := z0
    obtain rfl : r1 = 0 := z1
    obtain rfl : c = 0 := z2
    exact k0 _ _ sE ⟨rfl, _, hM⟩
  · obtain ⟨cs, f2, w1, w2, w3⟩ := hco.step sE (by omega) (by omega)
    have hea1 := hea.step sE (by simp)
    have g1 := w1.1
    walk_at "w"
    refine q_ixT g1 (v := .ref cs) rfl ?_
    refine q_list w2.1 fun c2 hc2 => ?_
    have st1' := w2.stN (R := fun _ => False) (q := (4 * k + 6, 2)) (o := .lst [.int m.r0, .int m.r1, .int 0, .int 0]) hc2
    have hM1 := hM.step st1' id id
    have g2 := hM1.ob.1
    walk_at "w"
    refine q_pSet g2 (by simp) ?_
    have hM2 := hM1.setCl (w2.md (a := c2) (q := (4 * k + 6, 2)) (o := .lst [.int m.r0, .int m.r1, .int 0, .int 0]))
    have sF := sE.trans ((w2.stN (R := (· = 4 * k + 6)) (q := (4 * k + 6, 2)) (o := .lst [.int m.r0, .int m.r1, .int 0, .int 0]) hc2).trans (Step.put1 (o' := .ins (He.ga K "Machine") dx (l_Machine.zip [.ref obj, .ref ol, .int 0, .ref c2, .int (0 : Nat), .bl true, .ref ft, .bl false, .ref nl])) hM1.ob))
    have st2' := Step.put1 (o' := .ins (He.ga K "Machine") dx (l_Machine.zip [.ref obj, .ref ol, .int 0, .ref c2, .int (0 : Nat), .bl true, .ref ft, .bl false, .ref nl])) hM1.ob
    have w12 := (w1.step st1' id).step st2' (by simp)
    have w32 := (w3.step st1' id).step st2' (by simp)
    have hea2 := (hea1.step st1' id).step st2' (by simp)
    have g1 := w12.1
    have g2 := hM2.ob.1
    walk_at "w"
    refine q_ixT g1 (v := .int m.c) rfl ?_
    walk_at "w"
    refine q_pSet g2 (by simp) ?_
    have hM3 := hM2.ctr m.c
    have st3' := Step.put1 (o' := .ins (He.ga K "Machine") dx (l_Machine.zip [.ref obj, .ref ol, .int 0, .ref c2, .int m.c, .bl true, .ref ft, .bl false, .ref nl])) hM2.ob
    have sG := sF.trans st3'
    have w13 := w12.step st3' (by simp)
    have w33 := w32.step st3' (by simp)
    have hea3 := hea2.step st3' (by simp)
    have g1 := w13.1
    have g2 := hM3.ob.1
    walk_at "w"
    refine q_ixT g1 (v := .bl true) rfl ?_
    walk_at "w"
    refine q_pSet g2 (by simp) ?_
    have hM4 := hM3.ctr m.c
    have st4' := Step.put1 (o' := .ins (He.ga K "Machine") dx (l_Machine.zip [.ref obj, .ref ol, .int 0, .ref c2, .int m.c, .bl true, .ref ft, .bl false, .ref nl])) hM3.ob
    have sH := sG.trans st4'
    have w14 := w13.step st4' (by simp)
    have w34 := w33.step st4' (by simp)
    have hea4 := hea3.step st4' (by simp)
    have g1 := w14.1
    have g2 := hM4.ob.1
    walk_at "w"
    refine q_ixT g1 (v := .ref f2) rfl ?_
    walk_at "w"
    refine q_pSet g2 (by simp) ?_
    have hM5 := hM4.setFt w34
    have st5' := Step.put1 (o' := .ins (He.ga K "Machine") dx (l_Machine.zip [.ref obj, .ref ol, .int 0, .ref c2, .int m.c, .bl true, .ref f2, .bl false, .ref nl])) hM4.ob
    have sI := sH.trans st5'
    have w15 := w14.step st5' (by simp)
    have hea5 := hea4.step st5' (by simp)
    have g1 := w15.1
    have g2 := hM5.ob.1
    walk_at "w"
    refine q_ixT g1 (v := .bl false) rfl ?_
    walk_at "w"
    refine q_pSet g2 (by simp) ?_
    have hM6 := hM5.ctr m.c
    have st6' := Step.put1 (o' := .ins (He.ga K "Machine") dx (l_Machine.zip [.ref obj, .ref ol, .int 0, .ref c2, .int m.c, .bl true, .ref f2, .bl false, .ref nl])) hM5.ob
    have sJ := sI.trans st6'
    have hea6 := hea5.step st6' (by simp)
    walk_at "w"
    refine q_list hea6.1 fun n2 hn2 => ?_
    have st7' := hea6.stN (R := fun _ => False) (q := (4 * k + 6, 4)) (o := .lst []) hn2
    have hM7 := hM6.step st7' id id
    have g2 := hM7.ob.1
    walk_at "w"
    refine q_pSet g2 (by simp) ?_
    exact k0 _ _ (sJ.trans ((hea6.stN (R := (· = 4 * k + 6)) (q := (4 * k + 6, 4)) (o := .lst []) hn2).trans (Step.put1 hM7.ob))) ⟨rfl, _, hM7.setNl (hea6.md (a := n2) (q := (4 * k + 6, 4)) (o := .lst []))⟩
theorem len_M_init {vs : List V} {H : Hp} {Q : VK} {E : XK} (h : sp_M_init K vs H Q E) : vs.length = 6 := by
  obtain ⟨_, _, _, _, _, _, _, _, _, _, _, _, z, _⟩ := h
  rw [z] <;> rfl
theorem ok_Machine_init (T : TX K mg) : Fn P w K mg base false 7 (He.ma K (He.ga K "Machine") "__init__") (fun vs H Q E => sp_M_init K (vs ++ [.non, .non]) H Q E) := by
  obtain ⟨fd, F⟩ := t_Machine_init T
  obtain ⟨ds, hd, hb⟩ := b_Machine4 F
  exact fn_calm F hb hd sc_Machine_init (fun vs H Q E h => len_M_init h) fun cdv A outer s H vs Q E hr h => body_Machine_init T hr h
theorem ok_Machine_init6 (T : TX K mg) : Fn P w K mg base false 7 (He.ma K (He.ga K "Machine") "__init__") (sp_M_init K) := by
  obtain ⟨fd, F⟩ := t_Machine_init T
  obtain ⟨ds, hd, hb⟩ := b_Machine6 F
  exact (fn_calm F hb hd sc_Machine_init (fun vs H Q E h => len_M_init h) fun cdv A outer s H vs Q E hr h => body_Machine_init T hr h).imp fun vs H Q E h => show sp_M_init K (vs ++ []) H Q E by rw [List.append_nil]; exact h
end
end SP

/-! B18 -/
set_option maxHeartbeats 4100000
namespace SP
open PySem PySem.Spec PyProof.Rows L2 L2H
/-! ### a house's dicts: of one name, or empty -/
def dO (o : Option V) : List (Key × V) := match o with
  | none => []
  | some v => [(Sum.inr "a", v)]
theorem valV_dO (o : Option V) : valV (dO o) (Sum.inr "a" : Key) = o := by cases o <;> rfl
theorem putK_dO (o : Option V) (v : V) : putK (dO o) (Sum.inr "a" : Key) v = dO (some v) := by
  cases o with
  | none => rfl
  | some x => simp [putK, dO]
theorem dropK_dO (o : Option V) : dropK (dO o) (Sum.inr "a" : Key) = dO none := by
  cases o with
  | none => rfl
  | some x => simp [dropK, dO]
theorem dO_len (o : Option V) : (dO o).length ≤ 1 := by cases o <;> simp [dO]
section
variable {H : Hp} {a : Addr} {o : Option V} {Q : VK} {N : Hp → Prop} {v : V}
theorem g_dO (h : H a = some (.dK (dO o))) : DGet H a (.str "a") o := by have z := DGet.k (k := Sum.inr "a") h; rw [valV_dO] at z; exact z
theorem p_dO (h : H a = some (.dK (dO o))) : DPut H a (.str "a") v (upd H a (.dK (dO (some v)))) := by
  have : (2 : Nat) ≤ sizeLine := by decide
  have hl := dO_len o
  have z := DPut.k (k := Sum.inr "a") (v := v) h (by omega)
  rw [putK_dO] at z
  exact z
theorem iteSN {α : Type} {A B : Prop} (b : B) : if (none : Option α).isSome = true then A else B := b
theorem iteSS {α : Type} {x : α} {A B : Prop} (a : A) : if (some x).isSome = true then A else B := a
theorem iteNSN {α : Type} {A B : Prop} (a : A) : if (!(none : Option α).isSome) = true then A else B := a
theorem iteNSS {α : Type} {x : α} {A B : Prop} (b : B) : if (!(some x).isSome) = true then A else B := b
theorem isD_dO (h : H a = some (.dK (dO o))) : IsD H a := .inl ⟨_, Rd.of h⟩
theorem q_dpopO (h : H a = some (.dK (dO (some v)))) : H a = some (.dK (dO (some v))) ∧ V.str "a" = kV (Sum.inr "a") ∧ valV (dO (some v)) (Sum.inr "a") = some v := ⟨h, rfl, valV_dO _⟩
end
local macro_rules | `(tactic| walk_at "u") => `(tactic| (dsimp only [tRet, tSeq, tAsg, tDrop, tIfS, tNext, tRetN, tBreak, tCont, tOp, tUn, tCons, tNil, tCallX, tM, tF, sSet, sNew, sAug, tMakeX, tTest, tB, tAnd, tOr, tNot, tAndV, tOrV, tNotV, tIf, tChain, tCB, tBM, tBM0, tTup, tLst, gName, tC, tIsN, tNotN, tDIn, tDNotIn, tDGet, sDPut, tDPop1, gCons, gNil, tSl, tPart, tNoPart, tYes, tVeI]))
local macro_rules | `(tactic| walk_at "o") => `(tactic| (first | assumption | (with_reducible rfl) | omega | (intro hh; cases hh; done) | (simp only [List.length_map, List.length_replicate, List.length_range, List.length_append, List.length_cons, List.length_nil]; omega)))
local macro_rules | `(tactic| walk_at "q") => `(tactic| (repeat (first
  | ((with_reducible refine' q_var ?hq ?_); (case hq => rfl))
  | ((with_reducible refine' q_pF ?ha ?hq ?_); (case ha => assumption); (case hq => rfl))
  | ((with_reducible refine' q_pM ?ha ?_); (case ha => assumption))
  | (with_reducible refine q_I0 ?_)
  | (with_reducible refine q_isInt ?_)
  | (with_reducible refine q_isBool ?_)
  | (with_reducible refine iteT ?_)
  | (with_reducible refine iteF ?_)
  | (with_reducible refine iteSN ?_)
  | (with_reducible refine iteSS ?_)
  | (with_reducible refine iteNSN ?_)
  | (with_reducible refine iteNSS ?_)
  | (with_reducible refine iteNT ?_)
  | (with_reducible refine iteNF ?_)
  | (with_reducible refine q_eqI ?_)
  | (with_reducible refine q_neI ?_)
  | ((with_reducible refine' q_eq ?hq ?_); (case hq => rfl))
  | ((with_reducible refine' q_ne ?hq ?_); (case hq => rfl))
  | (with_reducible refine q_lenL (by assumption) ?_)
  | (with_reducible refine q_lenT (by assumption) ?_)
  | (with_reducible refine q_is_whole ?_)
  | (with_reducible refine q_is_word ?_)
  | (with_reducible refine q_is_below ?_)
  | ((with_reducible refine' And.intro (q_tyL ?ha) ?_); (case ha => assumption))
  | ((with_reducible refine' ⟨_, _, rfl, g_dO ?ha, ?_⟩); (case ha => assumption))
  | ((with_reducible refine' ⟨_, _, rfl, p_dO ?ha, ?_⟩); (case ha => assumption))
  | ((with_reducible refine' ⟨_, rfl, isD_dO ?ha, ?_⟩); (case ha => assumption))
  | (with_reducible refine q_ip ?_)
  | (with_reducible refine q_rAdd ?_)
  | (with_reducible refine q_rSub ?_)
  | (with_reducible refine q_has ?_)
  | (with_reducible refine q_put ?_)
  | (with_reducible refine q_taken ?_)
  | (with_reducible refine q_page_of ?_)
  | (with_reducible refine q_pow48 ?_)
  | (with_reducible refine q_pow40 ?_)
  | ((with_reducible refine' q_I ?hq ?_); (case hq => first | assumption | decide | omega | exact q_div1 (by omega) _ | exact mul_ok (by omega) | exact pow_ok (by decide)))
  | ((with_reducible refine' ite_y ?hq ?_); (case hq => walk_at "o"))
  | ((with_reducible refine' ite_n ?hq ?_); (case hq => walk_at "o"))
  | ((with_reducible refine' ite_nn ?hq ?_); (case hq => walk_at "o"))
  | ((with_reducible refine' ite_ny ?hq ?_); (case hq => walk_at "o"))
  | (with_reducible
                    refine ⟨_, rfl, ?_⟩)
  | (with_reducible refine ⟨_, _, rfl, ?_⟩)
  | (with_reducible refine ⟨rfl, ?_⟩))))
local macro_rules | `(tactic| walk_at "w") => `(tactic| ((try (walk_at "u")); (walk_at "q"); (try (walk_at "u")); (walk_at "q")))
structure HV where
  eng : Option V
  sto : Option V
  kin : Option V
  rim : Option V
  awa : Option V
  bou : Option V
structure HD where
  dx : Addr
  e : Addr
  s : Addr
  k : Addr
  r : Addr
  a : Addr
  b : Addr
structure HsAt (K : PySem.W.Frag) (s : HS) (k : Nat) (h A : Addr) (d : HV) (D : HD) : Prop where
  ob : At s h (4 * k + 7, 0) (.ins (He.ga K "House") D.dx (l_House.zip [.ref A, .int 3, .ref D.e, .ref D.s, .ref D.k, .ref D.r, .ref D.a, .ref D.b]))
  fe : At s D.e (4 * k + 7, 2) (.dK (dO d.eng))
  fs : At s D.s (4 * k + 7, 3) (.dK (dO d.sto))
  fk : At s D.k (4 * k + 7, 4) (.dK (dO d.kin))
  fr : At s D.r (4 * k + 7, 5) (.dK (dO d.rim))
  fa : At s D.a (4 * k + 7, 6) (.dK (dO d.awa))
  fb : At s D.b (4 * k + 7, 7) (.dK (dO d.bou))
section
variable {K : PySem.W.Frag} {s t : HS} {k : Nat} {h A : Addr} {d : HV} {D : HD} {R : Nat → Prop} {v : Option V}
theorem HsAt.step (x : HsAt K s k h A d D) (st : Step R s t) (n : ¬ R (4 * k + 7)) : HsAt K t k h A d D := ⟨x.ob.step st n, x.fe.step st n, x.fs.step st n, x.fk.step st n, x.fr.step st n, x.fa.step st n, x.fb.step st n⟩
theorem HsAt.same {H H' : Hp} {r : Addr → Rg} (x : HsAt K ⟨H, r⟩ k h A d D) (e : Same H H') : HsAt K ⟨H', r⟩ k h A d D := x.step (R := fun _ => False) (Step.same e) id
theorem HsAt.pe (x : HsAt K s k h A d D) : HsAt K (s.put D.e (.dK (dO v))) k h A { d with eng := v } D := ⟨x.ob.put x.fe (by simp), x.fe.self, x.fs.put x.fe (by simp), x.fk.put x.fe (by simp), x.fr.put x.fe (by simp), x.fa.put x.fe (by simp), x.fb.put x.fe (by simp)⟩
theorem HsAt.ps (x : HsAt K s k h A d D) : HsAt K (s.put D.s (.dK (dO v))) k h A { d with sto := v } D := ⟨x.ob.put x.fs (by simp), x.fe.put x.fs (by simp), x.fs.self, x.fk.put x.fs (by simp), x.fr.put x.fs (by simp), x.fa.put x.fs (by simp), x.fb.put x.fs (by simp)⟩
theorem HsAt.pk (x : HsAt K s k h A d D) : HsAt K (s.put D.k (.dK (dO v))) k h A { d with kin := v } D := ⟨x.ob.put x.fk (by simp), x.fe.put x.fk (by simp), x.fs.put x.fk (by simp), x.fk.self, x.fr.put x.fk (by simp), x.fa.put x.fk (by simp), x.fb.put x.fk (by simp)⟩
theorem HsAt.pr (x : HsAt K s k h A d D) : HsAt K (s.put D.r (.dK (dO v))) k h A { d with rim := v } D := ⟨x.ob.put x.fr (by simp), x.fe.put x.fr (by simp), x.fs.put x.fr (by simp), x.fk.put x.fr (by simp), x.fr.self, x.fa.put x.fr (by simp), x.fb.put x.fr (by simp)⟩
theorem HsAt.pa (x : HsAt K s k h A d D) : HsAt K (s.put D.a (.dK (dO v))) k h A { d with awa := v } D := ⟨x.ob.put x.fa (by simp), x.fe.put x.fa (by simp), x.fs.put x.fa (by simp), x.fk.put x.fa (by simp), x.fr.put x.fa (by simp), x.fa.self, x.fb.put x.fa (by simp)⟩
theorem HsAt.pb (x : HsAt K s k h A d D) : HsAt K (s.put D.b (.dK (dO v))) k h A { d with bou := v } D := ⟨x.ob.put x.fb (by simp), x.fe.put x.fb (by simp), x.fs.put x.fb (by simp), x.fk.put x.fb (by simp), x.fr.put x.fb (by simp), x.fa.put x.fb (by simp), x.fb.self⟩
end
def spH (K : PySem.W.Frag) (body : HS → Nat → Addr → Addr → HV → HD → List V → VK → XK → Prop) : Sp := fun vs H Q E => ∃ r k h A d D xs, vs = .ref h :: xs ∧ HsAt K ⟨H, r⟩ k h A d D ∧ body ⟨H, r⟩ k h A d D xs Q E
def sp_H_look_there (K : PySem.W.Frag) : Sp := spH K fun s k h A d D xs Q _ => ∃ v, xs = [.str "a"] ∧ d.eng = some v ∧ Q .non s.h
def sp_H_look_new (K : PySem.W.Frag) : Sp := spH K fun s k h A d D xs Q _ => xs = [.str "a"] ∧ d.eng = none ∧ d.awa = none ∧ ∀ H', Same s.h H' → Q .non H'
def sp_H_get (K : PySem.W.Frag) (f : HV → Option V) : Sp := spH K fun s k h A d D xs Q _ => ∃ e v, xs = [.str "a"] ∧ d.eng = some e ∧ f d = some v ∧ Q v s.h
def sp_H_free (K : PySem.W.Frag) : Sp := spH K fun s k h A d D xs Q _ => ∃ F, xs = [] ∧ FrAt K s (4 * k + 4) A F ∧ Q (.int F.free) s.h
def sp_H_promised (K : PySem.W.Frag) : Sp := spH K fun s k h A d D xs Q _ => ∃ F, xs = [] ∧ FrAt K s (4 * k + 4) A F ∧ Q (.int F.pl) s.h
def nmS (o : Option V) : List V := match o with
  | none => []
  | some _ => [.str "a"]
def sp_H_names (K : PySem.W.Frag) : Sp := spH K fun s k h A d D xs Q _ => xs = [] ∧ ∀ l, s.h l = none → Q (.ref l) (upd s.h l (.lst (nmS d.eng)))
def sp_H_turn (K : PySem.W.Frag) : Sp := spH K fun s k h A d D xs Q _ => ∃ b mo obj os m MD F so DW n, ∃ t : Nat, xs = [.str "a", .int t] ∧ d.eng = some (.ref mo) ∧ MachAt K s k mo obj os m MD ∧ t ≤ 500 ∧ WayAt K s k b obj A F m.pgs so DW ∧ PrgOk os n ∧ MOk os n m ∧
  Does (RM k) s Q fun v u => v = .int t ∧ StepTo K k b mo obj A os so m.pgs (iterM os t m) MD DW u
def sp_H_told (K : PySem.W.Frag) : Sp := spH K fun s k h A d D xs Q _ => ∃ b mo obj os m MD F so DW, xs = [.str "a"] ∧ d.eng = some (.ref mo) ∧ MachAt K s k mo obj os m MD ∧ WayAt K s k b obj A F m.pgs so DW ∧ Does (fun _ => False) s Q fun v t => ∃ a, v = .ref a ∧ ToldAt t a m
def sp_H_events (K : PySem.W.Frag) : Sp := spH K fun s k h A d D xs Q _ => ∃ mo obj os m MD, xs = [.str "a"] ∧ d.eng = some (.ref mo) ∧ MachAt K s k mo obj os m MD ∧ ∀ l, s.h l = none → Q (.ref l) (upd s.h l (.lst []))
def sp_H_words (K : PySem.W.Frag) (b : Bool) : Sp := spH K fun s k h A d D xs Q _ => ∃ e obj F pgs so DW, xs = [.str "a"] ∧ d.eng = some e ∧ d.sto = some (.ref obj) ∧ WayAt K s k b obj A F pgs so DW ∧ ∀ l, s.h l = none → Q (.ref l) (upd s.h l (.lst []))
section
variable {P : Program} {w : World} {K : PySem.W.Frag} {mg : Str → Option Value} {base : Heap} {b : Bool}
theorem lenH {f : HS → Nat → Addr → Addr → HV → HD → List V → VK → XK → Prop} {n : Nat} (h : ∀ s k h A d D xs Q E, f s k h A d D xs Q E → xs.length = n) {vs : List V} {H : Hp} {Q : VK} {E : XK} (z : spH K f vs H Q E) : vs.length = n + 1 := by
  obtain ⟨r, k, ho, A, d, D, xs, rfl, _, q⟩ := z
  rw [List.length_cons, h _ _ _ _ _ _ _ _ _ q]
theorem ok_House_look_there (T : TX K mg) : Fn P w K mg base false 1 (He.ma K (He.ga K "House") "look_there") (sp_H_look_there K) := by
  refine (f_House_look_there T).calm 0 (fun vs H Q E h => lenH (n := 1) (fun s k h A d D xs Q E z => by obtain ⟨_, z, _⟩ := z; rw [z] <;> rfl) h) (fun cdv A outer s H vs Q E hr h => ?_)
  obtain ⟨r, k, ho, A, d, D, xs, rfl, hh, v, rfl, he, q⟩ := h
  have h1 : H ho = some _ := hh.ob.1
  have h2 : H D.e = some (.dK (dO d.eng)) := hh.fe.1
  rw [he] at h2
  refine ⟨_, pss_one (ps_if (PW.pt (pw_or (pt_not (pt_val (x_isi (z_isinstance T) (pv 1) (x_ty (z_str T) bb_str)))) (pw_or1 (pt_cmp (pc_dnotin (hu_of hr) (pv 1) (y_fld (i := 2) (kls_House T) (pv 0))))))) (pss_one ps_never) pss_nil), ?_⟩
  walk_at "w"
  refine q_isi (T := .non) (.base (.str "a")) ki_ss ?_
  walk_at "w"
  exact q
theorem ok_House_look_new (T : TX K mg) : Fn P w K mg base false 2 (He.ma K (He.ga K "House") "look_new") (sp_H_look_new K) := by
  refine (f_House_look_new T).calm 1 (fun vs H Q E h => lenH (n := 1) (fun s k h A d D xs Q E z => by rw [z.1] <;> rfl) h) (fun cdv A outer s H vs Q E hr h => ?_)
  obtain ⟨r, k, ho, A, d, D, xs, rfl, hh, rfl, he, hw, q⟩ := h
  refine ⟨_, pss_one (ps_if (PW.pt (pw_or (pt_not (pt_val (x_call (ok_is_name T) (can hr) (g_is_name T) (f_is_name T).kp (fun _ => pas0) (pa_cons (pv 1) pa_nil)))) (pw_or (pt_cmp (pc_din (hu_of hr) (pv 1) (y_fld (i := 2) (kls_House T) (pv 0)))) (pw_or1 (pt_cmp (pc_din (hu_of hr) (pv 1) (y_fld (i := 6) (kls_House T) (pv 0)))))))) (pss_one ps_never) pss_nil), ?_⟩
  walk_at "w"
  refine ⟨rfl, fun H1 e1 => ?_⟩
  have hh1 := hh.same e1
  have h1 : H1 ho = some _ := hh1.ob.1
  have h2 : H1 D.e = some (.dK (dO d.eng)) := hh1.fe.1
  have h3 : H1 D.a = some (.dK (dO d.awa)) := hh1.fa.1
  rw [he] at h2
  rw [hw] at h3
  walk_at "w"
  exact q _ e1
theorem ok_House_way (T : TX K mg) : Fn P w K mg base false 2 (He.ma K (He.ga K "House") "way") (sp_H_get K HV.kin) := by
  refine (f_House_way T).calm 1 (fun vs H Q E h => lenH (n := 1) (fun s k h A d D xs Q E z => by obtain ⟨_, _, z, _⟩ := z; rw [z] <;> rfl) h) (fun cdv A outer s H vs Q E hr h => ?_)
  obtain ⟨r, k, ho, A, d, D, xs, rfl, hh, e, v, rfl, he, hv, q⟩ := h
  have h1 : H ho = some _ := hh.ob.1
  have h2 : H D.k = some (.dK (dO d.kin)) := hh.fk.1
  rw [hv] at h2
  refine ⟨_, pss_cons (ps_expr (x_m (ok_House_look_there T) (can hr) (kls_House T) (m_House_look_there T) (fun _ => pas0) (pv 0) (pa_cons (pv 1) pa_nil))) (pss_one (ps_ret (pe_dget (hu_of hr) (y_fld (i := 4) (kls_House T) (pv 0)) (pv 1) (fun _ _ => rfl)))), ?_⟩
  walk_at "w"
  refine ⟨r, k, ho, A, d, D, _, rfl, hh, e, rfl, he, ?_⟩
  walk_at "w"
  exact q
theorem ok_House_shelf_size (T : TX K mg) : Fn P w K mg base false 2 (He.ma K (He.ga K "House") "shelf_size") (sp_H_get K HV.rim) := by
  refine (f_House_shelf_size T).calm 1 (fun vs H Q E h => lenH (n := 1) (fun s k h A d D xs Q E z => by obtain ⟨_, _, z, _⟩ := z; rw [z] <;> rfl) h) (fun cdv A outer s H vs Q E hr h => ?_)
  obtain ⟨r, k, ho, A, d, D, xs, rfl, hh, e, v, rfl, he, hv, q⟩ := h
  have h1 : H ho = some _ := hh.ob.1
  have h2 : H D.r = some (.dK (dO d.rim)) := hh.fr.1
  rw [hv] at h2
  refine ⟨_, pss_cons (ps_expr (x_m (ok_House_look_there T) (can hr) (kls_House T) (m_House_look_there T) (fun _ => pas0) (pv 0) (pa_cons (pv 1) pa_nil))) (pss_one (ps_ret (pe_dget (hu_of hr) (y_fld (i := 5) (kls_House T) (pv 0)) (pv 1) (fun _ _ => rfl)))), ?_⟩
  walk_at "w"
  refine ⟨r, k, ho, A, d, D, _, rfl, hh, e, rfl, he, ?_⟩
  walk_at "w"
  exact q
theorem ok_House_kept (T : TX K mg) : Fn P w K mg base false 2 (He.ma K (He.ga K "House") "kept") (sp_H_get K HV.sto) := by
  refine (f_House_kept T).calm 1 (fun vs H Q E h => lenH (n := 1) (fun s k h A d D xs Q E z => by obtain ⟨_, _, z, _⟩ := z; rw [z] <;> rfl) h) (fun cdv A outer s H vs Q E hr h => ?_)
  obtain ⟨r, k, ho, A, d, D, xs, rfl, hh, e, v, rfl, he, hv, q⟩ := h
  have h1 : H ho = some _ := hh.ob.1
  have h2 : H D.s = some (.dK (dO d.sto)) := hh.fs.1
  rw [hv] at h2
  refine ⟨_, pss_cons (ps_expr (x_m (ok_House_look_there T) (can hr) (kls_House T) (m_House_look_there T) (fun _ => pas0) (pv 0) (pa_cons (pv 1) pa_nil))) (pss_one (ps_ret (pe_dget (hu_of hr) (y_fld (i := 3) (kls_House T) (pv 0)) (pv 1) (fun _ _ => rfl)))), ?_⟩
  walk_at "w"
  refine ⟨r, k, ho, A, d, D, _, rfl, hh, e, rfl, he, ?_⟩
  walk_at "w"
  exact q
theorem ok_House_machine (T : TX K mg) : Fn P w K mg base false 2 (He.ma K (He.ga K "House") "machine") (sp_H_get K HV.eng) := by
  refine (f_House_machine T).calm 1 (fun vs H Q E h => lenH (n := 1) (fun s k h A d D xs Q E z => by obtain ⟨_, _, z, _⟩ := z; rw [z] <;> rfl) h) (fun cdv A outer s H vs Q E hr h => ?_)
  obtain ⟨r, k, ho, A, d, D, xs, rfl, hh, e, v, rfl, he, hv, q⟩ := h
  have h1 : H ho = some _ := hh.ob.1
  have h2 : H D.e = some (.dK (dO d.eng)) := hh.fe.1
  rw [hv] at h2
  refine ⟨_, pss_cons (ps_expr (x_m (ok_House_look_there T) (can hr) (kls_House T) (m_House_look_there T) (fun _ => pas0) (pv 0) (pa_cons (pv 1) pa_nil))) (pss_one (ps_ret (pe_dget (hu_of hr) (y_fld (i := 2) (kls_House T) (pv 0)) (pv 1) (fun _ _ => rfl)))), ?_⟩
  walk_at "w"
  refine ⟨r, k, ho, A, d, D, _, rfl, hh, e, rfl, he, ?_⟩
  walk_at "w"
  exact q
theorem ok_House_free (T : TX K mg) : Fn P w K mg base false 2 (He.ma K (He.ga K "House") "free") (sp_H_free K) := by
  refine (f_House_free T).calm 1 (fun vs H Q E h => lenH (n := 0) (fun s k h A d D xs Q E z => by obtain ⟨_, z, _⟩ := z; rw [z] <;> rfl) h) (fun cdv A outer s H vs Q E hr h => ?_)
  obtain ⟨r, k, ho, A, d, D, xs, rfl, hh, F, rfl, hF, q⟩ := h
  have h1 : H ho = some _ := hh.ob.1
  obtain ⟨dx', hl', ol, hs, hF'⟩ := id hF
  have h3 : H A = some _ := hF'.obj.1
  refine ⟨_, pss_one (ps_ret (x_m0 (ok_Frames_free T) (can hr) (kls_Frames T) (m_Frames_free T) (fun _ => pas0) (y_fld (i := 0) (kls_House T) (pv 0)))), ?_⟩
  walk_at "w"
  exact ⟨r, _, A, F, rfl, hF, q⟩
theorem ok_House_promised (T : TX K mg) : Fn P w K mg base false 2 (He.ma K (He.ga K "House") "promised") (sp_H_promised K) := by
  refine (f_House_promised T).calm 1 (fun vs H Q E h => lenH (n := 0) (fun s k h A d D xs Q E z => by obtain ⟨_, z, _⟩ := z; rw [z] <;> rfl) h) (fun cdv A outer s H vs Q E hr h => ?_)
  obtain ⟨r, k, ho, A, d, D, xs, rfl, hh, F, rfl, hF, q⟩ := h
  have h1 : H ho = some _ := hh.ob.1
  obtain ⟨dx', hl', ol, hs, hF'⟩ := id hF
  have h3 : H A = some _ := hF'.obj.1
  refine ⟨_, pss_one (ps_ret (x_m0 (ok_Frames_promised T) (can hr) (kls_Frames T) (m_Frames_promised T) (fun _ => pas0) (y_fld (i := 0) (kls_House T) (pv 0)))), ?_⟩
  walk_at "w"
  exact ⟨r, _, A, F, rfl, hF, q⟩
theorem ok_House_names (T : TX K mg) : Fn P w K mg base false 1 (He.ma K (He.ga K "House") "names") (sp_H_names K) := by
  refine (f_House_names T).calm 0 (fun vs H Q E h => lenH (n := 0) (fun s k h A d D xs Q E z => by rw [z.1] <;> rfl) h) (fun cdv A outer s H vs Q E hr h => ?_)
  obtain ⟨r, k, ho, A, d, D, xs, rfl, hh, rfl, q⟩ := h
  have h1 : H ho = some _ := hh.ob.1
  have h2 : H D.e = some (.dK (dO d.eng)) := hh.fe.1
  refine ⟨_, pss_one (ps_ret (pe_callB (call_sortedD rfl) (by rfl) (z_sorted T) bb_sorted (pa_cons (y_fld (i := 2) (kls_House T) (pv 0)) pa_nil))), ?_⟩
  walk_at "w"
  refine ⟨D.e, _, (match d.eng with
    | none => []
    | some _ => ["a"]), rfl, Rd.of h2, ?_, ?_, fun ys p hp hs np => ?_⟩
  · cases d.eng <;> rfl
  · cases d.eng <;> simp
  · have e : ys.map V.str = nmS d.eng := by
      cases hd : d.eng with
      | none =>
        rw [hd] at hp
        rw [List.perm_nil.mp hp] <;> rfl
      | some v =>
        rw [hd] at hp
        rw [List.perm_singleton.mp hp] <;> rfl
    rw [e]
    exact q p np
theorem ok_House_turn (T : TX K mg) : Fn P w K mg base false 16 (He.ma K (He.ga K "House") "turn") (sp_H_turn K) := by
  refine (f_House_turn T).calm 15 (fun vs H Q E h => lenH (n := 2) (fun s k h A d D xs Q E z => by obtain ⟨_, _, _, _, _, _, _, _, _, _, _, z, _⟩ := z; rw [z] <;> rfl) h) (fun cdv A outer s H vs Q E hr h => ?_)
  obtain ⟨r, k, ho, A, d, D, xs, rfl, hh, b, mo, obj, os, m, MD, F, so, DW, n, t, rfl, he, hM, ht, hW, hP, hO, q⟩ := h
  have h1 : H ho = some _ := hh.ob.1
  have h2 : H D.e = some (.dK (dO d.eng)) := hh.fe.1
  rw [he] at h2
  have h3 : H mo = some _ := hM.ob.1
  refine ⟨_, pss_cons (ps_expr (x_m (ok_House_look_there T) (can hr) (kls_House T) (m_House_look_there T) (fun _ => pas0) (pv 0) (pa_cons (pv 1) pa_nil))) (pss_one (ps_ret (x_m (ok_Machine_turn T) (can hr) (kls_Machine T) (m_Machine_turn T) (fun _ => pas0) (pe_dget (hu_of hr) (y_fld (i := 2) (kls_House T) (pv 0)) (pv 1) (fun _ _ => rfl)) (pa_cons (pv 2) pa_nil)))), ?_⟩
  walk_at "w"
  refine ⟨r, k, ho, A, d, D, _, rfl, hh, _, rfl, he, ?_⟩
  walk_at "w"
  exact ⟨b, r, k, mo, obj, os, m, MD, _, rfl, hM, A, F, so, DW, n, t, rfl, ht, hW, hP, hO, q⟩
theorem ok_House_told (T : TX K mg) : Fn P w K mg base false 13 (He.ma K (He.ga K "House") "told") (sp_H_told K) := by
  refine (f_House_told T).calm 12 (fun vs H Q E h => lenH (n := 1) (fun s k h A d D xs Q E z => by obtain ⟨_, _, _, _, _, _, _, _, _, z, _⟩ := z; rw [z] <;> rfl) h) (fun cdv A outer s H vs Q E hr h => ?_)
  obtain ⟨r, k, ho, A, d, D, xs, rfl, hh, b, mo, obj, os, m, MD, F, so, DW, rfl, he, hM, hW, q⟩ := h
  have h1 : H ho = some _ := hh.ob.1
  have h2 : H D.e = some (.dK (dO d.eng)) := hh.fe.1
  rw [he] at h2
  have h3 : H mo = some _ := hM.ob.1
  refine ⟨_, pss_cons (ps_expr (x_m (ok_House_look_there T) (can hr) (kls_House T) (m_House_look_there T) (fun _ => pas0) (pv 0) (pa_cons (pv 1) pa_nil))) (pss_one (ps_ret (x_m0 (ok_Machine_told T) (can hr) (kls_Machine T) (m_Machine_told T) (fun _ => pas0) (pe_dget (hu_of hr) (y_fld (i := 2) (kls_House T) (pv 0)) (pv 1) (fun _ _ => rfl))))), ?_⟩
  walk_at "w"
  refine ⟨r, k, ho, A, d, D, _, rfl, hh, _, rfl, he, ?_⟩
  walk_at "w"
  exact ⟨b, r, k, mo, obj, os, m, MD, _, rfl, hM, A, F, so, DW, rfl, hW, q⟩
theorem ok_House_events (T : TX K mg) : Fn P w K mg base false 2 (He.ma K (He.ga K "House") "events") (sp_H_events K) := by
  refine (f_House_events T).calm 1 (fun vs H Q E h => lenH (n := 1) (fun s k h A d D xs Q E z => by obtain ⟨_, _, _, _, _, z, _⟩ := z; rw [z] <;> rfl) h) (fun cdv A outer s H vs Q E hr h => ?_)
  obtain ⟨r, k, ho, A, d, D, xs, rfl, hh, mo, obj, os, m, MD, rfl, he, hM, q⟩ := h
  have h1 : H ho = some _ := hh.ob.1
  have h2 : H D.e = some (.dK (dO d.eng)) := hh.fe.1
  rw [he] at h2
  have h3 : H mo = some _ := hM.ob.1
  refine ⟨_, pss_cons (ps_expr (x_m (ok_House_look_there T) (can hr) (kls_House T) (m_House_look_there T) (fun _ => pas0) (pv 0) (pa_cons (pv 1) pa_nil))) (pss_one (ps_ret (x_m0 (ok_Machine_events T) (can hr) (kls_Machine T) (m_Machine_events T) (fun _ => pas0) (pe_dget (hu_of hr) (y_fld (i := 2) (kls_House T) (pv 0)) (pv 1) (fun _ _ => rfl))))), ?_⟩
  walk_at "w"
  refine ⟨r, k, ho, A, d, D, _, rfl, hh, _, rfl, he, ?_⟩
  walk_at "w"
  exact ⟨r, k, mo, obj, os, m, MD, _, rfl, hM, rfl, q⟩
theorem ok_House_words (T : TX K mg) : Fn P w K mg base false 3 (He.ma K (He.ga K "House") "words") (fun vs H Q E => ∃ b, sp_H_words K b vs H Q E) := by
  refine Fn.ex fun b => ?_
  refine (f_House_words T).calm 2 (fun vs H Q E h => lenH (n := 1) (fun s k h A d D xs Q E z => by obtain ⟨_, _, _, _, _, _, z, _⟩ := z; rw [z] <;> rfl) h) (fun cdv A outer s H vs Q E hr h => ?_)
  obtain ⟨r, k, ho, A, d, D, xs, rfl, hh, e, obj, F, pgs, so, DW, rfl, he, hs, hW, q⟩ := h
  have h1 : H ho = some _ := hh.ob.1
  have h2 : H D.s = some (.dK (dO d.sto)) := hh.fs.1
  rw [hs] at h2
  have h3 : H obj = some _ := hW.ob.1
  refine ⟨_, pss_cons (ps_expr (x_m (ok_House_look_there T) (can hr) (kls_House T) (m_House_look_there T) (fun _ => pas0) (pv 0) (pa_cons (pv 1) pa_nil))) (pss_one (ps_ret (x_m0 (ok_W_said T b) (can hr) (kls_W T b) (m_W_said T b) (fun _ => pas0) (pe_dget (hu_of hr) (y_fld (i := 3) (kls_House T) (pv 0)) (pv 1) (fun _ _ => rfl))))), ?_⟩
  walk_at "w"
  refine ⟨r, k, ho, A, d, D, _, rfl, hh, _, rfl, he, ?_⟩
  walk_at "w"
  exact ⟨r, k, obj, A, F, pgs, so, DW, _, rfl, hW, rfl, q⟩
end
end SP

/-! B19 -/
set_option maxHeartbeats 4100000
namespace SP
open PySem PySem.Spec PyProof.Rows L2 L2H
theorem kV_a : V.str "a" = kV (Sum.inr "a") := rfl
local macro_rules | `(tactic| walk_at "u") => `(tactic| (dsimp only [tRet, tSeq, tAsg, tDrop, tIfS, tNext, tRetN, tBreak, tCont, tOp, tUn, tCons, tNil, tCallX, tM, tF, sSet, sNew, sAug, tMakeX, tTest, tB, tAnd, tOr, tNot, tAndV, tOrV, tNotV, tIf, tChain, tCB, tBM, tBM0, tTup, tLst, gName, tC, tIsN, tNotN, tDIn, tDNotIn, tDGet, sDPut, tDPop1, gCons, gNil, tSl, tPart, tNoPart, tYes, tVeI]))
local macro_rules | `(tactic| walk_at "o") => `(tactic| (first | assumption | (with_reducible rfl) | omega | (intro hh; cases hh; done) | (simp only [List.length_map, List.length_replicate, List.length_range, List.length_append, List.length_cons, List.length_nil]; omega)))
local macro_rules | `(tactic| walk_at "q") => `(tactic| (repeat (first
  | ((with_reducible refine' q_var ?hq ?_); (case hq => rfl))
  | ((with_reducible refine' q_pF ?ha ?hq ?_); (case ha => assumption); (case hq => rfl))
  | ((with_reducible refine' q_pM ?ha ?_); (case ha => assumption))
  | (with_reducible refine q_I0 ?_)
  | (with_reducible refine q_isInt ?_)
  | (with_reducible refine q_isBool ?_)
  | (with_reducible refine iteT ?_)
  | (with_reducible refine iteF ?_)
  | (with_reducible refine iteSN ?_)
  | (with_reducible refine iteSS ?_)
  | (with_reducible refine iteNSN ?_)
  | (with_reducible refine iteNSS ?_)
  | (with_reducible refine iteNT ?_)
  | (with_reducible refine iteNF ?_)
  | (with_reducible refine q_eqI ?_)
  | (with_reducible refine q_neI ?_)
  | ((with_reducible refine' q_eq ?hq ?_); (case hq => rfl))
  | ((with_reducible refine' q_ne ?hq ?_); (case hq => rfl))
  | (with_reducible refine q_lenL (by assumption) ?_)
  | (with_reducible refine q_lenT (by assumption) ?_)
  | (with_reducible refine q_is_whole ?_)
  | (with_reducible refine q_is_word ?_)
  | (with_reducible refine q_is_below ?_)
  | ((with_reducible refine' And.intro (q_tyL ?ha) ?_); (case ha => assumption))
  | ((with_reducible refine' ⟨_, _, rfl, g_dO ?ha, ?_⟩); (case ha => assumption))
  | ((with_reducible refine' ⟨_, _, rfl, p_dO ?ha, ?_⟩); (case ha => assumption))
  | ((with_reducible refine' ⟨_, Sum.inr "a", _, ?ha, kV_a, valV_dO _, ?_⟩); (case ha => assumption); (rw [dropK_dO]))
  | ((with_reducible refine' ⟨_, rfl, isD_dO ?ha, ?_⟩); (case ha => assumption))
  | (with_reducible refine q_ip ?_)
  | (with_reducible refine q_rAdd ?_)
  | (with_reducible refine q_rSub ?_)
  | (with_reducible refine q_has ?_)
  | (with_reducible refine q_put ?_)
  | (with_reducible refine q_taken ?_)
  | (with_reducible refine q_page_of ?_)
  | (with_reducible refine q_pow48 ?_)
  | (with_reducible refine q_pow40 ?_)
  | ((with_reducible refine' q_I ?hq ?_); (case hq => first | assumption | decide | omega | exact q_div1 (by omega) _ | exact mul_ok (by omega) | exact pow_ok (by decide)))
  | ((with_reducible refine' ite_y ?hq ?_); (case hq => walk_at "o"))
  | ((with_reducible refine' ite_n ?hq ?_); (case hq => walk_at "o"))
  | ((with_reducible refine' ite_nn ?hq ?_); (case hq => walk_at "o"))
  | ((with_reducible refine' ite_ny ?hq ?_); (case hq => walk_at "o"))
  | (with_reducible
                    refine ⟨_, rfl, ?_⟩)
  | (with_reducible refine ⟨_, _, rfl, ?_⟩)
  | (with_reducible refine ⟨rfl, ?_⟩))))
local macro_rules | `(tactic| walk_at "w") => `(tactic| ((try (walk_at "u")); (walk_at "q"); (try (walk_at "u")); (walk_at "q")))
def dNone : HV := ⟨none, none, none, none, none, none⟩
def dGuest (mo obj : Addr) (b : Bool) (bou : Option V) : HV := ⟨some (.ref mo), some (.ref obj), some (.str (wayS b)), some (.int 2), none, bou⟩
def dAwait (tp : Addr) : HV := ⟨none, none, none, none, some (.ref tp), none⟩
def emptyF : FR := ⟨List.replicate 40 none, 0⟩
/-- a house's components, and those that a way's making touches -/
def RH (k : Nat) (x : Nat) : Prop := (4 * k + 4 ≤ x ∧ x ≤ 4 * k + 7) ∨ x = 101
theorem RH.mk {k x : Nat} (h : RMk k x) (_ : k < 10) : RH k x := by
  rcases h with h | h | h
  · exact .inl ⟨by omega, by omega⟩
  · exact .inl ⟨by omega, by omega⟩
  · exact .inr h
theorem RH.wy {k x : Nat} (h : RWy k x) : RH k x := by
  rcases h with h | h
  · exact .inl ⟨by omega, by omega⟩
  · exact .inl ⟨by omega, by omega⟩
def sp_H_init (K : PySem.W.Frag) : Sp := fun vs H Q _ => ∃ (r : Addr → Rg) (k : Nat) (h dx : Addr), vs = [.ref h, .int 40, .int 3] ∧ At ⟨H, r⟩ h (4 * k + 7, 0) (.ins (He.ga K "House") dx []) ∧ Does (RH k) ⟨H, r⟩ Q fun v t => v = .non ∧ ∃ A D, HsAt K t k h A dNone D ∧ FrAt K t (4 * k + 4) A emptyF
def sp_H_made (K : PySem.W.Frag) (b : Bool) : Sp := spH K fun s k h A d D xs Q _ => ∃ pg c0 c1 pgs, xs = [.str (wayS b), .ref pg, .int 2] ∧ FrAt K s (4 * k + 4) A emptyF ∧ PgsR s pg c0 c1 pgs ∧ ¬ RH k c0 ∧ ¬ RH k c1 ∧ k < 10 ∧ (∀ (i : Nat) ws, pgs[i]? = some ws → okPg ws) ∧ 1 ≤ pgs.length ∧ pgs.length ≤ 8 ∧
  Does (RMk k) s Q fun v t => ∃ obj F DW, v = .ref obj ∧ WayAt K t k b obj A F pgs (fun _ => false) DW
def sp_H_start (K : PySem.W.Frag) (b : Bool) : Sp := spH K fun s k h A d D xs Q _ => ∃ pg c0 c1 pgs pr q os, xs = [.str "a", .str (wayS b), .ref pg, .int 2, .ref pr, .int 0] ∧ d = dNone ∧ FrAt K s (4 * k + 4) A emptyF ∧ PgsR s pg c0 c1 pgs ∧ ¬ RH k c0 ∧ ¬ RH k c1 ∧ k < 10 ∧ (∀ (i : Nat) ws, pgs[i]? = some ws → okPg ws) ∧ 1 ≤ pgs.length ∧ pgs.length ≤ 8 ∧
  PrgR s pr q os ∧ ¬ RH k q.1 ∧ PrgOk os pgs.length ∧ Does (RH k) s Q fun v t => v = .non ∧ ∃ mo obj F DW MD, HsAt K t k h A (dGuest mo obj b none) D ∧ WayAt K t k b obj A F pgs (fun _ => false) DW ∧ MachAt K t k mo obj os ⟨0, 0, 0, pgs⟩ MD
def sp_H_end (K : PySem.W.Frag) (b : Bool) : Sp := spH K fun s k h A d D xs Q E => ∃ mo obj bou, xs = [.str "a"] ∧ d = dGuest mo obj b bou ∧ ((bou = none ∧ ∃ F pgs so DW, WayAt K s k b obj A F pgs so DW ∧ Does (RH k) s Q fun v t => HsAt K t k h A dNone D ∧ FrAt K t (4 * k + 4) A emptyF) ∨ (∃ v, bou = some v) ∧ E (.ref (He.ga K "Busy")) none s.h)
def sp_H_bind (K : PySem.W.Frag) : Sp := spH K fun s k h A d D xs Q E => ∃ v, xs = [.str "a"] ∧ d.eng = some v ∧ ((d.bou = none ∧ Does (RH k) s Q fun v t => v = .non ∧ t = s.put D.b (.dK (dO (some (.bl true)))) ∧ HsAt K t k h A { d with bou := some (.bl true) } D) ∨ (∃ v, d.bou = some v) ∧ E (.ref (He.ga K "Busy")) none s.h)
def sp_H_unbind (K : PySem.W.Frag) : Sp := spH K fun s k h A d D xs Q _ => ∃ v, xs = [.str "a"] ∧ d.bou = some v ∧ Does (· = 4 * k + 7) s Q fun v t => HsAt K t k h A { d with bou := none } D
def sp_H_expect (K : PySem.W.Frag) (b : Bool) : Sp := spH K fun s k h A d D xs Q _ => ∃ n : Nat, xs = [.str "a", .str (wayS b), .int n, .int 2] ∧ d = dNone ∧ FrAt K s (4 * k + 4) A emptyF ∧ k < 10 ∧ 1 ≤ n ∧ n ≤ 8 ∧
  Does (RH k) s Q fun v t => ∃ obj tp F DW, v = .ref obj ∧ HsAt K t k h A (dAwait tp) D ∧ At t tp (2, 3) (.tup [.str (wayS b), .ref obj, .int 2]) ∧ WayAt K t k b obj A F (List.replicate n zeros) (fun _ => false) DW
def sp_H_admit (K : PySem.W.Frag) (b : Bool) : Sp := spH K fun s k h A d D xs Q _ => ∃ mo obj tp, xs = [.str "a", .ref mo] ∧ d = dAwait tp ∧ At s tp (2, 3) (.tup [.str (wayS b), .ref obj, .int 2]) ∧ Does (· = 4 * k + 7) s Q fun v t => v = .non ∧ HsAt K t k h A (dGuest mo obj b none) D
def sp_H_forgo (K : PySem.W.Frag) (b : Bool) : Sp := spH K fun s k h A d D xs Q _ => ∃ obj tp F pgs so DW, xs = [.str "a"] ∧ d = dAwait tp ∧ At s tp (2, 3) (.tup [.str (wayS b), .ref obj, .int 2]) ∧ WayAt K s k b obj A F pgs so DW ∧ Does (RH k) s Q fun v t => v = .non ∧ HsAt K t k h A dNone D ∧ FrAt K t (4 * k + 4) A emptyF
section
variable {P : Program} {w : World} {K : PySem.W.Frag} {mg : Str → Option Value} {base : Heap} {b : Bool}
theorem ok_House_made (T : TX K mg) : Fn P w K mg base false 13 (He.ma K (He.ga K "House") "made") (fun vs H Q E => ∃ b, sp_H_made K b vs H Q E) := by
  refine Fn.ex fun b => ?_
  refine (f_House_made T).calm 12 (fun vs H Q E h => lenH (n := 3) (fun s k h A d D xs Q E z => by obtain ⟨_, _, _, _, z, _⟩ := z; rw [z] <;> rfl) h) (fun cdv A outer s H vs Q E hr h => ?_)
  obtain ⟨r, k, ho, A, d, D, xs, rfl, hh, pg, c0, c1, pgs, rfl, hF, hg, n0, n1, hk, okp, l1, l2, q⟩ := h
  have h1 : H ho = some _ := hh.ob.1
  refine ⟨_, pss_cons (ps_if (pt_cmpR op_eq (pv 1) pe_str (nomark _)) (pss_one (ps_ret (x_make (mk_Shadows T) (ok_Shadows_init T) (hr.mono (by decide)) (g_Shadows T) (fun _ => pas0) (pa_cons (y_fld (i := 0) (kls_House T) (pv 0)) (pa_cons (pv 2) (pa_cons (pv 3) (pa_cons (y_fld (i := 1) (kls_House T) (pv 0)) pa_nil))))))) pss_nil) (pss_one (ps_ret (x_make (mk_Pairs T) (ok_Pairs_init T) (hr.mono (by decide)) (g_Pairs T) (fun _ => pas0) (pa_cons (y_fld (i := 0) (kls_House T) (pv 0)) (pa_cons (pv 2) (pa_cons (pv 3) pa_nil)))))), ?_⟩
  cases b with
  | true =>
    dsimp only [wayS]
    walk_at "w"
    refine fun x dx hx hdx hne => ?_
    refine HS.make (s := ⟨H, r⟩) (C := He.ga K "Pairs") (Pq := fun H' => sp_W_init K true [.ref x, .ref A, .ref pg, .int 2] H' _ _) (4 * k + 5, 0) hx hdx hne fun u su hu => ?_
    refine ⟨u.r, k, x, dx, A, pg, c0, c1, pgs, rfl, hu, hF.step su id, hg.step su id id, (fun z => n0 (.mk z hk)), (fun z => n1 (.mk z hk)), hk, okp, l1, l2, ?_⟩
    rintro v t st ⟨rfl, F, DW, hW⟩
    exact ⟨rfl, q _ t ((su.mono fun _ z => z.elim).trans st) ⟨x, F, DW, rfl, hW⟩⟩
  | false =>
    dsimp only [wayS]
    walk_at "w"
    refine fun x dx hx hdx hne => ?_
    refine HS.make (s := ⟨H, r⟩) (C := He.ga K "Shadows") (Pq := fun H' => sp_W_init K false [.ref x, .ref A, .ref pg, .int 2, .int 3] H' _ _) (4 * k + 5, 0) hx hdx hne fun u su hu => ?_
    refine ⟨u.r, k, x, dx, A, pg, c0, c1, pgs, rfl, hu, hF.step su id, hg.step su id id, (fun z => n0 (.mk z hk)), (fun z => n1 (.mk z hk)), hk, okp, l1, l2, ?_⟩
    rintro v t st ⟨rfl, F, DW, hW⟩
    exact ⟨rfl, q _ t ((su.mono fun _ z => z.elim).trans st) ⟨x, F, DW, rfl, hW⟩⟩
theorem ok_House_start (T : TX K mg) : Fn P w K mg base false 14 (He.ma K (He.ga K "House") "start") (fun vs H Q E => ∃ b, sp_H_start K b vs H Q E) := by
  refine Fn.ex fun b => ?_
  refine (f_House_start T).calm 13 (fun vs H Q E h => lenH (n := 6) (fun s k h A d D xs Q E z => by obtain ⟨_, _, _, _, _, _, _, z, _⟩ := z; rw [z] <;> rfl) h) (fun cdv A outer s H vs Q E hr h => ?_)
  obtain ⟨r, k, ho, A, d, D, xs, rfl, hh, pg, c0, c1, pgs, pr, qr, os, rfl, rfl, hF, hg, n0, n1, hk, okp, l1, l2, hp, np, hP, q⟩ := h
  have h1 : H ho = some _ := hh.ob.1
  refine ⟨_, pss_cons (ps_expr (x_m (ok_House_look_new T) (can hr) (kls_House T) (m_House_look_new T) (fun _ => pas0) (pv 0) (pa_cons (pv 1) pa_nil))) (pss_cons (ps_if (pt_not (pt_val (x_call (ok_is_kind T) (can hr) (g_is_kind T) (f_is_kind T).kp (fun _ => pas0) (pa_cons (pv 2) pa_nil)))) (pss_one ps_never) pss_nil) (pss_cons (ps_expr (x_call (ok_checked T) (can hr) (g_checked T) (f_checked T).kp (fun _ => pas0) (pa_cons (pv 5) (pa_cons (pv 6) pa_nil)))) (pss_cons (ps_set (i := 7) (f_House_start T).nd rfl (Or.inl rfl) (x_m (ok_House_made T) (can hr) (kls_House T) (m_House_made T) (fun _ => pas0) (pv 0) (pa_cons (pv 2) (pa_cons (pv 3) (pa_cons (pv 4) pa_nil))))) (pss_cons (ps_dput (hu_of hr) (y_fld (i := 3) (kls_House T) (pv 0)) (pv 1) (pv 7) rfl) (pss_cons (ps_dput (hu_of hr) (y_fld (i := 4) (kls_House T) (pv 0)) (pv 1) (pv 2) rfl) (pss_cons (ps_dput (hu_of hr) (y_fld (i := 5) (kls_House T) (pv 0)) (pv 1) (pv 4) rfl) (pss_one (ps_dput (hu_of hr) (y_fld (i := 2) (kls_House T) (pv 0)) (pv 1) (x_make (mk_Machine T) (ok_Machine_init T) (hr.mono (by decide)) (g_Machine T) (fun _ => pas0) (pa_cons (pv 7) (pa_cons (pv 5) (pa_cons (pv 6) pa_nil)))) rfl)))))))), ?_⟩
  walk_at "w"
  refine ⟨r, k, ho, A, _, D, _, rfl, hh, rfl, rfl, rfl, fun H1 e1 => ?_⟩
  walk_at "w"
  refine ⟨b, rfl, fun H2 e2 => ?_⟩
  walk_at "w"
  have s02 : Step (fun _ => False) ⟨H, r⟩ ⟨H2, r⟩ := (Step.same e1).trans (Step.same e2)
  refine ⟨pr, os, rfl, (hp.step s02 id id).at fun i o e => hP.ok e, hP.len1, hP.len2, fun H3 e3 => ?_⟩
  have s03 : Step (fun _ => False) ⟨H, r⟩ ⟨H3, r⟩ := s02.trans (Step.same e3)
  have h1 : H3 ho = some _ := (hh.step s03 id).ob.1
  walk_at "w"
  refine ⟨b, r, k, ho, A, _, D, _, rfl, hh.step s03 id, pg, c0, c1, pgs, rfl, hF.step s03 id, hg.step s03 id id, n0, n1, hk, okp, l1, l2, ?_⟩
  rintro v t4 s4 ⟨obj, F, DW, rfl, hW⟩
  have n47 : ¬ RMk k (4 * k + 7) := fun z => by rcases z with z | z | z <;> omega
  have hh4 := (hh.step s03 id).step s4 n47
  have h1 := hh4.ob.1
  have h2 := hh4.fs.1
  walk_at "w"
  have hh5 := hh4.ps (v := some (.ref obj))
  have h1 := hh5.ob.1
  have h2 := hh5.fk.1
  walk_at "w"
  have hh6 := hh5.pk (v := some (.str (wayS b)))
  have h1 := hh6.ob.1
  have h2 := hh6.fr.1
  walk_at "w"
  have hh7 := hh6.pr (v := some (.int 2))
  have s47 : Step (· = 4 * k + 7) t4 _ := (Step.put1 (o' := .dK (dO (some (.ref obj)))) hh4.fs).trans ((Step.put1 (o' := .dK (dO (some (.str (wayS b))))) hh5.fk).trans (Step.put1 (o' := .dK (dO (some (.int 2)))) hh6.fr))
  have hW7 := hW.step s47 (by omega) (by omega)
  have hp7 := ((hp.step s03 id id).step (s4.mono (R' := RH k) fun _ z => .mk z hk) np (by unfold RH; omega)).step (s47.mono (R' := RH k) fun _ z => .inl ⟨by omega, by omega⟩) np (by unfold RH; omega)
  refine fun x dx hx hdx hne => ?_
  refine HS.make (s := (((t4.put D.s (.dK (dO (some (.ref obj))))).put D.k (.dK (dO (some (.str (wayS b)))))).put D.r (.dK (dO (some (.int 2)))))) (C := He.ga K "Machine") (Pq := fun H' => sp_M_init K ([.ref x, .ref obj, .ref pr, .int 0] ++ [.non, .non]) H' _ _) (4 * k + 6, 0) hx hdx hne fun u su hu => ?_
  refine ⟨u.r, k, x, dx, obj, pr, qr, os, pgs.length, .non, .non, ⟨0, 0, 0, pgs⟩, rfl, hu, hp7.step su id id, (fun z => np (by rw [z]; exact .inl ⟨by omega, by omega⟩)), hP, .inl ⟨rfl, rfl, rfl, rfl, rfl⟩, ?_⟩
  rintro v t8 s8 ⟨rfl, MD, hM⟩
  refine ⟨rfl, ?_⟩
  have hh8 := (hh7.step su id).step s8 (by omega)
  have hW8 := (hW7.step su id id).step s8 (by omega) (by omega)
  have h1 := hh8.ob.1
  have h2 := hh8.fe.1
  walk_at "w"
  have s9 := Step.put1 (o' := .dK (dO (some (.ref x)))) hh8.fe
  refine q _ _ ((s03.mono fun _ z => z.elim).trans ((s4.mono fun _ z => .mk z hk).trans ((s47.mono fun _ z => .inl ⟨by omega, by omega⟩).trans ((su.mono fun _ z => z.elim).trans ((s8.mono fun _ z => .inl ⟨by omega, by omega⟩).trans (s9.mono fun _ z => .inl ⟨by omega, by omega⟩)))))) ⟨rfl, x, obj, F, DW, MD, hh8.pe, hW8.step s9 (by omega) (by omega), hM.step s9 (by omega) (by omega)⟩
theorem ok_House_end (T : TX K mg) : Fn P w K mg base false 8 (He.ma K (He.ga K "House") "end") (fun vs H Q E => ∃ b, sp_H_end K b vs H Q E) := by
  refine Fn.ex fun b => ?_
  refine (f_House_end T).calm 7 (fun vs H Q E h => lenH (n := 1) (fun s k h A d D xs Q E z => by obtain ⟨_, _, _, z, _⟩ := z; rw [z] <;> rfl) h) (fun cdv A outer s H vs Q E hr h => ?_)
  obtain ⟨r, k, ho, A, d, D, xs, rfl, hh, mo, obj, bou, rfl, rfl, q⟩ := h
  have h1 : H ho = some _ := hh.ob.1
  have h2 : H D.b = some (.dK (dO bou)) := hh.fb.1
  have h3 : H D.s = some (.dK (dO (some (.ref obj)))) := hh.fs.1
  refine ⟨_, pss_cons (ps_expr (x_m (ok_House_look_there T) (can hr) (kls_House T) (m_House_look_there T) (fun _ => pas0) (pv 0) (pa_cons (pv 1) pa_nil))) (pss_cons (ps_if (pt_cmp (pc_din (hu_of hr) (pv 1) (y_fld (i := 7) (kls_House T) (pv 0)))) (pss_one (L2N.ps_raise rfl (L2N.takes_of rfl rfl rfl rfl) (L2N.pmk_own PySem.F.excBase_ValueError (ex_Busy T).1 (g_Busy T) (ex_Busy T).2.1 (raises_own (ex_Busy T).2.2.1 (ex_Busy T).2.2.2) rfl))) pss_nil) (pss_cons (ps_expr (x_m0 (ok_W_end T b) (can hr) (kls_W T b) (m_W_end T b) (fun _ => pas0) (pe_dpop1 (y_fld (i := 3) (kls_House T) (pv 0)) (pv 1) (m1_mk rfl rfl rfl rfl)))) (pss_cons (ps_expr (pe_dpop1 (y_fld (i := 4) (kls_House T) (pv 0)) (pv 1) (m1_mk rfl rfl rfl rfl))) (pss_cons (ps_expr (pe_dpop1 (y_fld (i := 5) (kls_House T) (pv 0)) (pv 1) (m1_mk rfl rfl rfl rfl))) (pss_one (ps_expr (pe_dpop1 (y_fld (i := 2) (kls_House T) (pv 0)) (pv 1) (m1_mk rfl rfl rfl rfl)))))))), ?_⟩
  walk_at "w"
  refine ⟨r, k, ho, A, _, D, _, rfl, hh, _, rfl, rfl, ?_⟩
  walk_at "w"
  rcases q with ⟨rfl, F, pgs, so, DW, hW, q⟩ | ⟨⟨v, rfl⟩, q⟩
  · walk_at "w"
    have s1 : Step (· = 4 * k + 7) ⟨H, r⟩ _ := Step.put1 (o' := .dK (dO none)) hh.fs
    have hh1 := hh.ps (v := none)
    have hW1 := hW.step s1 (by omega) (by omega)
    have g1 := hW1.ob.1
    refine q_pM g1 ?_
    refine ⟨r, k, obj, A, F, pgs, so, DW, _, rfl, hW1, rfl, ?_⟩
    rintro v t2 s2 ⟨rfl, hF⟩
    have hh2 := hh1.step s2 (fun z => by rcases z with z | z <;> omega)
    have h1 := hh2.ob.1
    have h2 : t2.h D.k = some (.dK (dO (some (.str (wayS b))))) := hh2.fk.1
    walk_at "w"
    have s3 := Step.put1 (o' := .dK (dO none)) hh2.fk
    have hh3 := hh2.pk (v := none)
    have h1 := hh3.ob.1
    have h2 : (t2.put D.k (.dK (dO none))).h D.r = some (.dK (dO (some (.int 2)))) := hh3.fr.1
    walk_at "w"
    have s4 := Step.put1 (o' := .dK (dO none)) hh3.fr
    have hh4 := hh3.pr (v := none)
    have h1 := hh4.ob.1
    have h2 : ((t2.put D.k (.dK (dO none))).put D.r (.dK (dO none))).h D.e = some (.dK (dO (some (.ref mo)))) := hh4.fe.1
    walk_at "w"
    have s5 := Step.put1 (o' := .dK (dO none)) hh4.fe
    have hh5 := hh4.pe (v := none)
    have n7 : ∀ x, x = 4 * k + 7 → RH k x := fun x hx => .inl ⟨by omega, by omega⟩
    exact q _ _ ((s1.mono n7).trans ((s2.mono fun _ z => .wy z).trans ((s3.mono n7).trans ((s4.mono n7).trans (s5.mono n7))))) ⟨hh5, ((hF.step s3 (by omega)).step s4 (by omega)).step s5 (by omega)⟩
  · walk_at "w"
    exact q
theorem ok_House_bind (T : TX K mg) : Fn P w K mg base false 2 (He.ma K (He.ga K "House") "bind") (sp_H_bind K) := by
  refine (f_House_bind T).calm 1 (fun vs H Q E h => lenH (n := 1) (fun s k h A d D xs Q E z => by obtain ⟨_, z, _⟩ := z; rw [z] <;> rfl) h) (fun cdv A outer s H vs Q E hr h => ?_)
  obtain ⟨r, k, ho, A, d, D, xs, rfl, hh, v, rfl, he, q⟩ := h
  have h1 : H ho = some _ := hh.ob.1
  have h2 : H D.b = some (.dK (dO d.bou)) := hh.fb.1
  refine ⟨_, pss_cons (ps_expr (x_m (ok_House_look_there T) (can hr) (kls_House T) (m_House_look_there T) (fun _ => pas0) (pv 0) (pa_cons (pv 1) pa_nil))) (pss_cons (ps_if (pt_cmp (pc_din (hu_of hr) (pv 1) (y_fld (i := 7) (kls_House T) (pv 0)))) (pss_one (L2N.ps_raise rfl (L2N.takes_of rfl rfl rfl rfl) (L2N.pmk_own PySem.F.excBase_ValueError (ex_Busy T).1 (g_Busy T) (ex_Busy T).2.1 (raises_own (ex_Busy T).2.2.1 (ex_Busy T).2.2.2) rfl))) pss_nil) (pss_one (ps_dput (hu_of hr) (y_fld (i := 7) (kls_House T) (pv 0)) (pv 1) pe_bl rfl))), ?_⟩
  walk_at "w"
  refine ⟨r, k, ho, A, d, D, _, rfl, hh, _, rfl, he, ?_⟩
  walk_at "w"
  rcases q with ⟨hb, q⟩ | ⟨⟨v, hb⟩, q⟩
  · rw [hb] at h2
    rw [hb]
    walk_at "w"
    exact q _ _ ((Step.put1 hh.fb).mono fun x hx => .inl ⟨by omega, by omega⟩) ⟨rfl, rfl, hh.pb⟩
  · rw [hb]
    walk_at "w"
    exact q
theorem ok_House_unbind (T : TX K mg) : Fn P w K mg base false 1 (He.ma K (He.ga K "House") "unbind") (sp_H_unbind K) := by
  refine (f_House_unbind T).calm 0 (fun vs H Q E h => lenH (n := 1) (fun s k h A d D xs Q E z => by obtain ⟨_, z, _⟩ := z; rw [z] <;> rfl) h) (fun cdv A outer s H vs Q E hr h => ?_)
  obtain ⟨r, k, ho, A, d, D, xs, rfl, hh, v, rfl, hb, q⟩ := h
  have h1 : H ho = some _ := hh.ob.1
  have h2 : H D.b = some (.dK (dO d.bou)) := hh.fb.1
  rw [hb] at h2
  refine ⟨_, pss_one (ps_expr (pe_dpop1 (y_fld (i := 7) (kls_House T) (pv 0)) (pv 1) (m1_mk rfl rfl rfl rfl))), ?_⟩
  walk_at "w"
  exact q _ _ (Step.put1 hh.fb) hh.pb
theorem ok_House_expect (T : TX K mg) : Fn P w K mg base false 14 (He.ma K (He.ga K "House") "expect") (fun vs H Q E => ∃ b, sp_H_expect K b vs H Q E) := by
  refine Fn.ex fun b => ?_
  refine (f_House_expect T).calm 13 (fun vs H Q E h => lenH (n := 4) (fun s k h A d D xs Q E z => by obtain ⟨_, z, _⟩ := z; rw [z] <;> rfl) h) (fun cdv A outer s H vs Q E hr h => ?_)
  obtain ⟨r, k, ho, A, d, D, xs, rfl, hh, n, rfl, rfl, hF, hk, l1, l2, q⟩ := h
  have h1 : H ho = some _ := hh.ob.1
  refine ⟨_, pss_cons (ps_expr (x_m (ok_House_look_new T) (can hr) (kls_House T) (m_House_look_new T) (fun _ => pas0) (pv 0) (pa_cons (pv 1) pa_nil))) (pss_cons (ps_if (pt_not (pt_val (x_call (ok_is_kind T) (can hr) (g_is_kind T) (f_is_kind T).kp (fun _ => pas0) (pa_cons (pv 2) pa_nil)))) (pss_one ps_never) pss_nil) (pss_cons (ps_set (i := 5) (f_House_expect T).nd rfl (Or.inl rfl) (x_m (ok_House_made T) (can hr) (kls_House T) (m_House_made T) (fun _ => pas0) (pv 0) (pa_cons (pv 2) (pa_cons (pe_lc (own := [("page", 6)]) (g := gName 6) rfl (f_House_expect T).nd (pi_range1 rfl (z_range T) (pa_cons (pv 3) pa_nil)) (blkOk_by (own := [("page", 6)]) (N := ["self", "name", "way", "size", "most", "store", "page"]) (sc := defScope s_House_expect) (by decide +kernel)) (fun _ _ _ _ _ => pg_name (i := 6) (f_House_expect T).nd rfl (Or.inl rfl)) (fun _ _ _ _ _ => pts_nil) (fun _ _ _ _ _ => (pe_op op_rep (pe_lst (pa_cons pe_int pa_nil)) pe_int))) (pa_cons (pv 4) pa_nil))))) (pss_cons (ps_dput (hu_of hr) (y_fld (i := 6) (kls_House T) (pv 0)) (pv 1) (pe_tup (pa_cons (pv 2) (pa_cons (pv 5) (pa_cons (pv 4) pa_nil)))) rfl) (pss_one (ps_ret (pv 5)))))), ?_⟩
  walk_at "w"
  refine ⟨r, k, ho, A, _, D, _, rfl, hh, rfl, rfl, rfl, fun H1 e1 => ?_⟩
  walk_at "w"
  refine ⟨b, rfl, fun H2 e2 => ?_⟩
  have s02 : Step (fun _ => False) ⟨H, r⟩ ⟨H2, r⟩ := (Step.same e1).trans (Step.same e2)
  have h1 : H2 ho = some _ := (hh.step s02 id).ob.1
  walk_at "w"
  refine lc_doesR (s0 := ⟨H2, r⟩) (m := n) (R := fun _ => False) (J := fun i ys t => ∃ as : List Addr, ys = as.map V.ref ∧ as.length = i ∧ ∀ (j : Nat) (a : Addr), as[j]? = some a → At t a (102, 0) (.lst (zeros.map V.int))) (0, 0) (fun R z => ?_) (by omega) id
    (fun i ys s t st ⟨as, x1, x2, x3⟩ => ⟨as, x1, x2, fun j a x => (x3 j a x).step st (by decide)⟩) ⟨[], rfl, rfl, fun j a x => by cases x⟩ (fun i ys t hi st ⟨as, x1, x2, x3⟩ Q' z => ?_) fun pg t3 ys nn s3 hpg hlen ⟨as, x1, x2, x3⟩ => ?_
  · walk_at "w"
    exact z
  · walk_at "w"
    refine ⟨(show 1 ≤ sizeLine by decide), fun p1 n1 => ?_⟩
    walk_at "w"
    refine q_rep1 (n := 8) upd_same (by decide) fun p2 n2 => ?_
    have g0 := Step.new (R := fun _ => False) (s := t) (q := (0, 0)) (o := .lst [.int 0]) n1
    have g1 := Step.new (R := fun _ => False) (s := t.new p1 (0, 0) (.lst [.int 0])) (q := (102, 0)) (o := .lst (List.replicate 8 (.int 0))) n2
    refine z _ ((t.new p1 (0, 0) (.lst [.int 0])).new p2 (102, 0) (.lst (List.replicate 8 (.int 0)))) (g0.trans g1) ⟨as ++ [p2], by rw [x1, List.map_append] <;> rfl, by rw [List.length_append, x2] <;> rfl, fun j a x => ?_⟩
    by_cases hj : j < as.length
    · rw [List.getElem?_append_left hj] at x
      exact (x3 j a x).step (g0.trans g1) id
    · rw [List.getElem?_append_right (by omega)] at x
      have hj0 : j - as.length = 0 := by
        have := (List.getElem?_eq_some_iff.mp x).1
        simp at this
        omega
      rw [hj0] at x
      cases x
      exact At.made
  · have s03 := s02.trans s3
    have hh3 := hh.step s03 id
    have h1 := hh3.ob.1
    have hg : PgsR t3 pg 0 102 (List.replicate n zeros) := by
      refine ⟨as, by rw [← x1]; exact hpg, by rw [x2, List.length_replicate], fun i a ws x y => ?_⟩
      rw [List.getElem?_replicate] at y
      split at y
      · cases y
        exact x3 i a x
      · cases y
    walk_at "w"
    refine ⟨b, t3.r, k, ho, A, _, D, _, rfl, hh3, pg, 0, 102, List.replicate n zeros, rfl, hF.step s03 id, hg, by unfold RH; omega, by unfold RH; omega, hk, fun i ws y => ?_, by rw [List.length_replicate]; exact l1, by rw [List.length_replicate]; exact l2, ?_⟩
    · rw [List.getElem?_replicate] at y
      split at y
      · cases y
        exact zeros_ok
      · cases y
    rintro v t4 s4 ⟨obj, F, DW, rfl, hW⟩
    have n47 : ¬ RMk k (4 * k + 7) := fun z => by rcases z with z | z | z <;> omega
    have hh4 := hh3.step s4 n47
    walk_at "w"
    refine ⟨(show 3 ≤ sizeLine by decide), fun tp htp => ?_⟩
    have s5 := Step.new (R := fun _ => False) (s := t4) (q := (2, 3)) (o := .tup [.str (wayS b), .ref obj, .int 2]) htp
    have a5 := At.made (s := t4) (a := tp) (q := (2, 3)) (o := .tup [.str (wayS b), .ref obj, .int 2])
    have hh5 := hh4.step s5 id
    have h1 := hh5.ob.1
    have h2 := hh5.fa.1
    walk_at "w"
    have s6 := Step.put1 (o' := .dK (dO (some (.ref tp)))) hh5.fa
    exact q _ _ ((s03.mono fun _ z => z.elim).trans ((s4.mono fun _ z => .mk z hk).trans ((s5.mono fun _ z => z.elim).trans (s6.mono fun x hx => .inl ⟨by omega, by omega⟩)))) ⟨obj, tp, F, DW, rfl, hh5.pa, a5.step s6 (by simp), (hW.step s5 id id).step s6 (by omega) (by omega)⟩
theorem ok_House_admit (T : TX K mg) : Fn P w K mg base false 1 (He.ma K (He.ga K "House") "admit") (fun vs H Q E => ∃ b, sp_H_admit K b vs H Q E) := by
  refine Fn.ex fun b => ?_
  refine (f_House_admit T).calm 0 (fun vs H Q E h => lenH (n := 2) (fun s k h A d D xs Q E z => by obtain ⟨_, _, _, z, _⟩ := z; rw [z] <;> rfl) h) (fun cdv A outer s H vs Q E hr h => ?_)
  obtain ⟨r, k, ho, A, d, D, xs, rfl, hh, mo, obj, tp, rfl, rfl, ht, q⟩ := h
  have h1 : H ho = some _ := hh.ob.1
  have h2 : H D.a = some (.dK (dO (some (.ref tp)))) := hh.fa.1
  refine ⟨_, pss_cons (ps_asg (pe_dpop1 (y_fld (i := 6) (kls_House T) (pv 0)) (pv 1) (m1_mk rfl rfl rfl rfl)) (x_tup (n := 3) (.inl hr.hd) (pgs_cons (pg_name (i := 3) (f_House_admit T).nd rfl (Or.inl rfl)) (pgs_cons (pg_name (i := 4) (f_House_admit T).nd rfl (Or.inl rfl)) (pgs_cons (pg_name (i := 5) (f_House_admit T).nd rfl (Or.inl rfl)) pgs_nil))))) (pss_cons (ps_dput (hu_of hr) (y_fld (i := 3) (kls_House T) (pv 0)) (pv 1) (pv 4) rfl) (pss_cons (ps_dput (hu_of hr) (y_fld (i := 4) (kls_House T) (pv 0)) (pv 1) (pv 3) rfl) (pss_cons (ps_dput (hu_of hr) (y_fld (i := 5) (kls_House T) (pv 0)) (pv 1) (pv 5) rfl) (pss_one (ps_dput (hu_of hr) (y_fld (i := 2) (kls_House T) (pv 0)) (pv 1) (pv 2) rfl))))), ?_⟩
  walk_at "w"
  have s1 := Step.put1 (o' := .dK (dO none)) hh.fa
  have hh1 := hh.pa (v := none)
  have ht1 := (ht.step s1 (by simp)).1
  refine q_tup ht1 rfl ?_
  have h1 := hh1.ob.1
  have h2 := hh1.fs.1
  walk_at "w"
  have s2 := Step.put1 (o' := .dK (dO (some (.ref obj)))) hh1.fs
  have hh2 := hh1.ps (v := some (.ref obj))
  have h1 := hh2.ob.1
  have h2 := hh2.fk.1
  walk_at "w"
  have s3 := Step.put1 (o' := .dK (dO (some (.str (wayS b))))) hh2.fk
  have hh3 := hh2.pk (v := some (.str (wayS b)))
  have h1 := hh3.ob.1
  have h2 := hh3.fr.1
  walk_at "w"
  have s4 := Step.put1 (o' := .dK (dO (some (.int 2)))) hh3.fr
  have hh4 := hh3.pr (v := some (.int 2))
  have h1 := hh4.ob.1
  have h2 := hh4.fe.1
  walk_at "w"
  exact q _ _ (s1.trans (s2.trans (s3.trans (s4.trans (Step.put1 hh4.fe))))) ⟨rfl, hh4.pe⟩
theorem ok_House_forgo (T : TX K mg) : Fn P w K mg base false 8 (He.ma K (He.ga K "House") "forgo") (fun vs H Q E => ∃ b, sp_H_forgo K b vs H Q E) := by
  refine Fn.ex fun b => ?_
  refine (f_House_forgo T).calm 7 (fun vs H Q E h => lenH (n := 1) (fun s k h A d D xs Q E z => by obtain ⟨_, _, _, _, _, _, z, _⟩ := z; rw [z] <;> rfl) h) (fun cdv A outer s H vs Q E hr h => ?_)
  obtain ⟨r, k, ho, A, d, D, xs, rfl, hh, obj, tp, F, pgs, so, DW, rfl, rfl, ht, hW, q⟩ := h
  have h1 : H ho = some _ := hh.ob.1
  have h2 : H D.a = some (.dK (dO (some (.ref tp)))) := hh.fa.1
  refine ⟨_, pss_one (ps_expr (x_m0 (ok_W_end T b) (can hr) (kls_W T b) (m_W_end T b) (fun _ => pas0) (pe_ix ix_tup (pe_dpop1 (y_fld (i := 6) (kls_House T) (pv 0)) (pv 1) (m1_mk rfl rfl rfl rfl)) pe_int (fun _ _ => rfl)))), ?_⟩
  walk_at "w"
  have s1 := Step.put1 (o' := .dK (dO none)) hh.fa
  have hh1 := hh.pa (v := none)
  have hW1 := hW.step s1 (by omega) (by omega)
  refine q_ixT (ht.step s1 (by simp)).1 (v := .ref obj) rfl ?_
  refine q_pM hW1.ob.1 ?_
  walk_at "w"
  refine ⟨r, k, obj, A, F, pgs, so, DW, _, rfl, hW1, rfl, ?_⟩
  rintro v t2 s2 ⟨rfl, hF⟩
  exact q _ t2 ((s1.mono fun x hx => .inl ⟨by omega, by omega⟩).trans (s2.mono fun _ z => .wy z)) ⟨rfl, hh1.step s2 (fun z => by rcases z with z | z <;> omega), hF⟩
end
end SP

/-! B20 -/
set_option maxHeartbeats 4100000
namespace SP
open PySem PySem.Spec PyProof.Rows L2 L2H
local macro_rules | `(tactic| walk_at "u") => `(tactic| (dsimp only [tRet, tSeq, tAsg, tDrop, tIfS, tNext, tRetN, tBreak, tCont, tOp, tUn, tCons, tNil, tCallX, tM, tF, sSet, sNew, sAug, tMakeX, tTest, tB, tAnd, tOr, tNot, tAndV, tOrV, tNotV, tIf, tChain, tCB, tBM, tBM0, tTup, tLst, gName, tC, tIsN, tNotN, tDIn, tDNotIn, tDGet, sDPut, tDPop1, gCons, gNil, tSl, tPart, tNoPart, tYes, tVeI]))
local macro_rules | `(tactic| walk_at "o") => `(tactic| (first | assumption | (with_reducible rfl) | omega | (intro hh; cases hh; done) | (simp only [List.length_map, List.length_replicate, List.length_range, List.length_append, List.length_cons, List.length_nil]; omega)))
local macro_rules | `(tactic| walk_at "q") => `(tactic| (repeat (first
  | ((with_reducible refine' q_var ?hq ?_); (case hq => rfl))
  | ((with_reducible refine' q_pF ?ha ?hq ?_); (case ha => assumption); (case hq => rfl))
  | ((with_reducible refine' q_pM ?ha ?_); (case ha => assumption))
  | (with_reducible refine q_I0 ?_)
  | (with_reducible refine q_isInt ?_)
  | (with_reducible refine q_isBool ?_)
  | (with_reducible refine iteT ?_)
  | (with_reducible refine iteF ?_)
  | (with_reducible refine iteSN ?_)
  | (with_reducible refine iteSS ?_)
  | (with_reducible refine iteNSN ?_)
  | (with_reducible refine iteNSS ?_)
  | (with_reducible refine iteNT ?_)
  | (with_reducible refine iteNF ?_)
  | (with_reducible refine q_eqI ?_)
  | (with_reducible refine q_neI ?_)
  | ((with_reducible refine' q_eq ?hq ?_); (case hq => rfl))
  | ((with_reducible refine' q_ne ?hq ?_); (case hq => rfl))
  | (with_reducible refine q_lenL (by assumption) ?_)
  | (with_reducible refine q_lenT (by assumption) ?_)
  | (with_reducible refine q_is_whole ?_)
  | (with_reducible refine q_is_word ?_)
  | (with_reducible refine q_is_below ?_)
  | ((with_reducible refine' And.intro (q_tyL ?ha) ?_); (case ha => assumption))
  | ((with_reducible refine' ⟨_, _, rfl, g_dO ?ha, ?_⟩); (case ha => assumption))
  | ((with_reducible refine' ⟨_, _, rfl, p_dO ?ha, ?_⟩); (case ha => assumption))
  | ((with_reducible refine' ⟨_, Sum.inr "a", _, ?ha, kV_a, valV_dO _, ?_⟩); (case ha => assumption); (rw [dropK_dO]))
  | ((with_reducible refine' ⟨_, rfl, isD_dO ?ha, ?_⟩); (case ha => assumption))
  | (with_reducible refine q_ip ?_)
  | (with_reducible refine q_rAdd ?_)
  | (with_reducible refine q_rSub ?_)
  | (with_reducible refine q_has ?_)
  | (with_reducible refine q_put ?_)
  | (with_reducible refine q_taken ?_)
  | (with_reducible refine q_page_of ?_)
  | (with_reducible refine q_pow48 ?_)
  | (with_reducible refine q_pow40 ?_)
  | ((with_reducible refine' q_I ?hq ?_); (case hq => first | assumption | decide | omega | exact q_div1 (by omega) _ | exact mul_ok (by omega) | exact pow_ok (by decide)))
  | ((with_reducible refine' ite_y ?hq ?_); (case hq => walk_at "o"))
  | ((with_reducible refine' ite_n ?hq ?_); (case hq => walk_at "o"))
  | ((with_reducible refine' ite_nn ?hq ?_); (case hq => walk_at "o"))
  | ((with_reducible refine' ite_ny ?hq ?_); (case hq => walk_at "o"))
  | (with_reducible
                    refine ⟨_, rfl, ?_⟩)
  | (with_reducible refine ⟨_, _, rfl, ?_⟩)
  | (with_reducible refine ⟨rfl, ?_⟩))))
local macro_rules | `(tactic| walk_at "w") => `(tactic| ((try (walk_at "u")); (walk_at "q"); (try (walk_at "u")); (walk_at "q")))
section
variable {P : Program} {w : World} {K : PySem.W.Frag} {mg : Str → Option Value} {base : Heap} {b : Bool}
theorem ok_House_init (T : TX K mg) : Fn P w K mg base false 4 (He.ma K (He.ga K "House") "__init__") (fun vs H Q E => sp_H_init K (vs ++ [.int 3]) H Q E) := by
  obtain ⟨fd, F⟩ := t_House_init T
  obtain ⟨ds, hd, hb⟩ := b_House2 F
  refine fn_calm (k := 3) F hb hd sc_House_init (fun vs H Q E h => by obtain ⟨_, _, _, _, z, _⟩ := h; rw [z] <;> rfl) fun cdv A outer s H vs Q E hr h => ?_
  obtain ⟨r, k, ho, dx, rfl, ha, q⟩ := h
  refine ⟨_, pss_cons (x_new (kls_House T) 0 (pv 0) (x_make (mk_Frames T) (ok_Frames_init T) (hr.mono (by decide)) (g_Frames T) (fun _ => pas0) (pa_cons (pv 1) pa_nil))) (pss_cons (ps_if (PW.pt (pw_or (pt_not (pt_val (x_call (ok_is_whole T) (can hr) (g_is_whole T) (f_is_whole T).kp (fun _ => pas0) (pa_cons (pv 2) pa_nil)))) (pw_or1 (pt_not (pt_chain op_le op_le (x_glob (k_LEAST_POOL T)) (pv 2) (x_glob (k_MOST_POOL T))))))) (pss_one ps_never) pss_nil) (pss_cons (x_new (kls_House T) 1 (pv 0) (pv 2)) (pss_cons (x_new (kls_House T) 2 (pv 0) pe_dnewK) (pss_cons (x_new (kls_House T) 3 (pv 0) pe_dnewK) (pss_cons (x_new (kls_House T) 4 (pv 0) pe_dnewK) (pss_cons (x_new (kls_House T) 5 (pv 0) pe_dnewK) (pss_cons (x_new (kls_House T) 6 (pv 0) pe_dnewK) (pss_one (x_new (kls_House T) 7 (pv 0) pe_dnewK))))))))), ?_⟩
  unfold tDNewK
  walk_at "w"
  refine fun A fdx hx hdx hne => ?_
  refine HS.make (s := ⟨H, r⟩) (C := He.ga K "Frames") (Pq := fun H' => sp_F_init K [.ref A, .int 40] H' _ _) (4 * k + 4, 0) hx hdx hne fun u su hu => ?_
  refine ⟨u.r, 4 * k + 4, A, fdx, rfl, hu, ?_⟩
  rintro v t1 s1 ⟨rfl, hF⟩
  refine ⟨rfl, ?_⟩
  have n7 : ∀ x, x = 4 * k + 7 → RH k x := fun x hx => .inl ⟨by omega, by omega⟩
  have ha1 := (ha.step su id).step s1 (by simp)
  have s01 : Step (RH k) ⟨H, r⟩ t1 := (su.mono fun _ z => z.elim).trans (s1.mono fun x hx => .inl ⟨by omega, by omega⟩)
  walk_at "w"
  refine q_pNew (vals := []) ha1.1 rfl ?_
  have p1 := Step.put1 (o' := .ins (He.ga K "House") dx (l_House.zip [.ref A])) ha1
  have o1 := ha1.self (o' := .ins (He.ga K "House") dx (l_House.zip [.ref A]))
  walk_at "w"
  refine q_pNew (vals := [.ref A]) o1.1 rfl ?_
  have p2 := Step.put1 (o' := .ins (He.ga K "House") dx (l_House.zip [.ref A, .int 3])) o1
  have o2 := o1.self (o' := .ins (He.ga K "House") dx (l_House.zip [.ref A, .int 3]))
  have hF := (hF.step p1 (by omega)).step p2 (by omega)
  have s2 := s01.trans ((p1.mono n7).trans (p2.mono n7))
  walk_at "w"
  refine fun de hde => ?_
  have ne := o2.stN (R := fun _ => False) (q := (4 * k + 7, 2)) (o := .dK []) hde
  have me := o2.step ne id
  have xee := o2.md (a := de) (q := (4 * k + 7, 2)) (o := .dK [])
  have fe := hF.step ne id
  walk_at "w"
  refine q_pNew (vals := [.ref A, .int 3]) me.1 rfl ?_
  have pe := Step.put1 (o' := .ins (He.ga K "House") dx (l_House.zip [.ref A, .int 3, .ref de])) me
  have oe := me.self (o' := .ins (He.ga K "House") dx (l_House.zip [.ref A, .int 3, .ref de]))
  have ge := fe.step pe (by omega)
  have xeep := xee.put (o'' := .ins (He.ga K "House") dx (l_House.zip [.ref A, .int 3, .ref de])) me (by simp)
  have ce := s2.trans ((ne.mono fun _ z => z.elim).trans (pe.mono n7))
  walk_at "w"
  refine fun ds_ hds => ?_
  have ns := oe.stN (R := fun _ => False) (q := (4 * k + 7, 3)) (o := .dK []) hds
  have ms := oe.step ns id
  have xss := oe.md (a := ds_) (q := (4 * k + 7, 3)) (o := .dK [])
  have fs := ge.step ns id
  have xes := xeep.step ns id
  walk_at "w"
  refine q_pNew (vals := [.ref A, .int 3, .ref de]) ms.1 rfl ?_
  have ps := Step.put1 (o' := .ins (He.ga K "House") dx (l_House.zip [.ref A, .int 3, .ref de, .ref ds_])) ms
  have os := ms.self (o' := .ins (He.ga K "House") dx (l_House.zip [.ref A, .int 3, .ref de, .ref ds_]))
  have gs := fs.step ps (by omega)
  have xesp := xes.put (o'' := .ins (He.ga K "House") dx (l_House.zip [.ref A, .int 3, .ref de, .ref ds_])) ms (by simp)
  have xssp := xss.put (o'' := .ins (He.ga K "House") dx (l_House.zip [.ref A, .int 3, .ref de, .ref ds_])) ms (by simp)
  have cs := ce.trans ((ns.mono fun _ z => z.elim).trans (ps.mono n7))
  walk_at "w"
  refine fun dk hdk => ?_
  have nk := os.stN (R := fun _ => False) (q := (4 * k + 7, 4)) (o := .dK []) hdk
  have mk := os.step nk id
  have xkk := os.md (a := dk) (q := (4 * k + 7, 4)) (o := .dK [])
  have fk := gs.step nk id
  have xek := xesp.step nk id
  have xsk := xssp.step nk id
  walk_at "w"
  refine q_pNew (vals := [.ref A, .int 3, .ref de, .ref ds_]) mk.1 rfl ?_
  have pk := Step.put1 (o' := .ins (He.ga K "House") dx (l_House.zip [.ref A, .int 3, .ref de, .ref ds_, .ref dk])) mk
  have ok := mk.self (o' := .ins (He.ga K "House") dx (l_House.zip [.ref A, .int 3, .ref de, .ref ds_, .ref dk]))
  have gk := fk.step pk (by omega)
  have xekp := xek.put (o'' := .ins (He.ga K "House") dx (l_House.zip [.ref A, .int 3, .ref de, .ref ds_, .ref dk])) mk (by simp)
  have xskp := xsk.put (o'' := .ins (He.ga K "House") dx (l_House.zip [.ref A, .int 3, .ref de, .ref ds_, .ref dk])) mk (by simp)
  have xkkp := xkk.put (o'' := .ins (He.ga K "House") dx (l_House.zip [.ref A, .int 3, .ref de, .ref ds_, .ref dk])) mk (by simp)
  have ck := cs.trans ((nk.mono fun _ z => z.elim).trans (pk.mono n7))
  walk_at "w"
  refine fun dr hdr => ?_
  have nr := ok.stN (R := fun _ => False) (q := (4 * k + 7, 5)) (o := .dK []) hdr
  have mr := ok.step nr id
  have xrr := ok.md (a := dr) (q := (4 * k + 7, 5)) (o := .dK [])
  have fr := gk.step nr id
  have xer := xekp.step nr id
  have xsr := xskp.step nr id
  have xkr := xkkp.step nr id
  walk_at "w"
  refine q_pNew (vals := [.ref A, .int 3, .ref de, .ref ds_, .ref dk]) mr.1 rfl ?_
  have pr := Step.put1 (o' := .ins (He.ga K "House") dx (l_House.zip [.ref A, .int 3, .ref de, .ref ds_, .ref dk, .ref dr])) mr
  have or := mr.self (o' := .ins (He.ga K "House") dx (l_House.zip [.ref A, .int 3, .ref de, .ref ds_, .ref dk, .ref dr]))
  have gr := fr.step pr (by omega)
  have xerp := xer.put (o'' := .ins (He.ga K "House") dx (l_House.zip [.ref A, .int 3, .ref de, .ref ds_, .ref dk, .ref dr])) mr (by simp)
  have xsrp := xsr.put (o'' := .ins (He.ga K "House") dx (l_House.zip [.ref A, .int 3, .ref de, .ref ds_, .ref dk, .ref dr])) mr (by simp)
  have xkrp := xkr.put (o'' := .ins (He.ga K "House") dx (l_House.zip [.ref A, .int 3, .ref de, .ref ds_, .ref dk, .ref dr])) mr (by simp)
  have xrrp := xrr.put (o'' := .ins (He.ga K "House") dx (l_House.zip [.ref A, .int 3, .ref de, .ref ds_, .ref dk, .ref dr])) mr (by simp)
  have cr := ck.trans ((nr.mono fun _ z => z.elim).trans (pr.mono n7))
  walk_at "w"
  refine fun da hda => ?_
  have na := or.stN (R := fun _ => False) (q := (4 * k + 7, 6)) (o := .dK []) hda
  have ma := or.step na id
  have xaa := or.md (a := da) (q := (4 * k + 7, 6)) (o := .dK [])
  have fa := gr.step na id
  have xea := xerp.step na id
  have xsa := xsrp.step na id
  have xka := xkrp.step na id
  have xra := xrrp.step na id
  walk_at "w"
  refine q_pNew (vals := [.ref A, .int 3, .ref de, .ref ds_, .ref dk, .ref dr]) ma.1 rfl ?_
  have pa := Step.put1 (o' := .ins (He.ga K "House") dx (l_House.zip [.ref A, .int 3, .ref de, .ref ds_, .ref dk, .ref dr, .ref da])) ma
  have oa := ma.self (o' := .ins (He.ga K "House") dx (l_House.zip [.ref A, .int 3, .ref de, .ref ds_, .ref dk, .ref dr, .ref da]))
  have ga := fa.step pa (by omega)
  have xeap := xea.put (o'' := .ins (He.ga K "House") dx (l_House.zip [.ref A, .int 3, .ref de, .ref ds_, .ref dk, .ref dr, .ref da])) ma (by simp)
  have xsap := xsa.put (o'' := .ins (He.ga K "House") dx (l_House.zip [.ref A, .int 3, .ref de, .ref ds_, .ref dk, .ref dr, .ref da])) ma (by simp)
  have xkap := xka.put (o'' := .ins (He.ga K "House") dx (l_House.zip [.ref A, .int 3, .ref de, .ref ds_, .ref dk, .ref dr, .ref da])) ma (by simp)
  have xrap := xra.put (o'' := .ins (He.ga K "House") dx (l_House.zip [.ref A, .int 3, .ref de, .ref ds_, .ref dk, .ref dr, .ref da])) ma (by simp)
  have xaap := xaa.put (o'' := .ins (He.ga K "House") dx (l_House.zip [.ref A, .int 3, .ref de, .ref ds_, .ref dk, .ref dr, .ref da])) ma (by simp)
  have ca := cr.trans ((na.mono fun _ z => z.elim).trans (pa.mono n7))
  walk_at "w"
  refine fun db hdb => ?_
  have nb := oa.stN (R := fun _ => False) (q := (4 * k + 7, 7)) (o := .dK []) hdb
  have mb := oa.step nb id
  have xbb := oa.md (a := db) (q := (4 * k + 7, 7)) (o := .dK [])
  have fb := ga.step nb id
  have xeb := xeap.step nb id
  have xsb := xsap.step nb id
  have xkb := xkap.step nb id
  have xrb := xrap.step nb id
  have xab := xaap.step nb id
  walk_at "w"
  refine q_pNew (vals := [.ref A, .int 3, .ref de, .ref ds_, .ref dk, .ref dr, .ref da]) mb.1 rfl ?_
  have pb := Step.put1 (o' := .ins (He.ga K "House") dx (l_House.zip [.ref A, .int 3, .ref de, .ref ds_, .ref dk, .ref dr, .ref da, .ref db])) mb
  have ob := mb.self (o' := .ins (He.ga K "House") dx (l_House.zip [.ref A, .int 3, .ref de, .ref ds_, .ref dk, .ref dr, .ref da, .ref db]))
  have gb := fb.step pb (by omega)
  have xebp := xeb.put (o'' := .ins (He.ga K "House") dx (l_House.zip [.ref A, .int 3, .ref de, .ref ds_, .ref dk, .ref dr, .ref da, .ref db])) mb (by simp)
  have xsbp := xsb.put (o'' := .ins (He.ga K "House") dx (l_House.zip [.ref A, .int 3, .ref de, .ref ds_, .ref dk, .ref dr, .ref da, .ref db])) mb (by simp)
  have xkbp := xkb.put (o'' := .ins (He.ga K "House") dx (l_House.zip [.ref A, .int 3, .ref de, .ref ds_, .ref dk, .ref dr, .ref da, .ref db])) mb (by simp)
  have xrbp := xrb.put (o'' := .ins (He.ga K "House") dx (l_House.zip [.ref A, .int 3, .ref de, .ref ds_, .ref dk, .ref dr, .ref da, .ref db])) mb (by simp)
  have xabp := xab.put (o'' := .ins (He.ga K "House") dx (l_House.zip [.ref A, .int 3, .ref de, .ref ds_, .ref dk, .ref dr, .ref da, .ref db])) mb (by simp)
  have xbbp := xbb.put (o'' := .ins (He.ga K "House") dx (l_House.zip [.ref A, .int 3, .ref de, .ref ds_, .ref dk, .ref dr, .ref da, .ref db])) mb (by simp)
  have cb := ca.trans ((nb.mono fun _ z => z.elim).trans (pb.mono n7))
  exact q _ _ cb ⟨rfl, A, ⟨dx, de, ds_, dk, dr, da, db⟩, ⟨ob, xebp, xsbp, xkbp, xrbp, xabp, xbbp⟩, gb⟩
end
end SP

/-! B21 -/
set_option maxHeartbeats 4100000
namespace SP
open PySem PySem.Spec PyProof.Rows L2 L2H
local macro_rules | `(tactic| walk_at "u") => `(tactic| (dsimp only [tRet, tSeq, tAsg, tDrop, tIfS, tNext, tRetN, tBreak, tCont, tOp, tUn, tCons, tNil, tCallX, tM, tF, sSet, sNew, sAug, tMakeX, tTest, tB, tAnd, tOr, tNot, tAndV, tOrV, tNotV, tIf, tChain, tCB, tBM, tBM0, tTup, tLst, gName, tC, tIsN, tNotN, tDIn, tDNotIn, tDGet, sDPut, tDPop1, gCons, gNil, tSl, tPart, tNoPart, tYes, tVeI]))
local macro_rules | `(tactic| walk_at "o") => `(tactic| (first | assumption | (with_reducible rfl) | omega | (intro hh; cases hh; done) | (simp only [List.length_map, List.length_replicate, List.length_range, List.length_append, List.length_cons, List.length_nil]; omega)))
local macro_rules | `(tactic| walk_at "q") => `(tactic| (repeat (first
  | ((with_reducible refine' q_var ?hq ?_); (case hq => rfl))
  | ((with_reducible refine' q_pF ?ha ?hq ?_); (case ha => assumption); (case hq => rfl))
  | ((with_reducible refine' q_pM ?ha ?_); (case ha => assumption))
  | (with_reducible refine q_I0 ?_)
  | (with_reducible refine q_isInt ?_)
  | (with_reducible refine q_isBool ?_)
  | (with_reducible refine iteT ?_)
  | (with_reducible refine iteF ?_)
  | (with_reducible refine iteSN ?_)
  | (with_reducible refine iteSS ?_)
  | (with_reducible refine iteNSN ?_)
  | (with_reducible refine iteNSS ?_)
  | (with_reducible refine iteNT ?_)
  | (with_reducible refine iteNF ?_)
  | (with_reducible refine q_eqI ?_)
  | (with_reducible refine q_neI ?_)
  | ((with_reducible refine' q_eq ?hq ?_); (case hq => rfl))
  | ((with_reducible refine' q_ne ?hq ?_); (case hq => rfl))
  | (with_reducible refine q_lenL (by assumption) ?_)
  | (with_reducible refine q_lenT (by assumption) ?_)
  | (with_reducible refine q_is_whole ?_)
  | (with_reducible refine q_is_word ?_)
  | (with_reducible refine q_is_below ?_)
  | ((with_reducible refine' And.intro (q_tyL ?ha) ?_); (case ha => assumption))
  | ((with_reducible refine' ⟨_, _, rfl, g_dO ?ha, ?_⟩); (case ha => assumption))
  | ((with_reducible refine' ⟨_, _, rfl, p_dO ?ha, ?_⟩); (case ha => assumption))
  | ((with_reducible refine' ⟨_, Sum.inr "a", _, ?ha, kV_a, valV_dO _, ?_⟩); (case ha => assumption); (rw [dropK_dO]))
  | ((with_reducible refine' ⟨_, rfl, isD_dO ?ha, ?_⟩); (case ha => assumption))
  | (with_reducible refine q_ip ?_)
  | (with_reducible refine q_rAdd ?_)
  | (with_reducible refine q_rSub ?_)
  | (with_reducible refine q_has ?_)
  | (with_reducible refine q_put ?_)
  | (with_reducible refine q_taken ?_)
  | (with_reducible refine q_page_of ?_)
  | (with_reducible refine q_pow48 ?_)
  | (with_reducible refine q_pow40 ?_)
  | ((with_reducible refine' q_I ?hq ?_); (case hq => first | assumption | decide | omega | exact q_div1 (by omega) _ | exact mul_ok (by omega) | exact pow_ok (by decide)))
  | ((with_reducible refine' ite_y ?hq ?_); (case hq => walk_at "o"))
  | ((with_reducible refine' ite_n ?hq ?_); (case hq => walk_at "o"))
  | ((with_reducible refine' ite_nn ?hq ?_); (case hq => walk_at "o"))
  | ((with_reducible refine' ite_ny ?hq ?_); (case hq => walk_at "o"))
  | (with_reducible
                    refine ⟨_, rfl, ?_⟩)
  | (with_reducible refine ⟨_, _, rfl, ?_⟩)
  | (with_reducible refine ⟨rfl, ?_⟩))))
local macro_rules | `(tactic| walk_at "w") => `(tactic| ((try (walk_at "u")); (walk_at "q"); (try (walk_at "u")); (walk_at "q")))
theorem lc_list0 {K : PySem.W.Frag} {tl te : TE} {tt : TT} {g : TG} {vs : List Nat} {σ : L2.St} {H : Hp} {Q : VK} (h : tl σ H fun x H2 => tLc (iList K (tC x)) g tt te vs σ H2 Q) : tLc (iList K tl) g tt te vs σ H Q := h
theorem x_tryE0 {X : Cx} {body orelse : List Stmt} {h₀ : ExceptHandler} {hds : List ExceptHandler} {l : List (Value × (Addr → Value → Option Addr → TS))} {pos : Pos} {tb u : TS} (ho : PSs X orelse u) (hs : X.stack = X.env :: X.outer) (hf : X.env.frame = some X.env.locals)
    (hb : ∀ (pn : List (Addr × Obj)) (xe : Value → Shared → Prop), PSs (X.tr pn xe) body tb) (hh : HdsOk X (h₀ :: hds) l) : PS X (.Try body (h₀ :: hds) orelse [] pos) (fun D σ H => tb { D with nx := u D } σ H) := by
  refine ⟨fun pins
                   s σ H D I h => ?_⟩
  exact (L2.ps_try_manyE (tb := fun _ => tb) ho hs hf takes_none5 (fun W pn xe _ _ => hb pn xe) hh).run pins s σ H D I h
/-! ### the states of a house -/
def GuestAt (K : PySem.W.Frag) (s : HS) (k : Nat) (b : Bool) (h : Addr) (bou : Option V) (os : List Ord) (m : MS) (so : Nat → Bool) : Prop :=
  ∃ A mo obj F D DW MD, HsAt K s k h A (dGuest mo obj b bou) D ∧ WayAt K s k b obj A F m.pgs so DW ∧ MachAt K s k mo obj os m MD
def EmptyAt (K : PySem.W.Frag) (s : HS) (k : Nat) (h : Addr) : Prop := ∃ A D, HsAt K s k h A dNone D ∧ FrAt K s (4 * k + 4) A emptyF
def AwaitAt (K : PySem.W.Frag) (s : HS) (k : Nat) (b : Bool) (h obj : Addr) (pgs : List (List Int)) : Prop := ∃ A tp F so D DW, HsAt K s k h A (dAwait tp) D ∧ At s tp (2, 3) (.tup [.str (wayS b), .ref obj, .int 2]) ∧ WayAt K s k b obj A F pgs so DW
def OffH (R : Nat → Prop) (k : Nat) : Prop := ∀ x, (4 * k + 4 ≤ x ∧ x ≤ 4 * k + 7) ∨ x = 2 → ¬ R x
section
variable {K : PySem.W.Frag} {s t : HS} {k : Nat} {b : Bool} {h obj : Addr} {bou : Option V} {os : List Ord} {m : MS} {so : Nat → Bool} {pgs : List (List Int)} {R : Nat → Prop}
theorem OffH.n (n : OffH R k) {i : Nat} (hi : i < 4) : ¬ R (4 * k + 4 + i) := n _ (.inl ⟨by omega, by omega⟩)
theorem GuestAt.step (x : GuestAt K s k b h bou os m so) (st : Step R s t) (n : OffH R k) : GuestAt K t k b h bou os m so := by
  obtain ⟨A, mo, obj, F, D, DW, MD, h1, h2, h3⟩ := x
  exact ⟨A, mo, obj, F, D, DW, MD, h1.step st (n.n (i := 3) (by decide)), h2.step st (n.n (i := 0) (by decide)) (n.n (i := 1) (by decide)), h3.step st (n.n (i := 2) (by decide)) (n 2 (.inr rfl))⟩
theorem EmptyAt.step (x : EmptyAt K s k h) (st : Step R s t) (n : OffH R k) : EmptyAt K t k h := by
  obtain ⟨A, D, h1, h2⟩ := x
  exact ⟨A, D, h1.step st (n.n (i := 3) (by decide)), h2.step st (n.n (i := 0) (by decide))⟩
theorem AwaitAt.step (x : AwaitAt K s k b h obj pgs) (st : Step R s t) (n : OffH R k) : AwaitAt K t k b h obj pgs := by
  obtain ⟨A, tp, F, so, D, DW, h1, h2, h3⟩ := x
  exact ⟨A, tp, F, so, D, DW, h1.step st (n.n (i := 3) (by decide)), h2.step st (n 2 (.inr rfl)), h3.step st (n.n (i := 0) (by decide)) (n.n (i := 1) (by decide))⟩
end
def sp_expected (K : PySem.W.Frag) (b b2 : Bool) : Sp := fun vs H Q _ => ∃ (r : Addr → Rg) (k0 k1 : Nat) (h0 h1 : Addr) (bou : Option V) (os : List Ord) (m : MS) (so : Nat → Bool), vs = [.ref h0, .str "a", .ref h1, .str (wayS b2)] ∧ GuestAt K ⟨H, r⟩ k0 b h0 bou os m so ∧ EmptyAt K ⟨H, r⟩ k1 h1 ∧ k0 ≠ k1 ∧ k0 < 10 ∧ k1 < 10 ∧
  Does (RH k1) ⟨H, r⟩ Q fun v t => ∃ obj, v = .ref obj ∧ AwaitAt K t k1 b2 h1 obj (List.replicate m.pgs.length zeros)
/-- the move's object -/
structure MV where
  there : Addr
  h0 : Addr
  h1 : Addr
  most : Int
  rounds : Nat
  done : Nat
  over : Bool
def mvV (x : MV) : List V := [.ref x.there, .ref x.h0, .str "a", .ref x.h1, .int x.most, .int x.rounds, .int x.done, .bl x.over]
def MoveAt (K : PySem.W.Frag) (s : HS) (mv : Addr) (x : MV) : Prop := ∃ dx, At s mv (3, 0) (.ins (He.ga K "Move") dx (l_Move.zip (mvV x)))
theorem MoveAt.step {K : PySem.W.Frag} {s t : HS} {mv : Addr} {x : MV} {R : Nat → Prop} (h : MoveAt K s mv x) (st : Step R s t) (n : ¬ R 3) : MoveAt K t mv x := by
  obtain ⟨dx, h⟩ := h
  exact ⟨dx, h.step st n⟩
def RMv (k0 k1 : Nat) (x : Nat) : Prop := RH k0 x ∨ RH k1 x ∨ x = 3
theorem offH {k j : Nat} (h : k ≠ j) (_ : j < 10) : OffH (RH k) j := fun x hx z => by
  rcases z with z | z <;> rcases hx with hx | hx <;> omega
theorem RH.n3 {k : Nat} : ¬ RH k 3 := fun z => by rcases z with z | z <;> omega
def sp_Mv_init (K : PySem.W.Frag) (b b2 : Bool) : Sp := fun vs H Q E => ∃ (r : Addr → Rg) (mv dx h0 h1 : Addr) (k0 k1 : Nat) (bou : Option V) (os : List Ord) (m : MS) (so : Nat → Bool) (most : Int) (rounds : Nat), vs = [.ref mv, .ref h0, .str "a", .ref h1, .str (wayS b2), .int most, .int rounds] ∧ At ⟨H, r⟩ mv (3, 0) (.ins (He.ga K "Move") dx []) ∧ GuestAt K ⟨H, r⟩ k0 b h0 bou os m so ∧
  ((bou = none ∧ EmptyAt K ⟨H, r⟩ k1 h1 ∧ k0 ≠ k1 ∧ k0 < 10 ∧ k1 < 10 ∧ 0 ≤ most ∧ most ≤ 24 ∧ 1 ≤ rounds ∧ rounds ≤ 20 ∧ Does (RMv k0 k1) ⟨H, r⟩ Q fun v t => v = .non ∧ ∃ obj, GuestAt K t k0 b h0 (some (.bl true)) os m so ∧ AwaitAt K t k1 b2 h1 obj (List.replicate m.pgs.length zeros) ∧ MoveAt K t mv ⟨obj, h0, h1, most, rounds, 0, false⟩) ∨
    (∃ v, bou = some v) ∧ E (.ref (He.ga K "Busy")) none H)
section
variable {P : Program} {w : World} {K : PySem.W.Frag} {mg : Str → Option Value} {base : Heap} {b : Bool}
theorem ok_expected (T : TX K mg) : Fn P w K mg base false 15 (He.ga K "expected") (fun vs H Q E => ∃ b b2, sp_expected K b b2 vs H Q E) := by
  refine Fn.ex fun b => Fn.ex fun b2 => ?_
  refine (f_expected T).calm 14 (fun vs H Q E h => by obtain ⟨_, _, _, _, _, _, _, _, _, z, _⟩ := h; rw [z] <;> rfl) (fun cdv A outer s H vs Q E hr h => ?_)
  obtain ⟨r, k0, k1, h0, h1, bou, os, m, so, rfl, hG, ⟨A1, D1, hE, hEF⟩, hk, hk0, hk1, q⟩ := h
  obtain ⟨A0, mo, obj, F, D, DW, MD, hh, hW, hM⟩ := hG
  have g1 : H h0 = some _ := hh.ob.1
  have g2 : H obj = some _ := hW.ob.1
  have g3 : H h1 = some _ := hE.ob.1
  have hsz := hW.wf.sz
  refine ⟨_, pss_cons (ps_set (i := 4) (f_expected T).nd rfl (Or.inl rfl) (x_m0 (ok_W_size T b) (can hr) (kls_W T b) (m_W_size T b) (fun _ => pas0) (x_m (ok_House_kept T) (can hr) (kls_House T) (m_House_kept T) (fun _ => pas0) (pv 0) (pa_cons (pv 1) pa_nil)))) (pss_one (x_tryE0 (pss_one (ps_ret (pv 5))) rfl rfl (fun pn xe => (pss_one (ps_set (i := 5) (f_expected T).nd rfl (Or.inl rfl) (x_m (ok_House_expect T) (can hr) (kls_House T) (m_House_expect T) (fun _ => pas0) (pv 2) (pa_cons (pv 1) (pa_cons (pv 3) (pa_cons (pv 4) (pa_cons (x_m (ok_House_shelf_size T) (can hr) (kls_House T) (m_House_shelf_size T) (fun _ => pas0) (pv 0) (pa_cons (pv 1) pa_nil)) pa_nil)))))))) (HdsOk.cons ⟨rfl, by decide, .inl (g_NoName T)⟩ (fun _ _ _ _ _ _ _ => pss_never) (HdsOk.cons ⟨rfl, by decide, .inl (g_NoWay T)⟩ (fun _ _ _ _ _ _ _ => pss_never) (HdsOk.cons ⟨rfl, by decide, .inl (g_NoRoom T)⟩ (fun _ _ _ _ _ _ _ => pss_never) HdsOk.nil))))), ?_⟩
  walk_at "w"
  refine ⟨r, k0, h0, A0, _, D, _, rfl, hh, _, _, rfl, rfl, rfl, ?_⟩
  walk_at "w"
  refine ⟨r, k0, obj, A0, F, m.pgs, so, DW, _, rfl, hW, rfl, ?_⟩
  walk_at "w"
  refine ⟨r, k0, h0, A0, _, D, _, rfl, hh, _, _, rfl, rfl, rfl, ?_⟩
  walk_at "w"
  refine ⟨b2, r, k1, h1, A1, _, D1, _, rfl, hE, m.pgs.length, rfl, rfl, hEF, hk1, hsz.1, hsz.2, ?_⟩
  rintro v t st ⟨obj2, tp, F2, DW2, rfl, hA, htp, hW2⟩
  walk_at "w"
  exact q _ t st ⟨obj2, rfl, A1, tp, F2, _, D1, DW2, hA, htp, hW2⟩
theorem ok_Move_init (T : TX K mg) : Fn P w K mg base false 16 (He.ma K (He.ga K "Move") "__init__") (fun vs H Q E => ∃ b b2, sp_Mv_init K b b2 vs H Q E) := by
  refine Fn.ex fun b => Fn.ex fun b2 => ?_
  refine (f_Move_init T).calm 15 (fun vs H Q E h => by obtain ⟨_, _, _, _, _, _, _, _, _, _, _, _, _, z, _⟩ := h; rw [z] <;> rfl) (fun cdv A outer s H vs Q E hr h => ?_)
  obtain ⟨r, mv, dx, h0, h1, k0, k1, bou, os, m, so, most, rounds, rfl, ho, hG, q⟩ := h
  obtain ⟨A0, mo, obj, F, D, DW, MD, hh, hW, hM⟩ := hG
  have g1 : H h0 = some _ := hh.ob.1
  refine ⟨_, pss_cons (ps_expr (x_m (ok_House_bind T) (can hr) (kls_House T) (m_House_bind T) (pasE (L2N.takes_of rfl rfl rfl rfl)) (pv 1) (pa_cons (pv 2) pa_nil))) (pss_cons (ps_if (PW.pt (pw_or (pt_not (pt_val (x_call (ok_is_count T) (can hr) (g_is_count T) (f_is_count T).kp (fun _ => pas0) (pa_cons (pv 5) (pa_cons pe_int (pa_cons (x_glob (k_MOST_PAGES T)) pa_nil)))))) (pw_or1 (pt_not (pt_val (x_call (ok_is_count T) (can hr) (g_is_count T) (f_is_count T).kp (fun _ => pas0) (pa_cons (pv 6) (pa_cons pe_int (pa_cons (x_glob (k_MOST_ROUNDS T)) pa_nil))))))))) (pss_cons (ps_expr (x_m (ok_House_unbind T) (can hr) (kls_House T) (m_House_unbind T) (fun _ => pas0) (pv 1) (pa_cons (pv 2) pa_nil))) (pss_one ps_never)) pss_nil) (pss_cons (x_new (kls_Move T) 0 (pv 0) (x_call (ok_expected T) (can hr) (g_expected T) (f_expected T).kp (fun _ => pas0) (pa_cons (pv 1) (pa_cons (pv 2) (pa_cons (pv 3) (pa_cons (pv 4) pa_nil)))))) (pss_cons (x_new (kls_Move T) 1 (pv 0) (pv 1)) (pss_cons (x_new (kls_Move T) 2 (pv 0) (pv 2)) (pss_cons (x_new (kls_Move T) 3 (pv 0) (pv 3)) (pss_cons (x_new (kls_Move T) 4 (pv 0) (pv 5)) (pss_cons (x_new (kls_Move T) 5 (pv 0) (pv 6)) (pss_cons (x_new (kls_Move T) 6 (pv 0) pe_int) (pss_one (x_new (kls_Move T) 7 (pv 0) pe_bl)))))))))), ?_⟩
  walk_at "w"
  rcases q with ⟨rfl, ⟨A1, D1, hE, hEF⟩, hk, hk0, hk1, m0, m1, r0, r1, q⟩ | ⟨⟨v, rfl⟩, q⟩
  · refine ⟨r, k0, h0, A0, _, D, _, rfl, hh, _, rfl, rfl, .inl ⟨rfl, ?_⟩⟩
    rintro v t st' ⟨rfl, rfl, hh1⟩
    have s1 := Step.put1 (o' := .dK (dO (some (.bl true)))) hh.fb
    have hW1 := hW.step s1 (by omega) (by omega)
    have hM1 := hM.step s1 (by omega) (by omega)
    have hE1 := hE.step s1 (by omega)
    have hEF1 := hEF.step s1 (by omega)
    have ho1 := ho.step s1 (by simp)
    walk_at "w"
    refine ⟨most, 0, 24, rfl, m0, ?_⟩
    walk_at "w"
    refine ⟨rounds, 1, 20, rfl, by omega, ?_⟩
    walk_at "w"
    refine ⟨b, b2, r, k0, k1, h0, h1, some (.bl true), os, m, so, rfl, ⟨A0, mo, obj, F, D, DW, MD, hh1, hW1, hM1⟩, ⟨A1, D1, hE1, hEF1⟩, hk, hk0, hk1, ?_⟩
    rintro v t2 s2 ⟨obj2, rfl, hA⟩
    have ho2 := ho1.step s2 RH.n3
    have hG2 : GuestAt K t2 k0 b h0 (some (.bl true)) os m so := GuestAt.step ⟨A0, mo, obj, F, D, DW, MD, hh1, hW1, hM1⟩ s2 (offH (fun z => hk z.symm) hk0)
    walk_at "w"
    refine q_pNew (vals := []) ho2.1 rfl ?_
    have p0 := Step.put1 (o' := .ins (He.ga K "Move") dx (l_Move.zip [.ref obj2])) ho2
    have o0 := ho2.self (o' := .ins (He.ga K "Move") dx (l_Move.zip [.ref obj2]))
    walk_at "w"
    refine q_pNew (vals := [.ref obj2]) o0.1 rfl ?_
    have p1 := Step.put1 (o' := .ins (He.ga K "Move") dx (l_Move.zip [.ref obj2, .ref h0])) o0
    have o1 := o0.self (o' := .ins (He.ga K "Move") dx (l_Move.zip [.ref obj2, .ref h0]))
    walk_at "w"
    refine q_pNew (vals := [.ref obj2, .ref h0]) o1.1 rfl ?_
    have p2 := Step.put1 (o' := .ins (He.ga K "Move") dx (l_Move.zip [.ref obj2, .ref h0, .str "a"])) o1
    have o2 := o1.self (o' := .ins (He.ga K "Move") dx (l_Move.zip [.ref obj2, .ref h0, .str "a"]))
    walk_at "w"
    refine q_pNew (vals := [.ref obj2, .ref h0, .str "a"]) o2.1 rfl ?_
    have p3 := Step.put1 (o' := .ins (He.ga K "Move") dx (l_Move.zip [.ref obj2, .ref h0, .str "a", .ref h1])) o2
    have o3 := o2.self (o' := .ins (He.ga K "Move") dx (l_Move.zip [.ref obj2, .ref h0, .str "a", .ref h1]))
    walk_at "w"
    refine q_pNew (vals := [.ref obj2, .ref h0, .str "a", .ref h1]) o3.1 rfl ?_
    have p4 := Step.put1 (o' := .ins (He.ga K "Move") dx (l_Move.zip [.ref obj2, .ref h0, .str "a", .ref h1, .int most])) o3
    have o4 := o3.self (o' := .ins (He.ga K "Move") dx (l_Move.zip [.ref obj2, .ref h0, .str "a", .ref h1, .int most]))
    walk_at "w"
    refine q_pNew (vals := [.ref obj2, .ref h0, .str "a", .ref h1, .int most]) o4.1 rfl ?_
    have p5 := Step.put1 (o' := .ins (He.ga K "Move") dx (l_Move.zip [.ref obj2, .ref h0, .str "a", .ref h1, .int most, .int rounds])) o4
    have o5 := o4.self (o' := .ins (He.ga K "Move") dx (l_Move.zip [.ref obj2, .ref h0, .str "a", .ref h1, .int most, .int rounds]))
    walk_at "w"
    refine q_pNew (vals := [.ref obj2, .ref h0, .str "a", .ref h1, .int most, .int rounds]) o5.1 rfl ?_
    have p6 := Step.put1 (o' := .ins (He.ga K "Move") dx (l_Move.zip [.ref obj2, .ref h0, .str "a", .ref h1, .int most, .int rounds, .int (0 : Nat)])) o5
    have o6 := o5.self (o' := .ins (He.ga K "Move") dx (l_Move.zip [.ref obj2, .ref h0, .str "a", .ref h1, .int most, .int rounds, .int (0 : Nat)]))
    walk_at "w"
    refine q_pNew (vals := [.ref obj2, .ref h0, .str "a", .ref h1, .int most, .int rounds, .int (0 : Nat)]) o6.1 rfl ?_
    have p7 := Step.put1 (o' := .ins (He.ga K "Move") dx (l_Move.zip [.ref obj2, .ref h0, .str "a", .ref h1, .int most, .int rounds, .int (0 : Nat), .bl false])) o6
    have o7 := o6.self (o' := .ins (He.ga K "Move") dx (l_Move.zip [.ref obj2, .ref h0, .str "a", .ref h1, .int most, .int rounds, .int (0 : Nat), .bl false]))
    have sp := p0.trans (p1.trans (p2.trans (p3.trans (p4.trans (p5.trans (p6.trans (p7)))))))
    have off : ∀ j, OffH (· = 3) j := fun j x hx z => by omega
    exact q _ _ ((s1.mono fun x hx => .inl (.inl ⟨by omega, by omega⟩)).trans ((s2.mono fun _ z => .inr (.inl z)).trans (sp.mono fun _ z => .inr (.inr z)))) ⟨rfl, obj2, hG2.step sp (off _), hA.step sp (off _), dx, o7⟩
  · refine ⟨r, k0, h0, A0, _, D, _, rfl, hh, _, rfl, rfl, .inr ⟨⟨v, rfl⟩, q⟩⟩
/-- a move under way -/
def MovAt (K : PySem.W.Frag) (s : HS) (b b2 : Bool) (k0 k1 : Nat) (mv : Addr) (x : MV) (os : List Ord) (m : MS) (so : Nat → Bool) (pgs1 : List (List Int)) : Prop :=
  MoveAt K s mv x ∧ GuestAt K s k0 b x.h0 (some (.bl true)) os m so ∧ AwaitAt K s k1 b2 x.h1 x.there pgs1
theorem MovAt.step {s t : HS} {b b2 : Bool} {k0 k1 : Nat} {mv : Addr} {x : MV} {os : List Ord} {m : MS} {so : Nat → Bool} {pgs1 : List (List Int)} {R : Nat → Prop} (h : MovAt K s b b2 k0 k1 mv x os m so pgs1) (st : Step R s t) (n3 : ¬ R 3) (n0 : OffH R k0) (n1 : OffH R k1) : MovAt K t b b2 k0 k1 mv x os m so pgs1 :=
  ⟨h.1.step st n3, h.2.1.step st n0, h.2.2.step st n1⟩
def sp_Mv_look_open (K : PySem.W.Frag) : Sp := fun vs H Q E => ∃ r mv x, vs = [.ref mv] ∧ MoveAt K ⟨H, r⟩ mv x ∧ ((x.over = false ∧ Q .non H) ∨ (x.over = true ∧ E (.ref (He.ga K "Over")) none H))
def spMv (K : PySem.W.Frag) (b b2 : Bool) (body : HS → Nat → Nat → Addr → MV → List Ord → MS → (Nat → Bool) → List (List Int) → List V → VK → XK → Prop) : Sp := fun vs H Q E => ∃ r k0 k1 mv x os m so pgs1 xs, vs = .ref mv :: xs ∧ (k0 ≠ k1 ∧ k0 < 10 ∧ k1 < 10) ∧ MovAt K ⟨H, r⟩ b b2 k0 k1 mv x os m so pgs1 ∧ body ⟨H, r⟩ k0 k1 mv x os m so pgs1 xs Q E
def Pend (so : Nat → Bool) (dn n : Nat) (ps : List Nat) : Prop := ps.length ≤ 64 ∧ (∀ p ∈ ps, p < n) ∧ ∀ p, p < n → (dn = 0 ∨ so p = true) → p ∈ ps
def sp_Mv_pending (K : PySem.W.Frag) (b b2 : Bool) : Sp := spMv K b b2 fun s k0 k1 mv x os m so pgs1 xs Q _ => xs = [] ∧ Does (fun _ => False) s Q fun v t => ∃ l ps, v = .ref l ∧ At t l (0, 0) (.lst (ps.map natV)) ∧ Pend so x.done m.pgs.length ps
def sp_Mv_send (K : PySem.W.Frag) (b b2 : Bool) : Sp := spMv K b b2 fun s k0 k1 mv x os m so pgs1 xs Q _ => ∃ (p : Nat) (ws : List Int), xs = [.int p] ∧ m.pgs[p]? = some ws ∧ pgs1.length = m.pgs.length ∧
  Does (fun c => c = 4 * k0 + 4 ∨ RWy k1 c) s Q fun v t => v = .non ∧ MovAt K t b b2 k0 k1 mv x os m so (pgs1.set p ws)
theorem lenMv {b b2 : Bool} {f : HS → Nat → Nat → Addr → MV → List Ord → MS → (Nat → Bool) → List (List Int) → List V → VK → XK → Prop} {n : Nat} (h : ∀ s k0 k1 mv x os m so pgs1 xs Q E, f s k0 k1 mv x os m so pgs1 xs Q E → xs.length = n) {vs : List V} {H : Hp} {Q : VK} {E : XK} (z : spMv K b b2 f vs H Q E) : vs.length = n + 1 := by
  obtain ⟨r, k0, k1, mv, x, os, m, so, pgs1, xs, rfl, _, _, q⟩ := z
  rw [List.length_cons, h _ _ _ _ _ _ _ _ _ _ _ _ q]
theorem ok_Move_look_open (T : TX K mg) : Fn P w K mg base false 1 (He.ma K (He.ga K "Move") "look_open") (sp_Mv_look_open K) := by
  refine (f_Move_look_open T).calm 0 (fun vs H Q E h => by obtain ⟨_, _, _, z, _⟩ := h; rw [z] <;> rfl) (fun cdv A outer s H vs Q E hr h => ?_)
  obtain ⟨r, mv, x, rfl, ⟨dx, ho⟩, q⟩ := h
  have h1 : H mv = some (.ins (He.ga K "Move") dx (l_Move.zip (mvV x))) := ho.1
  unfold mvV at h1
  refine ⟨_, pss_one (ps_if (pt_val (y_fld (i := 7) (kls_Move T) (pv 0))) (pss_one (L2N.ps_raise rfl (L2N.takes_of rfl rfl rfl rfl) (L2N.pmk_own PySem.F.excBase_ValueError (ex_Over T).1 (g_Over T) (ex_Over T).2.1 (raises_own (ex_Over T).2.2.1 (ex_Over T).2.2.2) rfl))) pss_nil), ?_⟩
  walk_at "w"
  rcases q with ⟨hx, q⟩ | ⟨hx, q⟩
  · rw [hx]
    walk_at "w"
    exact q
  · rw [hx]
    walk_at "w"
    exact q
theorem ok_Move_pending (T : TX K mg) : Fn P w K mg base false 8 (He.ma K (He.ga K "Move") "pending") (fun vs H Q E => ∃ b b2, sp_Mv_pending K b b2 vs H Q E) := by
  refine Fn.ex fun b => Fn.ex fun b2 => ?_
  refine (f_Move_pending T).calm 7 (fun vs H Q E h => lenMv (n := 0) (fun s k0 k1 mv x os m so pgs1 xs Q E z => by rw [z.1] <;> rfl) h) (fun cdv A outer s H vs Q E hr h => ?_)
  obtain ⟨r, k0, k1, mv, x, os, m, so, pgs1, xs, rfl, ⟨hk, hk0, hk1⟩, ⟨⟨dx, ho⟩, hG, hA⟩, rfl, q⟩ := h
  obtain ⟨A0, mo, obj, F, D, DW, MD, hh, hW, hM⟩ := hG
  have h1 : H mv = some (.ins (He.ga K "Move") dx (l_Move.zip (mvV x))) := ho.1
  unfold mvV at h1
  have g1 : H x.h0 = some _ := hh.ob.1
  have g2 : H obj = some _ := hW.ob.1
  have hn := hW.wf.sz.2
  refine ⟨_, pss_cons (ps_set (i := 1) (f_Move_pending T).nd rfl (Or.inr rfl) (x_m (ok_House_kept T) (can hr) (kls_House T) (m_House_kept T) (fun _ => pas0) (y_fld (i := 1) (kls_Move T) (pv 0)) (pa_cons (y_fld (i := 2) (kls_Move T) (pv 0)) pa_nil))) (pss_cons (ps_if (pt_cmpR op_eq (y_fld (i := 6) (kls_Move T) (pv 0)) pe_int (nomark _)) (pss_one (ps_ret (pe_lc (own := [("page", 2)]) (g := gName 2) rfl (f_Move_pending T).nd (pi_range1 rfl (z_range T) (pa_cons (x_m0 (ok_W_size T b) (can hr) (kls_W T b) (m_W_size T b) (fun _ => pas0) (pv 1)) pa_nil)) (blkOk_by (own := [("page", 2)]) (N := ["self", "guest", "page"]) (sc := defScope s_Move_pending) (by decide +kernel)) (fun _ _ _ _ _ => pg_name (i := 2) (f_Move_pending T).nd rfl (Or.inl rfl)) (fun _ _ _ _ _ => (pts_one (pt_val (x_m (ok_W_has T b) (can hr) (kls_W T b) (m_W_has T b) (fun _ => pas0) (pv 1) (pa_cons (pv 2) pa_nil))))) (fun _ _ _ _ _ => (pv 2))))) pss_nil) (pss_one (ps_ret (pe_lc (own := [("page", 2)]) (g := gName 2) rfl (f_Move_pending T).nd (pi_list (x_m0 (ok_W_soiled T b) (can hr) (kls_W T b) (m_W_soiled T b) (fun _ => pas0) (pv 1))) (blkOk_by (own := [("page", 2)]) (N := ["self", "guest", "page"]) (sc := defScope s_Move_pending) (by decide +kernel)) (fun _ _ _ _ _ => pg_name (i := 2) (f_Move_pending T).nd rfl (Or.inl rfl)) (fun _ _ _ _ _ => (pts_one (pt_val (x_m (ok_W_has T b) (can hr) (kls_W T b) (m_W_has T b) (fun _ => pas0) (pv 1) (pa_cons (pv 2) pa_nil))))) (fun _ _ _ _ _ => (pv 2)))))), ?_⟩
  walk_at "w"
  refine ⟨r, k0, x.h0, A0, _, D, _, rfl, hh, _, _, rfl, rfl, rfl, ?_⟩
  walk_at "w"
  have fin : ∀ (l : Addr) (H' : Hp) (ps : List Nat), H l = none → Same H H' → H' l = some (.lst (ps.map natV)) → Pend so x.done m.pgs.length ps → Q (.ref l) H' := fun l H' ps n e d hp => by
    obtain ⟨u, rfl, su, hu⟩ := HS.grow (s := ⟨H, r⟩) n e d (0, 0)
    exact q _ u su ⟨l, ps, rfl, hu, hp⟩
  by_cases hd : x.done = 0
  · refine ite_y (by omega) ?_
    walk_at "w"
    refine lc_filR (m := m.pgs.length) (fun _ => true) (fun R z => ?_) (by omega) (fun i H1 hi e1 Q' z => ?_) (fun i H1 hi hg e1 Q' z => ?_) fun l H' n e d => ?_
    · walk_at "w"
      refine ⟨r, k0, obj, A0, F, m.pgs, so, DW, _, rfl, hW, rfl, ?_⟩
      exact z
    · have hW1 := hW.same e1
      have g2 : H1 obj = some _ := hW1.ob.1
      walk_at "w"
      refine ⟨r, k0, obj, A0, F, m.pgs, so, DW, _, rfl, hW1, i, rfl, hi, ?_⟩
      walk_at "w"
      exact z _ (Same.refl _)
    · walk_at "w"
      exact z _ (Same.refl _)
    · rw [List.filter_eq_self.mpr fun _ _ => rfl] at d
      exact fin l H' _ n e d ⟨by rw [List.length_range]; omega, fun p hp => List.mem_range.mp hp, fun p hp _ => List.mem_range.mpr hp⟩
  · refine ite_n (by omega) ?_
    walk_at "w"
    refine lc_list0 ?_
    walk_at "w"
    refine ⟨r, k0, obj, A0, F, m.pgs, so, DW, _, rfl, hW, rfl, fun l0 H0 ps n0 e0 d0 l64 p1 p2 => ?_⟩
    refine lc_selL (fun R z => z) d0 (by rw [List.length_map]; omega) (fun i y H1 hy e1 Q' z => ?_) (fun i y H1 hy e1 Q' z => ?_) fun l H' n e d => ?_
    · obtain ⟨p, hp, rfl⟩ := getMap hy
      have hW1 := hW.same (e0.trans e1)
      have g2 : H1 obj = some _ := hW1.ob.1
      walk_at "w"
      refine ⟨r, k0, obj, A0, F, m.pgs, so, DW, _, rfl, hW1, p, rfl, p1 p (List.mem_of_getElem? hp), ?_⟩
      walk_at "w"
      exact z _ (Same.refl _)
    · walk_at "w"
      exact z _ (Same.refl _)
    · have n' : H l = none := by
        cases h : H l with
        | none => rfl
        | some o => rw [e0 _ _ h] at n; cases n
      exact fin l H' ps n' (e0.trans e) d ⟨l64, p1, fun p hp h => p2 p hp (h.resolve_left hd)⟩
theorem ok_Move_send (T : TX K mg) : Fn P w K mg base false 11 (He.ma K (He.ga K "Move") "send") (fun vs H Q E => ∃ b b2, sp_Mv_send K b b2 vs H Q E) := by
  refine Fn.ex fun b => Fn.ex fun b2 => ?_
  refine (f_Move_send T).calm 10 (fun vs H Q E h => lenMv (n := 1) (fun s k0 k1 mv x os m so pgs1 xs Q E z => by obtain ⟨_, _, z, _⟩ := z; rw [z] <;> rfl) h) (fun cdv A outer s H vs Q E hr h => ?_)
  obtain ⟨r, k0, k1, mv, x, os, m, so, pgs1, xs, rfl, ⟨hk, hk0, hk1⟩, ⟨⟨dx, ho⟩, hG, hA⟩, p, ws, rfl, hp, hl, q⟩ := h
  obtain ⟨A0, mo, obj, F, D, DW, MD, hh, hW, hM⟩ := hG
  obtain ⟨A1, tp, F1, so1, D1, DW1, hh1, htp, hW1⟩ := hA
  have h1 : H mv = some (.ins (He.ga K "Move") dx (l_Move.zip (mvV x))) := ho.1
  unfold mvV at h1
  have g1 : H x.h0 = some _ := hh.ob.1
  have okp := hW.okPg hp
  have hpl := (List.getElem?_eq_some_iff.mp hp).1
  have e1 := List.getElem?_eq_getElem (show p < pgs1.length by omega)
  generalize pgs1[p]'(by omega) = old at e1
  have okp1 := hW1.okPg e1
  refine ⟨_, pss_cons (ps_set (i := 2) (f_Move_send T).nd rfl (Or.inl rfl) (x_m (ok_House_kept T) (can hr) (kls_House T) (m_House_kept T) (fun _ => pas0) (y_fld (i := 1) (kls_Move T) (pv 0)) (pa_cons (y_fld (i := 2) (kls_Move T) (pv 0)) pa_nil))) (pss_one (ps_for (passes_of rfl) rfl (pi_range1 rfl (z_range T) (pa_cons (x_glob (k_CELLS T)) pa_nil)) (pg_name (i := 3) (f_Move_send T).nd rfl (Or.inl rfl)) (pss_one (ps_expr (x_m (ok_W_write T b2) (can hr) (kls_W T b2) (m_W_write T b2) (fun _ => pas0) (y_fld (i := 0) (kls_Move T) (pv 0)) (pa_cons (pv 1) (pa_cons (pv 3) (pa_cons (x_m (ok_W_read T b) (can hr) (kls_W T b) (m_W_read T b) (fun _ => pas0) (pv 2) (pa_cons (pv 1) (pa_cons (pv 3) pa_nil))) pa_nil)))))))), ?_⟩
  walk_at "w"
  refine ⟨r, k0, x.h0, A0, _, D, _, rfl, hh, _, _, rfl, rfl, rfl, ?_⟩
  walk_at "w"
  refine fr_range (m := 8) (fun i σ H2 => (∃ c, σ = [some (V.ref mv), some (V.int p), some (V.ref obj), c]) ∧ ∃ t F' F1' so1', t.h = H2 ∧ Step (fun c => c = 4 * k0 + 4 ∨ RWy k1 c) ⟨H, r⟩ t ∧ WayAt K t k0 b obj A0 F' m.pgs so DW ∧ WayAt K t k1 b2 x.there A1 F1' (pgs1.set p (ws.take i ++ old.drop i)) so1' DW1) (fun R z => ?_) (by decide)
    ⟨⟨_, rfl⟩, ⟨H, r⟩, F, F1, so1, rfl, Step.refl, hW, by rw [List.take_zero, List.drop_zero, List.nil_append, set_eq_self_of e1]; exact hW1⟩ (fun i σ H2 hi ⟨⟨c, hσ⟩, t, F', F1', so1', e2, st, hWt, hWt1⟩ => ?_) fun σ H2 ⟨⟨c, hσ⟩, t, F', F1', so1', e2, st, hWt, hWt1⟩ => ?_
  · walk_at "w"
    exact z
  · subst hσ e2
    have n3 : ¬ (3 = 4 * k0 + 4 ∨ RWy k1 3) := fun z => by rcases z with z | z | z <;> omega
    have h1 : t.h mv = some (.ins (He.ga K "Move") dx (l_Move.zip (mvV x))) := (ho.step st n3).1
    unfold mvV at h1
    have g2 : t.h obj = some _ := hWt.ob.1
    have g3 : t.h x.there = some _ := hWt1.ob.1
    have ew := List.getElem?_eq_getElem (show i < ws.length by rw [okp.1]; exact hi)
    walk_at "w"
    refine ⟨t.r, k0, obj, A0, F', m.pgs, so, DW, _, rfl, hWt, p, i, ws, _, rfl, hp, ew, ?_⟩
    rintro v t2 s2 ⟨rfl, F2, _, hW2⟩
    have hW21 := hWt1.step s2 (fun z => by have := z.2; omega) (fun z => by have := z.2; omega)
    refine ⟨t2.r, k1, x.there, A1, F1', _, so1', DW1, _, rfl, hW21, p, i, ws.take i ++ old.drop i, _, rfl, by rw [List.getElem?_set, if_pos rfl, if_pos (by omega)], hi, okp.2 _ (List.mem_of_getElem? ew), ?_⟩
    rintro v t3 s3 ⟨rfl, F3, hW3⟩
    rw [List.set_set, fill_step ew (by rw [okp.1, okp1.1])] at hW3
    walk_at "w"
    exact ⟨⟨_, rfl⟩, t3, F2, F3, _, rfl, st.trans ((s2.mono fun _ z => .inl z.2).trans (s3.mono fun _ z => .inr z)), hW2.step s3 (fun z => by rcases z with z | z <;> omega) (fun z => by rcases z with z | z <;> omega), hW3⟩
  · subst hσ e2
    rw [List.take_of_length_le (by rw [okp.1]; decide), List.drop_eq_nil_of_le (by rw [okp1.1]; decide), List.append_nil] at hWt1
    walk_at "w"
    refine q _ t st ⟨rfl, ⟨dx, ho.step st (fun z => by rcases z with z | z | z <;> omega)⟩, ⟨A0, mo, obj, F', D, DW, MD, ?_, hWt, ?_⟩, A1, tp, F1', so1', D1, DW1, ?_, ?_, hWt1⟩
    · exact hh.step st (fun z => by rcases z with z | z | z <;> omega)
    · exact hM.step st (fun z => by rcases z with z | z | z <;> omega) (fun z => by rcases z with z | z | z <;> omega)
    · exact hh1.step st (fun z => by rcases z with z | z | z <;> omega)
    · exact htp.step st (fun z => by rcases z with z | z | z <;> omega)
end
end SP

/-! B22 -/
set_option maxHeartbeats 4100000
namespace SP
open PySem PySem.Spec PyProof.Rows L2 L2H
local macro_rules | `(tactic| walk_at "u") => `(tactic| (dsimp only [tRet, tSeq, tAsg, tDrop, tIfS, tNext, tRetN, tBreak, tCont, tOp, tUn, tCons, tNil, tCallX, tM, tF, sSet, sNew, sAug, tMakeX, tTest, tB, tAnd, tOr, tNot, tAndV, tOrV, tNotV, tIf, tChain, tCB, tBM, tBM0, tTup, tLst, gName, tC, tIsN, tNotN, tDIn, tDNotIn, tDGet, sDPut, tDPop1, gCons, gNil, tSl, tPart, tNoPart, tYes, tVeI]))
local macro_rules | `(tactic| walk_at "o") => `(tactic| (first | assumption | (with_reducible rfl) | omega | (intro hh; cases hh; done) | (simp only [List.length_map, List.length_replicate, List.length_range, List.length_append, List.length_cons, List.length_nil]; omega)))
local macro_rules | `(tactic| walk_at "q") => `(tactic| (repeat (first
  | ((with_reducible refine' q_var ?hq ?_); (case hq => rfl))
  | ((with_reducible refine' q_pF ?ha ?hq ?_); (case ha => assumption); (case hq => rfl))
  | ((with_reducible refine' q_pM ?ha ?_); (case ha => assumption))
  | (with_reducible refine q_I0 ?_)
  | (with_reducible refine q_isInt ?_)
  | (with_reducible refine q_isBool ?_)
  | (with_reducible refine iteT ?_)
  | (with_reducible refine iteF ?_)
  | (with_reducible refine iteSN ?_)
  | (with_reducible refine iteSS ?_)
  | (with_reducible refine iteNSN ?_)
  | (with_reducible refine iteNSS ?_)
  | (with_reducible refine iteNT ?_)
  | (with_reducible refine iteNF ?_)
  | (with_reducible refine q_eqI ?_)
  | (with_reducible refine q_neI ?_)
  | ((with_reducible refine' q_eq ?hq ?_); (case hq => rfl))
  | ((with_reducible refine' q_ne ?hq ?_); (case hq => rfl))
  | (with_reducible refine q_lenL (by assumption) ?_)
  | (with_reducible refine q_lenT (by assumption) ?_)
  | (with_reducible refine q_is_whole ?_)
  | (with_reducible refine q_is_word ?_)
  | (with_reducible refine q_is_below ?_)
  | ((with_reducible refine' And.intro (q_tyL ?ha) ?_); (case ha => assumption))
  | ((with_reducible refine' ⟨_, _, rfl, g_dO ?ha, ?_⟩); (case ha => assumption))
  | ((with_reducible refine' ⟨_, _, rfl, p_dO ?ha, ?_⟩); (case ha => assumption))
  | ((with_reducible refine' ⟨_, Sum.inr "a", _, ?ha, kV_a, valV_dO _, ?_⟩); (case ha => assumption); (rw [dropK_dO]))
  | ((with_reducible refine' ⟨_, rfl, isD_dO ?ha, ?_⟩); (case ha => assumption))
  | (with_reducible refine q_ip ?_)
  | (with_reducible refine q_rAdd ?_)
  | (with_reducible refine q_rSub ?_)
  | (with_reducible refine q_has ?_)
  | (with_reducible refine q_put ?_)
  | (with_reducible refine q_taken ?_)
  | (with_reducible refine q_page_of ?_)
  | (with_reducible refine q_pow48 ?_)
  | (with_reducible refine q_pow40 ?_)
  | ((with_reducible refine' q_I ?hq ?_); (case hq => first | assumption | decide | omega | exact q_div1 (by omega) _ | exact mul_ok (by omega) | exact pow_ok (by decide)))
  | ((with_reducible refine' ite_y ?hq ?_); (case hq => walk_at "o"))
  | ((with_reducible refine' ite_n ?hq ?_); (case hq => walk_at "o"))
  | ((with_reducible refine' ite_nn ?hq ?_); (case hq => walk_at "o"))
  | ((with_reducible refine' ite_ny ?hq ?_); (case hq => walk_at "o"))
  | (with_reducible
                    refine ⟨_, rfl, ?_⟩)
  | (with_reducible refine ⟨_, _, rfl, ?_⟩)
  | (with_reducible refine ⟨rfl, ?_⟩))))
local macro_rules | `(tactic| walk_at "w") => `(tactic| ((try (walk_at "u")); (walk_at "q"); (try (walk_at "u")); (walk_at "q")))
def Sync (dn : Nat) (so : Nat → Bool) (pgs pgs1 : List (List Int)) : Prop := pgs1.length = pgs.length ∧ (1 ≤ dn → ∀ p : Nat, so p = false → pgs1[p]? = pgs[p]?)
/-- sent so far -/
def Sent (pgs pgs1 q : List (List Int)) (ps : List Nat) : Prop := q.length = pgs.length ∧ ∀ p : Nat, q[p]? = pgs[p]? ∨ (p ∉ ps ∧ q[p]? = pgs1[p]?)
theorem Sent.nil {pgs pgs1 : List (List Int)} (h : pgs1.length = pgs.length) : Sent pgs pgs1 pgs1 [] := ⟨h, fun p => .inr ⟨by simp, rfl⟩⟩
theorem Sent.snoc {pgs pgs1 q : List (List Int)} {ps : List Nat} {p : Nat} {ws : List Int} (h : Sent pgs pgs1 q ps) (hp : pgs[p]? = some ws) : Sent pgs pgs1 (q.set p ws) (ps ++ [p]) := by
  refine ⟨by rw [List.length_set]; exact h.1, fun x => ?_⟩
  by_cases e : p = x
  · subst e
    have := (List.getElem?_eq_some_iff.mp hp).1
    exact .inl (by rw [List.getElem?_set, if_pos rfl, if_pos (by rw [h.1]; exact this), hp])
  · rw [List.getElem?_set_ne e]
    rcases h.2 x with z | ⟨z1, z2⟩
    · exact .inl z
    · exact .inr ⟨fun m => (List.mem_append.mp m).elim z1 fun y => e (List.mem_singleton.mp y).symm, z2⟩
theorem Sent.all {dn : Nat} {so : Nat → Bool} {pgs pgs1 q : List (List Int)} {ps : List Nat} (h : Sent pgs pgs1 q ps) (hs : Sync dn so pgs pgs1) (hp : Pend so dn pgs.length ps) : q = pgs := by
  refine List.ext_getElem? fun p => ?_
  rcases h.2 p with z | ⟨z1, z2⟩
  · exact z
  · by_cases hl : p < pgs.length
    · have n1 : ¬ (dn = 0 ∨ so p = true) := fun y => z1 (hp.2.2 p hl y)
      rw [z2]
      exact hs.2 (by omega) p (by cases h : so p with
        | false => rfl
        | true => exact absurd (.inr h) n1)
    · rw [List.getElem?_eq_none (by rw [h.1]; omega), List.getElem?_eq_none (by omega)]
def overV (x : MV) : Prop := x.over = true ∨ x.done = x.rounds
def sp_Mv_round (K : PySem.W.Frag) (b b2 : Bool) : Sp := spMv K b b2 fun s k0 k1 mv x os m so pgs1 xs Q E => xs = [] ∧ x.over = false ∧ x.done ≠ x.rounds ∧ Sync x.done so m.pgs pgs1 ∧ Does (RMv k0 k1) s Q fun v t => MovAt K t b b2 k0 k1 mv { x with done := x.done + 1 } os m (fun _ => false) m.pgs
def sp_Mv_over (K : PySem.W.Frag) : Sp := fun vs H _ E => ∃ r mv x, vs = [.ref mv] ∧ MoveAt K ⟨H, r⟩ mv x ∧ overV x ∧ E (.ref (He.ga K "Over")) none H
def sp_Mv_over1 (K : PySem.W.Frag) : Sp := fun vs H _ E => ∃ r mv x, vs = [.ref mv] ∧ MoveAt K ⟨H, r⟩ mv x ∧ x.over = true ∧ E (.ref (He.ga K "Over")) none H
def sp_Mv_ready (K : PySem.W.Frag) : Sp := fun vs H Q _ => ∃ r mv x, vs = [.ref mv] ∧ MoveAt K ⟨H, r⟩ mv x ∧ x.done = x.rounds ∧ Q (.bl true) H
def sp_Mv_drop (K : PySem.W.Frag) (b b2 : Bool) : Sp := spMv K b b2 fun s k0 k1 mv x os m so pgs1 xs Q _ => xs = [] ∧ x.over = false ∧ Does (RMv k0 k1) s Q fun v t => v = .non ∧ MoveAt K t mv { x with over := true } ∧ GuestAt K t k0 b x.h0 none os m so ∧ EmptyAt K t k1 x.h1
def sp_Mv_finish (K : PySem.W.Frag) (b b2 : Bool) : Sp := spMv K b b2 fun s k0 k1 mv x os m so pgs1 xs Q _ => xs = [] ∧ x.over = false ∧ Sync x.done so m.pgs pgs1 ∧ PrgOk os m.pgs.length ∧ Does (RMv k0 k1) s Q fun v t => MoveAt K t mv { x with over := true } ∧ EmptyAt K t k0 x.h0 ∧ ∃ so', GuestAt K t k1 b2 x.h1 none os m so'
section
variable {P : Program} {w : World} {K : PySem.W.Frag} {mg : Str → Option Value} {base : Heap} {b : Bool}
theorem ok_Move_ready (T : TX K mg) : Fn P w K mg base false 8 (He.ma K (He.ga K "Move") "ready") (sp_Mv_ready K) := by
  let b := true
  refine (f_Move_ready T).calm 7 (fun vs H Q E h => by obtain ⟨_, _, _, z, _⟩ := h; rw [z] <;> rfl) (fun cdv A outer s H vs Q E hr h => ?_)
  obtain ⟨r, mv, x, rfl, ⟨dx, ho⟩, hd, q⟩ := h
  have h1 : H mv = some (.ins (He.ga K "Move") dx (l_Move.zip (mvV x))) := ho.1
  unfold mvV at h1
  refine ⟨_, pss_cons (ps_if (pt_cmpR op_eq (y_fld (i := 6) (kls_Move T) (pv 0)) (y_fld (i := 5) (kls_Move T) (pv 0)) (nomark _)) (pss_one (ps_ret pe_bl)) pss_nil) (pss_one (ps_ret (pe_and (pe_cmpR op_gt (y_fld (i := 6) (kls_Move T) (pv 0)) pe_int (nomark _)) (pe_one (pe_cmpR op_le (x_len (z_len T) (x_m0 (ok_W_soiled T true) (can hr) (kls_W T true) (m_W_soiled T true) (fun _ => pas0) (x_m (ok_House_kept T) (can hr) (kls_House T) (m_House_kept T) (fun _ => pas0) (y_fld (i := 1) (kls_Move T) (pv 0)) (pa_cons (y_fld (i := 2) (kls_Move T) (pv 0)) pa_nil)))) (y_fld (i := 4) (kls_Move T) (pv 0)) (nomark _)))))), ?_⟩
  walk_at "w"
  exact q
theorem ok_Move_over (T : TX K mg) : Fn P w K mg base false 12 (He.ma K (He.ga K "Move") "round") (sp_Mv_over K) := by
  refine (f_Move_round T).calm 11 (fun vs H Q E h => by obtain ⟨_, _, _, z, _⟩ := h; rw [z] <;> rfl) (fun cdv A outer s H vs Q E hr h => ?_)
  obtain ⟨r, mv, x, rfl, ⟨dx, ho⟩, hd, q⟩ := h
  have h1 : H mv = some (.ins (He.ga K "Move") dx (l_Move.zip (mvV x))) := ho.1
  unfold mvV at h1
  refine ⟨_, pss_cons (ps_expr (x_m0 (ok_Move_look_open T) (can hr) (kls_Move T) (m_Move_look_open T) (pasE (L2N.takes_of rfl rfl rfl rfl)) (pv 0))) (pss_cons (ps_if (pt_cmpR op_eq (y_fld (i := 6) (kls_Move T) (pv 0)) (y_fld (i := 5) (kls_Move T) (pv 0)) (nomark _)) (pss_one (L2N.ps_raise rfl (L2N.takes_of rfl rfl rfl rfl) (L2N.pmk_own PySem.F.excBase_ValueError (ex_Over T).1 (g_Over T) (ex_Over T).2.1 (raises_own (ex_Over T).2.2.1 (ex_Over T).2.2.2) rfl))) pss_nil) (pss_cons (ps_set (i := 1) (f_Move_round T).nd rfl (Or.inl rfl) (x_m0 (ok_Move_pending T) (can hr) (kls_Move T) (m_Move_pending T) (fun _ => pas0) (pv 0))) (pss_cons (ps_expr (x_m0 (ok_W_clean T true) (can hr) (kls_W T true) (m_W_clean T true) (fun _ => pas0) (x_m (ok_House_kept T) (can hr) (kls_House T) (m_House_kept T) (fun _ => pas0) (y_fld (i := 1) (kls_Move T) (pv 0)) (pa_cons (y_fld (i := 2) (kls_Move T) (pv 0)) pa_nil)))) (pss_cons (ps_for (passes_of rfl) rfl (pi_list (pv 1)) (pg_name (i := 2) (f_Move_round T).nd rfl (Or.inl rfl)) (pss_one (ps_expr (x_m (ok_Move_send T) (can hr) (kls_Move T) (m_Move_send T) (fun _ => pas0) (pv 0) (pa_cons (pv 2) pa_nil))))) (pss_cons (x_aug (kls_Move T) 6 (pv 0) pe_int in_add) (pss_one (ps_ret (pv 1)))))))), ?_⟩
  walk_at "w"
  cases hx : x.over with
  | true => exact ⟨r, mv, x, rfl, ⟨dx, ho⟩, .inr ⟨hx, q⟩⟩
  | false =>
    refine ⟨r, mv, x, rfl, ⟨dx, ho⟩, .inl ⟨hx, ?_⟩⟩
    have hd : x.done = x.rounds := hd.resolve_left (by rw [hx]; simp)
    walk_at "w"
    exact q
theorem ok_Move_overF (T : TX K mg) : Fn P w K mg base false 20 (He.ma K (He.ga K "Move") "finish") (sp_Mv_over1 K) := by
  refine (f_Move_finish T).calm 19 (fun vs H Q E h => by obtain ⟨_, _, _, z, _⟩ := h; rw [z] <;> rfl) (fun cdv A outer s H vs Q E hr h => ?_)
  obtain ⟨r, mv, x, rfl, ⟨dx, ho⟩, hx, q⟩ := h
  have h1 : H mv = some (.ins (He.ga K "Move") dx (l_Move.zip (mvV x))) := ho.1
  let b := true
  let b2 := true
  refine ⟨_, pss_cons (ps_expr (x_m0 (ok_Move_look_open T) (can hr) (kls_Move T) (m_Move_look_open T) (pasE (L2N.takes_of rfl rfl rfl rfl)) (pv 0))) (pss_cons (ps_set (i := 1) (f_Move_finish T).nd rfl (Or.inl rfl) (x_m (ok_House_kept T) (can hr) (kls_House T) (m_House_kept T) (fun _ => pas0) (y_fld (i := 1) (kls_Move T) (pv 0)) (pa_cons (y_fld (i := 2) (kls_Move T) (pv 0)) pa_nil))) (pss_cons (ps_set (i := 2) (f_Move_finish T).nd rfl (Or.inl rfl) (x_m0 (ok_Move_pending T) (can hr) (kls_Move T) (m_Move_pending T) (fun _ => pas0) (pv 0))) (pss_cons (ps_for (passes_of rfl) rfl (pi_list (pv 2)) (pg_name (i := 3) (f_Move_finish T).nd rfl (Or.inl rfl)) (pss_one (ps_expr (x_m (ok_Move_send T) (can hr) (kls_Move T) (m_Move_send T) (fun _ => pas0) (pv 0) (pa_cons (pv 3) pa_nil))))) (pss_cons (ps_for (passes_of rfl) rfl (pi_range1 rfl (z_range T) (pa_cons (x_m0 (ok_W_size T b) (can hr) (kls_W T b) (m_W_size T b) (fun _ => pas0) (pv 1)) pa_nil)) (pg_name (i := 3) (f_Move_finish T).nd rfl (Or.inl rfl)) (pss_one (ps_if (pt_not (pt_val (x_m (ok_W_has T b) (can hr) (kls_W T b) (m_W_has T b) (fun _ => pas0) (pv 1) (pa_cons (pv 3) pa_nil)))) (pss_one ps_never) pss_nil))) (pss_cons (ps_expr (x_m0 (ok_W_clean T b2) (can hr) (kls_W T b2) (m_W_clean T b2) (fun _ => pas0) (y_fld (i := 0) (kls_Move T) (pv 0)))) (pss_cons (ps_expr (x_m (ok_W_resume T b2) (can hr) (kls_W T b2) (m_W_resume T b2) (fun _ => pas0) (y_fld (i := 0) (kls_Move T) (pv 0)) (pa_cons (x_m0 (ok_W_root T b) (can hr) (kls_W T b) (m_W_root T b) (fun _ => pas0) (pv 1)) (pa_cons (x_m0 (ok_W_shelf T b) (can hr) (kls_W T b) (m_W_shelf T b) (fun _ => pas0) (pv 1)) (pa_cons (x_m0 (ok_W_said T b) (can hr) (kls_W T b) (m_W_said T b) (fun _ => pas0) (pv 1)) pa_nil))))) (pss_cons (ps_set (i := 4) (f_Move_finish T).nd rfl (Or.inl rfl) (x_m (ok_House_machine T) (can hr) (kls_House T) (m_House_machine T) (fun _ => pas0) (y_fld (i := 1) (kls_Move T) (pv 0)) (pa_cons (y_fld (i := 2) (kls_Move T) (pv 0)) pa_nil))) (pss_cons (ps_expr (x_m (ok_House_admit T) (can hr) (kls_House T) (m_House_admit T) (fun _ => pas0) (y_fld (i := 3) (kls_Move T) (pv 0)) (pa_cons (y_fld (i := 2) (kls_Move T) (pv 0)) (pa_cons (x_make (mk_Machine T) (ok_Machine_init6 T) (hr.mono (by decide)) (g_Machine T) (fun _ => pas0) (pa_cons (y_fld (i := 0) (kls_Move T) (pv 0)) (pa_cons (x_m0 (ok_Machine_program T) (can hr) (kls_Machine T) (m_Machine_program T) (fun _ => pas0) (pv 4)) (pa_cons (x_m0 (ok_Machine_entry T) (can hr) (kls_Machine T) (m_Machine_entry T) (fun _ => pas0) (pv 4)) (pa_cons (x_m0 (ok_Machine_core T) (can hr) (kls_Machine T) (m_Machine_core T) (fun _ => pas0) (pv 4)) (pa_cons (x_m0 (ok_Machine_events T) (can hr) (kls_Machine T) (m_Machine_events T) (fun _ => pas0) (pv 4)) pa_nil)))))) pa_nil)))) (pss_cons (ps_expr (x_m (ok_House_unbind T) (can hr) (kls_House T) (m_House_unbind T) (fun _ => pas0) (y_fld (i := 1) (kls_Move T) (pv 0)) (pa_cons (y_fld (i := 2) (kls_Move T) (pv 0)) pa_nil))) (pss_cons (ps_expr (x_m (ok_House_end T) (can hr) (kls_House T) (m_House_end T) (pasE (L2N.takes_of rfl rfl rfl rfl)) (y_fld (i := 1) (kls_Move T) (pv 0)) (pa_cons (y_fld (i := 2) (kls_Move T) (pv 0)) pa_nil))) (pss_cons (x_set (kls_Move T) 7 (pv 0) pe_bl) (pss_one (ps_ret (pv 2)))))))))))))), ?_⟩
  walk_at "w"
  exact ⟨r, mv, x, rfl, ⟨dx, ho⟩, .inr ⟨hx, q⟩⟩
theorem ok_Move_overD (T : TX K mg) : Fn P w K mg base false 10 (He.ma K (He.ga K "Move") "drop") (sp_Mv_over1 K) := by
  refine (f_Move_drop T).calm 9 (fun vs H Q E h => by obtain ⟨_, _, _, z, _⟩ := h; rw [z] <;> rfl) (fun cdv A outer s H vs Q E hr h => ?_)
  obtain ⟨r, mv, x, rfl, ⟨dx, ho⟩, hx, q⟩ := h
  have h1 : H mv = some (.ins (He.ga K "Move") dx (l_Move.zip (mvV x))) := ho.1
  refine ⟨_, pss_cons (ps_expr (x_m0 (ok_Move_look_open T) (can hr) (kls_Move T) (m_Move_look_open T) (pasE (L2N.takes_of rfl rfl rfl rfl)) (pv 0))) (pss_cons (ps_expr (x_m (ok_House_forgo T) (can hr) (kls_House T) (m_House_forgo T) (fun _ => pas0) (y_fld (i := 3) (kls_Move T) (pv 0)) (pa_cons (y_fld (i := 2) (kls_Move T) (pv 0)) pa_nil))) (pss_cons (ps_expr (x_m (ok_House_unbind T) (can hr) (kls_House T) (m_House_unbind T) (fun _ => pas0) (y_fld (i := 1) (kls_Move T) (pv 0)) (pa_cons (y_fld (i := 2) (kls_Move T) (pv 0)) pa_nil))) (pss_one (x_set (kls_Move T) 7 (pv 0) pe_bl)))), ?_⟩
  walk_at "w"
  exact ⟨r, mv, x, rfl, ⟨dx, ho⟩, .inr ⟨hx, q⟩⟩
theorem ok_Move_drop (T : TX K mg) : Fn P w K mg base false 10 (He.ma K (He.ga K "Move") "drop") (fun vs H Q E => ∃ b b2, sp_Mv_drop K b b2 vs H Q E) := by
  refine Fn.ex fun b => Fn.ex fun b2 => ?_
  refine (f_Move_drop T).calm 9 (fun vs H Q E h => lenMv (n := 0) (fun s k0 k1 mv x os m so pgs1 xs Q E z => by rw [z.1] <;> rfl) h) (fun cdv A outer s H vs Q E hr h => ?_)
  obtain ⟨r, k0, k1, mv, x, os, m, so, pgs1, xs, rfl, ⟨hk, hk0, hk1⟩, ⟨⟨dx, ho⟩, hG, hA⟩, rfl, hx, q⟩ := h
  obtain ⟨A1, tp, F1, so1, D1, DW1, hh1, htp, hW1⟩ := hA
  have h1 : H mv = some (.ins (He.ga K "Move") dx (l_Move.zip (mvV x))) := ho.1
  have h1' := h1
  unfold mvV at h1
  have g1 : H x.h1 = some _ := hh1.ob.1
  refine ⟨_, pss_cons (ps_expr (x_m0 (ok_Move_look_open T) (can hr) (kls_Move T) (m_Move_look_open T) (pasE (L2N.takes_of rfl rfl rfl rfl)) (pv 0))) (pss_cons (ps_expr (x_m (ok_House_forgo T) (can hr) (kls_House T) (m_House_forgo T) (fun _ => pas0) (y_fld (i := 3) (kls_Move T) (pv 0)) (pa_cons (y_fld (i := 2) (kls_Move T) (pv 0)) pa_nil))) (pss_cons (ps_expr (x_m (ok_House_unbind T) (can hr) (kls_House T) (m_House_unbind T) (fun _ => pas0) (y_fld (i := 1) (kls_Move T) (pv 0)) (pa_cons (y_fld (i := 2) (kls_Move T) (pv 0)) pa_nil))) (pss_one (x_set (kls_Move T) 7 (pv 0) pe_bl)))), ?_⟩
  walk_at "w"
  refine ⟨r, mv, x, rfl, ⟨dx, ho⟩, .inl ⟨hx, ?_⟩⟩
  walk_at "w"
  refine ⟨b2, r, k1, x.h1, A1, _, D1, _, rfl, hh1, x.there, tp, F1, pgs1, so1, DW1, rfl, rfl, htp, hW1, ?_⟩
  rintro v t st ⟨rfl, hh2, hF2⟩
  have hG2 := hG.step st (offH (fun z => hk z.symm) hk0)
  obtain ⟨A0, mo, obj, F, D, DW, MD, hh, hW, hM⟩ := hG2
  have ho2 := ho.step st RH.n3
  have h1 : t.h mv = some (.ins (He.ga K "Move") dx (l_Move.zip (mvV x))) := ho2.1
  unfold mvV at h1
  have g1 : t.h x.h0 = some _ := hh.ob.1
  walk_at "w"
  refine ⟨t.r, k0, x.h0, A0, _, D, _, rfl, hh, _, rfl, rfl, ?_⟩
  rintro v t2 s2 hh3
  have ho3 := ho2.step s2 (by simp)
  have h1 : t2.h mv = some (.ins (He.ga K "Move") dx (l_Move.zip (mvV x))) := ho3.1
  unfold mvV at h1
  walk_at "w"
  refine q_pSet h1 (by simp) ?_
  have s3 := Step.put1 (o' := .ins (He.ga K "Move") dx (l_Move.zip (mvV { x with over := true }))) ho3
  have n3 : ∀ j, OffH (· = 3) j := fun j y hy z => by omega
  refine q _ _ ((st.mono fun _ z => .inr (.inl z)).trans ((s2.mono fun y hy => .inl (.inl ⟨by omega, by omega⟩)).trans (s3.mono fun _ z => .inr (.inr z)))) ⟨rfl, ⟨dx, ho3.self⟩, GuestAt.step ⟨A0, mo, obj, F, D, DW, MD, hh3, hW.step s2 (by omega) (by omega), hM.step s2 (by omega) (by omega)⟩ s3 (n3 _), EmptyAt.step ⟨A1, D1, hh2.step s2 (by omega), hF2.step s2 (by omega)⟩ s3 (n3 _)⟩
theorem ok_Move_round (T : TX K mg) : Fn P w K mg base false 13 (He.ma K (He.ga K "Move") "round") (fun vs H Q E => ∃ b b2, sp_Mv_round K b b2 vs H Q E) := by
  refine Fn.ex fun b => Fn.ex fun b2 => ?_
  refine (f_Move_round T).calm 12 (fun vs H Q E h => lenMv (n := 0) (fun s k0 k1 mv x os m so pgs1 xs Q E z => by rw [z.1] <;> rfl) h) (fun cdv A outer s H vs Q E hr h => ?_)
  obtain ⟨r, k0, k1, mv, x, os, m, so, pgs1, xs, rfl, ⟨hk, hk0, hk1⟩, hMv, rfl, hx, hd, hs, q⟩ := h
  obtain ⟨⟨dx, ho⟩, hG, hA⟩ := id hMv
  have h1 : H mv = some (.ins (He.ga K "Move") dx (l_Move.zip (mvV x))) := ho.1
  unfold mvV at h1
  refine ⟨_, pss_cons (ps_expr (x_m0 (ok_Move_look_open T) (can hr) (kls_Move T) (m_Move_look_open T) (pasE (L2N.takes_of rfl rfl rfl rfl)) (pv 0))) (pss_cons (ps_if (pt_cmpR op_eq (y_fld (i := 6) (kls_Move T) (pv 0)) (y_fld (i := 5) (kls_Move T) (pv 0)) (nomark _)) (pss_one (L2N.ps_raise rfl (L2N.takes_of rfl rfl rfl rfl) (L2N.pmk_own PySem.F.excBase_ValueError (ex_Over T).1 (g_Over T) (ex_Over T).2.1 (raises_own (ex_Over T).2.2.1 (ex_Over T).2.2.2) rfl))) pss_nil) (pss_cons (ps_set (i := 1) (f_Move_round T).nd rfl (Or.inl rfl) (x_m0 (ok_Move_pending T) (can hr) (kls_Move T) (m_Move_pending T) (fun _ => pas0) (pv 0))) (pss_cons (ps_expr (x_m0 (ok_W_clean T b) (can hr) (kls_W T b) (m_W_clean T b) (fun _ => pas0) (x_m (ok_House_kept T) (can hr) (kls_House T) (m_House_kept T) (fun _ => pas0) (y_fld (i := 1) (kls_Move T) (pv 0)) (pa_cons (y_fld (i := 2) (kls_Move T) (pv 0)) pa_nil)))) (pss_cons (ps_for (passes_of rfl) rfl (pi_list (pv 1)) (pg_name (i := 2) (f_Move_round T).nd rfl (Or.inl rfl)) (pss_one (ps_expr (x_m (ok_Move_send T) (can hr) (kls_Move T) (m_Move_send T) (fun _ => pas0) (pv 0) (pa_cons (pv 2) pa_nil))))) (pss_cons (x_aug (kls_Move T) 6 (pv 0) pe_int in_add) (pss_one (ps_ret (pv 1)))))))), ?_⟩
  walk_at "w"
  refine ⟨r, mv, x, rfl, ⟨dx, ho⟩, .inl ⟨hx, ?_⟩⟩
  walk_at "w"
  refine ⟨b, b2, r, k0, k1, mv, x, os, m, so, pgs1, _, rfl, ⟨hk, hk0, hk1⟩, hMv, rfl, ?_⟩
  rintro v t1 s1 ⟨l, ps, rfl, hl, hp⟩
  have hMv1 := hMv.step s1 id (fun _ _ => id) (fun _ _ => id)
  obtain ⟨⟨dx1, ho1⟩, hG1, hA1⟩ := id hMv1
  obtain ⟨A0, mo, obj, F, D, DW, MD, hh, hW, hM⟩ := hG1
  have h1 : t1.h mv = some (.ins (He.ga K "Move") dx1 (l_Move.zip (mvV x))) := ho1.1
  unfold mvV at h1
  have g1 : t1.h x.h0 = some _ := hh.ob.1
  have g2 : t1.h obj = some _ := hW.ob.1
  walk_at "w"
  refine ⟨t1.r, k0, x.h0, A0, _, D, _, rfl, hh, _, _, rfl, rfl, rfl, ?_⟩
  walk_at "w"
  refine ⟨t1.r, k0, obj, A0, F, m.pgs, so, DW, _, rfl, hW, rfl, ?_⟩
  rintro v t2 s2 ⟨rfl, F2, DW2, hW2⟩
  have nW : ∀ {c : Nat}, RWy k0 c → c = 4 * k0 + 4 ∨ c = 4 * k0 + 5 := fun z => z
  have hMv2 : MovAt K t2 b b2 k0 k1 mv x os m (fun _ => false) pgs1 := ⟨⟨dx1, ho1.step s2 (fun z => by rcases z with z | z <;> omega)⟩,
    ⟨A0, mo, obj, F2, D, DW2, MD, hh.step s2 (fun z => by rcases z with z | z <;> omega), hW2, hM.step s2 (fun z => by rcases z with z | z <;> omega) (fun z => by rcases z with z | z <;> omega)⟩, hA1.step s2 (fun y hy z => by rcases z with z | z <;> rcases hy with hy | hy <;> omega)⟩
  have hl2 := hl.step s2 (fun z => by rcases z with z | z <;> omega)
  walk_at "w"
  refine fr_list (fun i σ H2 => (∃ c, σ = [some (V.ref mv), some (V.ref l), c]) ∧ ∃ t qg, t.h = H2 ∧ Step (fun c => c = 4 * k0 + 4 ∨ RWy k1 c) t2 t ∧ MovAt K t b b2 k0 k1 mv x os m (fun _ => false) qg ∧ Sent m.pgs pgs1 qg (ps.take i)) (fun R q => q_var rfl q) (SqL.of hl2.1)
    ⟨⟨_, rfl⟩, t2, pgs1, rfl, Step.refl, hMv2, .nil hs.1⟩ (fun i σ H2 _ ⟨_, t, qg, e2, st, _⟩ => by subst e2; exact SqL.of (hl2.step st (fun z => by rcases z with z | z | z <;> omega)).1) (fun i y σ H2 hy ⟨⟨c, hσ⟩, t, qg, e2, st, hMt, hS⟩ => ?_) fun σ H2 ⟨⟨c, hσ⟩, t, qg, e2, st, hMt, hS⟩ => ?_
  · subst hσ e2
    obtain ⟨p, hpp, rfl⟩ := getMap hy
    have hpl := hp.2.1 p (List.mem_of_getElem? hpp)
    have ew := List.getElem?_eq_getElem hpl
    obtain ⟨dx3, ho3⟩ := hMt.1
    have h1 : t.h mv = some (.ins (He.ga K "Move") dx3 (l_Move.zip (mvV x))) := ho3.1
    walk_at "w"
    refine ⟨b, b2, t.r, k0, k1, mv, x, os, m, _, qg, _, rfl, ⟨hk, hk0, hk1⟩, hMt, p, _, rfl, ew, hS.1, ?_⟩
    rintro v t3 s3 ⟨rfl, hM3⟩
    walk_at "w"
    exact ⟨⟨_, rfl⟩, t3, _, rfl, st.trans s3, hM3, by rw [take_snoc hpp]; exact hS.snoc ew⟩
  · subst hσ e2
    rw [List.length_map, List.take_of_length_le (Nat.le_refl _)] at hS
    have eq := hS.all hs hp
    subst eq
    obtain ⟨⟨dx3, ho3⟩, hG3, hA3⟩ := hMt
    have h1 : t.h mv = some (.ins (He.ga K "Move") dx3 (l_Move.zip (mvV x))) := ho3.1
    have h1' := h1
    unfold mvV at h1
    walk_at "w"
    rw [show (x.done : Int) + 1 = ((x.done + 1 : Nat) : Int) by omega]
    refine q_pSet h1 (by simp) ?_
    have s4 := Step.put1 (o' := .ins (He.ga K "Move") dx3 (l_Move.zip (mvV { x with done := x.done + 1 }))) ho3
    have n3 : ∀ j, OffH (· = 3) j := fun j y hy z => by omega
    walk_at "w"
    refine q _ _ ((s1.mono fun _ z => z.elim).trans ((s2.mono fun _ z => .inl (.wy z)).trans ((st.mono fun y z => ?_).trans (s4.mono fun _ z => .inr (.inr z))))) ⟨⟨dx3, ho3.self⟩, hG3.step s4 (n3 _), hA3.step s4 (n3 _)⟩
    rcases z with z | z
    · exact .inl (.inl ⟨by omega, by omega⟩)
    · exact .inr (.inl (.wy z))
end
end SP

/-! B23 -/
set_option maxHeartbeats 4100000
namespace SP
open PySem PySem.Spec PyProof.Rows L2 L2H
local macro_rules | `(tactic| walk_at "u") => `(tactic| (dsimp only [tRet, tSeq, tAsg, tDrop, tIfS, tNext, tRetN, tBreak, tCont, tOp, tUn, tCons, tNil, tCallX, tM, tF, sSet, sNew, sAug, tMakeX, tTest, tB, tAnd, tOr, tNot, tAndV, tOrV, tNotV, tIf, tChain, tCB, tBM, tBM0, tTup, tLst, gName, tC, tIsN, tNotN, tDIn, tDNotIn, tDGet, sDPut, tDPop1, gCons, gNil, tSl, tPart, tNoPart, tYes, tVeI]))
local macro_rules | `(tactic| walk_at "o") => `(tactic| (first | assumption | (with_reducible rfl) | omega | (intro hh; cases hh; done) | (simp only [List.length_map, List.length_replicate, List.length_range, List.length_append, List.length_cons, List.length_nil]; omega)))
local macro_rules | `(tactic| walk_at "q") => `(tactic| (repeat (first
  | ((with_reducible refine' q_var ?hq ?_); (case hq => rfl))
  | ((with_reducible refine' q_pF ?ha ?hq ?_); (case ha => assumption); (case hq => rfl))
  | ((with_reducible refine' q_pM ?ha ?_); (case ha => assumption))
  | (with_reducible refine q_I0 ?_)
  | (with_reducible refine q_isInt ?_)
  | (with_reducible refine q_isBool ?_)
  | (with_reducible refine iteT ?_)
  | (with_reducible refine iteF ?_)
  | (with_reducible refine iteSN ?_)
  | (with_reducible refine iteSS ?_)
  | (with_reducible refine iteNSN ?_)
  | (with_reducible refine iteNSS ?_)
  | (with_reducible refine iteNT ?_)
  | (with_reducible refine iteNF ?_)
  | (with_reducible refine q_eqI ?_)
  | (with_reducible refine q_neI ?_)
  | ((with_reducible refine' q_eq ?hq ?_); (case hq => rfl))
  | ((with_reducible refine' q_ne ?hq ?_); (case hq => rfl))
  | (with_reducible refine q_lenL (by assumption) ?_)
  | (with_reducible refine q_lenT (by assumption) ?_)
  | (with_reducible refine q_is_whole ?_)
  | (with_reducible refine q_is_word ?_)
  | (with_reducible refine q_is_below ?_)
  | ((with_reducible refine' And.intro (q_tyL ?ha) ?_); (case ha => assumption))
  | ((with_reducible refine' ⟨_, _, rfl, g_dO ?ha, ?_⟩); (case ha => assumption))
  | ((with_reducible refine' ⟨_, _, rfl, p_dO ?ha, ?_⟩); (case ha => assumption))
  | ((with_reducible refine' ⟨_, Sum.inr "a", _, ?ha, kV_a, valV_dO _, ?_⟩); (case ha => assumption); (rw [dropK_dO]))
  | ((with_reducible refine' ⟨_, rfl, isD_dO ?ha, ?_⟩); (case ha => assumption))
  | (with_reducible refine q_ip ?_)
  | (with_reducible refine q_rAdd ?_)
  | (with_reducible refine q_rSub ?_)
  | (with_reducible refine q_has ?_)
  | (with_reducible refine q_put ?_)
  | (with_reducible refine q_taken ?_)
  | (with_reducible refine q_page_of ?_)
  | (with_reducible refine q_pow48 ?_)
  | (with_reducible refine q_pow40 ?_)
  | ((with_reducible refine' q_I ?hq ?_); (case hq => first | assumption | decide | omega | exact q_div1 (by omega) _ | exact mul_ok (by omega) | exact pow_ok (by decide)))
  | ((with_reducible refine' ite_y ?hq ?_); (case hq => walk_at "o"))
  | ((with_reducible refine' ite_n ?hq ?_); (case hq => walk_at "o"))
  | ((with_reducible refine' ite_nn ?hq ?_); (case hq => walk_at "o"))
  | ((with_reducible refine' ite_ny ?hq ?_); (case hq => walk_at "o"))
  | (with_reducible
                    refine ⟨_, rfl, ?_⟩)
  | (with_reducible refine ⟨_, _, rfl, ?_⟩)
  | (with_reducible refine ⟨rfl, ?_⟩))))
local macro_rules | `(tactic| walk_at "w") => `(tactic| ((try (walk_at "u")); (walk_at "q"); (try (walk_at "u")); (walk_at "q")))
theorem dO_inj {o o' : Option V} (h : dO o = dO o') : o = o' := by
  cases o <;> cases o' <;> simp [dO] at h ⊢
  exact h
theorem HsAt.uniq {K : PySem.W.Frag} {s : HS} {k k' : Nat} {h A A' : Addr} {d d' : HV} {D D' : HD} (x : HsAt K s k h A d D) (y : HsAt K s k' h A' d' D') : A = A' ∧ d.eng = d'.eng ∧ d.sto = d'.sto := by
  have e := x.ob.1.symm.trans y.ob.1
  have e2 := HO.ins.inj (Option.some.inj e)
  have e3 := e2.2.2
  simp only [l_House, List.zip_cons_cons, List.cons.injEq, Prod.mk.injEq, V.ref.injEq, true_and] at e3
  obtain ⟨a1, a2, a3, _⟩ := e3
  refine ⟨a1, ?_, ?_⟩
  · have z := x.fe.1
    rw [a2] at z
    exact dO_inj (HO.dK.inj (Option.some.inj (z.symm.trans y.fe.1)))
  · have z := x.fs.1
    rw [a3] at z
    exact dO_inj (HO.dK.inj (Option.some.inj (z.symm.trans y.fs.1)))
section
variable {P : Program} {w : World} {K : PySem.W.Frag} {mg : Str → Option Value} {base : Heap} {b : Bool}
theorem ok_Move_finish (T : TX K mg) : Fn P w K mg base false 20 (He.ma K (He.ga K "Move") "finish") (fun vs H Q E => ∃ b b2, sp_Mv_finish K b b2 vs H Q E) := by
  refine Fn.ex fun b => Fn.ex fun b2 => ?_
  refine (f_Move_finish T).calm 19 (fun vs H Q E h => lenMv (n := 0) (fun s k0 k1 mv x os m so pgs1 xs Q E z => by rw [z.1] <;> rfl) h) (fun cdv A outer s H vs Q E hr h => ?_)
  obtain ⟨r, k0, k1, mv, x, os, m, so, pgs1, xs, rfl, ⟨hk, hk0, hk1⟩, hMv, rfl, hx, hs, hP, q⟩ := h
  obtain ⟨⟨dx, ho⟩, hG, hA⟩ := id hMv
  obtain ⟨A0, mo, obj, F, D, DW, MD, hh, hW, hM⟩ := hG
  have hn := hW.wf.sz.2
  have h1 : H mv = some (.ins (He.ga K "Move") dx (l_Move.zip (mvV x))) := ho.1
  unfold mvV at h1
  have g1 : H x.h0 = some _ := hh.ob.1
  refine ⟨_, pss_cons (ps_expr (x_m0 (ok_Move_look_open T) (can hr) (kls_Move T) (m_Move_look_open T) (pasE (L2N.takes_of rfl rfl rfl rfl)) (pv 0))) (pss_cons (ps_set (i := 1) (f_Move_finish T).nd rfl (Or.inl rfl) (x_m (ok_House_kept T) (can hr) (kls_House T) (m_House_kept T) (fun _ => pas0) (y_fld (i := 1) (kls_Move T) (pv 0)) (pa_cons (y_fld (i := 2) (kls_Move T) (pv 0)) pa_nil))) (pss_cons (ps_set (i := 2) (f_Move_finish T).nd rfl (Or.inl rfl) (x_m0 (ok_Move_pending T) (can hr) (kls_Move T) (m_Move_pending T) (fun _ => pas0) (pv 0))) (pss_cons (ps_for (passes_of rfl) rfl (pi_list (pv 2)) (pg_name (i := 3) (f_Move_finish T).nd rfl (Or.inl rfl)) (pss_one (ps_expr (x_m (ok_Move_send T) (can hr) (kls_Move T) (m_Move_send T) (fun _ => pas0) (pv 0) (pa_cons (pv 3) pa_nil))))) (pss_cons (ps_for (passes_of rfl) rfl (pi_range1 rfl (z_range T) (pa_cons (x_m0 (ok_W_size T b) (can hr) (kls_W T b) (m_W_size T b) (fun _ => pas0) (pv 1)) pa_nil)) (pg_name (i := 3) (f_Move_finish T).nd rfl (Or.inl rfl)) (pss_one (ps_if (pt_not (pt_val (x_m (ok_W_has T b) (can hr) (kls_W T b) (m_W_has T b) (fun _ => pas0) (pv 1) (pa_cons (pv 3) pa_nil)))) (pss_one ps_never) pss_nil))) (pss_cons (ps_expr (x_m0 (ok_W_clean T b2) (can hr) (kls_W T b2) (m_W_clean T b2) (fun _ => pas0) (y_fld (i := 0) (kls_Move T) (pv 0)))) (pss_cons (ps_expr (x_m (ok_W_resume T b2) (can hr) (kls_W T b2) (m_W_resume T b2) (fun _ => pas0) (y_fld (i := 0) (kls_Move T) (pv 0)) (pa_cons (x_m0 (ok_W_root T b) (can hr) (kls_W T b) (m_W_root T b) (fun _ => pas0) (pv 1)) (pa_cons (x_m0 (ok_W_shelf T b) (can hr) (kls_W T b) (m_W_shelf T b) (fun _ => pas0) (pv 1)) (pa_cons (x_m0 (ok_W_said T b) (can hr) (kls_W T b) (m_W_said T b) (fun _ => pas0) (pv 1)) pa_nil))))) (pss_cons (ps_set (i := 4) (f_Move_finish T).nd rfl (Or.inl rfl) (x_m (ok_House_machine T) (can hr) (kls_House T) (m_House_machine T) (fun _ => pas0) (y_fld (i := 1) (kls_Move T) (pv 0)) (pa_cons (y_fld (i := 2) (kls_Move T) (pv 0)) pa_nil))) (pss_cons (ps_expr (x_m (ok_House_admit T) (can hr) (kls_House T) (m_House_admit T) (fun _ => pas0) (y_fld (i := 3) (kls_Move T) (pv 0)) (pa_cons (y_fld (i := 2) (kls_Move T) (pv 0)) (pa_cons (x_make (mk_Machine T) (ok_Machine_init6 T) (hr.mono (by decide)) (g_Machine T) (fun _ => pas0) (pa_cons (y_fld (i := 0) (kls_Move T) (pv 0)) (pa_cons (x_m0 (ok_Machine_program T) (can hr) (kls_Machine T) (m_Machine_program T) (fun _ => pas0) (pv 4)) (pa_cons (x_m0 (ok_Machine_entry T) (can hr) (kls_Machine T) (m_Machine_entry T) (fun _ => pas0) (pv 4)) (pa_cons (x_m0 (ok_Machine_core T) (can hr) (kls_Machine T) (m_Machine_core T) (fun _ => pas0) (pv 4)) (pa_cons (x_m0 (ok_Machine_events T) (can hr) (kls_Machine T) (m_Machine_events T) (fun _ => pas0) (pv 4)) pa_nil)))))) pa_nil)))) (pss_cons (ps_expr (x_m (ok_House_unbind T) (can hr) (kls_House T) (m_House_unbind T) (fun _ => pas0) (y_fld (i := 1) (kls_Move T) (pv 0)) (pa_cons (y_fld (i := 2) (kls_Move T) (pv 0)) pa_nil))) (pss_cons (ps_expr (x_m (ok_House_end T) (can hr) (kls_House T) (m_House_end T) (pasE (L2N.takes_of rfl rfl rfl rfl)) (y_fld (i := 1) (kls_Move T) (pv 0)) (pa_cons (y_fld (i := 2) (kls_Move T) (pv 0)) pa_nil))) (pss_cons (x_set (kls_Move T) 7 (pv 0) pe_bl) (pss_one (ps_ret (pv 2)))))))))))))), ?_⟩
  walk_at "w"
  refine ⟨r, mv, x, rfl, ⟨dx, ho⟩, .inl ⟨hx, ?_⟩⟩
  walk_at "w"
  refine ⟨r, k0, x.h0, A0, _, D, _, rfl, hh, _, _, rfl, rfl, rfl, ?_⟩
  walk_at "w"
  refine ⟨b, b2, r, k0, k1, mv, x, os, m, so, pgs1, _, rfl, ⟨hk, hk0, hk1⟩, hMv, rfl, ?_⟩
  rintro v t1 s1 ⟨l, ps, rfl, hl, hp⟩
  have hMv1 := hMv.step s1 id (fun _ _ => id) (fun _ _ => id)
  have hh1 := hh.step s1 id
  have hM1 := hM.step s1 id id
  walk_at "w"
  refine fr_list (fun i σ H2 => (∃ c d, σ = [some (V.ref mv), some (V.ref obj), some (V.ref l), c, d]) ∧ ∃ t qg, t.h = H2 ∧ Step (fun c => c = 4 * k0 + 4 ∨ RWy k1 c) t1 t ∧ MovAt K t b b2 k0 k1 mv x os m so qg ∧ Sent m.pgs pgs1 qg (ps.take i)) (fun R q => q_var rfl q) (SqL.of hl.1)
    ⟨⟨_, _, rfl⟩, t1, pgs1, rfl, Step.refl, hMv1, .nil hs.1⟩ (fun i σ H2 _ ⟨_, t, qg, e2, st, _⟩ => by subst e2; exact SqL.of (hl.step st (fun z => by rcases z with z | z | z <;> omega)).1) (fun i y σ H2 hy ⟨⟨c, d, hσ⟩, t, qg, e2, st, hMt, hS⟩ => ?_) fun σ H2 ⟨⟨c, d, hσ⟩, t, qg, e2, st, hMt, hS⟩ => ?_
  · subst hσ e2
    obtain ⟨p, hpp, rfl⟩ := getMap hy
    have hpl := hp.2.1 p (List.mem_of_getElem? hpp)
    have ew := List.getElem?_eq_getElem hpl
    obtain ⟨dx3, ho3⟩ := hMt.1
    have h1 : t.h mv = some (.ins (He.ga K "Move") dx3 (l_Move.zip (mvV x))) := ho3.1
    walk_at "w"
    refine ⟨b, b2, t.r, k0, k1, mv, x, os, m, _, qg, _, rfl, ⟨hk, hk0, hk1⟩, hMt, p, _, rfl, ew, hS.1, ?_⟩
    rintro v t3 s3 ⟨rfl, hM3⟩
    walk_at "w"
    exact ⟨⟨_, _, rfl⟩, t3, _, rfl, st.trans s3, hM3, by rw [take_snoc hpp]; exact hS.snoc ew⟩
  · subst hσ e2
    rw [List.length_map, List.take_of_length_le (Nat.le_refl _)] at hS
    have eq := hS.all hs hp
    subst eq
    have n7 : ¬ (4 * k0 + 7 = 4 * k0 + 4 ∨ RWy k1 (4 * k0 + 7)) := fun z => by rcases z with z | z | z <;> omega
    have n6 : ¬ (4 * k0 + 6 = 4 * k0 + 4 ∨ RWy k1 (4 * k0 + 6)) := fun z => by rcases z with z | z | z <;> omega
    have n2 : ¬ (2 = 4 * k0 + 4 ∨ RWy k1 2) := fun z => by rcases z with z | z | z <;> omega
    have n3 : ¬ (3 = 4 * k0 + 4 ∨ RWy k1 3) := fun z => by rcases z with z | z | z <;> omega
    have hl3 := hl.step st (fun z => by rcases z with z | z | z <;> omega)
    obtain ⟨⟨dx3, ho3⟩, ⟨A0', mo', obj', F3, D3, DW3, MD3, hh3, hW3, hM3⟩, A1, tp, F1, so1, D1, DW1, hh1', htp, hW1⟩ := hMt
    obtain ⟨rfl, u1, u2⟩ := (hh1.step st n7).uniq hh3
    obtain rfl : mo = mo' := by simpa [dGuest] using u1
    obtain rfl : obj = obj' := by simpa [dGuest] using u2
    have g2 : t.h obj = some _ := hW3.ob.1
    walk_at "w"
    refine fr_range (m := m.pgs.length) (fun i σ H2 => (∃ c d, σ = [some (V.ref mv), some (V.ref obj), some (V.ref l), c, d]) ∧ H2 = t.h) (fun R z => ?_) (by omega) ⟨⟨_, _, rfl⟩, rfl⟩ (fun i σ H2 hi ⟨⟨c, d, hσ⟩, e2⟩ => ?_) fun σ H2 ⟨⟨c, d, hσ⟩, e2⟩ => ?_
    · walk_at "w"
      refine ⟨t.r, k0, obj, A0, F3, m.pgs, so, DW3, _, rfl, hW3, rfl, ?_⟩
      exact z
    · subst hσ e2
      walk_at "w"
      refine ⟨t.r, k0, obj, A0, F3, m.pgs, so, DW3, _, rfl, hW3, i, rfl, hi, ?_⟩
      walk_at "w"
      exact ⟨⟨_, _, rfl⟩, rfl⟩
    · subst hσ e2
      have h1 : t.h mv = some (.ins (He.ga K "Move") dx3 (l_Move.zip (mvV x))) := ho3.1
      unfold mvV at h1
      have g3 : t.h x.there = some _ := hW1.ob.1
      walk_at "w"
      refine ⟨t.r, k1, x.there, A1, F1, m.pgs, so1, DW1, _, rfl, hW1, rfl, ?_⟩
      rintro v t4 s4 ⟨rfl, F4, DW4, hW4⟩
      have o4 := ho3.step s4 (fun z => by rcases z with z | z <;> omega)
      have h1 : t4.h mv = some (.ins (He.ga K "Move") dx3 (l_Move.zip (mvV x))) := o4.1
      unfold mvV at h1
      have hW34 := hW3.step s4 (fun z => by rcases z with z | z <;> omega) (fun z => by rcases z with z | z <;> omega)
      have g2 : t4.h obj = some _ := hW34.ob.1
      have g3 : t4.h x.there = some _ := hW4.ob.1
      walk_at "w"
      refine ⟨t4.r, k0, obj, A0, F3, m.pgs, so, DW3, _, rfl, hW34, rfl, ?_⟩
      walk_at "w"
      refine ⟨t4.r, k0, obj, A0, F3, m.pgs, so, DW3, _, rfl, hW34, rfl, fun sh hsh => ?_⟩
      have s5 := Step.new (R := fun _ => False) (s := t4) (q := (0, 0)) (o := .lst []) hsh
      have sh5 := At.made (s := t4) (a := sh) (q := (0, 0)) (o := .lst [])
      have hW35 := hW34.step s5 id id
      have g2 := hW35.ob.1
      walk_at "w"
      refine ⟨_, k0, obj, A0, F3, m.pgs, so, DW3, _, rfl, hW35, rfl, fun sd hsd => ?_⟩
      have s6 := sh5.stN (R := fun _ => False) (q := (0, 0)) (o := .lst []) hsd
      have sd6 := sh5.md (a := sd) (q := (0, 0)) (o := .lst [])
      have sh6 := sh5.step s6 id
      have hW6 := (hW4.step s5 id id).step s6 id id
      refine ⟨_, k1, x.there, A1, F4, m.pgs, _, DW4, _, rfl, hW6, sh, sd, rfl, sh6.1, sd6.1, ?_⟩
      rintro v t7 s7 ⟨rfl, DW7, hW7⟩
      have nn : ∀ {c : Nat}, c ≠ 4 * k1 + 4 → c ≠ 4 * k1 + 5 → ¬ RWy k1 c := fun h1 h2 z => by rcases z with z | z <;> omega
      have s47 := (s5.trans s6).mono (R' := RWy k1) fun _ z => z.elim
      have s07 := s4.trans (s47.trans s7)
      have o7 := ho3.step s07 (nn (by omega) (by omega))
      have hh7 := hh3.step s07 (nn (by omega) (by omega))
      have hM7 := hM3.step s07 (nn (by omega) (by omega)) (nn (by omega) (by omega))
      have hW37 := hW3.step s07 (nn (by omega) (by omega)) (nn (by omega) (by omega))
      have hA7 := hh1'.step s07 (nn (by omega) (by omega))
      have tp7 := htp.step s07 (nn (by omega) (by omega))
      have hl7 := hl3.step s07 (nn (by omega) (by omega))
      have h1 : t7.h mv = some (.ins (He.ga K "Move") dx3 (l_Move.zip (mvV x))) := o7.1
      unfold mvV at h1
      have g1 : t7.h x.h0 = some _ := hh7.ob.1
      walk_at "w"
      refine ⟨t7.r, k0, x.h0, A0, _, D3, _, rfl, hh7, _, _, rfl, rfl, rfl, ?_⟩
      have g4 : t7.h mo = some _ := hM7.ob.1
      have g5 : t7.h x.h1 = some _ := hA7.ob.1
      walk_at "w"
      refine ⟨t7.r, k0, mo, obj, os, m, MD3, _, rfl, hM7, rfl, ?_⟩
      rintro v t8 s8 ⟨pr, rfl, hpr⟩
      have hM8 := hM7.step s8 id id
      have g4 := hM8.ob.1
      walk_at "w"
      refine ⟨t8.r, k0, mo, obj, os, m, MD3, _, rfl, hM8, rfl, ?_⟩
      walk_at "w"
      refine ⟨t8.r, k0, mo, obj, os, m, MD3, _, rfl, hM8, rfl, ?_⟩
      rintro v t9 s9 ⟨ca, rfl, hca⟩
      have hM9 := hM8.step s9 id id
      have g4 := hM9.ob.1
      walk_at "w"
      refine ⟨t9.r, k0, mo, obj, os, m, MD3, _, rfl, hM9, rfl, fun ea hea => ?_⟩
      have sA := Step.new (R := fun _ => False) (s := t9) (q := (0, 0)) (o := .lst []) hea
      have eaA := At.made (s := t9) (a := ea) (q := (0, 0)) (o := .lst [])
      have s7A := s8.trans (s9.trans sA)
      walk_at "w"
      refine fun mo2 mdx hx1 hx2 hne => ?_
      refine HS.make (s := t9.new ea (0, 0) (.lst [])) (C := He.ga K "Machine") (Pq := fun H' => sp_M_init K [.ref mo2, .ref x.there, .ref pr, .int 0, .ref ca, .ref ea] H' _ _) (4 * k1 + 6, 0) hx1 hx2 hne fun u su hu => ?_
      refine ⟨u.r, k1, mo2, mdx, x.there, pr, (0, 0), os, m.pgs.length, _, _, m, rfl, hu, ((hpr.step s9 id id).step sA id id).step su id id, by simp, hP, .inr ⟨ca, ea, rfl, rfl, (hca.step sA id id).step su id id, eaA.step su id⟩, ?_⟩
      rintro v tB sB ⟨rfl, MDB, hMB⟩
      refine ⟨rfl, ?_⟩
      have n6B : ∀ {c : Nat}, c ≠ 4 * k1 + 6 → ¬ (c = 4 * k1 + 6) := id
      have hAB := ((hA7.step s7A id).step su id).step sB (by omega)
      have g5 := hAB.ob.1
      refine ⟨b2, tB.r, k1, x.h1, A1, _, D1, _, rfl, hAB, mo2, x.there, tp, rfl, rfl, ((tp7.step s7A id).step su id).step sB (by simp), ?_⟩
      rintro v tC sC ⟨rfl, hGC⟩
      have oC := (((o7.step s7A id).step su id).step sB (by simp)).step sC (by simp)
      have hhC := (((hh7.step s7A id).step su id).step sB (by omega)).step sC (by omega)
      have hWC := (((hW37.step s7A id id).step su id id).step sB (by omega) (by omega)).step sC (by omega) (by omega)
      have hW1C := (((hW7.step s7A id id).step su id id).step sB (by omega) (by omega)).step sC (by omega) (by omega)
      have hMC := hMB.step sC (by omega) (by omega)
      have h1 : tC.h mv = some (.ins (He.ga K "Move") dx3 (l_Move.zip (mvV x))) := oC.1
      unfold mvV at h1
      have g1 : tC.h x.h0 = some _ := hhC.ob.1
      walk_at "w"
      refine ⟨tC.r, k0, x.h0, A0, _, D3, _, rfl, hhC, _, rfl, rfl, ?_⟩
      rintro v tD sD hhD
      have oD := oC.step sD (by simp)
      have hWD := hWC.step sD (by omega) (by omega)
      have h1 : tD.h mv = some (.ins (He.ga K "Move") dx3 (l_Move.zip (mvV x))) := oD.1
      unfold mvV at h1
      have g1 : tD.h x.h0 = some _ := hhD.ob.1
      walk_at "w"
      refine ⟨b, tD.r, k0, x.h0, A0, _, D3, _, rfl, hhD, mo, obj, none, rfl, rfl, .inl ⟨rfl, F3, m.pgs, so, DW3, hWD, ?_⟩⟩
      rintro v tE sE ⟨hhE, hFE⟩
      have oE := oD.step sE RH.n3
      have h1 : tE.h mv = some (.ins (He.ga K "Move") dx3 (l_Move.zip (mvV x))) := oE.1
      unfold mvV at h1
      walk_at "w"
      refine q_pSet h1 (by simp) ?_
      have sF := Step.put1 (o' := .ins (He.ga K "Move") dx3 (l_Move.zip (mvV { x with over := true }))) oE
      have off3 : ∀ j, OffH (· = 3) j := fun j y hy z => by omega
      have hG1 : GuestAt K tC k1 b2 x.h1 none os m _ := ⟨A1, mo2, x.there, F4, D1, DW7, MDB, hGC, hW1C, hMC⟩
      have off7 : OffH (· = 4 * k0 + 7) k1 := fun y hy z => by omega
      walk_at "w"
      have w1 : Step (RMv k0 k1) ⟨H, r⟩ t1 := s1.mono fun _ z => z.elim
      have w2 : Step (RMv k0 k1) t1 t := st.mono fun y z => z.elim (fun z => .inl (.inl ⟨by omega, by omega⟩)) fun z => .inr (.inl (.wy z))
      have w3 : Step (RMv k0 k1) t t7 := s07.mono fun _ z => .inr (.inl (.wy z))
      have w4 : Step (RMv k0 k1) t7 _ := s7A.mono fun _ z => z.elim
      have w5 : Step (RMv k0 k1) _ u := su.mono fun _ z => z.elim
      have w6 : Step (RMv k0 k1) u tB := sB.mono fun y z => .inr (.inl (.inl ⟨by omega, by omega⟩))
      have w7 : Step (RMv k0 k1) tB tC := sC.mono fun y z => .inr (.inl (.inl ⟨by omega, by omega⟩))
      have w8 : Step (RMv k0 k1) tC tD := sD.mono fun y z => .inl (.inl ⟨by omega, by omega⟩)
      have w9 : Step (RMv k0 k1) tD tE := sE.mono fun _ z => .inl z
      have wA : Step (RMv k0 k1) tE _ := sF.mono fun _ z => .inr (.inr z)
      exact q _ _ (w1.trans (w2.trans (w3.trans (w4.trans (w5.trans (w6.trans (w7.trans (w8.trans (w9.trans wA))))))))) ⟨⟨dx3, oE.self⟩, EmptyAt.step ⟨A0, D3, hhE, hFE⟩ sF (off3 _), _, ((hG1.step sD off7).step sE (offH hk hk1)).step sF (off3 _)⟩
end
end SP

/-! B24 -/
set_option maxHeartbeats 4100000
namespace SP
open PySem PySem.Spec PyProof.Rows L2 L2H
local macro_rules | `(tactic| walk_at "u") => `(tactic| (dsimp only [tRet, tSeq, tAsg, tDrop, tIfS, tNext, tRetN, tBreak, tCont, tOp, tUn, tCons, tNil, tCallX, tM, tF, sSet, sNew, sAug, tMakeX, tTest, tB, tAnd, tOr, tNot, tAndV, tOrV, tNotV, tIf, tChain, tCB, tBM, tBM0, tTup, tLst, gName, tC, tIsN, tNotN, tDIn, tDNotIn, tDGet, sDPut, tDPop1, gCons, gNil, tSl, tPart, tNoPart, tYes, tVeI]))
local macro_rules | `(tactic| walk_at "o") => `(tactic| (first | assumption | (with_reducible rfl) | omega | (intro hh; cases hh; done) | (simp only [List.length_map, List.length_replicate, List.length_range, List.length_append, List.length_cons, List.length_nil]; omega)))
local macro_rules | `(tactic| walk_at "q") => `(tactic| (repeat (first
  | ((with_reducible refine' q_var ?hq ?_); (case hq => rfl))
  | ((with_reducible refine' q_pF ?ha ?hq ?_); (case ha => assumption); (case hq => rfl))
  | ((with_reducible refine' q_pM ?ha ?_); (case ha => assumption))
  | (with_reducible refine q_I0 ?_)
  | (with_reducible refine q_isInt ?_)
  | (with_reducible refine q_isBool ?_)
  | (with_reducible refine iteT ?_)
  | (with_reducible refine iteF ?_)
  | (with_reducible refine iteSN ?_)
  | (with_reducible refine iteSS ?_)
  | (with_reducible refine iteNSN ?_)
  | (with_reducible refine iteNSS ?_)
  | (with_reducible refine iteNT ?_)
  | (with_reducible refine iteNF ?_)
  | (with_reducible refine q_eqI ?_)
  | (with_reducible refine q_neI ?_)
  | ((with_reducible refine' q_eq ?hq ?_); (case hq => rfl))
  | ((with_reducible refine' q_ne ?hq ?_); (case hq => rfl))
  | (with_reducible refine q_lenL (by assumption) ?_)
  | (with_reducible refine q_lenT (by assumption) ?_)
  | (with_reducible refine q_is_whole ?_)
  | (with_reducible refine q_is_word ?_)
  | (with_reducible refine q_is_below ?_)
  | ((with_reducible refine' And.intro (q_tyL ?ha) ?_); (case ha => assumption))
  | ((with_reducible refine' ⟨_, _, rfl, g_dO ?ha, ?_⟩); (case ha => assumption))
  | ((with_reducible refine' ⟨_, _, rfl, p_dO ?ha, ?_⟩); (case ha => assumption))
  | ((with_reducible refine' ⟨_, Sum.inr "a", _, ?ha, kV_a, valV_dO _, ?_⟩); (case ha => assumption); (rw [dropK_dO]))
  | ((with_reducible refine' ⟨_, rfl, isD_dO ?ha, ?_⟩); (case ha => assumption))
  | (with_reducible refine q_ip ?_)
  | (with_reducible refine q_rAdd ?_)
  | (with_reducible refine q_rSub ?_)
  | (with_reducible refine q_has ?_)
  | (with_reducible refine q_put ?_)
  | (with_reducible refine q_taken ?_)
  | (with_reducible refine q_page_of ?_)
  | (with_reducible refine q_pow48 ?_)
  | (with_reducible refine q_pow40 ?_)
  | ((with_reducible refine' q_I ?hq ?_); (case hq => first | assumption | decide | omega | exact q_div1 (by omega) _ | exact mul_ok (by omega) | exact pow_ok (by decide)))
  | ((with_reducible refine' ite_y ?hq ?_); (case hq => walk_at "o"))
  | ((with_reducible refine' ite_n ?hq ?_); (case hq => walk_at "o"))
  | ((with_reducible refine' ite_nn ?hq ?_); (case hq => walk_at "o"))
  | ((with_reducible refine' ite_ny ?hq ?_); (case hq => walk_at "o"))
  | (with_reducible
                    refine ⟨_, rfl, ?_⟩)
  | (with_reducible refine ⟨_, _, rfl, ?_⟩)
  | (with_reducible refine ⟨rfl, ?_⟩))))
local macro_rules | `(tactic| walk_at "w") => `(tactic| ((try (walk_at "u")); (walk_at "q"); (try (walk_at "u")); (walk_at "q")))
theorem x_isH {X : Cx} {D : Addr} {p : Addr × Obj} {q pos : Pos} {e e2 : Expr} {ta tb : TE} (C : ExcC X.K D) (hp : p ∈ X.pn) (hz : Zc (.ref D) none p.2) (hf : ∃ vs, p.2.data = .fields vs) (hm : X.mg "isinstance" = none) (ha : PE X e ta) (hb : PE X e2 tb) (hg : Gl X "isinstance" := by rfl)
    (h2 : starEach [e2] X.env = (false, eval e2 X.env) :: starEach [] X.env := by rfl) (he : starEach [e, e2] X.env = (false, eval e X.env) :: starEach [e2] X.env := by rfl) (hpl : (backTo pos (starEach [e2] X.env)).any (·.1) = false := by rfl) :
    PE X (.Call (.Name "isinstance" q) [e, e2] [] pos) (tCB (rIsE X.K D p.1) (tCons ta (tCons tb tNil))) :=
  pe_callB (call_isH C hp hz hf) hg hm bb_isinstance (pa_cons ha (pa_cons hb pa_nil h2) he) (by decide) (by decide) he hpl
theorem none_same {H H' : Hp} {c : Addr} (s : Same H H') (h : H' c = none) : H c = none := by
  cases e : H c with
  | none => rfl
  | some o => rw [s _ _ e] at h; cases h
def kinds18 (ov : Bool) : List V := [.bl ov, .bl (!ov), .bl true] ++ List.replicate 15 (.bl false)
section
variable {P : Program} {w : World} {K :
                                        PySem.W.Frag} {mg : Str → Option Value} {base : Heap}
theorem ok_law_kindsOver (T : TX K mg) : FnHE P w K mg base 1 (He.ga K "_law_kinds") (He.ga K "Over") (fun H Q => ∀ H' l, Same H H' → H l = none → H' l = some (.lst (kinds18 true)) → Q (.ref l) H') := by
  obtain ⟨fd, F, hb, S⟩ := f_law_kinds T
  refine fn_exc (k := 0) F hb S fun cdv A outer s H Q p hot hr hz k => ?_
  have hp : p ∈ (cxM P w K mg base ["_law_e", "_law_some"] "_law_kinds" (defScope s_law_kinds) (He.ga K "_law_kinds") cdv A outer s H E0 (some p)).pn := List.mem_singleton.mpr rfl
  have EC := ec_Over T
  have hf : ∃ vs, p.2.data = .fields vs := by
    obtain ⟨_, vs, e, _⟩ := hot
    exact ⟨vs, e⟩
  refine ⟨_, pss_cons (ps_set (i := 1) (f_law_kinds T).nd rfl (Or.inl rfl) (pe_lst (pa_cons (x_isH EC hp hz hf (z_isinstance T) (pv 0) (x_gl (g_Over T))) (pa_cons (x_isH EC hp hz hf (z_isinstance T) (pv 0) (x_gl (g_Busy T))) (pa_cons (x_isH EC hp hz hf (z_isinstance T) (pv 0) (x_ty (z_ValueError T) bb_VE)) (pa_cons (x_isH EC hp hz hf (z_isinstance T) (pv 0) (x_gl (g_NoBound T))) pa_nil)))))) (pss_cons (ps_set (i := 1) (f_law_kinds T).nd rfl (Or.inl rfl) (pe_op op_cat (pv 1) (pe_lst (pa_cons (x_isH EC hp hz hf (z_isinstance T) (pv 0) (x_gl (g_NoRoom T))) (pa_cons (x_isH EC hp hz hf (z_isinstance T) (pv 0) (x_gl (g_NoName T))) (pa_cons (x_isH EC hp hz hf (z_isinstance T) (pv 0) (x_gl (g_NoPlace T))) (pa_cons (x_isH EC hp hz hf (z_isinstance T) (pv 0) (x_gl (g_NoRow T))) pa_nil))))))) (pss_cons (ps_set (i := 1) (f_law_kinds T).nd rfl (Or.inl rfl) (pe_op op_cat (pv 1) (pe_lst (pa_cons (x_isH EC hp hz hf (z_isinstance T) (pv 0) (x_gl (g_NoFrame T))) (pa_cons (x_isH EC hp hz hf (z_isinstance T) (pv 0) (x_gl (g_NoImage T))) (pa_cons (x_isH EC hp hz hf (z_isinstance T) (pv 0) (x_gl (g_NoShelf T))) (pa_cons (x_isH EC hp hz hf (z_isinstance T) (pv 0) (x_gl (g_NoPage T))) pa_nil))))))) (pss_cons (ps_set (i := 1) (f_law_kinds T).nd rfl (Or.inl rfl) (pe_op op_cat (pv 1) (pe_lst (pa_cons (x_isH EC hp hz hf (z_isinstance T) (pv 0) (x_gl (g_NoWay T))) (pa_cons (x_isH EC hp hz hf (z_isinstance T) (pv 0) (x_gl (g_NoOrder T))) (pa_cons (x_isH EC hp hz hf (z_isinstance T) (pv 0) (x_gl (g_NoProgram T))) (pa_cons (x_isH EC hp hz hf (z_isinstance T) (pv 0) (x_gl (g_NoText T))) pa_nil))))))) (pss_one (ps_ret (pe_op op_cat (pv 1) (pe_lst (pa_cons (x_isH EC hp hz hf (z_isinstance T) (pv 0) (x_gl (g_Fault T))) (pa_cons (x_isH EC hp hz hf (z_isinstance T) (pv 0) (x_gl (g_NoWord T))) pa_nil))))))))), ?_⟩
  walk_at "w"
  refine ⟨_, _, true, rfl, fun _ h => h, kit_Over_Over T, ?_⟩
  walk_at "w"
  refine ⟨_, _, false, rfl, fun _ h => h, kit_Over_Busy T, ?_⟩
  walk_at "w"
  refine ⟨_, _, true, rfl, fun _ h => h, kit_Over_ValueError T, ?_⟩
  walk_at "w"
  refine ⟨_, _, false, rfl, fun _ h => h, kit_Over_NoBound T, ?_⟩
  walk_at "w"
  refine ⟨(show 4 ≤ sizeLine by decide), fun p0 n0 => ?_⟩
  walk_at "w"
  refine ⟨_, _, false, rfl, fun _ h => h, kit_Over_NoRoom T, ?_⟩
  walk_at "w"
  refine ⟨_, _, false, rfl, fun _ h => h, kit_Over_NoName T, ?_⟩
  walk_at "w"
  refine ⟨_, _, false, rfl, fun _ h => h, kit_Over_NoPlace T, ?_⟩
  walk_at "w"
  refine ⟨_, _, false, rfl, fun _ h => h, kit_Over_NoRow T, ?_⟩
  walk_at "w"
  refine ⟨(show 4 ≤ sizeLine by decide), fun p1 n1 => ?_⟩
  walk_at "w"
  refine q_cat ((upd_ne (ne_of_none (upd_same) n1)).trans upd_same) upd_same (show 8 ≤ 10000 by decide) fun c1 m1 => ?_
  walk_at "w"
  refine ⟨_, _, false, rfl, fun _ h => h, kit_Over_NoFrame T, ?_⟩
  walk_at "w"
  refine ⟨_, _, false, rfl, fun _ h => h, kit_Over_NoImage T, ?_⟩
  walk_at "w"
  refine ⟨_, _, false, rfl, fun _ h => h, kit_Over_NoShelf T, ?_⟩
  walk_at "w"
  refine ⟨_, _, false, rfl, fun _ h => h, kit_Over_NoPage T, ?_⟩
  walk_at "w"
  refine ⟨(show 4 ≤ sizeLine by decide), fun p2 n2 => ?_⟩
  walk_at "w"
  refine q_cat ((upd_ne (ne_of_none (upd_same) n2)).trans upd_same) upd_same (show 12 ≤ 10000 by decide) fun c2 m2 => ?_
  walk_at "w"
  refine ⟨_, _, false, rfl, fun _ h => h, kit_Over_NoWay T, ?_⟩
  walk_at "w"
  refine ⟨_, _, false, rfl, fun _ h => h, kit_Over_NoOrder T, ?_⟩
  walk_at "w"
  refine ⟨_, _, false, rfl, fun _ h => h, kit_Over_NoProgram T, ?_⟩
  walk_at "w"
  refine ⟨_, _, false, rfl, fun _ h => h, kit_Over_NoText T, ?_⟩
  walk_at "w"
  refine ⟨(show 4 ≤ sizeLine by decide), fun p3 n3 => ?_⟩
  walk_at "w"
  refine q_cat ((upd_ne (ne_of_none (upd_same) n3)).trans upd_same) upd_same (show 16 ≤ 10000 by decide) fun c3 m3 => ?_
  walk_at "w"
  refine ⟨_, _, false, rfl, fun _ h => h, kit_Over_Fault T, ?_⟩
  walk_at "w"
  refine ⟨_, _, false, rfl, fun _ h => h, kit_Over_NoWord T, ?_⟩
  walk_at "w"
  refine ⟨(show 2 ≤ sizeLine by decide), fun p4 n4 => ?_⟩
  walk_at "w"
  refine q_cat ((upd_ne (ne_of_none (upd_same) n4)).trans upd_same) upd_same (show 18 ≤ 10000 by decide) fun c4 m4 => ?_
  walk_at "w"
  have s8 := fun o => (same_new n0).trans ((same_new n1).trans ((same_new m1).trans ((same_new n2).trans ((same_new m2).trans ((same_new n3).trans ((same_new m3).trans (same_new (o := o) n4)))))))
  exact k _ c4 ((s8 _).trans (same_new m4)) (none_same (s8 _) m4) upd_same

theorem ok_law_kindsBusy (T : TX K mg) : FnHE P w K mg base 1 (He.ga K "_law_kinds") (He.ga K "Busy") (fun H Q => ∀ H' l, Same H H' → H l = none → H' l = some (.lst (kinds18 false)) → Q (.ref l) H') := by
  obtain ⟨fd, F, hb, S⟩ := f_law_kinds T
  refine fn_exc (k := 0) F hb S fun cdv A outer s H Q p hot hr hz k => ?_
  have hp : p ∈ (cxM P w K mg base ["_law_e", "_law_some"] "_law_kinds" (defScope s_law_kinds) (He.ga K "_law_kinds") cdv A outer s H E0 (some p)).pn := List.mem_singleton.mpr rfl
  have EC := ec_Busy T
  have hf : ∃ vs, p.2.data = .fields vs := by
    obtain ⟨_, vs, e, _⟩ := hot
    exact ⟨vs, e⟩
  refine ⟨_, pss_cons (ps_set (i := 1) (f_law_kinds T).nd rfl (Or.inl rfl) (pe_lst (pa_cons (x_isH EC hp hz hf (z_isinstance T) (pv 0) (x_gl (g_Over T))) (pa_cons (x_isH EC hp hz hf (z_isinstance T) (pv 0) (x_gl (g_Busy T))) (pa_cons (x_isH EC hp hz hf (z_isinstance T) (pv 0) (x_ty (z_ValueError T) bb_VE)) (pa_cons (x_isH EC hp hz hf (z_isinstance T) (pv 0) (x_gl (g_NoBound T))) pa_nil)))))) (pss_cons (ps_set (i := 1) (f_law_kinds T).nd rfl (Or.inl rfl) (pe_op op_cat (pv 1) (pe_lst (pa_cons (x_isH EC hp hz hf (z_isinstance T) (pv 0) (x_gl (g_NoRoom T))) (pa_cons (x_isH EC hp hz hf (z_isinstance T) (pv 0) (x_gl (g_NoName T))) (pa_cons (x_isH EC hp hz hf (z_isinstance T) (pv 0) (x_gl (g_NoPlace T))) (pa_cons (x_isH EC hp hz hf (z_isinstance T) (pv 0) (x_gl (g_NoRow T))) pa_nil))))))) (pss_cons (ps_set (i := 1) (f_law_kinds T).nd rfl (Or.inl rfl) (pe_op op_cat (pv 1) (pe_lst (pa_cons (x_isH EC hp hz hf (z_isinstance T) (pv 0) (x_gl (g_NoFrame T))) (pa_cons (x_isH EC hp hz hf (z_isinstance T) (pv 0) (x_gl (g_NoImage T))) (pa_cons (x_isH EC hp hz hf (z_isinstance T) (pv 0) (x_gl (g_NoShelf T))) (pa_cons (x_isH EC hp hz hf (z_isinstance T) (pv 0) (x_gl (g_NoPage T))) pa_nil))))))) (pss_cons (ps_set (i := 1) (f_law_kinds T).nd rfl (Or.inl rfl) (pe_op op_cat (pv 1) (pe_lst (pa_cons (x_isH EC hp hz hf (z_isinstance T) (pv 0) (x_gl (g_NoWay T))) (pa_cons (x_isH EC hp hz hf (z_isinstance T) (pv 0) (x_gl (g_NoOrder T))) (pa_cons (x_isH EC hp hz hf (z_isinstance T) (pv 0) (x_gl (g_NoProgram T))) (pa_cons (x_isH EC hp hz hf (z_isinstance T) (pv 0) (x_gl (g_NoText T))) pa_nil))))))) (pss_one (ps_ret (pe_op op_cat (pv 1) (pe_lst (pa_cons (x_isH EC hp hz hf (z_isinstance T) (pv 0) (x_gl (g_Fault T))) (pa_cons (x_isH EC hp hz hf (z_isinstance T) (pv 0) (x_gl (g_NoWord T))) pa_nil))))))))), ?_⟩
  walk_at "w"
  refine ⟨_, _, false, rfl, fun _ h => h, kit_Busy_Over T, ?_⟩
  walk_at "w"
  refine ⟨_, _, true, rfl, fun _ h => h, kit_Busy_Busy T, ?_⟩
  walk_at "w"
  refine ⟨_, _, true, rfl, fun _ h => h, kit_Busy_ValueError T, ?_⟩
  walk_at "w"
  refine ⟨_, _, false, rfl, fun _ h => h, kit_Busy_NoBound T, ?_⟩
  walk_at "w"
  refine ⟨(show 4 ≤ sizeLine by decide), fun p0 n0 => ?_⟩
  walk_at "w"
  refine ⟨_, _, false, rfl, fun _ h => h, kit_Busy_NoRoom T, ?_⟩
  walk_at "w"
  refine ⟨_, _, false, rfl, fun _ h => h, kit_Busy_NoName T, ?_⟩
  walk_at "w"
  refine ⟨_, _, false, rfl, fun _ h => h, kit_Busy_NoPlace T, ?_⟩
  walk_at "w"
  refine ⟨_, _, false, rfl, fun _ h => h, kit_Busy_NoRow T, ?_⟩
  walk_at "w"
  refine ⟨(show 4 ≤ sizeLine by decide), fun p1 n1 => ?_⟩
  walk_at "w"
  refine q_cat ((upd_ne (ne_of_none (upd_same) n1)).trans upd_same) upd_same (show 8 ≤ 10000 by decide) fun c1 m1 => ?_
  walk_at "w"
  refine ⟨_, _, false, rfl, fun _ h => h, kit_Busy_NoFrame T, ?_⟩
  walk_at "w"
  refine ⟨_, _, false, rfl, fun _ h => h, kit_Busy_NoImage T, ?_⟩
  walk_at "w"
  refine ⟨_, _, false, rfl, fun _ h => h, kit_Busy_NoShelf T, ?_⟩
  walk_at "w"
  refine ⟨_, _, false, rfl, fun _ h => h, kit_Busy_NoPage T, ?_⟩
  walk_at "w"
  refine ⟨(show 4 ≤ sizeLine by decide), fun p2 n2 => ?_⟩
  walk_at "w"
  refine q_cat ((upd_ne (ne_of_none (upd_same) n2)).trans upd_same) upd_same (show 12 ≤ 10000 by decide) fun c2 m2 => ?_
  walk_at "w"
  refine ⟨_, _, false, rfl, fun _ h => h, kit_Busy_NoWay T, ?_⟩
  walk_at "w"
  refine ⟨_, _, false, rfl, fun _ h => h, kit_Busy_NoOrder T, ?_⟩
  walk_at "w"
  refine ⟨_, _, false, rfl, fun _ h => h, kit_Busy_NoProgram T, ?_⟩
  walk_at "w"
  refine ⟨_, _, false, rfl, fun _ h => h, kit_Busy_NoText T, ?_⟩
  walk_at "w"
  refine ⟨(show 4 ≤ sizeLine by decide), fun p3 n3 => ?_⟩
  walk_at "w"
  refine q_cat ((upd_ne (ne_of_none (upd_same) n3)).trans upd_same) upd_same (show 16 ≤ 10000 by decide) fun c3 m3 => ?_
  walk_at "w"
  refine ⟨_, _, false, rfl, fun _ h => h, kit_Busy_Fault T, ?_⟩
  walk_at "w"
  refine ⟨_, _, false, rfl, fun _ h => h, kit_Busy_NoWord T, ?_⟩
  walk_at "w"
  refine ⟨(show 2 ≤ sizeLine by decide), fun p4 n4 => ?_⟩
  walk_at "w"
  refine q_cat ((upd_ne (ne_of_none (upd_same) n4)).trans upd_same) upd_same (show 18 ≤ 10000 by decide) fun c4 m4 => ?_
  walk_at "w"
  have s8 := fun o => (same_new n0).trans ((same_new n1).trans ((same_new m1).trans ((same_new n2).trans ((same_new m2).trans ((same_new n3).trans ((same_new m3).trans (same_new (o := o) n4)))))))
  exact k _ c4 ((s8 _).trans (same_new m4)) (none_same (s8 _) m4) upd_same
/-! ### what is refused -/
def refE (K : PySem.W.Frag) (s : HS) (mv : Addr) (x : MV) (ha : Addr) (wd : Str) (ov : Bool) : Prop :=
  (wd = "round" ∧ ov = true ∧ MoveAt K s mv x ∧ overV x) ∨ ((wd = "finish" ∨ wd = "drop") ∧ ov = true ∧ MoveAt K s mv x ∧ x.over = true) ∨ ((wd = "end" ∨ wd = "move") ∧ ov = false ∧ ∃ k b os m so v, GuestAt K s k b ha (some v) os m so)
def excN (K : PySem.W.Frag) (ov : Bool) : Value := .ref (He.ga K (if ov then "Over" else "Busy"))
def sp_do (K : PySem.W.Frag) : Sp := fun vs H Q E => ∃ r mv x hl ha hb wd ov, vs = [.ref mv, .ref hl, .str wd] ∧ At ⟨H, r⟩ hl (1, 0) (.lst [.ref ha, .ref hb]) ∧ refE K ⟨H, r⟩ mv x ha wd ov ∧ ∀ H', Same H H' → E (excN K ov) none H'
theorem ok_law_do (T : TX K mg) : Fn P w K mg base false 21 (He.ga K "_law_do") (sp_do K) := by
  refine (f_law_do T).calm 20 (fun vs H Q E h => by obtain ⟨_, _, _, _, _, _, _, _, z, _⟩ := h; rw [z] <;> rfl) (fun cdv A outer s H vs Q E hr h => ?_)
  obtain ⟨r, mv, x, hl, ha, hb, wd, ov, rfl, hh, h, k⟩ := h
  have h3 : H hl = some _ := hh.1
  refine ⟨_, pss_cons (ps_if (pt_cmpR op_eq (pv 2) pe_str (nomark _)) (pss_one (ps_ret (x_m0 (ok_Move_over T) (can hr) (kls_Move T) (m_Move_round T) (pasE (L2N.takes_of rfl rfl rfl rfl)) (pv 0)))) pss_nil) (pss_cons (ps_if (pt_cmpR op_eq (pv 2) pe_str (nomark _)) (pss_one (ps_ret (x_m0 (ok_Move_overF T) (can hr) (kls_Move T) (m_Move_finish T) (pasE (L2N.takes_of rfl rfl rfl rfl)) (pv 0)))) pss_nil) (pss_cons (ps_if (pt_cmpR op_eq (pv 2) pe_str (nomark _)) (pss_one (ps_ret (x_m0 (ok_Move_overD T) (can hr) (kls_Move T) (m_Move_drop T) (pasE (L2N.takes_of rfl rfl rfl rfl)) (pv 0)))) pss_nil) (pss_cons (ps_if (pt_cmpR op_eq (pv 2) pe_str (nomark _)) (pss_one (ps_ret (x_m (ok_House_end T) (can hr) (kls_House T) (m_House_end T) (pasE (L2N.takes_of rfl rfl rfl rfl)) (pe_ix ix_list (pv 1) pe_int (fun _ _ => rfl)) (pa_cons pe_str pa_nil)))) pss_nil) (pss_one (ps_ret (x_make (mk_Move T) (ok_Move_init T) (hr.mono (by decide)) (g_Move T) (pasE (L2N.takes_of rfl rfl rfl rfl)) (pa_cons (pe_ix ix_list (pv 1) pe_int (fun _ _ => rfl)) (pa_cons pe_str (pa_cons (pe_ix ix_list (pv 1) pe_int (fun _ _ => rfl)) (pa_cons pe_str (pa_cons pe_int (pa_cons pe_int pa_nil)))))))))))), ?_⟩
  walk_at "w"
  rcases h with ⟨rfl, rfl, ⟨dx, ho⟩, hx⟩ | ⟨h, rfl, ⟨dx, ho⟩, hx⟩ | ⟨h, rfl, k0, b, os, m, so, v, hG⟩
  · have h1 : H mv = some _ := ho.1
    refine ite_y rfl ?_
    walk_at "w"
    exact ⟨r, mv, x, rfl, ⟨dx, ho⟩, hx, k H (Same.refl _)⟩
  · have h1 : H mv = some _ := ho.1
    rcases h with rfl | rfl
    · walk_at "w"
      exact ⟨r, mv, x, rfl, ⟨dx, ho⟩, hx, k H (Same.refl _)⟩
    · walk_at "w"
      exact ⟨r, mv, x, rfl, ⟨dx, ho⟩, hx, k H (Same.refl _)⟩
  · obtain ⟨A0, mo, obj, F, D, DW, MD, hg, hW, hM⟩ := id hG
    have g1 : H ha = some _ := hg.ob.1
    rcases h with rfl | rfl
    · walk_at "w"
      refine q_ixL h3 (v := .ref ha) rfl ?_
      refine q_pM g1 ?_
      walk_at "w"
      exact ⟨b, r, k0, ha, A0, _, D, _, rfl, hg, mo, obj, some v, rfl, rfl, .inr ⟨⟨v, rfl⟩, k H (Same.refl _)⟩⟩
    · walk_at "w"
      refine q_ixL h3 (v := .ref ha) rfl ?_
      walk_at "w"
      refine q_ixL h3 (v := .ref hb) rfl ?_
      walk_at "w"
      refine fun y dx hy hdx hne => ?_
      refine HS.make (s := ⟨H, r⟩) (C := He.ga K "Move") (Pq := fun H' => ∃ b b2, sp_Mv_init K b b2 [.ref y, .ref ha, .str "a", .ref hb, .str "pairs", .int 1, .int 1] H' _ _) (3, 0) hy hdx hne fun u su hu => ?_
      exact ⟨b, true, u.r, y, dx, ha, hb, k0, 0, some v, os, m, so, 1, 1, rfl, hu, hG.step su (fun _ _ => id), .inr ⟨⟨v, rfl⟩, k _ (su.toSame fun _ => id)⟩⟩
end
end SP

/-! B25 -/
set_option maxHeartbeats 4100000
namespace SP
open PySem PySem.Spec PyProof.Rows L2 L2H
local macro_rules | `(tactic| walk_at "u") => `(tactic| (dsimp only [tRet, tSeq, tAsg, tDrop, tIfS, tNext, tRetN, tBreak, tCont, tOp, tUn, tCons, tNil, tCallX, tM, tF, sSet, sNew, sAug, tMakeX, tTest, tB, tAnd, tOr, tNot, tAndV, tOrV, tNotV, tIf, tChain, tCB, tBM, tBM0, tTup, tLst, gName, tC, tIsN, tNotN, tDIn, tDNotIn, tDGet, sDPut, tDPop1, gCons, gNil, tSl, tPart, tNoPart, tYes, tVeI]))
local macro_rules | `(tactic| walk_at "o") => `(tactic| (first | assumption | (with_reducible rfl) | omega | (intro hh; cases hh; done) | (simp only [List.length_map, List.length_replicate, List.length_range, List.length_append, List.length_cons, List.length_nil]; omega)))
local macro_rules | `(tactic| walk_at "q") => `(tactic| (repeat (first
  | ((with_reducible refine' q_var ?hq ?_); (case hq => rfl))
  | ((with_reducible refine' q_pF ?ha ?hq ?_); (case ha => assumption); (case hq => rfl))
  | ((with_reducible refine' q_pM ?ha ?_); (case ha => assumption))
  | (with_reducible refine q_I0 ?_)
  | (with_reducible refine q_isInt ?_)
  | (with_reducible refine q_isBool ?_)
  | (with_reducible refine iteT ?_)
  | (with_reducible refine iteF ?_)
  | (with_reducible refine iteSN ?_)
  | (with_reducible refine iteSS ?_)
  | (with_reducible refine iteNSN ?_)
  | (with_reducible refine iteNSS ?_)
  | (with_reducible refine iteNT ?_)
  | (with_reducible refine iteNF ?_)
  | (with_reducible refine q_eqI ?_)
  | (with_reducible refine q_neI ?_)
  | ((with_reducible refine' q_eq ?hq ?_); (case hq => rfl))
  | ((with_reducible refine' q_ne ?hq ?_); (case hq => rfl))
  | (with_reducible refine q_lenL (by assumption) ?_)
  | (with_reducible refine q_lenT (by assumption) ?_)
  | (with_reducible refine q_is_whole ?_)
  | (with_reducible refine q_is_word ?_)
  | (with_reducible refine q_is_below ?_)
  | ((with_reducible refine' And.intro (q_tyL ?ha) ?_); (case ha => assumption))
  | ((with_reducible refine' ⟨_, _, rfl, g_dO ?ha, ?_⟩); (case ha => assumption))
  | ((with_reducible refine' ⟨_, _, rfl, p_dO ?ha, ?_⟩); (case ha => assumption))
  | ((with_reducible refine' ⟨_, Sum.inr "a", _, ?ha, kV_a, valV_dO _, ?_⟩); (case ha => assumption); (rw [dropK_dO]))
  | ((with_reducible refine' ⟨_, rfl, isD_dO ?ha, ?_⟩); (case ha => assumption))
  | (with_reducible refine q_ip ?_)
  | (with_reducible refine q_rAdd ?_)
  | (with_reducible refine q_rSub ?_)
  | (with_reducible refine q_has ?_)
  | (with_reducible refine q_put ?_)
  | (with_reducible refine q_taken ?_)
  | (with_reducible refine q_page_of ?_)
  | (with_reducible refine q_pow48 ?_)
  | (with_reducible refine q_pow40 ?_)
  | ((with_reducible refine' q_I ?hq ?_); (case hq => first | assumption | decide | omega | exact q_div1 (by omega) _ | exact mul_ok (by omega) | exact pow_ok (by decide)))
  | ((with_reducible refine' ite_y ?hq ?_); (case hq => walk_at "o"))
  | ((with_reducible refine' ite_n ?hq ?_); (case hq => walk_at "o"))
  | ((with_reducible refine' ite_nn ?hq ?_); (case hq => walk_at "o"))
  | ((with_reducible refine' ite_ny ?hq ?_); (case hq => walk_at "o"))
  | (with_reducible
                    refine ⟨_, rfl, ?_⟩)
  | (with_reducible refine ⟨_, _, rfl, ?_⟩)
  | (with_reducible refine ⟨rfl, ?_⟩))))
local macro_rules | `(tactic| walk_at "w") => `(tactic| ((try (walk_at "u")); (walk_at "q"); (try (walk_at "u")); (walk_at "q")))
theorem hu64 {k : Nat} {X : Cx} (r : Room k X.A) : X.A.units + 64 < cLine := by
  have := r.un
  omega
def tTryAs (X : Cx) (Wout : WX) (c : Value) (i : Nat) (body suite : List Stmt) : TS := fun D σ H => ∃ (cls0 : Value) (ts : Addr → TS), (∀ (a : Addr) (oe : Obj) (pn : List (Addr × Obj)), L2N.Zn cls0 none oe → (∃ vs, oe.data = .fields vs) → PSs (X.suite a ((a, oe) :: pn)) suite (ts a)) ∧
  ∃ tb : TS, (∀ (pn : List (Addr × Obj)) (xe : Value → Shared → Prop), L2N.Takes (X.tr pn xe) (wAs X.K c i (fun a cls d D' σ' H' => cls = cls0 ∧ d = none ∧ ts a D' σ' H') Wout D) → PSs (X.tr pn xe) body tb) ∧ tb D σ H
theorem x_tryAs {X : Cx} {Wout : WX} {c : Value} {x n : Str} {i : Nat} {body suite : List Stmt} {b₀ : Stmt} {np pos pos' : Pos} (hs : X.stack = X.env :: X.outer) (hf : X.env.frame = some X.env.locals) (hN : X.N.Nodup) (hi : X.N[i]? = some n) (hln : X.env.kindOf n = some .local) (hc : Names X x c) (tk : L2N.Takes X Wout) :
    PS X (.Try body [.ExceptHandler (some (.Name x np)) (some n) (b₀ :: suite) pos'] [] [] pos) (tTryAs X Wout c i body (b₀ :: suite)) := by
  refine ⟨fun pins s σ H D I ⟨cls0, ts, hsu, tb, hb, h⟩ => ?_⟩
  refine (L2N.ps_try_as (tb := fun W D' σ' H' => W = wAs X.K c i (fun a cls d D' σ' H' => cls = cls0 ∧ d = none ∧ ts a D' σ' H') Wout D ∧ tb D' σ' H') (ts := fun a cls d D' σ' H' => cls = cls0 ∧ d = none ∧ ts a D' σ' H') hs hf hN hi hln hc tk (fun W pn xe tkW _ => ?_) (fun a oe cls d pn hz hv => ?_)).run pins s σ H D I ⟨rfl, h⟩
  · exact ⟨fun pins' s' σ' H' D' I' ⟨e, h'⟩ => (hb pn xe (e ▸ tkW)).run pins' s' σ' H' D' I' h'⟩
  · exact ⟨fun pins' s' σ' H' D' I' ⟨e1, e2, h'⟩ => by subst e1 e2; exact (hsu a oe pn hz hv).run pins' s' σ' H' D' I' h'⟩
def kindsD (ov : Bool) : List PyData := [.bool ov, .bool (!ov), .bool true] ++ List.replicate 15 (.bool false)
theorem kinds_dp {K : PySem.W.Frag} {H : Hp} (ov : Bool) : DpAll K H (kinds18 ov) (kindsD ov) := by
  show DpAll K H (.bl ov :: .bl (!ov) :: .bl true :: List.replicate 15 (.bl false)) (.bool ov :: .bool (!ov) :: .bool true :: List.replicate 15 (.bool false))
  refine .cons (.bl _) (.cons (.bl _) (.cons (.bl _) ?_))
  generalize 15 = n
  induction n with
  | zero => exact .nil
  | succ n ih => exact .cons (.bl _) ih
theorem refE.step {K : PySem.W.Frag} {s t : HS} {mv : Addr} {x : MV} {ha : Addr} {wd : Str} {ov : Bool} (h : refE K s mv x ha wd ov) (st : Step (fun _ => False) s t) : refE K t mv x ha wd ov := by
  rcases h with ⟨h1, h2, h3, h4⟩ | ⟨h1, h2, h3, h4⟩ | ⟨h1, h2, k, b, os, m, so, v, h3⟩
  · exact .inl ⟨h1, h2, h3.step st id, h4⟩
  · exact .inr (.inl ⟨h1, h2, h3.step st id, h4⟩)
  · exact .inr (.inr ⟨h1, h2, k, b, os, m, so, v, h3.step st fun _ _ => id⟩)
theorem shaped_kinds (ov : Bool) : SeqAt.shaped (.list (kindsD ov)) = true := by cases ov <;> decide +kernel
theorem eqv_kinds (ov : Bool) : PyData.eqv (.list (kindsD ov)) (.list (kindsD ov)) = true := by cases ov <;> decide +kernel
def sp_refused (K : PySem.W.Frag) : Sp := fun vs H Q _ => ∃ r mv x hl ha hb wd ov, vs = [.ref mv, .ref hl, .str wd, .bl ov] ∧ At ⟨H, r⟩ hl (1, 0) (.lst [.ref ha, .ref hb]) ∧ refE K ⟨H, r⟩ mv x ha wd ov ∧ ∀ H', Same H H' → Q (.bl true) H'
section
variable {P : Program} {w : World} {K :
                                        PySem.W.Frag} {mg : Str → Option Value} {base : Heap}
theorem ok_law_refused (T : TX K mg) : Fn P w K mg base false 22 (He.ga K "_law_refused") (sp_refused K) := by
  refine (f_law_refused T).calm 21 (fun vs H Q E h => by obtain ⟨_, _, _, _, _, _, _, _, z, _⟩ := h; rw [z] <;> rfl) (fun cdv A outer s H vs Q E hr h => ?_)
  obtain ⟨r, mv, x, hl, ha, hb, wd, ov, rfl, hh, h, k⟩ := h
  refine ⟨_, pss_cons (ps_set (i := 4) (f_law_refused T).nd rfl (Or.inl rfl) (pe_lst pa_nil)) (pss_cons (x_tryAs (i := 5) rfl rfl (f_law_refused T).nd rfl rfl ⟨rfl, by decide, .inl (g_HouseError T)⟩ (L2N.takes_of rfl rfl rfl rfl)) (pss_one (ps_ret (pe_cmpR (op_eqD (hu64 hr)) (pv 4) (pe_op op_cat (pe_lst (pa_cons (pv 3) (pa_cons (pe_not (pv 3)) (pa_cons pe_bl pa_nil)))) (pe_op op_rep (pe_lst (pa_cons pe_bl pa_nil)) pe_int)) (nomark _))))), ?_⟩
  walk_at "w"
  refine ⟨(show 0 ≤ sizeLine by decide), fun p0 n0 => ?_⟩
  walk_at "w"
  have F : FnHE P w K mg base 1 (He.ga K "_law_kinds") (He.ga K (if ov then "Over" else "Busy")) (fun H Q => ∀ H' l, Same H H' → H l = none → H' l = some (.lst (kinds18 ov)) → Q (.ref l) H') := by
    cases ov with
    | true => exact ok_law_kindsOver T
    | false => exact ok_law_kindsBusy T
  have xm : PySem.W.exmOne K (excN K ov) (.ref (He.ga K "HouseError")) = some true := by
    cases ov with
    | true => exact xm_Over T
    | false => exact xm_Busy T
  have s0 : Step (fun _ => False) ⟨H, r⟩ ⟨upd H p0 (.lst []), r⟩ := Step.same (same_new n0)
  refine ⟨excN K ov, fun a => tAsg (fun σ H Q => σ[5]? = some (some (.ref a)) ∧ ∀ H' l, Same H H' → H l = none → H' l = some (.lst (kinds18 ov)) → Q (.ref l) H') (gName 4), fun a oe pn hz hv => ?_, _, fun pn xe tk => pss_one (ps_expr (x_call (ok_law_do T) (can hr) (g_law_do T) (f_law_do T).kp (fun σ => L2N.passAt tk σ) (pa_cons (pv 0) (pa_cons (pv 1) (pa_cons (pv 2) pa_nil))))), ?_⟩
  · exact pss_one (ps_set (i := 4) (f_law_refused T).nd rfl (Or.inl rfl) (x_callE F ⟨(hr.mono (show 1 ≤ 21 by decide)).dp, (hr.mono (show 1 ≤ 21 by decide)).un⟩ hz.zc (by obtain ⟨vs, e⟩ := hv; exact ⟨vs, e, hz.2.2 vs e⟩) rfl (Or.inl rfl) (g_law_kinds T) (f_law_kinds T).kp))
  · walk_at "w"
    refine ⟨r, mv, x, hl, ha, hb, wd, ov, rfl, hh.step s0 id, h.step s0, fun H1 e1 => ?_⟩
    refine ⟨true, xm, fun _ a na => ⟨rfl, rfl, ?_⟩, fun z => by cases z⟩
    refine ⟨rfl, fun H2 l e2 nl dl => ?_⟩
    walk_at "w"
    refine ⟨(show 3 ≤ sizeLine by decide), fun p1 n1 => ?_⟩
    walk_at "w"
    refine ⟨(show 1 ≤ sizeLine by decide), fun p2 n2 => ?_⟩
    walk_at "w"
    refine q_rep1 (n := 15) upd_same (by decide) fun p3 n3 => ?_
    walk_at "w"
    have d1 : (upd (upd (upd H2 p1 (.lst [.bl ov, .bl (!ov), .bl true])) p2 (.lst [.bl false])) p3 (.lst (List.replicate 15 (.bl false)))) p1 = some (.lst [.bl ov, .bl (!ov), .bl true]) := same_new n3 _ _ (same_new n2 _ _ upd_same)
    refine q_cat d1 upd_same (show 18 ≤ 10000 by decide) fun p4 n4 => ?_
    have sm := (same_new n1).trans ((same_new n2).trans ((same_new n3).trans (same_new (o := .lst ([.bl ov, .bl (!ov), .bl true] ++ List.replicate 15 (.bl false))) n4)))
    refine ⟨.list (kindsD ov), .list (kindsD ov), .lst (SqL.of (sm _ _ dl)) (kinds_dp ov), .lst (SqL.of upd_same) (kinds_dp ov), shaped_kinds ov, shaped_kinds ov, ?_⟩
    rw [eqv_kinds]
    exact k _ ((same_new n0).trans (e1.trans (e2.trans sm)))
end
end SP

/-! B26 -/
set_option maxHeartbeats 4100000
namespace SP
open PySem PySem.Spec PyProof.Rows L2 L2H
local macro_rules | `(tactic| walk_at "u") => `(tactic| (dsimp only [tRet, tSeq, tAsg, tDrop, tIfS, tNext, tRetN, tBreak, tCont, tOp, tUn, tCons, tNil, tCallX, tM, tF, sSet, sNew, sAug, tMakeX, tTest, tB, tAnd, tOr, tNot, tAndV, tOrV, tNotV, tIf, tChain, tCB, tBM, tBM0, tTup, tLst, gName, tC, tIsN, tNotN, tDIn, tDNotIn, tDGet, sDPut, tDPop1, gCons, gNil, tSl, tPart, tNoPart, tYes, tVeI]))
local macro_rules | `(tactic| walk_at "o") => `(tactic| (first | assumption | (with_reducible rfl) | omega | (intro hh; cases hh; done) | (simp only [List.length_map, List.length_replicate, List.length_range, List.length_append, List.length_cons, List.length_nil]; omega)))
local macro_rules | `(tactic| walk_at "q") => `(tactic| (repeat (first
  | ((with_reducible refine' q_var ?hq ?_); (case hq => rfl))
  | ((with_reducible refine' q_pF ?ha ?hq ?_); (case ha => assumption); (case hq => rfl))
  | ((with_reducible refine' q_pM ?ha ?_); (case ha => assumption))
  | (with_reducible refine q_I0 ?_)
  | (with_reducible refine q_isInt ?_)
  | (with_reducible refine q_isBool ?_)
  | (with_reducible refine iteT ?_)
  | (with_reducible refine iteF ?_)
  | (with_reducible refine iteSN ?_)
  | (with_reducible refine iteSS ?_)
  | (with_reducible refine iteNSN ?_)
  | (with_reducible refine iteNSS ?_)
  | (with_reducible refine iteNT ?_)
  | (with_reducible refine iteNF ?_)
  | (with_reducible refine q_eqI ?_)
  | (with_reducible refine q_neI ?_)
  | ((with_reducible refine' q_eq ?hq ?_); (case hq => rfl))
  | ((with_reducible refine' q_ne ?hq ?_); (case hq => rfl))
  | (with_reducible refine q_lenL (by assumption) ?_)
  | (with_reducible refine q_lenT (by assumption) ?_)
  | (with_reducible refine q_is_whole ?_)
  | (with_reducible refine q_is_word ?_)
  | (with_reducible refine q_is_below ?_)
  | ((with_reducible refine' And.intro (q_tyL ?ha) ?_); (case ha => assumption))
  | ((with_reducible refine' ⟨_, _, rfl, g_dO ?ha, ?_⟩); (case ha => assumption))
  | ((with_reducible refine' ⟨_, _, rfl, p_dO ?ha, ?_⟩); (case ha => assumption))
  | ((with_reducible refine' ⟨_, Sum.inr "a", _, ?ha, kV_a, valV_dO _, ?_⟩); (case ha => assumption); (rw [dropK_dO]))
  | ((with_reducible refine' ⟨_, rfl, isD_dO ?ha, ?_⟩); (case ha => assumption))
  | (with_reducible refine q_ip ?_)
  | (with_reducible refine q_rAdd ?_)
  | (with_reducible refine q_rSub ?_)
  | (with_reducible refine q_has ?_)
  | (with_reducible refine q_put ?_)
  | (with_reducible refine q_taken ?_)
  | (with_reducible refine q_page_of ?_)
  | (with_reducible refine q_pow48 ?_)
  | (with_reducible refine q_pow40 ?_)
  | ((with_reducible refine' q_I ?hq ?_); (case hq => first | assumption | decide | omega | exact q_div1 (by omega) _ | exact mul_ok (by omega) | exact pow_ok (by decide)))
  | ((with_reducible refine' ite_y ?hq ?_); (case hq => walk_at "o"))
  | ((with_reducible refine' ite_n ?hq ?_); (case hq => walk_at "o"))
  | ((with_reducible refine' ite_nn ?hq ?_); (case hq => walk_at "o"))
  | ((with_reducible refine' ite_ny ?hq ?_); (case hq => walk_at "o"))
  | (with_reducible
                    refine ⟨_, rfl, ?_⟩)
  | (with_reducible refine ⟨_, _, rfl, ?_⟩)
  | (with_reducible refine ⟨rfl, ?_⟩))))
local macro_rules | `(tactic| walk_at "w") => `(tactic| ((try (walk_at "u")); (walk_at "q"); (try (walk_at "u")); (walk_at "q")))
/-! ### the told states as data -/
def pgsD (pgs : List (List Int)) : PyData := .list (pgs.map fun ws => .list (ws.map PyData.int))
def coreD (m : MS) : PyData := .tuple [.list [.int m.r0, .int m.r1, .int 0, .int 0], .int m.c, .bool true, .tuple [.int 0, .int 0, .int 0, .bool true], .bool false]
def toldD (m : MS) : PyData := .tuple [coreD m, .int 0, .list [], pgsD m.pgs]
def emptyD : PyData := .list [.list [], .int 0, .int 40]
def guestD (b : Bool) (m : MS) (pl : Int) (fr : Nat) : PyData := .list [.list [.list [.str "a", toldD m, .list [], .list [], .str (wayS b)]], .int pl, .int fr]
theorem ints_can (ws : List Int) : PyData.canLayAll0 (ws.map PyData.int) = true := by
  induction ws with
  | nil => rfl
  | cons x l ih => rw [List.map_cons, PyData.canLayAll0, ih] <;> rfl
theorem pgs_can (pgs : List (List Int)) : PyData.canLayAll0 (pgs.map fun ws => .list (ws.map PyData.int)) = true := by
  induction pgs with
  | nil => rfl
  | cons x l ih => rw [List.map_cons, PyData.canLayAll0, ih, PyData.canLay0, ints_can] <;> rfl
theorem ints_depth (ws : List Int) : PyData.depthAll (ws.map PyData.int) = 0 := by
  induction ws with
  | nil => rfl
  | cons x l ih => rw [List.map_cons, PyData.depthAll, ih] <;> rfl
theorem pgs_depth (pgs : List (List Int)) : PyData.depthAll (pgs.map fun ws => .list (ws.map PyData.int)) ≤ 1 := by
  induction pgs with
  | nil => exact Nat.zero_le _
  | cons x l ih =>
    rw [List.map_cons, PyData.depthAll, PyData.depth, ints_depth]
    omega
theorem shaped_told (m : MS) : SeqAt.shaped (toldD m) = true := by
  unfold SeqAt.shaped
  rw [Bool.and_eq_true, decide_eq_true_iff]
  have h := pgs_depth m.pgs
  constructor
  · simp [toldD, coreD, pgsD, PyData.canLay0, PyData.canLayAll0, pgs_can]
  · simp only [toldD, coreD, pgsD, PyData.depth, PyData.depthAll]
    omega
theorem shaped_guest (b : Bool) (m : MS) (pl : Int) (fr : Nat) : SeqAt.shaped (guestD b m pl fr) = true := by
  unfold SeqAt.shaped
  rw [Bool.and_eq_true, decide_eq_true_iff]
  have h := pgs_depth m.pgs
  have h1 : PyData.canLay0 (.str "a") = true := by decide +kernel
  have h2 : PyData.canLay0 (.str (wayS b)) = true := by cases b <;> decide +kernel
  constructor
  · simp [guestD, toldD, coreD, pgsD, PyData.canLay0, PyData.canLayAll0, pgs_can] at h1 h2 ⊢
    exact ⟨h1, h2⟩
  · simp only [guestD, toldD, coreD, pgsD, PyData.depth, PyData.depthAll]
    omega
theorem eqv_of_shaped {d : PyData} (h : SeqAt.shaped d = true) : PyData.eqv d d = true := SeqAt.eqv_refl_plain d (PyData.plain_of_canLay0 d (SeqAt.canLay_of_shaped h))
theorem ints_dp {K : PySem.W.Frag} {H : Hp} (ws : List Int) : DpAll K H (ws.map V.int) (ws.map PyData.int) := by
  induction ws with
  | nil => exact .nil
  | cons x l ih => exact .cons (.int _) ih
theorem pgs_dp {K : PySem.W.Frag} {s : HS} {l : Addr} {c0 c1 : Nat} {pgs : List (List Int)} (h : PgsR s l c0 c1 pgs) : Dp K s.h (.ref l) (pgsD pgs) := by
  obtain ⟨as, h1, h2, h3⟩ := h
  refine .lst (SqL.of h1.1) ?_
  have key : ∀ (as : List Addr) (pgs : List (List Int)), as.length = pgs.length → (∀ (i : Nat) (a : Addr) (ws : List Int), as[i]? = some a → pgs[i]? = some ws → At s a (c1, 0) (.lst (ws.map V.int))) → DpAll K s.h (as.map V.ref) (pgs.map fun ws => PyData.list (ws.map PyData.int)) := by
    intro as
    induction as with
    | nil =>
      intro pgs hl _
      cases pgs with
      | nil => exact .nil
      | cons _ _ => cases hl
    | cons a as ih =>
      intro pgs hl hh
      cases pgs with
      | nil => cases hl
      | cons ws pgs => exact .cons (.lst (SqL.of (hh 0 a ws rfl rfl).1) (ints_dp ws)) (ih pgs (Nat.succ.inj hl) fun i a ws x y => hh (i + 1) a ws x y)
  exact key as pgs h2 h3
theorem core_dp {K : PySem.W.Frag} {s : HS} {a : Addr} {m : MS} (h : CoreAt s a m) : Dp K s.h (.ref a) (coreD m) := by
  obtain ⟨cs, ft, h1, h2, h3⟩ := h
  exact .tup (SqT.of h1.1) (.cons (.lst (SqL.of h2.1) (.cons (.int _) (.cons (.int _) (.cons (.int _) (.cons (.int _) .nil))))) (.cons (.int _) (.cons (.bl _) (.cons (.tup (SqT.of h3.1) (.cons (.int _) (.cons (.int _) (.cons (.int _) (.cons (.bl _) .nil))))) (.cons (.bl _) .nil)))))
theorem told_dp {K : PySem.W.Frag} {s : HS} {a : Addr} {m : MS} (h : ToldAt s a m) : Dp K s.h (.ref a) (toldD m) := by
  obtain ⟨co, sh, pg, h1, h2, h3, h4⟩ := h
  exact .tup (SqT.of h1.1) (.cons (core_dp h2) (.cons (.int _) (.cons (.lst (SqL.of h3.1) .nil) (.cons (pgs_dp h4) .nil))))
/-- data read at t, and at every later state that leaves what is told as it is -/
def StD (K : PySem.W.Frag) (t : HS) (v : V) (d : PyData) : Prop := ∀ (R : Nat → Prop) (u : HS), Step R t u → ¬ R 0 → ¬ R 2 → ¬ R 100 → ¬ R 103 → Dp K u.h v d
theorem StD.now {K : PySem.W.Frag} {t : HS} {v : V} {d : PyData} (h : StD K t v d) : Dp K t.h v d := h (fun _ => False) t Step.refl id id id id
theorem StD.step {K : PySem.W.Frag} {t u : HS} {v : V} {d : PyData} {R : Nat → Prop} (h : StD K t v d) (st : Step R t u) (n0 : ¬ R 0) (n2 : ¬ R 2) (n100 : ¬ R 100) (n103 : ¬ R 103) : StD K u v d := fun R' w s' m0 m2 m100 m103 =>
  h (fun x => R x ∨ R' x) w ((st.mono fun _ z => .inl z).trans (s'.mono fun _ z => .inr z)) (fun z => z.elim n0 m0) (fun z => z.elim n2 m2) (fun z => z.elim n100 m100) (fun z => z.elim n103 m103)
/-- what a house is, and the data it tells -/
def HouseIs (K : PySem.W.Frag) (s : HS) (k : Nat) (h : Addr) (d : PyData) : Prop :=
  (∃ A D, HsAt K s k h A dNone D ∧ FrAt K s (4 * k + 4) A emptyF ∧ d = emptyD) ∨
  ∃ A mo obj F D DW MD b bou os m so, HsAt K s k h A (dGuest mo obj b bou) D ∧ WayAt K s k b obj A F m.pgs so DW ∧ MachAt K s k mo obj os m MD ∧ d = guestD b m F.pl F.free
theorem HouseIs.step {K : PySem.W.Frag} {s t : HS} {k : Nat} {h : Addr} {d : PyData} {R : Nat → Prop} (x : HouseIs K s k h d) (st : Step R s t) (n : OffH R k) : HouseIs K t k h d := by
  rcases x with ⟨A, D, h1, h2, h3⟩ | ⟨A, mo, obj, F, D, DW, MD, b, bou, os, m, so, h1, h2, h3, h4⟩
  · exact .inl ⟨A, D, h1.step st (n.n (i := 3) (by decide)), h2.step st (n.n (i := 0) (by decide)), h3⟩
  · exact .inr ⟨A, mo, obj, F, D, DW, MD, b, bou, os, m, so, h1.step st (n.n (i := 3) (by decide)), h2.step st (n.n (i := 0) (by decide)) (n.n (i := 1) (by decide)), h3.step st (n.n (i := 2) (by decide)) (n 2 (.inr rfl)), h4⟩
theorem HouseIs.shaped {K : PySem.W.Frag} {s : HS} {k : Nat} {h : Addr} {d : PyData} (x : HouseIs K s k h d) : SeqAt.shaped d = true := by
  rcases x with ⟨A, D, _, _, rfl⟩ | ⟨A, mo, obj, F, D, DW, MD, b, bou, os, m, so, _, _, _, rfl⟩
  · decide +kernel
  · exact shaped_guest _ _ _ _
theorem emptyF_free : emptyF.free = 40 := by decide +kernel
def sp_state (K : PySem.W.Frag) : Sp := fun vs H Q _ => ∃ r k h d, vs = [.ref h] ∧ k < 10 ∧ HouseIs K ⟨H, r⟩ k h d ∧ Does (fun _ => False) ⟨H, r⟩ Q fun v t => StD K t v d
section
variable {P : Program} {w : World} {K :
                                        PySem.W.Frag} {mg : Str → Option Value} {base : Heap}
theorem ok_law_state (T : TX K mg) : Fn P w K mg base false 14 (He.ga K "_law_state") (sp_state K) := by
  refine (f_law_state T).calm 13 (fun vs H Q E h => by obtain ⟨_, _, _, _, z, _⟩ := h; rw [z] <;> rfl) (fun cdv A outer s H vs Q E hr h => ?_)
  obtain ⟨r, k, ho, d, rfl, hk, hI, q⟩ := h
  refine ⟨_, pss_cons (ps_set (i := 1) (f_law_state T).nd rfl (Or.inl rfl) (pe_lst pa_nil)) (pss_cons (ps_for (passes_of rfl) rfl (pi_list (x_m0 (ok_House_names T) (can hr) (kls_House T) (m_House_names T) (fun _ => pas0) (pv 0))) (pg_name (i := 2) (f_law_state T).nd rfl (Or.inl rfl)) (pss_one (ps_expr (x_app (pv 1) (pe_lst (pa_cons (pv 2) (pa_cons (x_m (ok_House_told T) (can hr) (kls_House T) (m_House_told T) (fun _ => pas0) (pv 0) (pa_cons (pv 2) pa_nil)) (pa_cons (x_m (ok_House_events T) (can hr) (kls_House T) (m_House_events T) (fun _ => pas0) (pv 0) (pa_cons (pv 2) pa_nil)) (pa_cons (x_m (ok_House_words T) (can hr) (kls_House T) (m_House_words T) (fun _ => pas0) (pv 0) (pa_cons (pv 2) pa_nil)) (pa_cons (x_m (ok_House_way T) (can hr) (kls_House T) (m_House_way T) (fun _ => pas0) (pv 0) (pa_cons (pv 2) pa_nil)) pa_nil)))))))))) (pss_one (ps_ret (pe_lst (pa_cons (pv 1) (pa_cons (x_m0 (ok_House_promised T) (can hr) (kls_House T) (m_House_promised T) (fun _ => pas0) (pv 0)) (pa_cons (x_m0 (ok_House_free T) (can hr) (kls_House T) (m_House_free T) (fun _ => pas0) (pv 0)) pa_nil))))))), ?_⟩
  walk_at "w"
  refine ⟨(show 0 ≤ sizeLine by decide), fun p0 n0 => ?_⟩
  have s0 := Step.new (R := fun _ => False) (s := ⟨H, r⟩) (q := (0, 0)) (o := .lst []) n0
  have a0 := At.made (s := HS.mk H r) (a := p0) (q := (0, 0)) (o := .lst [])
  rcases hI with ⟨A0, D, hh, hF, rfl⟩ | ⟨A0, mo, obj, F, D, DW, MD, b, bou, os, m, so, hh, hW, hM, rfl⟩
  · have hh0 := hh.step s0 id
    have g1 := hh0.ob.1
    refine fr_list0 ?_
    walk_at "w"
    refine ⟨_, k, ho, A0, _, D, _, rfl, hh0, rfl, fun l hl => ?_⟩
    have s1 := a0.stN (R := fun _ => False) (q := (0, 0)) (o := .lst []) hl
    refine ⟨l, rfl, ⟨_, SqL.of upd_same⟩, ?_⟩
    refine fo_list (xs := []) (fun i σ H2 => (∃ c, σ = [some (V.ref ho), some (V.ref p0), c]) ∧ H2 = upd (upd H p0 (.lst [])) l (.lst [])) ⟨⟨_, rfl⟩, rfl⟩ (fun i σ H2 _ ⟨_, e⟩ => by subst e; exact SqL.of upd_same) (fun i x σ H2 hx => by cases hx) fun σ H2 ⟨⟨c, hσ⟩, e⟩ => ?_
    subst hσ e
    have hh1 := hh0.step s1 id
    have hF1 := (hF.step s0 id).step s1 id
    have a1 := a0.step s1 id
    have g1 := hh1.ob.1
    walk_at "w"
    refine ⟨_, k, ho, A0, _, D, _, rfl, hh1, _, rfl, hF1, ?_⟩
    walk_at "w"
    refine ⟨_, k, ho, A0, _, D, _, rfl, hh1, _, rfl, hF1, ?_⟩
    walk_at "w"
    refine ⟨(show 3 ≤ sizeLine by decide), fun p2 n2 => ?_⟩
    have s2 := a1.stN (R := fun _ => False) (q := (0, 0)) (o := .lst [.ref p0, .int 0, .int (emptyF.free : Nat)]) n2
    have a2 := a1.step s2 id
    have a3 := a1.md (a := p2) (q := (0, 0)) (o := .lst [.ref p0, .int 0, .int (emptyF.free : Nat)])
    refine q _ _ (s0.trans (s1.trans s2)) fun R u su m0 m2 m100 m103 => ?_
    have z := (a3.step su m0).1
    rw [emptyF_free] at z
    exact .lst (SqL.of z) (.cons (.lst (SqL.of (a2.step su m0).1) .nil) (.cons (.int _) (.cons (.int _) .nil)))
  · have s0 := Step.new (R := fun _ => False) (s := ⟨H, r⟩) (q := (103, 0)) (o := .lst []) n0
    have a0 := At.made (s := HS.mk H r) (a := p0) (q := (103, 0)) (o := .lst [])
    have hh0 := hh.step s0 id
    have g1 := hh0.ob.1
    refine fr_list0 ?_
    walk_at "w"
    refine ⟨_, k, ho, A0, _, D, _, rfl, hh0, rfl, fun l hl => ?_⟩
    have s1 := a0.stN (R := fun _ => False) (q := (0, 0)) (o := .lst [.str "a"]) hl
    have l1 := a0.md (a := l) (q := (0, 0)) (o := .lst [.str "a"])
    refine ⟨l, rfl, ⟨_, SqL.of upd_same⟩, ?_⟩
    refine fo_list (xs := [.str "a"]) (fun i σ H2 => (∃ c, σ = [some (V.ref ho), some (V.ref p0), c]) ∧ ∃ t, t.h = H2 ∧ Step (fun _ => False) ⟨H, r⟩ t ∧ Step (· = 103) (((HS.mk H r).new p0 (103, 0) (.lst [])).new l (0, 0) (.lst [.str "a"])) t ∧ (i = 0 → At t p0 (103, 0) (.lst [])) ∧ (i = 1 → ∃ e to ev wo, At t p0 (103, 0) (.lst [.ref e]) ∧
      At t e (0, 0) (.lst [.str "a", .ref to, .ref ev, .ref wo, .str (wayS b)]) ∧ ToldAt t to m ∧ At t ev (0, 0) (.lst []) ∧ At t wo (0, 0) (.lst []))) ⟨⟨_, rfl⟩, _, rfl, s0.trans s1, Step.refl, fun _ => a0.step s1 id, fun z => by cases z⟩
      (fun i σ H2 _ ⟨_, t, e, _, st, _⟩ => by subst e; exact SqL.of (l1.step st (by simp)).1) (fun i y σ H2 hy ⟨⟨c, hσ⟩, t, e, w0, st, h0, _⟩ => ?_) fun σ H2 ⟨⟨c, hσ⟩, t, e, w0, st, _, h1⟩ => ?_
    · subst hσ e
      have hi : i = 0 := by
        have := (List.getElem?_eq_some_iff.mp hy).1
        simp at this
        exact this
      subst hi
      cases hy
      have b0 := h0 rfl
      have hhT := (hh0.step s1 id).step st (by omega)
      have hWT := ((hW.step s0 id id).step s1 id id).step st (by omega) (by omega)
      have hMT := ((hM.step s0 id id).step s1 id id).step st (by omega) (by omega)
      have g0 : t.h p0 = some _ := b0.1
      have g1 := hhT.ob.1
      walk_at "w"
      refine ⟨t.r, k, ho, A0, _, D, _, rfl, hhT, b, mo, obj, os, m, MD, F, so, DW, rfl, rfl, hMT, hWT, ?_⟩
      rintro v t2 s2 ⟨to, rfl, hto⟩
      have hh2 := hhT.step s2 id
      have hW2 := hWT.step s2 id id
      have hM2 := hMT.step s2 id id
      have g1 := hh2.ob.1
      walk_at "w"
      refine ⟨t2.r, k, ho, A0, _, D, _, rfl, hh2, mo, obj, os, m, MD, rfl, rfl, hM2, fun ev hev => ?_⟩
      have s3 := Step.new (R := fun _ => False) (s := t2) (q := (0, 0)) (o := .lst []) hev
      have ev3 := At.made (s := t2) (a := ev) (q := (0, 0)) (o := .lst [])
      have hh3 := hh2.step s3 id
      have hW3 := hW2.step s3 id id
      have g1 := hh3.ob.1
      walk_at "w"
      refine ⟨b, _, k, ho, A0, _, D, _, rfl, hh3, _, obj, F, m.pgs, so, DW, rfl, rfl, rfl, hW3, fun wo hwo => ?_⟩
      have s4 := ev3.stN (R := fun _ => False) (q := (0, 0)) (o := .lst []) hwo
      have wo4 := ev3.md (a := wo) (q := (0, 0)) (o := .lst [])
      have ev4 := ev3.step s4 id
      have hh4 := hh3.step s4 id
      have g1 := hh4.ob.1
      walk_at "w"
      refine ⟨_, k, ho, A0, _, D, _, rfl, hh4, _, _, rfl, rfl, rfl, ?_⟩
      walk_at "w"
      refine ⟨(show 5 ≤ sizeLine by decide), fun e he => ?_⟩
      have s5 := ev4.stN (R := fun _ => False) (q := (0, 0)) (o := .lst [.str "a", .ref to, .ref ev, .ref wo, .str (wayS b)]) he
      have e5 := ev4.md (a := e) (q := (0, 0)) (o := .lst [.str "a", .ref to, .ref ev, .ref wo, .str (wayS b)])
      have b5 := ((((b0.step s2 id).step s3 id).step s4 id).step s5 id)
      walk_at "w"
      refine ⟨p0, [], .ref e, rfl, rfl, b5.1, (show 0 < sizeLine by decide), ?_⟩
      have s6 := Step.put1 (o' := .lst [.ref e]) b5
      have n103 : ¬ (0 = 103) := by decide
      refine ⟨⟨_, rfl⟩, _, rfl, (w0.trans (s2.trans (s3.trans (s4.trans s5)))).put_new n0, st.trans ((s2.mono fun _ z => z.elim).trans ((s3.mono fun _ z => z.elim).trans ((s4.mono fun _ z => z.elim).trans ((s5.mono fun _ z => z.elim).trans s6)))), (fun z => by cases z), fun _ => ⟨e, to, ev, wo, b5.self, e5.step s6 n103, ?_, (ev4.step s5 id).step s6 n103, (wo4.step s5 id).step s6 n103⟩⟩
      exact (((hto.step s3 id id id).step s4 id id id).step s5 id id id).step s6 n103 (by decide) (by decide)
    · subst hσ e
      obtain ⟨e, to, ev, wo, z1, z2, z3, z4, z5⟩ := h1 rfl
      have hhT := (hh0.step s1 id).step st (by omega)
      have hFT := ((hW.fr.step s0 id).step s1 id).step st (by omega)
      have g1 := hhT.ob.1
      walk_at "w"
      refine ⟨_, k, ho, A0, _, D, _, rfl, hhT, _, rfl, hFT, ?_⟩
      walk_at "w"
      refine ⟨_, k, ho, A0, _, D, _, rfl, hhT, _, rfl, hFT, ?_⟩
      walk_at "w"
      refine ⟨(show 3 ≤ sizeLine by decide), fun p2 n2 => ?_⟩
      have s7 := z1.stN (R := fun _ => False) (q := (0, 0)) (o := .lst [.ref p0, .int F.pl, .int F.free]) n2
      have p7 := z1.md (a := p2) (q := (0, 0)) (o := .lst [.ref p0, .int F.pl, .int F.free])
      refine q _ _ (w0.trans s7) fun R u su m0 m2 m100 m103 => ?_
      refine .lst (SqL.of (p7.step su m0).1) (.cons (.lst (SqL.of ((z1.step s7 id).step su m103).1) (.cons (.lst (SqL.of ((z2.step s7 id).step su m0).1) (.cons (.str _) (.cons (told_dp ((z3.step s7 id id id).step su m0 m2 m100)) (.cons (.lst (SqL.of ((z4.step s7 id).step su m0).1) .nil) (.cons (.lst (SqL.of ((z5.step s7 id).step su m0).1) .nil) (.cons (.str _) .nil)))))) .nil)) (.cons (.int _) (.cons (.int _) .nil)))
end
end SP

/-! B27 -/
set_option maxHeartbeats 4100000
namespace SP
open PySem PySem.Spec PyProof.Rows L2 L2H
local macro_rules | `(tactic| walk_at "u") => `(tactic| (dsimp only [tRet, tSeq, tAsg, tDrop, tIfS, tNext, tRetN, tBreak, tCont, tOp, tUn, tCons, tNil, tCallX, tM, tF, sSet, sNew, sAug, tMakeX, tTest, tB, tAnd, tOr, tNot, tAndV, tOrV, tNotV, tIf, tChain, tCB, tBM, tBM0, tTup, tLst, gName, tC, tIsN, tNotN, tDIn, tDNotIn, tDGet, sDPut, tDPop1, gCons, gNil, tSl, tPart, tNoPart, tYes, tVeI]))
local macro_rules | `(tactic| walk_at "o") => `(tactic| (first | assumption | (with_reducible rfl) | omega | (intro hh; cases hh; done) | (simp only [List.length_map, List.length_replicate, List.length_range, List.length_append, List.length_cons, List.length_nil]; omega)))
local macro_rules | `(tactic| walk_at "q") => `(tactic| (repeat (first
  | ((with_reducible refine' q_var ?hq ?_); (case hq => rfl))
  | ((with_reducible refine' q_pF ?ha ?hq ?_); (case ha => assumption); (case hq => rfl))
  | ((with_reducible refine' q_pM ?ha ?_); (case ha => assumption))
  | (with_reducible refine q_I0 ?_)
  | (with_reducible refine q_isInt ?_)
  | (with_reducible refine q_isBool ?_)
  | (with_reducible refine iteT ?_)
  | (with_reducible refine iteF ?_)
  | (with_reducible refine iteSN ?_)
  | (with_reducible refine iteSS ?_)
  | (with_reducible refine iteNSN ?_)
  | (with_reducible refine iteNSS ?_)
  | (with_reducible refine iteNT ?_)
  | (with_reducible refine iteNF ?_)
  | (with_reducible refine q_eqI ?_)
  | (with_reducible refine q_neI ?_)
  | ((with_reducible refine' q_eq ?hq ?_); (case hq => rfl))
  | ((with_reducible refine' q_ne ?hq ?_); (case hq => rfl))
  | (with_reducible refine q_lenL (by assumption) ?_)
  | (with_reducible refine q_lenT (by assumption) ?_)
  | (with_reducible refine q_is_whole ?_)
  | (with_reducible refine q_is_word ?_)
  | (with_reducible refine q_is_below ?_)
  | ((with_reducible refine' And.intro (q_tyL ?ha) ?_); (case ha => assumption))
  | ((with_reducible refine' ⟨_, _, rfl, g_dO ?ha, ?_⟩); (case ha => assumption))
  | ((with_reducible refine' ⟨_, _, rfl, p_dO ?ha, ?_⟩); (case ha => assumption))
  | ((with_reducible refine' ⟨_, Sum.inr "a", _, ?ha, kV_a, valV_dO _, ?_⟩); (case ha => assumption); (rw [dropK_dO]))
  | ((with_reducible refine' ⟨_, rfl, isD_dO ?ha, ?_⟩); (case ha => assumption))
  | (with_reducible refine q_ip ?_)
  | (with_reducible refine q_rAdd ?_)
  | (with_reducible refine q_rSub ?_)
  | (with_reducible refine q_has ?_)
  | (with_reducible refine q_put ?_)
  | (with_reducible refine q_taken ?_)
  | (with_reducible refine q_page_of ?_)
  | (with_reducible refine q_pow48 ?_)
  | (with_reducible refine q_pow40 ?_)
  | ((with_reducible refine' q_I ?hq ?_); (case hq => first | assumption | decide | omega | exact q_div1 (by omega) _ | exact mul_ok (by omega) | exact pow_ok (by decide)))
  | ((with_reducible refine' ite_y ?hq ?_); (case hq => walk_at "o"))
  | ((with_reducible refine' ite_n ?hq ?_); (case hq => walk_at "o"))
  | ((with_reducible refine' ite_nn ?hq ?_); (case hq => walk_at "o"))
  | ((with_reducible refine' ite_ny ?hq ?_); (case hq => walk_at "o"))
  | (with_reducible
                    refine ⟨_, rfl, ?_⟩)
  | (with_reducible refine ⟨_, _, rfl, ?_⟩)
  | (with_reducible refine ⟨rfl, ?_⟩))))
local macro_rules | `(tactic| walk_at "w") => `(tactic| ((try (walk_at "u")); (walk_at "q"); (try (walk_at "u")); (walk_at "q")))
def Flatd (d : PyData) : Prop := PyData.canLay0 d = true ∧ PyData.depth d ≤ 60
theorem HouseIs.flat {K : PySem.W.Frag} {s : HS} {k : Nat} {h : Addr} {d : PyData} (x : HouseIs K s k h d) : Flatd d := by
  rcases x with ⟨A, D, _, _, rfl⟩ | ⟨A, mo, obj, F, D, DW, MD, b, bou, os, m, so, _, _, _, rfl⟩
  · exact ⟨by decide +kernel, by decide +kernel⟩
  · have z := shaped_guest b m F.pl F.free
    have h := pgs_depth m.pgs
    refine ⟨SeqAt.canLay_of_shaped z, ?_⟩
    simp only [guestD, toldD, coreD, pgsD, PyData.depth, PyData.depthAll]
    omega
theorem shaped2 {d0 d1 : PyData} (h0 : Flatd d0) (h1 : Flatd d1) : SeqAt.shaped (.list [d0, d1]) = true := by
  unfold SeqAt.shaped
  rw [Bool.and_eq_true, decide_eq_true_iff]
  constructor
  · simp [PyData.canLay0, PyData.canLayAll0, h0.1, h1.1]
  · have a := h0.2
    have b := h1.2
    simp only [PyData.depth,
                             PyData.depthAll]
    omega
def StDs (K : PySem.W.Frag) (t : HS) (ys : List V) (ds : List PyData) : Prop := ∀ (j : Nat) (v : V) (d : PyData), ys[j]? = some v → ds[j]? = some d → StD K t v d
theorem StDs.step {K : PySem.W.Frag} {t u : HS} {ys : List V} {ds : List PyData} {R : Nat → Prop} (h : StDs K t ys ds) (st : Step R t u) (n0 : ¬ R 0) (n2 : ¬ R 2) (n100 : ¬ R 100) (n103 : ¬ R 103) : StDs K u ys ds := fun j v d x y => (h j v d x y).step st n0 n2 n100 n103
theorem StDs.dp {K : PySem.W.Frag} {t : HS} : ∀ {ys : List V} {ds : List PyData}, ys.length = ds.length → StDs K t ys ds → DpAll K t.h ys ds
  | [], [], _, _ => .nil
  | [], _ :: _, h,
                   _ => by cases h
  | _ :: _, [], h,
                   _ => by cases h
  | v :: ys, d :: ds, h, s => .cons (s 0 v d rfl rfl).now (StDs.dp (Nat.succ.inj h) fun j v d x y => s (j + 1) v d x y)
theorem lc_states {K : PySem.W.Frag} {tl : TE} {σ : L2.St} {Q : VK} {s0 : HS} {hl ha hb : Addr} {k0 k1 : Nat} {d0 d1 : PyData} (h0 : ∀ R : VK, R (.ref hl) s0.h → tl σ s0.h R) (hh : At s0 hl (1, 0) (.lst [.ref ha, .ref hb])) (hσ : ∀ y, ((wipe σ [6]).set 6 (some y))[6]? = some (some y))
    (hk0 : k0 < 10) (hk1 : k1 < 10) (hI0 : HouseIs K s0 k0 ha d0) (hI1 : HouseIs K s0 k1 hb d1) (fin : ∀ D t ys, s0.h D = none → Step (fun _ => False) s0 t → At t D (104, 0) (.lst ys) → ys.length = 2 → StDs K t ys [d0, d1] → Q (.ref D) t.h) :
    tLc (iList K tl) (gName 6) tYes (tCallX (sp_state K) (fun _ => E0) (tCons (tVar 6) tNil)) [6] σ s0.h Q := by
  refine lc_doesL (R := fun _ => False) (J := fun i ys t => ys.length = i ∧ StDs K t ys [d0, d1]) (104, 0) h0 hh (show 2 < 10000 by decide) id id (fun i ys s t st h => ⟨h.1, h.2.step st (by decide) (by decide) (by decide) (by decide)⟩) ⟨rfl, fun j v d e => by cases e⟩
    (fun i y ys t hy st ⟨hl1, hs1⟩ Q' z => ?_) fun bf t1 ys nb s1 hbf hlen ⟨_, hs1⟩ => fin bf t1 ys nb s1 hbf hlen hs1
  have key : ∀ (k : Nat) (h : Addr) (d : PyData), y = .ref h → k < 10 → HouseIs K s0 k h d → ([d0, d1] : List PyData)[i]? = some d → sp_state K [y] t.h Q' E0 := fun k h d e1 e2 e3 e4 => by
    subst e1
    refine ⟨t.r, k, h, d, rfl, e2, e3.step st (fun _ _ => id), fun v u su hv => z v u su ⟨by rw [List.length_append, hl1] <;> rfl, fun j v' d' x1 x2 => ?_⟩⟩
    by_cases hj : j < ys.length
    · rw [List.getElem?_append_left hj] at x1
      exact (hs1 j v' d' x1 x2).step su id id id id
    · rw [List.getElem?_append_right (by omega)] at x1
      have hj0 : j - ys.length = 0 := by
        have := (List.getElem?_eq_some_iff.mp x1).1
        simp at this
        omega
      rw [hj0] at x1
      cases x1
      have : j = i := by omega
      subst this
      rw [e4] at x2
      cases x2
      exact hv
  refine q_var (hσ y) ?_
  match i, hy with
  | 0, hy => exact key k0 ha d0 (by cases hy; rfl) hk0 hI0 rfl
  | 1, hy => exact key k1 hb d1 (by cases hy; rfl) hk1 hI1 rfl
  | (i + 2), hy => cases hy
def wrd (i : Nat) : Str := if i = 0 then "round" else if i = 1 then "finish" else "drop"
def sp_behind (K : PySem.W.Frag) : Sp := fun vs H Q _ => ∃ r mv x hl ha hb k0 k1 d0 d1, ∃ c : Int, vs = [.ref mv, .ref hl, .int c] ∧ At ⟨H, r⟩ hl (1, 0) (.lst [.ref ha, .ref hb]) ∧ MoveAt K ⟨H, r⟩ mv x ∧ x.over = true ∧ k0 < 10 ∧ k1 < 10 ∧ HouseIs K ⟨H, r⟩ k0 ha d0 ∧ HouseIs K ⟨H, r⟩ k1 hb d1 ∧ Does (fun _ => False) ⟨H, r⟩ Q fun v t => v = .bl true
section
variable {P : Program} {w : World} {K :
                                        PySem.W.Frag} {mg : Str → Option Value} {base : Heap}
theorem ok_law_behind (T : TX K mg) : Fn P w K mg base false 23 (He.ga K "_law_behind") (sp_behind K) := by
  refine (f_law_behind T).calm 22 (fun vs H Q E h => by obtain ⟨_, _, _, _, _, _, _, _, _, _, _, z, _⟩ := h; rw [z] <;> rfl) (fun cdv A outer s H vs Q E hr h => ?_)
  obtain ⟨r, mv, x, hl, ha, hb, k0, k1, d0, d1, c, rfl, hh, hM, hx, hk0, hk1, hI0, hI1, q⟩ := h
  refine ⟨_, pss_cons (ps_setLc (i := 3) (own := [("_law_house", 6)]) (g := gName 6) rfl (f_law_behind T).nd rfl rfl (sw_true rfl rfl rfl (by decide +kernel)) (pi_list (pv 1)) (blkOk_by (own := [("_law_house", 6)]) (N := ["_law_move", "_law_houses", "_law_cell", "_law_before", "_law_words", "_law_k", "_law_house"]) (sc := defScope s_law_behind) (by decide +kernel)) (fun _ _ _ _ _ => pg_name (i := 6) (f_law_behind T).nd rfl (Or.inl rfl)) (fun _ _ _ _ _ => pts_nil) (fun _ _ _ _ _ => (x_call (ok_law_state T) (can hr) (g_law_state T) (f_law_state T).kp (fun _ => pas0) (pa_cons (pv 6) pa_nil)))) (pss_cons (ps_set (i := 4) (f_law_behind T).nd rfl (Or.inl rfl) (pe_lst (pa_cons pe_str (pa_cons pe_str (pa_cons pe_str pa_nil))))) (pss_cons (ps_for (passes_of rfl) rfl (pi_range1 rfl (z_range T) (pa_cons pe_int pa_nil)) (pg_name (i := 5) (f_law_behind T).nd rfl (Or.inl rfl)) (pss_one (ps_if (pt_not (pt_val (x_call (ok_law_refused T) (can hr) (g_law_refused T) (f_law_refused T).kp (fun _ => pas0) (pa_cons (pv 0) (pa_cons (pv 1) (pa_cons (pe_ix ix_list (pv 4) (pe_op op_mod (pe_op op_add (pv 2) (pv 5)) pe_int) (fun _ _ => rfl)) (pa_cons pe_bl pa_nil))))))) (pss_one (ps_ret pe_bl)) pss_nil))) (pss_one (ps_ret (pe_cmpR (op_eqD (hu64 hr)) (pe_lc (own := [("_law_house", 6)]) (g := gName 6) rfl (f_law_behind T).nd (pi_list (pv 1)) (blkOk_by (own := [("_law_house", 6)]) (N := ["_law_move", "_law_houses", "_law_cell", "_law_before", "_law_words", "_law_k", "_law_house"]) (sc := defScope s_law_behind) (by decide +kernel)) (fun _ _ _ _ _ => pg_name (i := 6) (f_law_behind T).nd rfl (Or.inl rfl)) (fun _ _ _ _ _ => pts_nil) (fun _ _ _ _ _ => (x_call (ok_law_state T) (can hr) (g_law_state T) (f_law_state T).kp (fun _ => pas0) (pa_cons (pv 6) pa_nil)))) (pv 3) (nomark _)))))), ?_⟩
  walk_at "w"
  refine lc_states (s0 := ⟨H, r⟩) (fun R z => q_var rfl z) hh (fun y => rfl) hk0 hk1 hI0 hI1 fun bf t1 ys nb s1 hbf hlen hs1 => ?_
  walk_at "w"
  refine ⟨(show 3 ≤ sizeLine by decide), fun wl nw => ?_⟩
  have s2 := Step.new (R := fun _ => False) (s := t1) (q := (0, 0)) (o := .lst [.str "round", .str "finish", .str "drop"]) nw
  have w2 := At.made (s := t1) (a := wl) (q := (0, 0)) (o := .lst [.str "round", .str "finish", .str "drop"])
  walk_at "w"
  refine fr_range (m := 3) (fun i σ H2 => (∃ u v, σ = [some (V.ref mv), some (V.ref hl), some (V.int c), some (V.ref bf), some (V.ref wl), u, v]) ∧ Same (upd t1.h wl (.lst [.str "round", .str "finish", .str "drop"])) H2) (fun R z => z) (by decide) ⟨⟨_, _, rfl⟩, Same.refl _⟩ (fun i σ H2 hi ⟨⟨u, v, hσ⟩, e2⟩ => ?_) fun σ H2 ⟨⟨u, v, hσ⟩, e2⟩ => ?_
  · subst hσ
    have w3 := w2.same e2
    have s03 : Step (fun _ => False) ⟨H, r⟩ ⟨H2, _⟩ := s1.trans (s2.trans (Step.same e2))
    obtain ⟨j, hj⟩ : ∃ j : Nat, (c + (i : Nat)) % 3 = j := Int.eq_ofNat_of_zero_le (by omega)
    have hj3 : j < 3 := by omega
    walk_at "w"
    rw [hj]
    refine q_ixN w3.1 (v := .str (wrd j)) (by
      match j, hj3 with
      | 0, _ => rfl
      | 1, _ => rfl
      | 2, _ => rfl) ?_
    walk_at "w"
    refine ⟨_, mv, x, hl, ha, hb, wrd j, true, rfl, hh.step s03 id, ?_, fun H3 e3 => ?_⟩
    · match j, hj3 with
      | 0, _ => exact .inl ⟨rfl, rfl, hM.step s03 id, .inl hx⟩
      | 1, _ => exact .inr (.inl ⟨.inl rfl, rfl, hM.step s03 id, hx⟩)
      | 2, _ => exact .inr (.inl ⟨.inr rfl, rfl, hM.step s03 id, hx⟩)
    walk_at "w"
    exact ⟨⟨_, _, rfl⟩, e2.trans e3⟩
  · subst hσ
    have s23 : Step (fun _ => False) t1 ⟨H2, _⟩ := s2.trans (Step.same e2)
    have s03 := s1.trans s23
    walk_at "w"
    refine lc_states (s0 := ⟨H2, _⟩) (fun R z => q_var rfl z) (hh.step s03 id) (fun y => rfl) hk0 hk1 (hI0.step s03 fun _ _ => id) (hI1.step s03 fun _ _ => id) fun af t4 zs na s4 haf hlen2 hs4 => ?_
    walk_at "w"
    refine ⟨.list [d0, d1], .list [d0, d1], .lst (SqL.of haf.1) (StDs.dp hlen2 hs4), .lst (SqL.of ((hbf.step s23 id).step s4 id).1) (StDs.dp hlen ((hs1.step s23 id id id id).step s4 id id id id)), shaped2 hI0.flat hI1.flat, shaped2 hI0.flat hI1.flat, ?_⟩
    rw [eqv_of_shaped (shaped2 hI0.flat hI1.flat)]
    exact q _ t4 (s03.trans s4) rfl
end
end SP

/-! B28 -/
set_option maxHeartbeats 4100000
namespace SP
open PySem PySem.Spec PyProof.Rows L2 L2H
local macro_rules | `(tactic| walk_at "u") => `(tactic| (dsimp only [tRet, tSeq, tAsg, tDrop, tIfS, tNext, tRetN, tBreak, tCont, tOp, tUn, tCons, tNil, tCallX, tM, tF, sSet, sNew, sAug, tMakeX, tTest, tB, tAnd, tOr, tNot, tAndV, tOrV, tNotV, tIf, tChain, tCB, tBM, tBM0, tTup, tLst, gName, tC, tIsN, tNotN, tDIn, tDNotIn, tDGet, sDPut, tDPop1, gCons, gNil, tSl, tPart, tNoPart, tYes, tVeI]))
local macro_rules | `(tactic| walk_at "o") => `(tactic| (first | assumption | (with_reducible rfl) | omega | (intro hh; cases hh; done) | (simp only [List.length_map, List.length_replicate, List.length_range, List.length_append, List.length_cons, List.length_nil]; omega)))
local macro_rules | `(tactic| walk_at "q") => `(tactic| (repeat (first
  | ((with_reducible refine' q_var ?hq ?_); (case hq => rfl))
  | ((with_reducible refine' q_pF ?ha ?hq ?_); (case ha => assumption); (case hq => rfl))
  | ((with_reducible refine' q_pM ?ha ?_); (case ha => assumption))
  | (with_reducible refine q_I0 ?_)
  | (with_reducible refine q_isInt ?_)
  | (with_reducible refine q_isBool ?_)
  | (with_reducible refine iteT ?_)
  | (with_reducible refine iteF ?_)
  | (with_reducible refine iteSN ?_)
  | (with_reducible refine iteSS ?_)
  | (with_reducible refine iteNSN ?_)
  | (with_reducible refine iteNSS ?_)
  | (with_reducible refine iteNT ?_)
  | (with_reducible refine iteNF ?_)
  | (with_reducible refine q_eqI ?_)
  | (with_reducible refine q_neI ?_)
  | ((with_reducible refine' q_eq ?hq ?_); (case hq => rfl))
  | ((with_reducible refine' q_ne ?hq ?_); (case hq => rfl))
  | (with_reducible refine q_lenL (by assumption) ?_)
  | (with_reducible refine q_lenT (by assumption) ?_)
  | (with_reducible refine q_is_whole ?_)
  | (with_reducible refine q_is_word ?_)
  | (with_reducible refine q_is_below ?_)
  | ((with_reducible refine' And.intro (q_tyL ?ha) ?_); (case ha => assumption))
  | ((with_reducible refine' ⟨_, _, rfl, g_dO ?ha, ?_⟩); (case ha => assumption))
  | ((with_reducible refine' ⟨_, _, rfl, p_dO ?ha, ?_⟩); (case ha => assumption))
  | ((with_reducible refine' ⟨_, Sum.inr "a", _, ?ha, kV_a, valV_dO _, ?_⟩); (case ha => assumption); (rw [dropK_dO]))
  | ((with_reducible refine' ⟨_, rfl, isD_dO ?ha, ?_⟩); (case ha => assumption))
  | (with_reducible refine q_ip ?_)
  | (with_reducible refine q_rAdd ?_)
  | (with_reducible refine q_rSub ?_)
  | (with_reducible refine q_has ?_)
  | (with_reducible refine q_put ?_)
  | (with_reducible refine q_taken ?_)
  | (with_reducible refine q_page_of ?_)
  | (with_reducible refine q_pow48 ?_)
  | (with_reducible refine q_pow40 ?_)
  | ((with_reducible refine' q_I ?hq ?_); (case hq => first | assumption | decide | omega | exact q_div1 (by omega) _ | exact mul_ok (by omega) | exact pow_ok (by decide)))
  | ((with_reducible refine' ite_y ?hq ?_); (case hq => walk_at "o"))
  | ((with_reducible refine' ite_n ?hq ?_); (case hq => walk_at "o"))
  | ((with_reducible refine' ite_nn ?hq ?_); (case hq => walk_at "o"))
  | ((with_reducible refine' ite_ny ?hq ?_); (case hq => walk_at "o"))
  | (with_reducible
                    refine ⟨_, rfl, ?_⟩)
  | (with_reducible refine ⟨_, _, rfl, ?_⟩)
  | (with_reducible refine ⟨rfl, ?_⟩))))
local macro_rules | `(tactic| walk_at "w") => `(tactic| ((try (walk_at "u")); (walk_at "q"); (try (walk_at "u")); (walk_at "q")))
def StepsAt (s : HS) (sl : Addr) (ns : List Nat) : Prop := At s sl (1, 1) (.lst ((ns.map Int.ofNat).map V.int))
theorem sum_cast (ns : List Nat) : (ns.map Int.ofNat).sum = (ns.sum : Nat) := by
  induction ns with
  | nil => rfl
  | cons x l ih => rw [List.map_cons, List.sum_cons, List.sum_cons, ih, Int.natCast_add] <;> rfl
def RA (x : Nat) : Prop := RM 2 x ∨ x = 1
def sp_as_if (K : PySem.W.Frag) : Sp := fun vs H Q _ => ∃ (r : Addr → Rg) (h0 tw sl : Addr) (k0 : Nat) (b0 : Bool) (os : List Ord) (n : Nat) (m : MS) (so sot : Nat → Bool) (ns : List Nat), vs = [.ref h0, .ref tw, .ref sl] ∧ k0 < 2 ∧ StepsAt ⟨H, r⟩ sl ns ∧ ns.sum ≤ 500 ∧
  GuestAt K ⟨H, r⟩ k0 b0 h0 none os (iterM os ns.sum m) so ∧ GuestAt K ⟨H, r⟩ 2 true tw none os m sot ∧ PrgOk os n ∧ MOk os n m ∧ Does RA ⟨H, r⟩ Q fun v t => v = .bl true ∧ StepsAt t sl [] ∧ (∀ l o, At ⟨H, r⟩ l (1, 0) o → At t l (1, 0) o) ∧ ∃ so', GuestAt K t 2 true tw none os (iterM os ns.sum m) so'
section
variable {P : Program} {w : World} {K :
                                        PySem.W.Frag} {mg : Str → Option Value} {base : Heap}
theorem GuestAt.turned {s t : HS} {k : Nat} {b : Bool} {h : Addr} {bou : Option V} {os : List Ord} {m' : MS} {so : Nat → Bool} {A mo obj : Addr} {D : HD} {DW : WD} {MD' : MD} {pgs : List (List Int)} (hh : HsAt K s k h A (dGuest mo obj b bou) D) (st : Step (RM k) s t)
    (x : StepTo K k b mo obj A os so pgs m' MD' DW t) : ∃ so', GuestAt K t k b h bou os m' so' ∧ Soil so so' pgs m'.pgs := by
  obtain ⟨F', so', h1, h2, h3⟩ := x
  exact ⟨so', ⟨A, mo, obj, F', D, DW, MD', hh.step st (fun z => by rcases z with z | z | z <;> omega), h1, h2⟩, h3⟩
theorem ok_law_as_if (T : TX K mg) : Fn P w K mg base false 17 (He.ga K "_law_as_if") (sp_as_if K) := by
  refine (f_law_as_if T).calm 16 (fun vs H Q E h => by obtain ⟨_, _, _, _, _, _, _, _, _, _, _, _, z, _⟩ := h; rw [z] <;> rfl) (fun cdv A outer s H vs Q E hr h => ?_)
  obtain ⟨r, h0, tw, sl, k0, b0, os, n, m, so, sot, ns, rfl, hk0, hsl, hns, hG, hT, hP, hO, q⟩ := h
  refine ⟨_, pss_cons (ps_set (i := 3) (f_law_as_if T).nd rfl (Or.inl rfl) (pe_callB (cr_sum rfl) (by rfl) (z_sum T) bb_sum (pa_cons (pv 2) pa_nil))) (pss_cons (ps_while (passes_of rfl) (pt_cmpR op_gt (pv 3) pe_int (nomark _)) (pss_cons (ps_expr (x_m (ok_House_turn T) (can hr) (kls_House T) (m_House_turn T) (fun _ => pas0) (pv 1) (pa_cons pe_str (pa_cons (pe_callB (call_min2 rfl) (by rfl) (z_min T) bb_min (pa_cons (pv 3) (pa_cons pe_int pa_nil))) pa_nil)))) (pss_one (ps_set (i := 3) (f_law_as_if T).nd rfl (Or.inl rfl) (pe_op op_sub (pv 3) pe_int))))) (pss_cons (ps_expr (pe_bm0 PySem.F.plainAttrs_list PySem.F.slot_list_clear PySem.F.type_list_clear mt_clear (pv 2))) (pss_one (ps_ret (pe_and (pe_cmpR (op_eqD (hu64 hr)) (x_m (ok_House_told T) (can hr) (kls_House T) (m_House_told T) (fun _ => pas0) (pv 0) (pa_cons pe_str pa_nil)) (x_m (ok_House_told T) (can hr) (kls_House T) (m_House_told T) (fun _ => pas0) (pv 1) (pa_cons pe_str pa_nil)) (nomark _)) (pe_one (pe_cmpR (op_eqD (hu64 hr)) (x_m (ok_House_events T) (can hr) (kls_House T) (m_House_events T) (fun _ => pas0) (pv 0) (pa_cons pe_str pa_nil)) (x_m (ok_House_events T) (can hr) (kls_House T) (m_House_events T) (fun _ => pas0) (pv 1) (pa_cons pe_str pa_nil)) (nomark _)))))))), ?_⟩
  walk_at "w"
  refine ⟨sl, _, rfl, SqL.of hsl.1, ?_⟩
  rw [sum_cast]
  obtain ⟨N, hN⟩ : ∃ N, ns.sum = N := ⟨_, rfl⟩
  rw [hN] at hns hG q ⊢
  walk_at "w"
  refine ⟨fun i σ H2 => ∃ u, u.h = H2 ∧ Step (RM 2) ⟨H, r⟩ u ∧ ((i = 1 ∧ 0 < N ∧ σ = [some (V.ref h0), some (V.ref tw), some (V.ref sl), some (V.int N)] ∧ GuestAt K u 2 true tw none os m sot) ∨ (i = 0 ∧ ∃ (x : Int) (so' : Nat → Bool), x ≤ 0 ∧ σ = [some (V.ref h0), some (V.ref tw), some (V.ref sl), some (V.int x)] ∧ GuestAt K u 2 true tw none os (iterM os N m) so')), ?_, ?_⟩
  · by_cases h : 0 < N
    · exact ⟨1, ⟨H, r⟩, rfl, Step.refl, .inl ⟨rfl, h, rfl, hT⟩⟩
    · have h : N = 0 := by omega
      subst h
      exact ⟨0, ⟨H, r⟩, rfl, Step.refl, .inr ⟨rfl, 0, sot, by decide, rfl, hT⟩⟩
  rintro i σ H2 ⟨u, rfl, su, ⟨rfl, hpos, rfl, hT2⟩ | ⟨rfl, x, so', hx, rfl, hT2⟩⟩
  · obtain ⟨A1, mo1, obj1, F1, D1, DW1, MD1, hh1, hW1, hM1⟩ := hT2
    have g1 := hh1.ob.1
    walk_at "w"
    refine ⟨fun σ' H' => ∃ (u : HS) (x : Int) (so' : Nat → Bool), u.h = H' ∧ Step (RM 2) ⟨H, r⟩ u ∧ x ≤ 0 ∧ σ' = [some (V.ref h0), some (V.ref tw), some (V.ref sl), some (V.int x)] ∧ GuestAt K u 2 true tw none os (iterM os N m) so', fun σ' H' ⟨u, x, so', e1, e2, e3, e4, e5⟩ => ⟨0, by decide, u, e1, e2, .inr ⟨rfl, x, so', e3, e4, e5⟩⟩, ?_⟩
    walk_at "w"
    rw [if_neg (show ¬ (500 : Int) < (N : Int) by omega)]
    refine ⟨u.r, 2, tw, A1, _, D1, _, rfl, hh1, true, mo1, obj1, os, m, MD1, F1, sot, DW1, n, N, rfl, rfl, hM1, hns, hW1, hP, hO, ?_⟩
    rintro v u2 s2 ⟨rfl, hst⟩
    obtain ⟨so2, hG2, _⟩ := GuestAt.turned hh1 s2 hst
    walk_at "w"
    exact ⟨u2, (N : Int) - 500, so2, rfl, su.trans s2, by omega, rfl, hG2⟩
  · have off : OffH (RM 2) k0 := fun y hy z => by rcases z with z | z | z <;> rcases hy with hy | hy <;> omega
    have hG1 := hG.step su off
    have hsl1 := hsl.step su (fun z => by rcases z with z | z | z <;> simp at z)
    have c1 : u.h sl = some _ := hsl1.1
    walk_at "w"
    refine ⟨sl, _, rfl, rfl, c1, ?_⟩
    have s1 := Step.put1 (o' := .lst []) hsl1
    have sl2 := hsl1.self (o' := .lst [])
    have n1 : ∀ k, OffH (· = 1) k := fun k y hy z => by omega
    have hG2 := hG1.step s1 (n1 _)
    have hT3 := hT2.step s1 (n1 _)
    obtain ⟨A0, mo0, obj0, F0, D0, DW0, MD0, hh0, hW0, hM0⟩ := id hG2
    obtain ⟨A1, mo1, obj1, F1, D1, DW1, MD1, hh1, hW1, hM1⟩ := id hT3
    have g0 := hh0.ob.1
    walk_at "w"
    refine ⟨u.r, k0, h0, A0, _, D0, _, rfl, hh0, b0, mo0, obj0, os, _, MD0, F0, so, DW0, rfl, rfl, hM0, hW0, ?_⟩
    rintro v t2 s2 ⟨a, rfl, ta⟩
    have hh0 := hh0.step s2 id
    have hM0 := hM0.step s2 id id
    have hh1 := hh1.step s2 id
    have hW1 := hW1.step s2 id id
    have hM1 := hM1.step s2 id id
    have g1 := hh1.ob.1
    walk_at "w"
    refine ⟨t2.r, 2, tw, A1, _, D1, _, rfl, hh1, true, mo1, obj1, os, _, MD1, F1, so', DW1, rfl, rfl, hM1, hW1, ?_⟩
    rintro v t3 s3 ⟨a2, rfl, ta2⟩
    refine ⟨toldD (iterM os N m), toldD (iterM os N m), told_dp (ta.step s3 id id id), told_dp ta2, shaped_told _, shaped_told _, ?_⟩
    rw [eqv_of_shaped (shaped_told _)]
    have hh0 := hh0.step s3 id
    have hM0 := hM0.step s3 id id
    have hh1 := hh1.step s3 id
    have hM1 := hM1.step s3 id id
    have g0 := hh0.ob.1
    walk_at "w"
    refine ⟨t3.r, k0, h0, A0, _, D0, _, rfl, hh0, mo0, obj0, os, _, MD0, rfl, rfl, hM0, fun e1 he1 => ?_⟩
    have s4 := Step.new (R := fun _ => False) (s := t3) (q := (0, 0)) (o := .lst []) he1
    have e14 := At.made (s := t3) (a := e1) (q := (0, 0)) (o := .lst [])
    have hh1 := hh1.step s4 id
    have hM1 := hM1.step s4 id id
    have g1 := hh1.ob.1
    walk_at "w"
    refine ⟨_, 2, tw, A1, _, D1, _, rfl, hh1, mo1, obj1, os, _, MD1, rfl, rfl, hM1, fun e2 he2 => ?_⟩
    have s5 := e14.stN (R := fun _ => False) (q := (0, 0)) (o := .lst []) he2
    refine ⟨.list [], .list [], .lst (SqL.of (e14.step s5 id).1) .nil, .lst (SqL.of upd_same) .nil, by decide +kernel, by decide +kernel, ?_⟩
    have s25 := s2.trans (s3.trans (s4.trans s5))
    exact q _ _ ((su.mono fun _ z => .inl z).trans ((s1.mono fun _ z => .inr z).trans (s25.mono fun _ z => z.elim))) ⟨rfl, sl2.step s25 id, fun l o x => ((x.step su (fun z => by rcases z with z | z | z <;> omega)).put hsl1 (by simp)).step s25 id, so', hT3.step s25 fun _ _ => id⟩
end
end SP

/-! B29 -/
set_option maxHeartbeats 4100000
namespace SP
open PySem PySem.Spec PyProof.Rows L2 L2H
local macro_rules | `(tactic| walk_at "u") => `(tactic| (dsimp only [tRet, tSeq, tAsg, tDrop, tIfS, tNext, tRetN, tBreak, tCont, tOp, tUn, tCons, tNil, tCallX, tM, tF, sSet, sNew, sAug, tMakeX, tTest, tB, tAnd, tOr, tNot, tAndV, tOrV, tNotV, tIf, tChain, tCB, tBM, tBM0, tTup, tLst, gName, tC, tIsN, tNotN, tDIn, tDNotIn, tDGet, sDPut, tDPop1, gCons, gNil, tSl, tPart, tNoPart, tYes, tVeI]))
local macro_rules | `(tactic| walk_at "o") => `(tactic| (first | assumption | (with_reducible rfl) | omega | (intro hh; cases hh; done) | (simp only [List.length_map, List.length_replicate, List.length_range, List.length_append, List.length_cons, List.length_nil]; omega)))
local macro_rules | `(tactic| walk_at "q") => `(tactic| (repeat (first
  | ((with_reducible refine' q_var ?hq ?_); (case hq => rfl))
  | ((with_reducible refine' q_pF ?ha ?hq ?_); (case ha => assumption); (case hq => rfl))
  | ((with_reducible refine' q_pM ?ha ?_); (case ha => assumption))
  | (with_reducible refine q_I0 ?_)
  | (with_reducible refine q_isInt ?_)
  | (with_reducible refine q_isBool ?_)
  | (with_reducible refine iteT ?_)
  | (with_reducible refine iteF ?_)
  | (with_reducible refine iteSN ?_)
  | (with_reducible refine iteSS ?_)
  | (with_reducible refine iteNSN ?_)
  | (with_reducible refine iteNSS ?_)
  | (with_reducible refine iteNT ?_)
  | (with_reducible refine iteNF ?_)
  | (with_reducible refine q_eqI ?_)
  | (with_reducible refine q_neI ?_)
  | ((with_reducible refine' q_eq ?hq ?_); (case hq => rfl))
  | ((with_reducible refine' q_ne ?hq ?_); (case hq => rfl))
  | (with_reducible refine q_lenL (by assumption) ?_)
  | (with_reducible refine q_lenT (by assumption) ?_)
  | (with_reducible refine q_is_whole ?_)
  | (with_reducible refine q_is_word ?_)
  | (with_reducible refine q_is_below ?_)
  | ((with_reducible refine' And.intro (q_tyL ?ha) ?_); (case ha => assumption))
  | ((with_reducible refine' ⟨_, _, rfl, g_dO ?ha, ?_⟩); (case ha => assumption))
  | ((with_reducible refine' ⟨_, _, rfl, p_dO ?ha, ?_⟩); (case ha => assumption))
  | ((with_reducible refine' ⟨_, Sum.inr "a", _, ?ha, kV_a, valV_dO _, ?_⟩); (case ha => assumption); (rw [dropK_dO]))
  | ((with_reducible refine' ⟨_, rfl, isD_dO ?ha, ?_⟩); (case ha => assumption))
  | (with_reducible refine q_ip ?_)
  | (with_reducible refine q_rAdd ?_)
  | (with_reducible refine q_rSub ?_)
  | (with_reducible refine q_has ?_)
  | (with_reducible refine q_put ?_)
  | (with_reducible refine q_taken ?_)
  | (with_reducible refine q_page_of ?_)
  | (with_reducible refine q_pow48 ?_)
  | (with_reducible refine q_pow40 ?_)
  | ((with_reducible refine' q_I ?hq ?_); (case hq => first | assumption | decide | omega | exact q_div1 (by omega) _ | exact mul_ok (by omega) | exact pow_ok (by decide)))
  | ((with_reducible refine' ite_y ?hq ?_); (case hq => walk_at "o"))
  | ((with_reducible refine' ite_n ?hq ?_); (case hq => walk_at "o"))
  | ((with_reducible refine' ite_nn ?hq ?_); (case hq => walk_at "o"))
  | ((with_reducible refine' ite_ny ?hq ?_); (case hq => walk_at "o"))
  | (with_reducible
                    refine ⟨_, rfl, ?_⟩)
  | (with_reducible refine ⟨_, _, rfl, ?_⟩)
  | (with_reducible refine ⟨rfl, ?_⟩))))
local macro_rules | `(tactic| walk_at "w") => `(tactic| ((try (walk_at "u")); (walk_at "q"); (try (walk_at "u")); (walk_at "q")))
def RR (k0 k1 : Nat) (x : Nat) : Prop := RMv k0 k1 x ∨ x = 1
theorem Sync.soil {dn : Nat} {so so' : Nat → Bool} {p p' p1 : List (List Int)} (h : Sync dn so p p1) (s : Soil so so' p p') (hl : p'.length = p.length) : Sync dn so' p' p1 := by
  refine ⟨by rw [hl]; exact h.1, fun hd q hq => ?_⟩
  have h1 : so q = false := by
    cases e : so q with
    | false => rfl
    | true => rw [s.1 q e] at hq; cases hq
  have h2 : p'[q]? = p[q]? := Classical.byContradiction fun z => by rw [s.2 q z] at hq; cases hq
  rw [h2]
  exact h.2 hd q h1
/-- what stands while a move is under way -/
structure Way9 (K : PySem.W.Frag) (s : HS) (b b2 : Bool) (k0 k1 : Nat) (mv hl sl : Addr) (x : MV) (os : List Ord) (m0 : MS) (ns : List Nat) (so : Nat → Bool) (pgs1 : List (List Int)) : Prop where
  hk : k0 ≠ k1 ∧ k0 < 2 ∧ k1 < 2
  mov : MovAt K s b b2 k0 k1 mv x os (iterM os ns.sum m0) so pgs1
  hl_ : At s hl (1, 0) (.lst [.ref x.h0, .ref x.h1])
  sl_ : StepsAt s sl ns
  sy : Sync x.done so (iterM os ns.sum m0).pgs pgs1
  ov : x.over = false
theorem Way9.step {K : PySem.W.Frag} {s t : HS} {b b2 : Bool} {k0 k1 : Nat} {mv hl sl : Addr} {x : MV} {os : List Ord} {m0 : MS} {ns : List Nat} {so : Nat → Bool} {pgs1 : List (List Int)} (h : Way9 K s b b2 k0 k1 mv hl sl x os m0 ns so pgs1) (st : Step (fun _ => False) s t) : Way9 K t b b2 k0 k1 mv hl sl x os m0 ns so pgs1 :=
  ⟨h.hk, h.mov.step st id (fun _ _ => id) (fun _ _ => id), h.hl_.step st id, h.sl_.step st id, h.sy, h.ov⟩
theorem Way9.guest {K : PySem.W.Frag} {s : HS} {b b2 : Bool} {k0 k1 : Nat} {mv hl sl : Addr} {x : MV} {os : List Ord} {m0 : MS} {ns : List Nat} {so : Nat → Bool} {pgs1 : List (List Int)} (h : Way9 K s b b2 k0 k1 mv hl sl x os m0 ns so pgs1) {wd : Str} (hw : wd = "end" ∨ wd = "move") : refE K s mv x x.h0 wd false :=
  .inr (.inr ⟨hw, rfl, k0, b, os, _, so, _, h.mov.2.1⟩)
def sp_rounds (K : PySem.W.Frag) (b b2 : Bool) : Sp := fun vs H Q _ => ∃ (r : Addr → Rg) (k0 k1 : Nat) (mv hl sl : Addr) (x : MV) (os : List Ord) (n : Nat) (m0 : MS) (ns : List Nat) (so : Nat → Bool) (pgs1 : List (List Int)) (c : Int), vs = [.ref mv, .ref hl, .int c, .int x.rounds, .ref sl] ∧ x.done = 0 ∧ 1 ≤ x.rounds ∧ PrgOk os n ∧ MOk os n m0 ∧ ns.length ≤ 10 ∧
  Way9 K ⟨H, r⟩ b b2 k0 k1 mv hl sl x os m0 ns so pgs1 ∧ Does (RR k0 k1) ⟨H, r⟩ Q fun v t => v = .bl true ∧ ∃ d ns' so' pgs1', ns'.sum ≤ ns.sum + 30 ∧ Way9 K t b b2 k0 k1 mv hl sl { x with done := d } os m0 ns' so' pgs1'
section
variable {P : Program} {w : World} {K :
                                        PySem.W.Frag} {mg : Str → Option Value} {base : Heap}
theorem ok_law_rounds (T : TX K mg) : Fn P w K mg base false 23 (He.ga K "_law_rounds") (fun vs H Q E => ∃ b b2, sp_rounds K b b2 vs H Q E) := by
  refine Fn.ex fun b => Fn.ex fun b2 => ?_
  refine (f_law_rounds T).calm 22 (fun vs H Q E h => by obtain ⟨_, _, _, _, _, _, _, _, _, _, _, _, _, _, z, _⟩ := h; rw [z] <;> rfl) (fun cdv A outer s H vs Q E hr h => ?_)
  obtain ⟨r, k0, k1, mv, hl, sl, x, os, n, m0, ns, so, pgs1, c, rfl, hd0, hR, hP, hO, hns, hW9, q⟩ := h
  obtain ⟨z0, z1⟩ := mix_ok c 44621 (show (0 : Int) < 6 by decide)
  obtain ⟨as, has⟩ : ∃ a : Nat, mix c 44621 6 = a := Int.eq_ofNat_of_zero_le z0
  refine ⟨_, pss_cons (ps_set (i := 5) (f_law_rounds T).nd rfl (Or.inl rfl) (x_call (ok_law_mix T) (can hr) (g_law_mix T) (f_law_mix T).kp (fun _ => pas0) (pa_cons (pv 2) (pa_cons pe_int (pa_cons pe_int pa_nil))))) (pss_cons (ps_for (passes_of rfl) rfl (pi_range1 rfl (z_range T) (pa_cons (pv 5) pa_nil)) (pg_name (i := 6) (f_law_rounds T).nd rfl (Or.inl rfl)) (pss_cons (ps_if (pt_cmpR op_ge (pv 6) (pv 3) (nomark _)) (pss_one (ps_if (pt_not (pt_val (x_call (ok_law_refused T) (can hr) (g_law_refused T) (f_law_refused T).kp (fun _ => pas0) (pa_cons (pv 0) (pa_cons (pv 1) (pa_cons pe_str (pa_cons pe_bl pa_nil))))))) (pss_one (ps_ret pe_bl)) pss_nil)) (pss_one (ps_expr (x_m0 (ok_Move_round T) (can hr) (kls_Move T) (m_Move_round T) (fun _ => pas0) (pv 0))))) (pss_cons (ps_if (PW.pt (pw_and (pt_cmpR op_ge (pe_op op_add (pv 6) pe_int) (pv 3) (nomark _)) (pw_and1 (pt_cmpR op_notBl (x_m0 (ok_Move_ready T) (can hr) (kls_Move T) (m_Move_ready T) (fun _ => pas0) (pv 0)) pe_bl (nomark _))))) (pss_one (ps_ret pe_bl)) pss_nil) (pss_cons (ps_for (passes_of rfl) rfl (pi_range1 rfl (z_range T) (pa_cons (x_call (ok_law_mix T) (can hr) (g_law_mix T) (f_law_mix T).kp (fun _ => pas0) (pa_cons (pe_op op_add (pv 2) (pv 6)) (pa_cons pe_int (pa_cons pe_int pa_nil)))) pa_nil)) (pg_name (i := 7) (f_law_rounds T).nd rfl (Or.inl rfl)) (pss_one (ps_expr (x_app (pv 4) (x_m (ok_House_turn T) (can hr) (kls_House T) (m_House_turn T) (fun _ => pas0) (pe_ix ix_list (pv 1) pe_int (fun _ _ => rfl)) (pa_cons pe_str (pa_cons pe_int pa_nil))))))) (pss_one (ps_if (PW.pt (pw_or (pt_not (pt_val (x_call (ok_law_refused T) (can hr) (g_law_refused T) (f_law_refused T).kp (fun _ => pas0) (pa_cons (pv 0) (pa_cons (pv 1) (pa_cons pe_str (pa_cons pe_bl pa_nil))))))) (pw_or1 (pt_not (pt_val (x_call (ok_law_refused T) (can hr) (g_law_refused T) (f_law_refused T).kp (fun _ => pas0) (pa_cons (pv 0) (pa_cons (pv 1) (pa_cons pe_str (pa_cons pe_bl pa_nil)))))))))) (pss_one (ps_ret pe_bl)) pss_nil)))))) (pss_one (ps_ret pe_bl))), ?_⟩
  walk_at "w"
  refine ⟨c, 44621, 6, rfl, by decide, ?_⟩
  rw [has] at z1 ⊢
  walk_at "w"
  refine fr_range (m := as) (fun i σ H2 => (∃ u v, σ = [some (V.ref mv), some (V.ref hl), some (V.int c), some (V.int x.rounds), some (V.ref sl), some (V.int as), u, v]) ∧ ∃ t ns' so' pgs1', t.h = H2 ∧ Step (RR k0 k1) ⟨H, r⟩ t ∧ ns'.sum ≤ ns.sum + 6 * i ∧ ns'.length ≤ ns.length + 2 * i ∧ Way9 K t b b2 k0 k1 mv hl sl { x with done := min i x.rounds } os m0 ns' so' pgs1')
    (fun R z => ?_) (by omega) ⟨⟨_, _, rfl⟩, ⟨H, r⟩, ns, so, pgs1, rfl, Step.refl, by omega, by omega, by rw [Nat.zero_min, ← hd0]; exact hW9⟩ (fun i σ H2 hi ⟨⟨u, v, hσ⟩, t, ns', so', pgs1', e2, st, hs1, hs2, hW⟩ => ?_) fun σ H2 ⟨⟨u, v, hσ⟩, t, ns', so', pgs1', e2, st, hs1, hs2, hW⟩ => ?_
  · walk_at "w"
    exact z
  · subst hσ e2
    have n1 : ¬ RMv k0 k1 1 := fun z => by rcases z with (z | z) | (z | z) | z <;> omega
    obtain ⟨dxm, hom⟩ := id hW.mov.1
    have h1 : t.h mv = some _ := hom.1
    by_cases hge : x.rounds ≤ i
    case' pos =>
      have hmin : min i x.rounds = x.rounds := by omega
      walk_at "w"
      refine ⟨t.r, mv, _, hl, x.h0, x.h1, "round", true, rfl, hW.hl_, .inl ⟨rfl, rfl, hW.mov.1, .inr hmin⟩, fun H1 e1 => ?_⟩
      have s1 : Step (RR k0 k1) t ⟨H1, t.r⟩ := Step.same (r := t.r) e1
      have hW2 : Way9 K ⟨H1, t.r⟩ b b2 k0 k1 mv hl sl { x with done := min (i + 1) x.rounds } os m0 ns' so' pgs1' := by
        have z := hW.step (Step.same (r := t.r) e1)
        rw [hmin] at z
        rw [show min (i + 1) x.rounds = x.rounds by omega]
        exact z
      have hr2 : min (i + 1) x.rounds = x.rounds := by omega
      obtain ⟨t2, rfl, s1, hW2⟩ : ∃ t2 : HS, t2.h = H1 ∧ Step (RR k0 k1) t t2 ∧ Way9 K t2 b b2 k0 k1 mv hl sl { x with done := min (i + 1) x.rounds } os m0 ns' so' pgs1' := ⟨⟨H1, t.r⟩, rfl, s1, hW2⟩
      obtain ⟨dx2, ho2⟩ := id hW2.mov.1
      have h2 : t2.h mv = some _ := ho2.1
      walk_at "w"
      refine ⟨t2.r, mv, _, rfl, hW2.mov.1, hr2, ?_⟩
      refine ⟨true, true, rfl, rfl, ?_⟩
      walk_at "w"
    case' neg =>
      have hmin : min i x.rounds = i := by omega
      walk_at "w"
      refine ⟨b, b2, t.r, k0, k1, mv, _, os, _, so', pgs1', _, rfl, ⟨hW.hk.1, by have := hW.hk; omega, by have := hW.hk; omega⟩, hW.mov, rfl, hW.ov, (by show min i x.rounds ≠ x.rounds; omega), hW.sy, ?_⟩
      rintro v t2 s1' hM2
      have s1 : Step (RR k0 k1) t t2 := s1'.mono fun _ z => .inl z
      have hW2 : Way9 K t2 b b2 k0 k1 mv hl sl { x with done := min (i + 1) x.rounds } os m0 ns' (fun _ => false) (iterM os ns'.sum m0).pgs := by
        rw [show min (i + 1) x.rounds = min i x.rounds + 1 by omega]
        exact ⟨hW.hk, hM2, hW.hl_.step s1' n1, hW.sl_.step s1' n1, ⟨rfl, fun _ _ _ => rfl⟩, hW.ov⟩
      obtain ⟨dx2, ho2⟩ := id hW2.mov.1
      have h2 : t2.h mv = some _ := ho2.1
      by_cases hr3 : x.rounds ≤ i + 1
      case' pos =>
        have hr2 : min (i + 1) x.rounds = x.rounds := by omega
        walk_at "w"
        refine ⟨t2.r, mv, _, rfl, hW2.mov.1, hr2, ?_⟩
        refine ⟨true, true, rfl, rfl, ?_⟩
        walk_at "w"
      case' neg =>
        walk_at "w"
    all_goals (
      obtain ⟨y0, y1⟩ := mix_ok (c + i) 61001 (show (0 : Int) < 3 by decide)
      obtain ⟨cnt, hc⟩ : ∃ a : Nat, mix (c + i) 61001 3 = a := Int.eq_ofNat_of_zero_le y0
      rw [hc] at y1
      refine fr_range (m := cnt) (fun j σ H3 => (∃ u, σ = [some (V.ref mv), some (V.ref hl), some (V.int c), some (V.int x.rounds), some (V.ref sl), some (V.int as), some (V.int i), u]) ∧ ∃ t3 ns3 so3 pgs3, t3.h = H3 ∧ Step (RR k0 k1) t t3 ∧ ns3.sum ≤ ns'.sum + 3 * j ∧ ns3.length ≤ ns'.length + j ∧ Way9 K t3 b b2 k0 k1 mv hl sl { x with done := min (i + 1) x.rounds } os m0 ns3 so3 pgs3)
        (fun R z => ?_) (by omega) ⟨⟨_, rfl⟩, t2, ns', _, _, rfl, s1, by omega, by omega, hW2⟩ (fun j σ H3 hj ⟨⟨u, hσ⟩, t3, ns3, so3, pgs3, e3, s3, hs3, hl3, hW3⟩ => ?_) fun σ H3 ⟨⟨u, hσ⟩, t3, ns3, so3, pgs3, e3, s3, hs3, hl3, hW3⟩ => ?_
      · walk_at "w"
        refine ⟨c + i, 61001, 3, rfl, by decide, ?_⟩
        rw [hc]
        exact z
      · subst hσ e3
        obtain ⟨A0, mo, obj, F, D, DW, MD, hh, hWy, hM⟩ := hW3.mov.2.1
        have g1 : t3.h x.h0 = some _ := hh.ob.1
        have g2 : t3.h sl = some _ := hW3.sl_.1
        have g3 : t3.h hl = some _ := hW3.hl_.1
        walk_at "w"
        refine q_ixL g3 (v := .ref x.h0) rfl ?_
        walk_at "w"
        refine ⟨t3.r, k0, x.h0, A0, _, D, _, rfl, hh, b, mo, obj, os, _, MD, F, so3, DW, n, 3, rfl, rfl, hM, by decide, hWy, hP, iterM_ok hP _ hO, ?_⟩
        rintro v t4 s4 ⟨rfl, hst⟩
        obtain ⟨so4, hG4, hsoil⟩ := GuestAt.turned hh s4 hst
        rw [← iterM_add] at hG4 hsoil
        have m1 : ¬ RM k0 1 := fun z => by rcases z with z | z | z <;> omega
        have m3 : ¬ RM k0 3 := fun z => by rcases z with z | z | z <;> omega
        have hk9 := hW3.hk
        have offm : OffH (RM k0) k1 := fun y hy z => by rcases z with z | z | z <;> rcases hy with hy | hy <;> omega
        have sl4 := hW3.sl_.step s4 m1
        have es : ns3.sum + 3 = (ns3 ++ [3]).sum := by simp
        rw [es] at hG4 hsoil
        have hlen : ((ns3.map Int.ofNat).map V.int).length < sizeLine := by
          rw [List.length_map, List.length_map]
          exact Nat.lt_of_lt_of_le (show ns3.length < 1000 by omega) (by decide)
        refine ⟨sl, _, _, rfl, rfl, sl4.1, hlen, ?_⟩
        have s5 := Step.put1 (o' := .lst (((ns3.map Int.ofNat).map V.int) ++ [.int (3 : Nat)])) sl4
        have off1 : ∀ k, OffH (· = 1) k := fun k y hy z => by omega
        have hnP := (iterM_ok hP (ns3 ++ [3]).sum hO).n
        have hnQ := (iterM_ok hP ns3.sum hO).n
        refine ⟨⟨_, rfl⟩, _, ns3 ++ [3], so4, pgs3, rfl, s3.trans ((s4.mono fun y z => .inl (.inl (.inl (by rcases z with z | z | z <;> exact ⟨by omega, by omega⟩)))).trans (s5.mono fun _ z => .inr z)), by rw [← es]; omega, by rw [List.length_append]; simp; omega, hW3.hk, ⟨(hW3.mov.1.step s4 m3).step s5 (by decide), hG4.step s5 (off1 _), (hW3.mov.2.2.step s4 offm).step s5 (off1 _)⟩, ?_, ?_, hW3.sy.soil hsoil (by rw [hnP, hnQ]), hW3.ov⟩
        · exact (hW3.hl_.step s4 m1).put sl4 (by simp)
        · have z := sl4.self (o' := .lst (((ns3.map Int.ofNat).map V.int) ++ [.int (3 : Nat)]))
          have e9 : ((ns3 ++ [3]).map Int.ofNat).map V.int = ((ns3.map Int.ofNat).map V.int) ++ [V.int (3 : Nat)] := by simp
          unfold StepsAt
          rw [e9]
          exact z
      · subst hσ e3
        walk_at "w"
        refine ⟨t3.r, mv, _, hl, x.h0, x.h1, "end", false, rfl, hW3.hl_, hW3.guest (.inl rfl), fun H5 e5 => ?_⟩
        have hW5 := hW3.step (Step.same (r := t3.r) e5)
        walk_at "w"
        refine ⟨t3.r, mv, _, hl, x.h0, x.h1, "move", false, rfl, hW5.hl_, hW5.guest (.inr rfl), fun H6 e6 => ?_⟩
        have hW6 := hW5.step (Step.same (r := t3.r) e6)
        walk_at "w"
        exact ⟨⟨_, _, rfl⟩, ⟨H6, t3.r⟩, ns3, so3, pgs3, rfl, st.trans (s3.trans ((Step.same e5).trans (Step.same e6))), by omega, by omega, hW6⟩)
  · subst hσ e2
    walk_at "w"
    exact q _ t st ⟨rfl, _, ns', so', pgs1', by omega, hW⟩
end
end SP

/-! B30 -/
set_option maxHeartbeats 4100000
namespace SP
open PySem PySem.Spec PyProof.Rows L2 L2H
local macro_rules | `(tactic| walk_at "u") => `(tactic| (dsimp only [tRet, tSeq, tAsg, tDrop, tIfS, tNext, tRetN, tBreak, tCont, tOp, tUn, tCons, tNil, tCallX, tM, tF, sSet, sNew, sAug, tMakeX, tTest, tB, tAnd, tOr, tNot, tAndV, tOrV, tNotV, tIf, tChain, tCB, tBM, tBM0, tTup, tLst, gName, tC, tIsN, tNotN, tDIn, tDNotIn, tDGet, sDPut, tDPop1, gCons, gNil, tSl, tPart, tNoPart, tYes, tVeI]))
local macro_rules | `(tactic| walk_at "o") => `(tactic| (first | assumption | (with_reducible rfl) | omega | (intro hh; cases hh; done) | (simp only [List.length_map, List.length_replicate, List.length_range, List.length_append, List.length_cons, List.length_nil]; omega)))
local macro_rules | `(tactic| walk_at "q") => `(tactic| (repeat (first
  | ((with_reducible refine' q_var ?hq ?_); (case hq => rfl))
  | ((with_reducible refine' q_pF ?ha ?hq ?_); (case ha => assumption); (case hq => rfl))
  | ((with_reducible refine' q_pM ?ha ?_); (case ha => assumption))
  | (with_reducible refine q_I0 ?_)
  | (with_reducible refine q_isInt ?_)
  | (with_reducible refine q_isBool ?_)
  | (with_reducible refine iteT ?_)
  | (with_reducible refine iteF ?_)
  | (with_reducible refine iteSN ?_)
  | (with_reducible refine iteSS ?_)
  | (with_reducible refine iteNSN ?_)
  | (with_reducible refine iteNSS ?_)
  | (with_reducible refine iteNT ?_)
  | (with_reducible refine iteNF ?_)
  | (with_reducible refine q_eqI ?_)
  | (with_reducible refine q_neI ?_)
  | ((with_reducible refine' q_eq ?hq ?_); (case hq => rfl))
  | ((with_reducible refine' q_ne ?hq ?_); (case hq => rfl))
  | (with_reducible refine q_lenL (by assumption) ?_)
  | (with_reducible refine q_lenT (by assumption) ?_)
  | (with_reducible refine q_is_whole ?_)
  | (with_reducible refine q_is_word ?_)
  | (with_reducible refine q_is_below ?_)
  | ((with_reducible refine' And.intro (q_tyL ?ha) ?_); (case ha => assumption))
  | ((with_reducible refine' ⟨_, _, rfl, g_dO ?ha, ?_⟩); (case ha => assumption))
  | ((with_reducible refine' ⟨_, _, rfl, p_dO ?ha, ?_⟩); (case ha => assumption))
  | ((with_reducible refine' ⟨_, Sum.inr "a", _, ?ha, kV_a, valV_dO _, ?_⟩); (case ha => assumption); (rw [dropK_dO]))
  | ((with_reducible refine' ⟨_, rfl, isD_dO ?ha, ?_⟩); (case ha => assumption))
  | (with_reducible refine q_ip ?_)
  | (with_reducible refine q_rAdd ?_)
  | (with_reducible refine q_rSub ?_)
  | (with_reducible refine q_has ?_)
  | (with_reducible refine q_put ?_)
  | (with_reducible refine q_taken ?_)
  | (with_reducible refine q_page_of ?_)
  | (with_reducible refine q_pow48 ?_)
  | (with_reducible refine q_pow40 ?_)
  | ((with_reducible refine' q_I ?hq ?_); (case hq => first | assumption | decide | omega | exact q_div1 (by omega) _ | exact mul_ok (by omega) | exact pow_ok (by decide)))
  | ((with_reducible refine' ite_y ?hq ?_); (case hq => walk_at "o"))
  | ((with_reducible refine' ite_n ?hq ?_); (case hq => walk_at "o"))
  | ((with_reducible refine' ite_nn ?hq ?_); (case hq => walk_at "o"))
  | ((with_reducible refine' ite_ny ?hq ?_); (case hq => walk_at "o"))
  | (with_reducible
                    refine ⟨_, rfl, ?_⟩)
  | (with_reducible refine ⟨_, _, rfl, ?_⟩)
  | (with_reducible refine ⟨rfl, ?_⟩))))
local macro_rules | `(tactic| walk_at "w") => `(tactic| ((try (walk_at "u")); (walk_at "q"); (try (walk_at "u")); (walk_at "q")))
/-! ### the guest's program -/
def rows3 (size c : Int) : List Ord := [.set 0 (c % 2 ^ 48), .set 1 (8 * mix c 31541 size + mix c 69623 8), .poke]
def rowsOf (size : Int) : List Int → List Ord
  | [] => [.nought]
  | c :: cs => rows3 size c ++ rowsOf size cs
theorem rowsOf_len (size : Int) (cs : List Int) : (rowsOf size cs).length = 3 * cs.length + 1 := by
  induction cs with
  | nil => rfl
  | cons c cs ih => rw [rowsOf, List.length_append, ih, List.length_cons, show (rows3 size c).length = 3 from rfl]; omega
theorem rows_set (size : Nat) (hs : 1 ≤ size) (c : Int) : isW (c % 2 ^ 48) ∧ 0 ≤ 8 * mix c 31541 size + mix c 69623 8 ∧ 8 * mix c 31541 size + mix c 69623 8 < 8 * size := by
  obtain ⟨a0, a1⟩ := mix_ok c 31541 (show (0 : Int) < size by omega)
  obtain ⟨b0, b1⟩ := mix_ok c 69623 (show (0 : Int) < 8 by decide)
  exact ⟨⟨Int.emod_nonneg _ (by decide), Int.emod_lt_of_pos _ (by decide)⟩, by omega, by omega⟩
theorem rowsOf_ok (size : Nat) (hs : 1 ≤ size) (hs2 : size ≤ 100) : ∀ (cs : List Int), (∀ (i : Nat) (o : Ord), (rowsOf size cs)[i]? = some o → o = .nought ∨ i + 1 < (rowsOf size cs).length) ∧ (∀ (i : Nat) (a w : Int), (rowsOf size cs)[i]? = some (.set a w) → (a = 0 ∨ a = 1) ∧ isW w) ∧
    (∀ i : Nat, (rowsOf size cs)[i + 1]? = some .poke → ∃ sp : Int, (rowsOf size cs)[i]? = some (.set 1 sp) ∧ 0 ≤ sp ∧ sp < 8 * size) ∧ (rowsOf size cs)[0]? ≠ some .poke
  | [] => by
    refine ⟨fun i o h => ?_, fun i a w h => ?_, fun i h => ?_, fun h => ?_⟩
    · match i, h with
      | 0, h => cases h; exact .inl rfl
      | (i + 1), h => cases h
    · match i, h with
      | 0, h => cases h
      | (i + 1), h => cases h
    · cases h
    · cases h
  | c :: cs => by
    obtain ⟨h1, h2, h3, h4⟩ := rowsOf_ok size hs hs2 cs
    obtain ⟨q1, q2, q3⟩ := rows_set size hs c
    have hl := rowsOf_len size cs
    have e : rowsOf size (c :: cs) = .set 0 (c % 2 ^ 48) :: .set 1 (8 * mix c 31541 size + mix c 69623 8) :: .poke :: rowsOf size cs := rfl
    rw [e]
    refine ⟨fun i o h => ?_, fun i a w h => ?_, fun i h => ?_, fun h => by cases h⟩
    · match i, h with
      | 0, h => exact .inr (by simp)
      | 1, h => exact .inr (by simp)
      | 2, h => exact .inr (by simp; omega)
      | (i + 3), h => exact (h1 i o h).imp id fun z => by simp; omega
    · match i, h with
      | 0, h => cases h; exact ⟨.inl rfl, q1⟩
      | 1, h =>
        cases h
        refine ⟨.inr rfl, q2, ?_⟩
        have : (2 : Int) ^ 48 = 281474976710656 := by decide
        omega
      | 2, h => cases h
      | (i + 3), h => exact h2 i a w h
    · match i, h with
      | 0, h => cases h
      | 1, h => exact ⟨_, rfl, q2, q3⟩
      | 2, h => exact absurd h h4
      | (i + 3), h => exact h3 i h
def rowsP (size : Int) (cs : List Int) : List Ord := cs.flatMap (rows3 size)
theorem rowsOf_eq (size : Int) (cs : List Int) : rowsOf size cs = rowsP size cs ++ [.nought] := by
  induction cs with
  | nil => rfl
  | cons c cs ih => rw [rowsOf, ih]; simp [rowsP, List.flatMap_cons]
theorem rowsP_snoc (size : Int) (cs : List Int) (c : Int) : rowsP size (cs ++ [c]) = rowsP size cs ++ rows3 size c := by simp [rowsP, List.flatMap_append]
/-- rows laid: a list's items stand for rows -/
def RowsR (s : HS) (as : List Addr) (os : List Ord) : Prop := as.length = os.length ∧ ∀ (i : Nat) (a : Addr) (o : Ord), as[i]? = some a → os[i]? = some o → At s a (2, 1) (.tup o.vals)
theorem RowsR.step {s t : HS} {as : List Addr} {os : List Ord} {R : Nat → Prop} (h : RowsR s as os) (st : Step R s t) (n : ¬ R 2) : RowsR t as os := ⟨h.1, fun i a o x y => (h.2 i a o x y).step st n⟩
theorem RowsR.snoc {s : HS} {as : List Addr} {os : List Ord} (h : RowsR s as os) {a : Addr} {o : Ord} (ha : At s a (2, 1) (.tup o.vals)) : RowsR s (as ++ [a]) (os ++ [o]) := by
  refine ⟨by simp [h.1], fun i b q x y => ?_⟩
  by_cases hi : i < as.length
  · rw [List.getElem?_append_left hi] at x
    rw [List.getElem?_append_left (by rw [← h.1]; exact hi)] at y
    exact h.2 i b q x y
  · rw [List.getElem?_append_right (by omega)] at x
    rw [List.getElem?_append_right (by rw [← h.1]; omega)] at y
    have h0 : i - as.length = 0 := by
      have := (List.getElem?_eq_some_iff.mp x).1
      simp at this
      omega
    rw [h0] at x
    rw [← h.1, h0] at y
    cases x
    cases y
    exact ha
end SP

/-! B31 -/
set_option maxHeartbeats 4100000
namespace SP
open PySem PySem.Spec PyProof.Rows L2 L2H
local macro_rules | `(tactic| walk_at "u") => `(tactic| (dsimp only [tRet, tSeq, tAsg, tDrop, tIfS, tNext, tRetN, tBreak, tCont, tOp, tUn, tCons, tNil, tCallX, tM, tF, sSet, sNew, sAug, tMakeX, tTest, tB, tAnd, tOr, tNot, tAndV, tOrV, tNotV, tIf, tChain, tCB, tBM, tBM0, tTup, tLst, gName, tC, tIsN, tNotN, tDIn, tDNotIn, tDGet, sDPut, tDPop1, gCons, gNil, tSl, tPart, tNoPart, tYes, tVeI]))
local macro_rules | `(tactic| walk_at "o") => `(tactic| (first | assumption | (with_reducible rfl) | omega | (intro hh; cases hh; done) | (simp only [List.length_map, List.length_replicate, List.length_range, List.length_append, List.length_cons, List.length_nil]; omega)))
local macro_rules | `(tactic| walk_at "q") => `(tactic| (repeat (first
  | ((with_reducible refine' q_var ?hq ?_); (case hq => rfl))
  | ((with_reducible refine' q_pF ?ha ?hq ?_); (case ha => assumption); (case hq => rfl))
  | ((with_reducible refine' q_pM ?ha ?_); (case ha => assumption))
  | (with_reducible refine q_I0 ?_)
  | (with_reducible refine q_isInt ?_)
  | (with_reducible refine q_isBool ?_)
  | (with_reducible refine iteT ?_)
  | (with_reducible refine iteF ?_)
  | (with_reducible refine iteSN ?_)
  | (with_reducible refine iteSS ?_)
  | (with_reducible refine iteNSN ?_)
  | (with_reducible refine iteNSS ?_)
  | (with_reducible refine iteNT ?_)
  | (with_reducible refine iteNF ?_)
  | (with_reducible refine q_eqI ?_)
  | (with_reducible refine q_neI ?_)
  | ((with_reducible refine' q_eq ?hq ?_); (case hq => rfl))
  | ((with_reducible refine' q_ne ?hq ?_); (case hq => rfl))
  | (with_reducible refine q_lenL (by assumption) ?_)
  | (with_reducible refine q_lenT (by assumption) ?_)
  | (with_reducible refine q_is_whole ?_)
  | (with_reducible refine q_is_word ?_)
  | (with_reducible refine q_is_below ?_)
  | ((with_reducible refine' And.intro (q_tyL ?ha) ?_); (case ha => assumption))
  | ((with_reducible refine' ⟨_, _, rfl, g_dO ?ha, ?_⟩); (case ha => assumption))
  | ((with_reducible refine' ⟨_, _, rfl, p_dO ?ha, ?_⟩); (case ha => assumption))
  | ((with_reducible refine' ⟨_, Sum.inr "a", _, ?ha, kV_a, valV_dO _, ?_⟩); (case ha => assumption); (rw [dropK_dO]))
  | ((with_reducible refine' ⟨_, rfl, isD_dO ?ha, ?_⟩); (case ha => assumption))
  | (with_reducible refine q_ip ?_)
  | (with_reducible refine q_rAdd ?_)
  | (with_reducible refine q_rSub ?_)
  | (with_reducible refine q_has ?_)
  | (with_reducible refine q_put ?_)
  | (with_reducible refine q_taken ?_)
  | (with_reducible refine q_page_of ?_)
  | (with_reducible refine q_pow48 ?_)
  | (with_reducible refine q_pow40 ?_)
  | ((with_reducible refine' q_I ?hq ?_); (case hq => first | assumption | decide | omega | exact q_div1 (by omega) _ | exact mul_ok (by omega) | exact pow_ok (by decide)))
  | ((with_reducible refine' ite_y ?hq ?_); (case hq => walk_at "o"))
  | ((with_reducible refine' ite_n ?hq ?_); (case hq => walk_at "o"))
  | ((with_reducible refine' ite_nn ?hq ?_); (case hq => walk_at "o"))
  | ((with_reducible refine' ite_ny ?hq ?_); (case hq => walk_at "o"))
  | (with_reducible
                    refine ⟨_, rfl, ?_⟩)
  | (with_reducible refine ⟨_, _, rfl, ?_⟩)
  | (with_reducible refine ⟨rfl, ?_⟩))))
local macro_rules | `(tactic| walk_at "w") => `(tactic| ((try (walk_at "u")); (walk_at "q"); (try (walk_at "u")); (walk_at "q")))
theorem cut_ok (ys : List V) (a b : Nat) : cutV ys (some a) (some b) = (ys.drop a).take (b - a) := by
  unfold cutV
  rw [HT.sIx_nat, HT.sIx_nat]
  refine List.ext_getElem? fun i => ?_
  rw [List.getElem?_take, List.getElem?_take, List.getElem?_drop, List.getElem?_drop]
  by_cases h1 : i < b - a
  · rw [if_pos h1]
    by_cases h2 : a + i < ys.length
    · rw [if_pos (by omega), show min a ys.length = a by omega]
    · rw [List.getElem?_eq_none (show ys.length ≤ a + i by omega)]
      split
      · exact List.getElem?_eq_none (by omega)
      · rfl
  · rw [if_neg h1, if_neg (by omega)]
def cellsOf (xs : List Int) : List Int := (xs.drop 2).take 18
theorem cells_cut (xs : List Int) : cutV (xs.map V.int) (some 2) (some 20) = (cellsOf xs).map V.int := by
  have z := cut_ok (xs.map V.int) 2 20
  rw [show ((2 : Nat) : Int) = 2 from rfl, show ((20 : Nat) : Int) = 20 from rfl] at z
  rw [z, ← List.map_drop, ← List.map_take] <;> rfl
theorem cells_len (xs : List Int) : (cellsOf xs).length ≤ 18 := by
  unfold cellsOf
  rw [List.length_take]
  omega
def sp_guest (K : PySem.W.Frag) : Sp := fun vs H Q _ => ∃ (r : Addr → Rg) (sc : Addr) (xs : List Int) (size : Nat), vs = [.ref sc, .int size] ∧ SqL K H sc (xs.map V.int) ∧ 1 ≤ size ∧ size ≤ 100 ∧ Does (fun _ => False) ⟨H, r⟩ Q fun v t => ∃ l, v = .ref l ∧ PrgR t l (1, 3) (rowsOf size (cellsOf xs))
section
variable {P : Program} {w : World} {K :
                                        PySem.W.Frag} {mg : Str → Option Value} {base : Heap}
theorem ok_law_guest (T : TX K mg) : Fn P w K mg base false 3 (He.ga K "_law_guest") (sp_guest K) := by
  refine (f_law_guest T).calm 2 (fun vs H Q E h => by obtain ⟨_, _, _, _, z, _⟩ := h; rw [z] <;> rfl) (fun cdv A outer s H vs Q E hr h => ?_)
  obtain ⟨r, sc, xs, size, rfl, hs, h1, h2, q⟩ := h
  refine ⟨_, pss_cons (ps_set (i := 2) (f_law_guest T).nd rfl (Or.inl rfl) (pe_slice sl_list (pv 0) (po_some pe_int) (po_some pe_int))) (pss_cons (ps_set (i := 3) (f_law_guest T).nd rfl (Or.inl rfl) (pe_lst pa_nil)) (pss_cons (ps_for (passes_of rfl) rfl (pi_list (pv 2)) (pg_name (i := 4) (f_law_guest T).nd rfl (Or.inl rfl)) (pss_cons (ps_set (i := 5) (f_law_guest T).nd rfl (Or.inl rfl) (pe_op op_add (pe_op op_mul pe_int (x_call (ok_law_mix T) (can hr) (g_law_mix T) (f_law_mix T).kp (fun _ => pas0) (pa_cons (pv 4) (pa_cons pe_int (pa_cons (pv 1) pa_nil))))) (x_call (ok_law_mix T) (can hr) (g_law_mix T) (f_law_mix T).kp (fun _ => pas0) (pa_cons (pv 4) (pa_cons pe_int (pa_cons pe_int pa_nil)))))) (pss_one (ps_set (i := 3) (f_law_guest T).nd rfl (Or.inl rfl) (pe_op op_cat (pv 3) (pe_lst (pa_cons (pe_tup (pa_cons pe_str (pa_cons pe_int (pa_cons (pe_op op_mod (pv 4) (pe_op op_pow pe_int pe_int)) pa_nil)))) (pa_cons (pe_tup (pa_cons pe_str (pa_cons pe_int (pa_cons (pv 5) pa_nil)))) (pa_cons (pe_tup (pa_cons pe_str (pa_cons pe_int (pa_cons pe_int pa_nil)))) pa_nil))))))))) (pss_one (ps_ret (pe_op op_cat (pv 3) (pe_lst (pa_cons (pe_tup (pa_cons pe_str (pa_cons pe_int (pa_cons pe_int pa_nil)))) pa_nil))))))), ?_⟩
  walk_at "w"
  refine ⟨sc, _, rfl, hs, fun cl hcl => ?_⟩
  rw [cells_cut]
  have s1 := Step.new (R := fun _ => False) (s := ⟨H, r⟩) (q := (0, 0)) (o := .lst ((cellsOf xs).map V.int)) hcl
  have c1 := At.made (s := HS.mk H r) (a := cl) (q := (0, 0)) (o := .lst ((cellsOf xs).map V.int))
  walk_at "w"
  refine ⟨(show 0 ≤ sizeLine by decide), fun p0 n0 => ?_⟩
  have s2 := c1.stN (R := fun _ => False) (q := (0, 0)) (o := .lst []) n0
  have p2 := c1.md (a := p0) (q := (0, 0)) (o := .lst [])
  have c2 := c1.step s2 id
  have hn := cells_len xs
  walk_at "w"
  refine fr_list (fun i σ H2 => (∃ l u v, σ = [some (V.ref sc), some (V.int size), some (V.ref cl), some (V.ref l), u, v] ∧ ∃ t as, t.h = H2 ∧ Step (fun _ => False) ⟨H, r⟩ t ∧ At t cl (0, 0) (.lst ((cellsOf xs).map V.int)) ∧ At t l (0, 0) (.lst (as.map V.ref)) ∧ as.length = 3 * i ∧ RowsR t as (rowsP size ((cellsOf xs).take i)))) (fun R q => q_var rfl q) (SqL.of c2.1)
    ⟨p0, _, _, rfl, _, [], rfl, s1.trans s2, c2, p2, rfl, rfl, fun i a o x => by cases x⟩ (fun i σ H2 _ ⟨l, u, v, _, t, as, e, _, hc, _⟩ => by subst e; exact SqL.of hc.1) (fun i y σ H2 hy ⟨l, u, v, hσ, t, as, e, st, hc, hl, hal, hR⟩ => ?_) fun σ H2 ⟨l, u, v, hσ, t, as, e, st, hc, hl, hal, hR⟩ => ?_
  · subst hσ e
    obtain ⟨c, hcc, rfl⟩ := getMap hy
    have hil := (List.getElem?_eq_some_iff.mp hcc).1
    obtain ⟨q1, q2, q3⟩ := rows_set size h1 c
    walk_at "w"
    refine ⟨c, 31541, size, rfl, by omega, ?_⟩
    walk_at "w"
    refine ⟨c, 69623, 8, rfl, by decide, ?_⟩
    walk_at "w"
    refine ⟨(show 3 ≤ sizeLine by decide), fun a1 m1 => ?_⟩
    have s3 := hl.stN (R := fun _ => False) (q := (2, 1)) (o := .tup (Ord.set 0 (c % 2 ^ 48)).vals) m1
    have x1 := hl.md (a := a1) (q := (2, 1)) (o := .tup (Ord.set 0 (c % 2 ^ 48)).vals)
    walk_at "w"
    refine ⟨(show 3 ≤ sizeLine by decide), fun a2 m2 => ?_⟩
    have s4 := x1.stN (R := fun _ => False) (q := (2, 1)) (o := .tup (Ord.set 1 (8 * mix c 31541 size + mix c 69623 8)).vals) m2
    have x2 := x1.md (a := a2) (q := (2, 1)) (o := .tup (Ord.set 1 (8 * mix c 31541 size + mix c 69623 8)).vals)
    walk_at "w"
    refine ⟨(show 3 ≤ sizeLine by decide), fun a3 m3 => ?_⟩
    have s5 := x2.stN (R := fun _ => False) (q := (2, 1)) (o := .tup Ord.poke.vals) m3
    have x3 := x2.md (a := a3) (q := (2, 1)) (o := .tup Ord.poke.vals)
    walk_at "w"
    refine ⟨(show 3 ≤ sizeLine by decide), fun b hb => ?_⟩
    have s6 := x3.stN (R := fun _ => False) (q := (0, 0)) (o := .lst [.ref a1, .ref a2, .ref a3]) hb
    have b6 := x3.md (a := b) (q := (0, 0)) (o := .lst [.ref a1, .ref a2, .ref a3])
    have s36 := s3.trans (s4.trans (s5.trans s6))
    have l6 := hl.step s36 id
    walk_at "w"
    refine q_cat l6.1 b6.1 (by rw [List.length_map, hal]; simp; omega) fun l7 hl7 => ?_
    have s7 := b6.stN (R := fun _ => False) (q := (0, 0)) (o := .lst (as.map V.ref ++ [.ref a1, .ref a2, .ref a3])) hl7
    have r7 := b6.md (a := l7) (q := (0, 0)) (o := .lst (as.map V.ref ++ [.ref a1, .ref a2, .ref a3]))
    have hR7 := (((((hR.step s36 id).snoc (((x1.step s4 id).step s5 id).step s6 id)).snoc ((x2.step s5 id).step s6 id)).snoc (x3.step s6 id))).step s7 id
    walk_at "w"
    refine ⟨l7, _, _, rfl, _, as ++ [a1] ++ [a2] ++ [a3], rfl, st.trans (s36.trans s7), (hc.step s36 id).step s7 id, by simpa using r7, by simp; omega, ?_⟩
    rw [take_snoc hcc, rowsP_snoc]
    simpa [rows3] using hR7
  · subst hσ e
    rw [List.length_map] at hal hR
    walk_at "w"
    refine ⟨(show 3 ≤ sizeLine by decide), fun a ha => ?_⟩
    have s3 := hl.stN (R := fun _ => False) (q := (2, 1)) (o := .tup Ord.nought.vals) ha
    have a3 := hl.md (a := a) (q := (2, 1)) (o := .tup Ord.nought.vals)
    walk_at "w"
    refine ⟨(show 1 ≤ sizeLine by decide), fun b hb => ?_⟩
    have s4 := a3.stN (R := fun _ => False) (q := (0, 0)) (o := .lst [.ref a]) hb
    have b4 := a3.md (a := b) (q := (0, 0)) (o := .lst [.ref a])
    have l4 := (hl.step s3 id).step s4 id
    refine q_cat l4.1 b4.1 (by rw [List.length_map, hal]; simp; omega) fun l5 hl5 => ?_
    have s5 := b4.stN (R := fun _ => False) (q := (1, 3)) (o := .lst (as.map V.ref ++ [.ref a])) hl5
    have r5 := b4.md (a := l5) (q := (1, 3)) (o := .lst (as.map V.ref ++ [.ref a]))
    have hR5 := ((hR.step s3 id).step s4 id |>.snoc (a3.step s4 id)).step s5 id
    rw [List.take_of_length_le (Nat.le_refl _), ← rowsOf_eq] at hR5
    exact q _ _ (st.trans (s3.trans (s4.trans s5))) ⟨l5, rfl, as ++ [a], by rw [List.map_append]; exact r5, hR5.1, hR5.2⟩
end
end SP

/-! B32 -/
set_option maxHeartbeats 4100000
namespace SP
open PySem PySem.Spec PyProof.Rows L2 L2H
local macro_rules | `(tactic| walk_at "u") => `(tactic| (dsimp only [tRet, tSeq, tAsg, tDrop, tIfS, tNext, tRetN, tBreak, tCont, tOp, tUn, tCons, tNil, tCallX, tM, tF, sSet, sNew, sAug, tMakeX, tTest, tB, tAnd, tOr, tNot, tAndV, tOrV, tNotV, tIf, tChain, tCB, tBM, tBM0, tTup, tLst, gName, tC, tIsN, tNotN, tDIn, tDNotIn, tDGet, sDPut, tDPop1, gCons, gNil, tSl, tPart, tNoPart, tYes, tVeI]))
local macro_rules | `(tactic| walk_at "o") => `(tactic| (first | assumption | (with_reducible rfl) | omega | (intro hh; cases hh; done) | (simp only [List.length_map, List.length_replicate, List.length_range, List.length_append, List.length_cons, List.length_nil]; omega)))
local macro_rules | `(tactic| walk_at "q") => `(tactic| (repeat (first
  | ((with_reducible refine' q_var ?hq ?_); (case hq => rfl))
  | ((with_reducible refine' q_pF ?ha ?hq ?_); (case ha => assumption); (case hq => rfl))
  | ((with_reducible refine' q_pM ?ha ?_); (case ha => assumption))
  | (with_reducible refine q_I0 ?_)
  | (with_reducible refine q_isInt ?_)
  | (with_reducible refine q_isBool ?_)
  | (with_reducible refine iteT ?_)
  | (with_reducible refine iteF ?_)
  | (with_reducible refine iteSN ?_)
  | (with_reducible refine iteSS ?_)
  | (with_reducible refine iteNSN ?_)
  | (with_reducible refine iteNSS ?_)
  | (with_reducible refine iteNT ?_)
  | (with_reducible refine iteNF ?_)
  | (with_reducible refine q_eqI ?_)
  | (with_reducible refine q_neI ?_)
  | ((with_reducible refine' q_eq ?hq ?_); (case hq => rfl))
  | ((with_reducible refine' q_ne ?hq ?_); (case hq => rfl))
  | (with_reducible refine q_lenL (by assumption) ?_)
  | (with_reducible refine q_lenT (by assumption) ?_)
  | (with_reducible refine q_is_whole ?_)
  | (with_reducible refine q_is_word ?_)
  | (with_reducible refine q_is_below ?_)
  | ((with_reducible refine' And.intro (q_tyL ?ha) ?_); (case ha => assumption))
  | ((with_reducible refine' ⟨_, _, rfl, g_dO ?ha, ?_⟩); (case ha => assumption))
  | ((with_reducible refine' ⟨_, _, rfl, p_dO ?ha, ?_⟩); (case ha => assumption))
  | ((with_reducible refine' ⟨_, Sum.inr "a", _, ?ha, kV_a, valV_dO _, ?_⟩); (case ha => assumption); (rw [dropK_dO]))
  | ((with_reducible refine' ⟨_, rfl, isD_dO ?ha, ?_⟩); (case ha => assumption))
  | (with_reducible refine q_ip ?_)
  | (with_reducible refine q_rAdd ?_)
  | (with_reducible refine q_rSub ?_)
  | (with_reducible refine q_has ?_)
  | (with_reducible refine q_put ?_)
  | (with_reducible refine q_taken ?_)
  | (with_reducible refine q_page_of ?_)
  | (with_reducible refine q_pow48 ?_)
  | (with_reducible refine q_pow40 ?_)
  | ((with_reducible refine' q_I ?hq ?_); (case hq => first | assumption | decide | omega | exact q_div1 (by omega) _ | exact mul_ok (by omega) | exact pow_ok (by decide)))
  | ((with_reducible refine' ite_y ?hq ?_); (case hq => walk_at "o"))
  | ((with_reducible refine' ite_n ?hq ?_); (case hq => walk_at "o"))
  | ((with_reducible refine' ite_nn ?hq ?_); (case hq => walk_at "o"))
  | ((with_reducible refine' ite_ny ?hq ?_); (case hq => walk_at "o"))
  | (with_reducible
                    refine ⟨_, rfl, ?_⟩)
  | (with_reducible refine ⟨_, _, rfl, ?_⟩)
  | (with_reducible refine ⟨rfl, ?_⟩))))
local macro_rules | `(tactic| walk_at "w") => `(tactic| ((try (walk_at "u")); (walk_at "q"); (try (walk_at "u")); (walk_at "q")))
def RL (x : Nat) : Prop := RH 0 x ∨ RH 1 x ∨ RM 2 x ∨ x = 1 ∨ x = 3
structure LawSt (K : PySem.W.Frag) (s : HS) (hl tw sl : Addr) (os : List Ord) (n : Nat) (k0 k1 : Nat) (b : Bool) (ha hb : Addr) (m : MS) (so sot : Nat → Bool) : Prop where
  hk : k0 ≠ k1 ∧ k0 < 2 ∧ k1 < 2
  hl_ : At s hl (1, 0) (.lst [.ref ha, .ref hb])
  g : GuestAt K s k0 b ha none os m so
  e : EmptyAt K s k1 hb
  t : GuestAt K s 2 true tw none os m sot
  sl_ : StepsAt s sl []
  P : PrgOk os n
  O : MOk os n m
theorem RL.h {k x : Nat} (hk : k < 2) (h : RH k x) : RL x := by
  match k, hk, h with
  | 0, _, h => exact .inl h
  | 1, _, h => exact .inr (.inl h)
theorem RL.mv {k0 k1 x : Nat} (h0 : k0 < 2) (h1 : k1 < 2) (h : RMv k0 k1 x) : RL x := by
  rcases h with h | h | h
  · exact .h h0 h
  · exact .h h1 h
  · exact .inr (.inr (.inr (.inr h)))
theorem RL.rr {k0 k1 x : Nat} (h0 : k0 < 2) (h1 : k1 < 2) (h : RR k0 k1 x) : RL x := h.elim (.mv h0 h1) fun z => .inr (.inr (.inr (.inl z)))
def sp_moved (K : PySem.W.Frag) : Sp := fun vs H Q _ => ∃ (r : Addr → Rg) (hl tw sl : Addr) (os : List Ord) (n k0 k1 : Nat) (b : Bool) (ha hb : Addr) (m : MS) (so sot : Nat → Bool) (c : Int), vs = [.ref hl, .ref tw, .int c, .ref sl] ∧ LawSt K ⟨H, r⟩ hl tw sl os n k0 k1 b ha hb m so sot ∧
  Does RL ⟨H, r⟩ Q fun v t => v = .bl true ∧ ∃ k0' k1' b' ha' hb' m' so' sot', LawSt K t hl tw sl os n k0' k1' b' ha' hb' m' so' sot'
theorem EmptyAt.is {K : PySem.W.Frag} {s : HS} {k : Nat} {h : Addr} (x : EmptyAt K s k h) : HouseIs K s k h emptyD := by
  obtain ⟨A, D, h1, h2⟩ := x
  exact .inl ⟨A, D, h1, h2, rfl⟩
theorem GuestAt.is {K : PySem.W.Frag} {s : HS} {k : Nat} {b : Bool} {h : Addr} {bou : Option V} {os : List Ord} {m : MS} {so : Nat → Bool} (x : GuestAt K s k b h bou os m so) : ∃ d, HouseIs K s k h d := by
  obtain ⟨A, mo, obj, F, D, DW, MD, h1, h2, h3⟩ := x
  exact ⟨_, .inr ⟨A, mo, obj, F, D, DW, MD, b, bou, os, m, so, h1, h2, h3, rfl⟩⟩
theorem RL.ra {x : Nat} (h : RA x) : RL x := h.elim (fun z => .inr (.inr (.inl z))) fun z => .inr (.inr (.inr (.inl z)))
theorem offRA {k : Nat} (h0 : k < 2) : OffH RA k := fun y hy z => by
  rcases z with (z | z | z) | z <;> rcases hy with hy | hy <;> omega
theorem offRR {k0 k1 : Nat} (h0 : k0 < 2) (h1 : k1 < 2) : OffH (RR k0 k1) 2 := fun y hy z => by
  rcases z with ((z | z) | (z | z) | z) | z <;> rcases hy with hy | hy <;> omega
theorem offMv {k0 k1 : Nat} (h0 : k0 < 2) (h1 : k1 < 2) : OffH (RMv k0 k1) 2 := fun y hy z => offRR h0 h1 y hy (.inl z)
theorem offC {k0 k1 x : Nat} (h0 : k0 < 2) (h1 : k1 < 2) (hx : x = 0 ∨ x = 2 ∨ x = 100 ∨ x = 103) : ¬ RR k0 k1 x := fun z => by
  rcases z with ((z | z) | (z | z) | z) | z <;> omega
theorem StD.rr {K : PySem.W.Frag} {t u : HS} {v : V} {d : PyData} {k0 k1 : Nat} (h : StD K t v d) (h0 : k0 < 2) (h1 : k1 < 2) (st : Step (RR k0 k1) t u) : StD K u v d :=
  h.step st (offC h0 h1 (.inl rfl)) (offC h0 h1 (.inr (.inl rfl))) (offC h0 h1 (.inr (.inr (.inl rfl)))) (offC h0 h1 (.inr (.inr (.inr rfl))))
theorem emptyD_sh : SeqAt.shaped emptyD = true := by decide +kernel
section
variable {P : Program} {w : World} {K :
                                        PySem.W.Frag} {mg : Str → Option Value} {base : Heap}
theorem ok_law_moved (T : TX K mg) : Fn P w K mg base false 24 (He.ga K "_law_moved") (sp_moved K) := by
  refine (f_law_moved T).calm 23 (fun vs H Q E h => by obtain ⟨_, _, _, _, _, _, _, _, _, _, _, _, _, _, _, z, _⟩ := h; rw [z] <;> rfl) (fun cdv A outer s H vs Q E hr h => ?_)
  obtain ⟨r, hl, tw, sl, os, n, k0, k1, b, ha, hb, m, so, sot, c, rfl, L, q⟩ := h
  obtain ⟨x0, x1⟩ := mix_ok c 27437 (show (0 : Int) < 4 by decide)
  obtain ⟨a, ea⟩ : ∃ a : Nat, mix c 27437 4 = a := Int.eq_ofNat_of_zero_le x0
  obtain ⟨y0, y1⟩ := mix_ok c 55051 (show (0 : Int) < 2 by decide)
  obtain ⟨j, ej⟩ : ∃ a : Nat, mix c 55051 2 = a := Int.eq_ofNat_of_zero_le y0
  rw [ea] at x1
  rw [ej] at y1
  obtain ⟨b2, hb2⟩ : ∃ b2 : Bool, ([.str "shadows", .str "pairs"] : List V)[j]? = some (V.str (wayS b2)) := by
    match j, y1 with
    | 0, _ => exact ⟨false, rfl⟩
    | 1, _ => exact ⟨true, rfl⟩
    | (j + 2), h => omega
  have g0 : H hl = some _ := L.hl_.1
  refine ⟨_, pss_cons (ps_set (i := 4) (f_law_moved T).nd rfl (Or.inl rfl) (pe_op op_add pe_int (x_call (ok_law_mix T) (can hr) (g_law_mix T) (f_law_mix T).kp (fun _ => pas0) (pa_cons (pv 2) (pa_cons pe_int (pa_cons pe_int pa_nil)))))) (pss_cons (ps_set (i := 5) (f_law_moved T).nd rfl (Or.inl rfl) (pe_ix ix_list (pe_lst (pa_cons pe_str (pa_cons pe_str pa_nil))) (x_call (ok_law_mix T) (can hr) (g_law_mix T) (f_law_mix T).kp (fun _ => pas0) (pa_cons (pv 2) (pa_cons pe_int (pa_cons pe_int pa_nil)))) (fun _ _ => rfl))) (pss_cons (ps_set (i := 6) (f_law_moved T).nd rfl (Or.inl rfl) (x_call (ok_law_state T) (can hr) (g_law_state T) (f_law_state T).kp (fun _ => pas0) (pa_cons (pe_ix ix_list (pv 0) pe_int (fun _ _ => rfl)) pa_nil))) (pss_cons (ps_set (i := 7) (f_law_moved T).nd rfl (Or.inl rfl) (x_make (mk_Move T) (ok_Move_init T) (hr.mono (by decide)) (g_Move T) (fun _ => pas0) (pa_cons (pe_ix ix_list (pv 0) pe_int (fun _ _ => rfl)) (pa_cons pe_str (pa_cons (pe_ix ix_list (pv 0) pe_int (fun _ _ => rfl)) (pa_cons (pv 5) (pa_cons (pe_op op_sub pe_int (pe_op op_mul pe_int (pe_op op_mod (pv 2) pe_int))) (pa_cons (pv 4) pa_nil)))))))) (pss_cons (ps_if (pt_not (pt_val (x_call (ok_law_rounds T) (can hr) (g_law_rounds T) (f_law_rounds T).kp (fun _ => pas0) (pa_cons (pv 7) (pa_cons (pv 0) (pa_cons (pv 2) (pa_cons (pv 4) (pa_cons (pv 3) pa_nil)))))))) (pss_one (ps_ret pe_bl)) pss_nil) (pss_cons (ps_if (pt_cmpR op_gt (x_call (ok_law_mix T) (can hr) (g_law_mix T) (f_law_mix T).kp (fun _ => pas0) (pa_cons (pv 2) (pa_cons pe_int (pa_cons pe_int pa_nil)))) pe_int (nomark _)) (pss_one (ps_if (PW.pt (pw_or (pt_cmp (pc_notN (x_m0 (ok_Move_drop T) (can hr) (kls_Move T) (m_Move_drop T) (fun _ => pas0) (pv 7)))) (pw_or1 (pt_cmpR (op_neD (hu64 hr)) (x_call (ok_law_state T) (can hr) (g_law_state T) (f_law_state T).kp (fun _ => pas0) (pa_cons (pe_ix ix_list (pv 0) pe_int (fun _ _ => rfl)) pa_nil)) (pv 6) (nomark _))))) (pss_one (ps_ret pe_bl)) pss_nil)) (pss_cons (ps_expr (x_m0 (ok_Move_finish T) (can hr) (kls_Move T) (m_Move_finish T) (fun _ => pas0) (pv 7))) (pss_cons (ps_if (pt_cmpR (op_neD (hu64 hr)) (x_call (ok_law_state T) (can hr) (g_law_state T) (f_law_state T).kp (fun _ => pas0) (pa_cons (pe_ix ix_list (pv 0) pe_int (fun _ _ => rfl)) pa_nil)) (pe_lst (pa_cons (pe_lst pa_nil) (pa_cons pe_int (pa_cons pe_int pa_nil)))) (nomark _)) (pss_one (ps_ret pe_bl)) pss_nil) (pss_cons (ps_expr (pe_bm0 PySem.F.plainAttrs_list PySem.F.slot_list_reverse PySem.F.type_list_reverse mt_reverse (pv 0))) (pss_one (ps_if (pt_cmpR op_ne (x_m (ok_House_way T) (can hr) (kls_House T) (m_House_way T) (fun _ => pas0) (pe_ix ix_list (pv 0) pe_int (fun _ _ => rfl)) (pa_cons pe_str pa_nil)) (pv 5) (nomark _)) (pss_one (ps_ret pe_bl)) pss_nil)))))) (pss_one (ps_ret (pe_and (x_call (ok_law_behind T) (can hr) (g_law_behind T) (f_law_behind T).kp (fun _ => pas0) (pa_cons (pv 7) (pa_cons (pv 0) (pa_cons (pv 2) pa_nil)))) (pe_one (x_call (ok_law_as_if T) (can hr) (g_law_as_if T) (f_law_as_if T).kp (fun _ => pas0) (pa_cons (pe_ix ix_list (pv 0) pe_int (fun _ _ => rfl)) (pa_cons (pv 1) (pa_cons (pv 3) pa_nil))))))))))))), ?_⟩
  walk_at "w"
  refine ⟨c, 27437, 4, rfl, by decide, ?_⟩
  rw [ea]
  walk_at "w"
  rw [show (1 : Int) + (a : Int) = ((1 + a : Nat) : Int) by omega]
  refine ⟨(show 2 ≤ sizeLine by decide), fun wl hwl => ?_⟩
  have s1 := Step.new (R := fun _ => False) (s := ⟨H, r⟩) (q := (0, 0)) (o := .lst [.str "shadows", .str "pairs"]) hwl
  have w1 := At.made (s := HS.mk H r) (a := wl) (q := (0, 0)) (o := .lst [.str "shadows", .str "pairs"])
  walk_at "w"
  refine ⟨c, 55051, 2, rfl, by decide, ?_⟩
  rw [ej]
  refine q_ixN w1.1 hb2 ?_
  walk_at "w"
  have g1 := (L.hl_.step s1 id).1
  refine q_ixL g1 (v := .ref hb) rfl ?_
  refine ⟨_, k1, hb, emptyD, rfl, by have := L.hk; omega, L.e.is.step s1 (fun _ _ => id), ?_⟩
  rintro bf t2 s2 hbf
  have s02 := s1.trans s2
  have g2 := (L.hl_.step s02 id).1
  walk_at "w"
  refine q_ixL g2 (v := .ref ha) rfl ?_
  walk_at "w"
  refine q_ixL g2 (v := .ref hb) rfl ?_
  walk_at "w"
  refine fun mv dx hx hdx hne => ?_
  refine HS.make (s := t2) (C := He.ga K "Move") (Pq := fun H' => ∃ b b2, sp_Mv_init K b b2 [.ref mv, .ref ha, .str "a", .ref hb, _, _, _] H' _ _) (3, 0) hx hdx hne fun u su hu => ?_
  have s03 := s02.trans su
  refine ⟨b, b2, u.r, mv, dx, ha, hb, k0, k1, none, os, m, so, _, 1 + a, rfl, hu, L.g.step s03 (fun _ _ => id), .inl ⟨rfl, L.e.step s03 (fun _ _ => id), L.hk.1, by have := L.hk; omega, by have := L.hk; omega, by omega, by omega, by omega, by omega, ?_⟩⟩
  rintro v t4 s4 ⟨rfl, obj, hG4, hA4, hM4⟩
  refine ⟨rfl, ?_⟩
  have hk0 := L.hk.2.1
  have hk1 := L.hk.2.2
  have n1 : ¬ RMv k0 k1 1 := fun z => by rcases z with (z | z) | (z | z) | z <;> omega
  have s04 : Step (RMv k0 k1) ⟨H, r⟩ t4 := (s03.mono fun _ z => z.elim).trans s4
  have hl4 := L.hl_.step s04 n1
  have sl4 : StepsAt t4 sl [] := At.step L.sl_ s04 n1
  have hT4 := L.t.step s04 (offMv hk0 hk1)
  have hbf4 : StD K t4 bf emptyD := hbf.rr hk0 hk1 ((su.mono fun _ z => z.elim).trans (s4.mono fun _ z => .inl z))
  walk_at "w"
  refine ⟨b, b2, t4.r, k0, k1, mv, hl, sl, ⟨obj, ha, hb, _, 1 + a, 0, false⟩, os, n, m, [], so, _, c, rfl, rfl, Nat.le_add_right _ _, L.P, L.O, by decide, ⟨L.hk, ⟨hM4, hG4, hA4⟩, hl4, sl4, ⟨by rw [List.length_replicate] <;> rfl, fun z => absurd (show 1 ≤ 0 from z) (by decide)⟩, rfl⟩, ?_⟩
  rintro v t5 s5 ⟨rfl, d, ns, so5, pgs5, hns, hW5⟩
  have s05 : Step (RR k0 k1) ⟨H, r⟩ t5 := (s04.mono fun _ z => .inl z).trans s5
  have hT5 := hT4.step s5 (offRR hk0 hk1)
  have hbf5 := hbf4.rr hk0 hk1 s5
  have hO5 := iterM_ok L.P ns.sum L.O
  have hns5 : ns.sum ≤ 500 := by simp at hns; omega
  obtain ⟨w0, w1⟩ := mix_ok c 39119 (show (0 : Int) < 4 by decide)
  obtain ⟨e, he⟩ : ∃ a : Nat, mix c 39119 4 = a := Int.eq_ofNat_of_zero_le w0
  obtain ⟨dxm, hom⟩ := id hW5.mov.1
  have h5 : t5.h mv = some _ := hom.1
  by_cases hd : 0 < e
  · walk_at "w"
    refine ⟨c, 39119, 4, rfl, by decide, ?_⟩
    rw [he]
    walk_at "w"
    refine ⟨b, b2, t5.r, k0, k1, mv, _, os, _, so5, pgs5, _, rfl, ⟨L.hk.1, by omega, by omega⟩, hW5.mov, rfl, hW5.ov, ?_⟩
    rintro v t6 s6 ⟨rfl, hM6, hG6, hE6⟩
    have hl6 := hW5.hl_.step s6 n1
    have g6 := hl6.1
    walk_at "w"
    refine q_ixL g6 (v := .ref hb) rfl ?_
    refine ⟨_, k1, hb, emptyD, rfl, by omega, hE6.is, ?_⟩
    rintro af t7 s7 haf
    walk_at "w"
    have s67 : Step (RMv k0 k1) t5 t7 := s6.trans (s7.mono fun _ z => z.elim)
    have s57 : Step (RR k0 k1) t5 t7 := s67.mono fun _ z => .inl z
    refine ⟨emptyD, emptyD, haf.now, (hbf5.rr hk0 hk1 s57).now, emptyD_sh, emptyD_sh, ?_⟩
    rw [eqv_of_shaped emptyD_sh]
    walk_at "w"
    have hG7 : GuestAt K t7 k0 b ha none os (iterM os ns.sum m) so5 := GuestAt.step hG6 s7 fun _ _ => id
    have hE7 : EmptyAt K t7 k1 hb := EmptyAt.step hE6 s7 fun _ _ => id
    have hl7 : At t7 hl (1, 0) (.lst [.ref ha, .ref hb]) := hl6.step s7 id
    have hM7 := MoveAt.step hM6 s7 id
    have sl7 : StepsAt t7 sl ns := At.step hW5.sl_ s67 n1
    have hT7 := hT5.step s57 (offRR hk0 hk1)
    obtain ⟨d0, hI0⟩ := hG7.is
    refine ⟨t7.r, mv, _, hl, ha, hb, k0, k1, d0, emptyD, c, rfl, hl7, hM7, rfl, by omega, by omega, hI0, hE7.is, ?_⟩
    rintro v t8 s8 rfl
    have g8 : t8.h hl = some (.lst [.ref ha, .ref hb]) := (hl7.step s8 id).1
    walk_at "w"
    refine q_ixL g8 (v := .ref ha) rfl ?_
    walk_at "w"
    refine ⟨t8.r, ha, tw, sl, k0, b, os, n, m, so5, sot, ns, rfl, hk0, At.step sl7 s8 id, hns5, hG7.step s8 fun _ _ => id, hT7.step s8 fun _ _ => id, L.P, L.O, ?_⟩
    rintro v t9 s9 ⟨rfl, sl9, hl9, so9, hT9⟩
    have hl9 := hl9 hl _ (hl7.step s8 id)
    have st9 : Step RL ⟨H, r⟩ t9 := (s05.mono fun _ => RL.rr hk0 hk1).trans ((s57.mono fun _ => RL.rr hk0 hk1).trans ((s8.mono fun _ z => z.elim).trans (s9.mono fun _ => RL.ra)))
    exact q _ t9 st9 ⟨rfl, k0, k1, b, ha, hb, iterM os ns.sum m, so5, so9, L.hk, hl9, (hG7.step s8 fun _ _ => id).step s9 (offRA hk0), (hE7.step s8 fun _ _ => id).step s9 (offRA hk1), hT9, sl9, L.P, hO5⟩
  · have he0 : e = 0 := by omega
    subst he0
    walk_at "w"
    refine ⟨c, 39119, 4, rfl, by decide, ?_⟩
    rw [he]
    walk_at "w"
    have hP5 : PrgOk os (iterM os ns.sum m).pgs.length := by rw [hO5.n]; exact L.P
    refine ⟨b, b2, t5.r, k0, k1, mv, _, os, _, so5, pgs5, _, rfl, ⟨L.hk.1, by omega, by omega⟩, hW5.mov, rfl, hW5.ov, hW5.sy, hP5, ?_⟩
    rintro v t6 s6 ⟨hM6, hE6, so6, hG6⟩
    have hl6 : At t6 hl (1, 0) (.lst [.ref ha, .ref hb]) := hW5.hl_.step s6 n1
    have g6 : t6.h hl = some (.lst [.ref ha, .ref hb]) := hl6.1
    walk_at "w"
    refine q_ixL g6 (v := .ref ha) rfl ?_
    refine ⟨_, k0, ha, emptyD, rfl, by omega, EmptyAt.is hE6, ?_⟩
    rintro af t7 s7 haf
    walk_at "w"
    refine ⟨(show 0 ≤ sizeLine by decide), fun p0 q0 => ?_⟩
    have s8 := Step.new (R := fun _ => False) (s := t7) (q := (0, 0)) (o := .lst []) q0
    have a8 := At.made (s := t7) (a := p0) (q := (0, 0)) (o := .lst [])
    refine ⟨(show 3 ≤ sizeLine by decide), fun p1 q1 => ?_⟩
    have s9 := a8.stN (R := fun _ => False) (q := (0, 0)) (o := .lst [.ref p0, .int 0, .int 40]) q1
    have a9 := a8.md (a := p1) (q := (0, 0)) (o := .lst [.ref p0, .int 0, .int 40])
    have b9 := a8.step s9 id
    have s89 := s8.trans s9
    refine ⟨emptyD, emptyD, (haf.step s89 id id id id).now, .lst (SqL.of a9.1) (.cons (.lst (SqL.of b9.1) .nil) (.cons (.int _) (.cons (.int _) .nil))), emptyD_sh, emptyD_sh, ?_⟩
    rw [eqv_of_shaped emptyD_sh]
    have s79 := s7.trans s89
    have hl9 := hl6.step s79 id
    have g9 := hl9.1
    walk_at "w"
    refine ⟨hl, _, rfl, rfl, g9, ?_⟩
    have s10 := Step.put1 (o' := .lst [.ref hb, .ref ha]) hl9
    have l10 := hl9.self (o' := .lst [.ref hb, .ref ha])
    have off1 : ∀ k, OffH (· = 1) k := fun k y hy z => by omega
    have hG10 : GuestAt K _ k1 b2 hb none os (iterM os ns.sum m) so6 := (GuestAt.step hG6 s79 fun _ _ => id).step s10 (off1 _)
    have hE10 : EmptyAt K _ k0 ha := (EmptyAt.step hE6 s79 fun _ _ => id).step s10 (off1 _)
    have hM10 := (MoveAt.step hM6 s79 id).step s10 (by decide)
    have sl10 : StepsAt (HS.put _ hl (.lst [.ref hb, .ref ha])) sl ns := At.put (At.step (At.step hW5.sl_ s6 n1) s79 id) hl9 (by simp)
    have hT10 := ((hT5.step s6 (offMv hk0 hk1)).step s79 fun _ _ => id).step s10 (off1 _)
    obtain ⟨A0, mo0, obj0, F0, D0, DW0, MD0, hh0, hW0, hM0⟩ := id hG10
    have g10 := l10.1
    rw [show [V.ref ha, V.ref hb].reverse = [V.ref hb, V.ref ha] from rfl]
    walk_at "w"
    refine q_ixL g10 (v := .ref hb) rfl ?_
    have g11 := hh0.ob.1
    walk_at "w"
    refine ⟨_, k1, hb, A0, _, D0, _, rfl, hh0, _, _, rfl, rfl, rfl, ?_⟩
    cases b2
    all_goals (
      walk_at "w"
      obtain ⟨d1, hI1⟩ := hG10.is
      refine ⟨_, mv, _, hl, hb, ha, k1, k0, d1, emptyD, c, rfl, l10, hM10, rfl, by omega, by omega, hI1, hE10.is, ?_⟩
      rintro v t11 s11 rfl
      have g12 : t11.h hl = some (.lst [.ref hb, .ref ha]) := (l10.step s11 id).1
      walk_at "w"
      refine q_ixL g12 (v := .ref hb) rfl ?_
      walk_at "w"
      refine ⟨t11.r, hb, tw, sl, k1, _, os, n, m, so6, sot, ns, rfl, hk1, At.step sl10 s11 id, hns5, hG10.step s11 fun _ _ => id, hT10.step s11 fun _ _ => id, L.P, L.O, ?_⟩
      rintro v t12 s12 ⟨rfl, sl12, hl12, so12, hT12⟩
      have hl12 := hl12 hl _ (l10.step s11 id)
      have st12 : Step RL ⟨H, r⟩ t12 := (s05.mono fun _ => RL.rr hk0 hk1).trans ((s6.mono fun _ => RL.mv hk0 hk1).trans ((s79.mono fun _ z => z.elim).trans ((s10.mono fun x z => .inr (.inr (.inr (.inl z)))).trans ((s11.mono fun _ z => z.elim).trans (s12.mono fun _ => RL.ra)))))
      exact q _ t12 st12 ⟨rfl, k1, k0, _, hb, ha, iterM os ns.sum m, so6, so12, ⟨fun z => L.hk.1 z.symm, hk1, hk0⟩, hl12, (hG10.step s11 fun _ _ => id).step s12 (offRA hk1), (hE10.step s11 fun _ _ => id).step s12 (offRA hk0), hT12, sl12, L.P, hO5⟩)
end
end SP

/-! B33 -/
set_option maxHeartbeats 4100000
namespace SP
open PySem PySem.Spec PyProof.Rows L2 L2H
local macro_rules | `(tactic| walk_at "u") => `(tactic| (dsimp only [tRet, tSeq, tAsg, tDrop, tIfS, tNext, tRetN, tBreak, tCont, tOp, tUn, tCons, tNil, tCallX, tM, tF, sSet, sNew, sAug, tMakeX, tTest, tB, tAnd, tOr, tNot, tAndV, tOrV, tNotV, tIf, tChain, tCB, tBM, tBM0, tTup, tLst, gName, tC, tIsN, tNotN, tDIn, tDNotIn, tDGet, sDPut, tDPop1, gCons, gNil, tSl, tPart, tNoPart, tYes, tVeI]))
local macro_rules | `(tactic| walk_at "o") => `(tactic| (first | assumption | (with_reducible rfl) | omega | (intro hh; cases hh; done) | (simp only [List.length_map, List.length_replicate, List.length_range, List.length_append, List.length_cons, List.length_nil]; omega)))
local macro_rules | `(tactic| walk_at "q") => `(tactic| (repeat (first
  | ((with_reducible refine' q_var ?hq ?_); (case hq => rfl))
  | ((with_reducible refine' q_pF ?ha ?hq ?_); (case ha => assumption); (case hq => rfl))
  | ((with_reducible refine' q_pM ?ha ?_); (case ha => assumption))
  | (with_reducible refine q_I0 ?_)
  | (with_reducible refine q_isInt ?_)
  | (with_reducible refine q_isBool ?_)
  | (with_reducible refine iteT ?_)
  | (with_reducible refine iteF ?_)
  | (with_reducible refine iteSN ?_)
  | (with_reducible refine iteSS ?_)
  | (with_reducible refine iteNSN ?_)
  | (with_reducible refine iteNSS ?_)
  | (with_reducible refine iteNT ?_)
  | (with_reducible refine iteNF ?_)
  | (with_reducible refine q_eqI ?_)
  | (with_reducible refine q_neI ?_)
  | ((with_reducible refine' q_eq ?hq ?_); (case hq => rfl))
  | ((with_reducible refine' q_ne ?hq ?_); (case hq => rfl))
  | (with_reducible refine q_lenL (by assumption) ?_)
  | (with_reducible refine q_lenT (by assumption) ?_)
  | (with_reducible refine q_is_whole ?_)
  | (with_reducible refine q_is_word ?_)
  | (with_reducible refine q_is_below ?_)
  | ((with_reducible refine' And.intro (q_tyL ?ha) ?_); (case ha => assumption))
  | ((with_reducible refine' ⟨_, _, rfl, g_dO ?ha, ?_⟩); (case ha => assumption))
  | ((with_reducible refine' ⟨_, _, rfl, p_dO ?ha, ?_⟩); (case ha => assumption))
  | ((with_reducible refine' ⟨_, Sum.inr "a", _, ?ha, kV_a, valV_dO _, ?_⟩); (case ha => assumption); (rw [dropK_dO]))
  | ((with_reducible refine' ⟨_, rfl, isD_dO ?ha, ?_⟩); (case ha => assumption))
  | (with_reducible refine q_ip ?_)
  | (with_reducible refine q_rAdd ?_)
  | (with_reducible refine q_rSub ?_)
  | (with_reducible refine q_has ?_)
  | (with_reducible refine q_put ?_)
  | (with_reducible refine q_taken ?_)
  | (with_reducible refine q_page_of ?_)
  | (with_reducible refine q_pow48 ?_)
  | (with_reducible refine q_pow40 ?_)
  | ((with_reducible refine' q_I ?hq ?_); (case hq => first | assumption | decide | omega | exact q_div1 (by omega) _ | exact mul_ok (by omega) | exact pow_ok (by decide)))
  | ((with_reducible refine' ite_y ?hq ?_); (case hq => walk_at "o"))
  | ((with_reducible refine' ite_n ?hq ?_); (case hq => walk_at "o"))
  | ((with_reducible refine' ite_nn ?hq ?_); (case hq => walk_at "o"))
  | ((with_reducible refine' ite_ny ?hq ?_); (case hq => walk_at "o"))
  | (with_reducible
                    refine ⟨_, rfl, ?_⟩)
  | (with_reducible refine ⟨_, _, rfl, ?_⟩)
  | (with_reducible refine ⟨rfl, ?_⟩))))
local macro_rules | `(tactic| walk_at "w") => `(tactic| ((try (walk_at "u")); (walk_at "q"); (try (walk_at "u")); (walk_at "q")))
def pgW (k : Nat) : List Int := [(k : Int), 2 ^ 48 - 1 - k, k, 2 ^ 48 - 1 - k, k, 2 ^ 48 - 1 - k, k, 2 ^ 48 - 1 - k]
def pgsW (n : Nat) : List (List Int) := (List.range n).map pgW
theorem pgW_ok {k : Nat} (h : k < 100) : okPg (pgW k) := by
  have e : (2 : Int) ^ 48 = 281474976710656 := by decide
  refine ⟨rfl, fun x hx => ?_⟩
  simp only [pgW, List.mem_cons, List.not_mem_nil, or_false] at hx
  unfold isW
  omega
theorem pgsW_at {n i : Nat} {ws : List Int} (h : (pgsW n)[i]? = some ws) : ws = pgW i ∧ i < n := by
  unfold pgsW at h
  rw [List.getElem?_map] at h
  by_cases hi : i < n
  · rw [List.getElem?_range hi] at h
    exact ⟨(Option.some.inj h).symm, hi⟩
  · rw [List.getElem?_eq_none (by rw [List.length_range]; omega)] at h
    cases h
theorem pgsW_len (n : Nat) : (pgsW n).length = n := by simp [pgsW]
/-- the script: laid in memory or of the text's own; it stays -/
def SqS (K : PySem.W.Frag) (s : HS) (a : Addr) (xs : List V) : Prop := (∃ u, At s a (110, 0) u ∧ (u = .lst xs ∨ ∃ o, u = .frz o (.lst xs))) ∨ ∀ H : Hp, SqL K H a xs
theorem SqS.step {K : PySem.W.Frag} {R : Nat → Prop} {s t : HS} {a : Addr} {xs : List V} (h : SqS K s a xs) (st : Step R s t) (n : ¬ R 110) : SqS K t a xs := h.imp (fun ⟨u, x, y⟩ => ⟨u, x.step st n, y⟩) id
theorem SqS.sq {K : PySem.W.Frag} {s : HS} {a : Addr} {xs : List V} (h : SqS K s a xs) : SqL K s.h a xs := by
  rcases h with ⟨u, h, rfl | ⟨o, rfl⟩⟩ | h
  · exact .inl (.inl h.1)
  · exact .inl (.inr ⟨o, h.1⟩)
  · exact h _
theorem SqS.of {K : PySem.W.Frag} {s : HS} {a : Addr} {xs : List V} (h : SqL K s.h a xs) (hr : ∀ a, s.r a = (110, 0)) : SqS K s a xs := by
  rcases h with (h
                   | ⟨o, h⟩) | h
  · exact .inl ⟨_, ⟨h, hr a⟩, .inl rfl⟩
  · exact .inl ⟨_, ⟨h, hr a⟩, .inr ⟨o, rfl⟩⟩
  · exact .inr fun H => .inr h
def cells14 (xs : List Int) : List Int := (xs.drop 2).take 14
theorem cells_cut14 (xs : List Int) : cutV (xs.map V.int) (some 2) (some 16) = (cells14 xs).map V.int := by
  have z := cut_ok (xs.map V.int) 2 16
  rw [show ((2 : Nat) : Int) = 2 from rfl, show ((16 : Nat) : Int) = 16 from rfl] at z
  rw [z, ← List.map_drop, ← List.map_take] <;> rfl
theorem cells14_len (xs : List Int) : (cells14 xs).length ≤ 14 := by
  unfold cells14
  rw [List.length_take]
  omega
theorem prg_ok (n : Nat) (h1 : 1 ≤ n) (h2 : n ≤ 100) (xs : List Int) : PrgOk (rowsOf n (cellsOf xs)) n := by
  obtain ⟨q1, q2, q3, q4⟩ := rowsOf_ok n h1 h2 (cellsOf xs)
  have hl := rowsOf_len n (cellsOf xs)
  have hc := cells_len xs
  exact ⟨by omega, by omega, q1, q2, q3, q4⟩
theorem isW0 : isW 0 := ⟨by decide, by decide⟩
theorem m0_ok (os : List Ord) (n : Nat) (P : PrgOk os n) (pgs : List (List Int)) (h : pgs.length = n) : MOk os n ⟨0, 0, 0, pgs⟩ := ⟨P.len1, isW0, isW0, fun z => absurd z P.first, h⟩
def sp_law (K : PySem.W.Frag) : Sp := fun vs H Q _ => ∃ (sc : Addr) (xs : List Int), vs = [.ref sc] ∧ SqL K H sc (xs.map V.int) ∧ xs.length ≤ 63 ∧ ∀ H', Q (.bl true) H'
section
variable {P : Program} {w : World} {K :
                                        PySem.W.Frag} {mg : Str → Option Value} {base : Heap}
theorem ok_law (T : TX K mg) : ∃ fd, (∀ (s : Shared) (u : Value), BindsTo s fd ⟨[u], []⟩ [("_law_script", u)]) ∧ ∀ base : Heap, FnOk P w K mg base (L2N.CX P w) 25 (He.ga K "law") fd ["_law_script"] (sp_law K) := by
  obtain ⟨fd, F⟩ := t_law T
  have b := FunD.bindsA (ps := ["_law_script"]) F fun _ _ _ _ _ _ us hl => match us, hl with | [_], _ => rfl
  refine ⟨fd, fun s v => b s [v] rfl, fun base => F.ok (CX := L2N.CX P w) (k := 24) sc_law (fun vs H Q E h => by obtain ⟨_, _, z, _⟩ := h; rw [z] <;> rfl) fun cdv A outer s H vs Q E hr h => ?_⟩
  obtain ⟨sc, xs, rfl, hs, hlen, q⟩ := h
  obtain ⟨n, hn⟩ : ∃ a : Nat, (1 + xs[0]?.getD 0 % 6 : Int) = a := Int.eq_ofNat_of_zero_le (by omega)
  have hn1 : 1 ≤ n ∧ n ≤ 6 := by omega
  obtain ⟨s0, hs0, hr0⟩ : ∃ s0 : HS, s0.h = H ∧ ∀ a, s0.r a = (110, 0) := ⟨⟨H, fun _ => (110, 0)⟩, rfl, fun _ => rfl⟩
  refine ⟨_, pss_cons (ps_set (i := 1) (f_law T).nd rfl (Or.inl rfl) (pe_op op_add pe_int (pe_op op_mod (x_call (ok_law_cell_at T) (can hr) (g_law_cell_at T) (f_law_cell_at T).kp (fun _ => pas0) (pa_cons (pv 0) (pa_cons pe_int pa_nil))) pe_int))) (pss_cons (ps_setLc (i := 2) (own := [("_law_k", 9)]) (g := gName 9) rfl (f_law T).nd rfl rfl (sw_true rfl rfl rfl (by decide +kernel)) (pi_range1 rfl (z_range T) (pa_cons (pv 1) pa_nil)) (blkOk_by (own := [("_law_k", 9)]) (N := ["_law_script", "_law_size", "_law_pages", "_law_program", "_law_houses", "_law_twin", "_law_way", "_law_steps", "_law_cell", "_law_k"]) (sc := defScope s_law) (by decide +kernel)) (fun _ _ _ _ _ => pg_name (i := 9) (f_law T).nd rfl (Or.inl rfl)) (fun _ _ _ _ _ => pts_nil) (fun _ _ _ _ _ => (pe_op op_rep (pe_lst (pa_cons (pv 9) (pa_cons (pe_op op_sub (pe_op op_sub (pe_op op_pow pe_int pe_int) pe_int) (pv 9)) pa_nil))) pe_int))) (pss_cons (ps_set (i := 3) (f_law T).nd rfl (Or.inl rfl) (x_call (ok_law_guest T) (can hr) (g_law_guest T) (f_law_guest T).kp (fun _ => pas0) (pa_cons (pv 0) (pa_cons (pv 1) pa_nil)))) (pss_cons (ps_set (i := 4) (f_law T).nd rfl (Or.inl rfl) (pe_lst (pa_cons (x_make (mk_House T) (ok_House_init T) (hr.mono (by decide)) (g_House T) (fun _ => pas0) (pa_cons pe_int pa_nil)) (pa_cons (x_make (mk_House T) (ok_House_init T) (hr.mono (by decide)) (g_House T) (fun _ => pas0) (pa_cons pe_int pa_nil)) pa_nil)))) (pss_cons (ps_set (i := 5) (f_law T).nd rfl (Or.inl rfl) (x_make (mk_House T) (ok_House_init T) (hr.mono (by decide)) (g_House T) (fun _ => pas0) (pa_cons pe_int pa_nil))) (pss_cons (ps_set (i := 6) (f_law T).nd rfl (Or.inl rfl) (pe_ix ix_list (pe_lst (pa_cons pe_str (pa_cons pe_str pa_nil))) (pe_op op_mod (x_call (ok_law_cell_at T) (can hr) (g_law_cell_at T) (f_law_cell_at T).kp (fun _ => pas0) (pa_cons (pv 0) (pa_cons pe_int pa_nil))) pe_int) (fun _ _ => rfl))) (pss_cons (ps_expr (x_m (ok_House_start T) (can hr) (kls_House T) (m_House_start T) (fun _ => pas0) (pe_ix ix_list (pv 4) pe_int (fun _ _ => rfl)) (pa_cons pe_str (pa_cons (pv 6) (pa_cons (pv 2) (pa_cons pe_int (pa_cons (pv 3) (pa_cons pe_int pa_nil)))))))) (pss_cons (ps_expr (x_m (ok_House_start T) (can hr) (kls_House T) (m_House_start T) (fun _ => pas0) (pv 5) (pa_cons pe_str (pa_cons pe_str (pa_cons (pv 2) (pa_cons pe_int (pa_cons (pv 3) (pa_cons pe_int pa_nil)))))))) (pss_cons (ps_set (i := 7) (f_law T).nd rfl (Or.inl rfl) (pe_lst pa_nil)) (pss_cons (ps_for (passes_of rfl) rfl (pi_list (pe_op op_cat (pe_slice sl_list (pv 0) (po_some pe_int) (po_some pe_int)) (pe_lst (pa_cons (x_len (z_len T) (pv 0)) pa_nil)))) (pg_name (i := 8) (f_law T).nd rfl (Or.inl rfl)) (pss_one (ps_if (pt_not (pt_val (x_call (ok_law_moved T) (can hr) (g_law_moved T) (f_law_moved T).kp (fun _ => pas0) (pa_cons (pv 4) (pa_cons (pv 5) (pa_cons (pv 8) (pa_cons (pv 7) pa_nil))))))) (pss_one (ps_ret pe_bl)) pss_nil))) (pss_one (ps_ret (pe_cmpR (op_eqD (hu64 hr)) (x_m0 (ok_House_names T) (can hr) (kls_House T) (m_House_names T) (fun _ => pas0) (pe_ix ix_list (pv 4) pe_int (fun _ _ => rfl))) (pe_lst pa_nil) (nomark _))))))))))))), ?_⟩
  walk_at "w"
  refine ⟨sc, xs, 0, rfl, hs, ?_⟩
  walk_at "w"
  rw [hn]
  walk_at "w"
  subst hs0
  refine lc_doesR (s0 := s0) (R := fun _ => False) (J := fun i ys t => ∃ as : List Addr, ys = as.map V.ref ∧ as.length = i ∧ ∀ (j : Nat) (a : Addr), as[j]? = some a → At t a (111, 0) (.lst ((pgW j).map V.int))) (m := n) (112, 0) (fun R z => ?_) (by omega) id
    (fun i ys s t st ⟨as, e1, e2, e3⟩ => ⟨as, e1, e2, fun j a h => (e3 j a h).step st (by decide)⟩) ⟨[], rfl, rfl, fun j a h => by cases h⟩ (fun i ys t hi st ⟨as, e1, e2, e3⟩ Q' z => ?_) fun pl t1 ys np s1 hpl hlen1 ⟨as, e1, e2, e3⟩ => ?_
  · walk_at "w"
    exact z
  · walk_at "w"
    refine ⟨(show 2 ≤ sizeLine by decide), fun p hp => ⟨p, 4, _, rfl, rfl, upd_same, by decide, by decide, (show 2 * 4 ≤ sizeLine by decide), fun p2 hp2 => ?_⟩⟩
    have s2 := Step.new (R := fun _ => False) (s := t) (q := (0, 0)) (o := .lst [V.int (i : Nat), V.int (2 ^ 48 - 1 - (i : Nat))]) hp
    have a2 := At.made (s := t) (a := p) (q := (0, 0)) (o := .lst [V.int (i : Nat), V.int (2 ^ 48 - 1 - (i : Nat))])
    have s3 := a2.stN (R := fun _ => False) (q := (111, 0)) (o := .lst ((pgW i).map V.int)) hp2
    have a3 := a2.md (a := p2) (q := (111, 0)) (o := .lst ((pgW i).map V.int))
    refine z (.ref p2) _ (s2.trans s3) ⟨as ++ [p2], by rw [e1, List.map_append] <;> rfl, by rw [List.length_append, e2] <;> rfl, fun j a h => ?_⟩
    by_cases hj : j < as.length
    · rw [List.getElem?_append_left hj] at h
      exact ((e3 j a h).step s2 id).step s3 id
    · have hl : j < (as ++ [p2]).length := (List.getElem?_eq_some_iff.mp h).1
      rw [List.length_append,
                              List.length_singleton] at hl
      have hji : j = i := by omega
      subst hji
      rw [List.getElem?_append_right (by omega), e2, Nat.sub_self] at h
      cases h
      exact a3
  have hpg : PgsR t1 pl 112 111 (pgsW n) := ⟨as, by rw [← e1]; exact hpl, by rw [pgsW_len]; exact e2, fun i a ws h1 h2 => by rw [(pgsW_at h2).1]; exact e3 i a h1⟩
  have hP := prg_ok n hn1.1 (by omega) xs
  have hs1 := (SqS.of hs hr0).step s1 id
  walk_at "w"
  refine ⟨t1.r, sc, xs, n, rfl, hs1.sq, hn1.1, by omega, ?_⟩
  rintro v t2 s2 ⟨pr, rfl, hPr⟩
  have hs2 := hs1.step s2 id
  have hpg2 := hpg.step s2 id id
  walk_at "w"
  refine fun h0 dx0 x1 x2 x3 => ?_
  refine HS.make (s := t2) (C := He.ga K "House") (Pq := fun H' => sp_H_init K [.ref h0, .int 40, .int 3] H' _ _) (4 * 0 + 7, 0) x1 x2 x3 fun u3 su3 hu3 => ?_
  refine ⟨u3.r, 0, h0, dx0, rfl, hu3, ?_⟩
  rintro v t3 s3 ⟨rfl, hE0⟩
  refine ⟨rfl, ?_⟩
  refine fun h1 dx1 x1 x2 x3 => ?_
  refine HS.make (s := t3) (C := He.ga K "House") (Pq := fun H' => sp_H_init K [.ref h1, .int 40, .int 3] H' _ _) (4 * 1 + 7, 0) x1 x2 x3 fun u4 su4 hu4 => ?_
  refine ⟨u4.r, 1, h1, dx1, rfl, hu4, ?_⟩
  rintro v t4 s4 ⟨rfl, hE1⟩
  refine ⟨rfl, ?_⟩
  walk_at "w"
  refine ⟨(show 2 ≤ sizeLine by decide), fun hl hhl => ?_⟩
  have s5 := Step.new (R := fun _ => False) (s := t4) (q := (1, 0)) (o := .lst [.ref h0, .ref h1]) hhl
  have l5 := At.made (s := t4) (a := hl) (q := (1, 0)) (o := .lst [.ref h0, .ref h1])
  refine fun tw dx2 x1 x2 x3 => ?_
  refine HS.make (s := t4.new hl (1, 0) (.lst [.ref h0, .ref h1])) (C := He.ga K "House") (Pq := fun H' => sp_H_init K [.ref tw, .int 40, .int 3] H' _ _) (4 * 2 + 7, 0) x1 x2 x3 fun u6 su6 hu6 => ?_
  refine ⟨u6.r, 2, tw, dx2, rfl, hu6, ?_⟩
  rintro v t6 s6 ⟨rfl, hE2⟩
  refine ⟨rfl, ?_⟩
  have e24 : Step (fun x => RH 0 x ∨ RH 1 x) t2 t4 := (su3.mono fun _ z => z.elim).trans ((s3.mono fun _ z => .inl z).trans ((su4.mono fun _ z => z.elim).trans (s4.mono fun _ z => .inr z)))
  have e46 : Step (RH 2) t4 t6 := (s5.mono fun _ z => z.elim).trans ((su6.mono fun _ z => z.elim).trans s6)
  have e26 : Step (fun x => x = 101 ∨ (4 ≤ x ∧ x ≤ 15)) t2 t6 := (e24.mono fun x z => by rcases z with (z | z) | (z | z) <;> omega).trans (e46.mono fun x z => by rcases z with z | z <;> omega)
  have hE0' : EmptyAt K t6 0 h0 := (((show EmptyAt K t3 0 h0 from hE0).step su4 fun _ _ => id).step s4 (offH (by decide) (by decide))).step e46 (offH (by decide) (by decide))
  have hE1' : EmptyAt K t6 1 h1 := (show EmptyAt K t4 1 h1 from hE1).step e46 (offH (by decide) (by decide))
  have hl6 := (l5.step su6 id).step s6 (fun z => by rcases z with z | z <;> omega)
  have hs6 := hs2.step e26 (by omega)
  have hpg6 := hpg2.step e26 (by omega) (by omega)
  have hPr6 := hPr.step e26 (by simp) (by omega)
  clear e24 e46 e26 hE0 hE1 l5 hs2 hpg2 hPr
  obtain ⟨y0, y1⟩ : 0 ≤ (xs[1]?.getD 0 % 2 : Int) ∧ (xs[1]?.getD 0 % 2 : Int) < 2 := ⟨by omega, by omega⟩
  obtain ⟨j, ej⟩ : ∃ a : Nat, (xs[1]?.getD 0 % 2 : Int) = a := Int.eq_ofNat_of_zero_le y0
  rw [ej] at y1
  obtain ⟨b, hb⟩ : ∃ b : Bool, ([.str "shadows", .str "pairs"] : List V)[j]? = some (V.str (wayS b)) := by
    match j, y1 with
    | 0, _ => exact ⟨false, rfl⟩
    | 1, _ => exact ⟨true, rfl⟩
    | (j + 2), h => omega
  walk_at "w"
  refine ⟨(show 2 ≤ sizeLine by decide), fun wl hwl => ?_⟩
  have s7 := Step.new (R := fun _ => False) (s := t6) (q := (0, 0)) (o := .lst [.str "shadows", .str "pairs"]) hwl
  have w7 := At.made (s := t6) (a := wl) (q := (0, 0)) (o := .lst [.str "shadows", .str "pairs"])
  walk_at "w"
  refine ⟨sc, xs, 1, rfl, (hs6.step s7 id).sq, ?_⟩
  walk_at "w"
  rw [ej]
  refine q_ixN w7.1 hb ?_
  have hl7 := hl6.step s7 id
  have g7 := hl7.1
  obtain ⟨A0, D0, hh0, hF0⟩ := hE0'.step s7 fun _ _ => id
  have f7 := hh0.ob.1
  walk_at "w"
  refine q_ixL g7 (v := .ref h0) rfl ?_
  walk_at "w"
  have okp : ∀ (i : Nat) ws, (pgsW n)[i]? = some ws → okPg ws := fun i ws h => by
    have z := pgsW_at h
    rw [z.1]
    exact pgW_ok (by omega)
  have hlP : (pgsW n).length = n := pgsW_len n
  have hP' : PrgOk (rowsOf n (cellsOf xs)) (pgsW n).length := by rw [hlP]; exact hP
  have nR : ∀ k, k < 3 → ∀ x, (x = 112 ∨ x = 111 ∨ x = 110 ∨ x = 2 ∨ x = 1) → ¬ RH k x := fun k hk x hx z => by rcases z with z | z <;> omega
  have hpg7 := hpg6.step s7 id id
  have hPr7 := hPr6.step s7 id id
  refine ⟨b, _, 0, h0, A0, _, D0, _, rfl, hh0, pl, 112, 111, pgsW n, pr, (1, 3), _, rfl, rfl, hF0, hpg7, nR 0 (by decide) _ (by decide), nR 0 (by decide) _ (by decide), by decide, okp, by omega, by omega, hPr7, nR 0 (by decide) _ (by decide), hP', ?_⟩
  rintro v t8 s8 ⟨rfl, mo, obj, F, DW, MD, hh8, hW8, hM8⟩
  have hG8 : GuestAt K t8 0 b h0 none (rowsOf n (cellsOf xs)) ⟨0, 0, 0, pgsW n⟩ (fun _ => false) := ⟨A0, mo, obj, F, D0, DW, MD, hh8, hW8, hM8⟩
  obtain ⟨A2, D2, hh2, hF2⟩ : EmptyAt K t8 2 tw := ((show EmptyAt K t6 2 tw from hE2).step s7 fun _ _ => id).step s8 (offH (by decide) (by decide))
  have f8 := hh2.ob.1
  walk_at "w"
  refine ⟨true, _, 2, tw, A2, _, D2, _, rfl, hh2, pl, 112, 111, pgsW n, pr, (1, 3), _, rfl, rfl, hF2, hpg7.step s8 (nR 0 (by decide) _ (by decide)) (nR 0 (by decide) _ (by decide)), nR 2 (by decide) _ (by decide), nR 2 (by decide) _ (by decide), by decide, okp, by omega, by omega, hPr7.step s8 (nR 0 (by decide) _ (by decide)) (nR 0 (by decide) _ (by decide)), nR 2 (by decide) _ (by decide), hP', ?_⟩
  rintro v t9 s9 ⟨rfl, mo2, obj2, F2, DW2, MD2, hh9, hW9, hM9⟩
  have hT9 : GuestAt K t9 2 true tw none (rowsOf n (cellsOf xs)) ⟨0, 0, 0, pgsW n⟩ (fun _ => false) := ⟨A2, mo2, obj2, F2, D2, DW2, MD2, hh9, hW9, hM9⟩
  have hG9 := hG8.step s9 (offH (by decide) (by decide))
  have hE9 := ((hE1'.step s7 fun _ _ => id).step s8 (offH (by decide) (by decide))).step s9 (offH (by decide) (by decide))
  have hl9 := (hl7.step s8 (nR 0 (by decide) _ (by decide))).step s9 (nR 2 (by decide) _ (by decide))
  have hs9 := ((hs6.step s7 id).step s8 (nR 0 (by decide) _ (by decide))).step s9 (nR 2 (by decide) _ (by decide))
  walk_at "w"
  refine ⟨(show 0 ≤ sizeLine by decide), fun sl hsl => ?_⟩
  have s10 := Step.new (R := fun _ => False) (s := t9) (q := (1, 1)) (o := .lst []) hsl
  have sl10 := At.made (s := t9) (a := sl) (q := (1, 1)) (o := .lst [])
  refine fr_list0 ?_
  walk_at "w"
  refine ⟨sc, _, rfl, (hs9.step s10 id).sq, fun cl hcl => ?_⟩
  rw [cells_cut14]
  have s11 := sl10.stN (R := fun _ => False) (q := (0, 0)) (o := .lst ((cells14 xs).map V.int)) hcl
  have c11 := sl10.md (a := cl) (q := (0, 0)) (o := .lst ((cells14 xs).map V.int))
  walk_at "w"
  refine q_lenQ ((hs9.step s10 id).step s11 id).sq ?_
  rw [List.length_map]
  refine ⟨(show 1 ≤ sizeLine by decide), fun nl hnl => ?_⟩
  have s12 := c11.stN (R := fun _ => False) (q := (0, 0)) (o := .lst [.int xs.length]) hnl
  have n12 := c11.md (a := nl) (q := (0, 0)) (o := .lst [.int xs.length])
  have c12 := c11.step s12 id
  have h14 := cells14_len xs
  refine q_cat c12.1 n12.1 (by simp; omega) fun ll hll => ?_
  have s13 := n12.stN (R := fun _ => False) (q := (0, 0)) (o := .lst ((cells14 xs).map V.int ++ [.int xs.length])) hll
  have l13 := n12.md (a := ll) (q := (0, 0)) (o := .lst ((cells14 xs).map V.int ++ [.int xs.length]))
  have s913 := s10.trans (s11.trans (s12.trans s13))
  have L13 : LawSt K _ hl tw sl (rowsOf n (cellsOf xs)) n 0 1 b h0 h1 ⟨0, 0, 0, pgsW n⟩ (fun _ => false) (fun _ => false) := ⟨⟨by decide, by decide, by decide⟩, hl9.step s913 id, hG9.step s913 fun _ _ => id, hE9.step s913 fun _ _ => id, hT9.step s913 fun _ _ => id, sl10.step (s11.trans (s12.trans s13)) id, hP, m0_ok _ _ hP _ hlP⟩
  have eL : (cells14 xs).map V.int ++ [V.int xs.length] = (cells14 xs ++ [(xs.length : Int)]).map V.int := by simp
  refine ⟨ll, rfl, ⟨_, SqL.of upd_same⟩, ?_⟩
  rw [eL] at l13 L13 ⊢
  refine fo_list (xs := (cells14 xs ++ [(xs.length : Int)]).map V.int) (fun i σ H2 => (∃ u v, σ = [some (V.ref sc), some (V.int n), some (V.ref pl), some (V.ref pr), some (V.ref hl), some (V.ref tw), some (V.str (wayS b)), some (V.ref sl), u, v]) ∧ ∃ t k0 k1 b ha hb m so sot, t.h = H2 ∧ At t ll (0, 0) (.lst ((cells14 xs ++ [(xs.length : Int)]).map V.int)) ∧ LawSt K t hl tw sl (rowsOf n (cellsOf xs)) n k0 k1 b ha hb m so sot)
    ⟨⟨_, _, rfl⟩, _, 0, 1, b, h0, h1, _, _, _, rfl, l13, L13⟩ (fun i σ H2 _ ⟨_, t, _, _, _, _, _, _, _, _, e, hc, _⟩ => by subst e; exact SqL.of hc.1) (fun i y σ H2 hy ⟨⟨u, v, hσ⟩, t, k0, k1, b, ha, hb, m, so, sot, e, hc, L⟩ => ?_) fun σ H2 ⟨⟨u, v, hσ⟩, t, k0, k1, b, ha, hb, m, so, sot, e, hc, L⟩ => ?_
  · subst hσ e
    obtain ⟨c, hcc, rfl⟩ := getMap hy
    walk_at "w"
    refine ⟨t.r, hl, tw, sl, _, n, k0, k1, b, ha, hb, m, so, sot, c, rfl, L, ?_⟩
    rintro v t2 s2 ⟨rfl, k0', k1', b', ha', hb', m', so', sot', L'⟩
    walk_at "w"
    exact ⟨⟨_, _, rfl⟩, t2, k0', k1', b', ha', hb', m', so', sot', rfl, hc.step s2 (fun z => by rcases z with (z | z) | (z | z) | (z | z | z) | z | z <;> omega), L'⟩
  · subst hσ e
    obtain ⟨A1, D1, hh1, hF1⟩ := id L.e
    have g1 := L.hl_.1
    have g2 := hh1.ob.1
    walk_at "w"
    refine q_ixL g1 (v := .ref hb) rfl ?_
    walk_at "w"
    refine ⟨t.r, k1, hb, A1, _, D1, _, rfl, hh1, rfl, fun l hl' => ?_⟩
    have s14 := hc.stN (R := fun _ => False) (q := (0, 0)) (o := .lst []) hl'
    have a14 := hc.md (a := l) (q := (0, 0)) (o := .lst [])
    walk_at "w"
    refine ⟨(show 0 ≤ sizeLine by decide), fun p hp => ?_⟩
    refine ⟨.list [], .list [], .lst (SqL.of (a14.step (a14.stN (R := fun _ => False) (q := (0, 0)) (o := .lst []) hp) id).1) .nil, .lst (SqL.of upd_same) .nil, by decide +kernel, by decide +kernel, ?_⟩
    exact q _
end
end SP

/-! H2 -/
set_option maxHeartbeats 0
open PySem PySem.W
                   PySem.Calls PyProof.Rows
theorem PySem.Challenge.cw_shadowpages_k85_over_and_dropped_holds : PySem.Challenge.rw_shadowpages_k85_over_and_dropped.Holds := by
  refine SP.head_holds ?_
  refine LamX.walk_ofTsE (l := PySem.Challenge.rw_shadowpages_k85_over_and_dropped) (n := 63) (k := 25) (x := "_law_script") (CX := fun w => L2N.CX (PySem.Challenge.rw_shadowpages_k85_over_and_dropped).prog w) rfl (by decide) SP.hd_dfl ⟨rfl, by decide, by decide⟩ ?F ?X
  case X =>
    intro w H s e s' z
    obtain ⟨_, _, _, _, _, _, _, _, _, _, _, _, z⟩ := z
    exact z
  case F =>
    intro w mg fa h Y G hmg0
    obtain ⟨K, KX, c⟩ := Y
    have T : SP.TX K mg := ⟨c, h, KX, G⟩
    have hmg : mg ("law" : PySem.Str)
                                      = some (.ref fa) := by
      have e : SP.defS.name = ("law" : PySem.Str) := SP.hd_name
      rw [← e]
      exact hmg0
    have efa := hmg.symm.trans (SP.g_law T)
    cases efa
    obtain ⟨fd, hb, hF⟩ := SP.ok_law (P := (PySem.Challenge.rw_shadowpages_k85_over_and_dropped).prog) (w := w) T
    exact ⟨K, KX, fd, [], SP.sp_law K, fun p hp => (by cases hp), fun p hp => (by cases hp), fun p hp => (by cases hp), hb, fun H a ns hl _ _ hS => ⟨a, ns, rfl, hS, hl, fun _ => rfl⟩, fun base _ _ _ => hF base⟩

