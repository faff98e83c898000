import PyProof.Rows.All
import Wide.All
import OpenK.AllK
import Wide.FinOn
import KE.KStateDown
import KE.KExcSuper
import PyProof.ReprRoads
import PyProof.ReprLen
import HandS.Base
import HandS.Call
import HandS.List
import HandS.Comp
import HandS.Ends
import HandS.Dict
import HandS.Iter
import HandS.Text
import HandS.Words
import HandS.WordsList
import HandS.WordsDict
import HandS.Exc
import HandS.TryOnly
import HandS.ExcOwn
import HandS.WordsExc
import HandS.ExcInit
import HandS.ExcField
import HandS.ExcIs
import HandS.TryMany
import HandS.More
import HandS.Walk
import HandS.IsInst
import HandS.TupAny
import HandS.TupMul
import HandS.TupSets
import HandS.Conv
import HandS.Flow
import HandS.Defaults
import HandS.Head0
import HandS.Head1
import HandS.Head2
import HandS.HeadEnd
import HandS.HeadHook1
import HandS.HeadHook2
import HandS.HeadHook3
import KE.GoesMore
import KE.GoesEnum
import PyProof.EnumMake
import PyProof.AssignAttr
import HandS.Style
import KE.DataEq
import PySem.Challenge.RW_movedwhole_k51_desk_faults
set_option Elab.async false
set_option linter.all false
set_option maxRecDepth 100000
set_option maxHeartbeats 4000000
namespace K5
open PySem PySem.Spec PyProof.Rows L2
/-! ### the text by places -/
def top (i : Nat) : Stmt := PySem.Challenge.pw_movedwhole_k51_desk_faults.main.body.getD i (.Pass ⟨0, 0, 0, 0⟩)
abbrev s_is_from_to : Stmt := top 17
abbrev s__check : Stmt := top 19
abbrev s__put : Stmt := top 20
abbrev s_is_wishes : Stmt := top 23
abbrev s_is_lot : Stmt := top 24
abbrev s_is_placing : Stmt := top 25
abbrev s_first_breach : Stmt := top 26
abbrev s_is_lot_of : Stmt := top 36
abbrev s_integer_told : Stmt := top 52
abbrev s_value_told : Stmt := top 53
abbrev s_values_told : Stmt := top 54
abbrev s__law_mixed : Stmt := top 58
abbrev s__law_tape : Stmt := top 59
abbrev s__law_draw : Stmt := top 60
abbrev s__law_pick : Stmt := top 61
abbrev s__law_lots : Stmt := top 62
abbrev s__law_lot : Stmt := top 63
abbrev s__law_placing : Stmt := top 64
abbrev s__law_counts : Stmt := top 65
abbrev s__law_world : Stmt := top 66
abbrev s__law_cluster : Stmt := top 67
abbrev s__law_put : Stmt := top 68
abbrev s__law_deed : Stmt := top 69
abbrev s__law_joined : Stmt := top 70
abbrev s__law_line : Stmt := top 71
abbrev s__law_is_world : Stmt := top 72
abbrev s__law_desk_world : Stmt := top 73
abbrev s__law_refused : Stmt := top 74
abbrev s__law_no_desk : Stmt := top 75
abbrev s__law_forms : Stmt := top 76
abbrev s__law_misformed : Stmt := top 77
abbrev s__law_unknown : Stmt := top 78
abbrev s__law_unfit : Stmt := top 79
abbrev s__law_full : Stmt := top 80
abbrev s_law : Stmt := top 81
abbrev s_Cluster_init : Stmt := inClass (top 18) 0
abbrev s_Cluster_with_store : Stmt := inClass (top 18) 2
abbrev s_Cluster_with_room : Stmt := inClass (top 18) 3
abbrev s_Cluster_with_rack : Stmt := inClass (top 18) 4
abbrev s_Cluster_with_rate : Stmt := inClass (top 18) 5
abbrev s_Desk_init : Stmt := inClass (top 56) 0
abbrev s_Desk_stand : Stmt := inClass (top 56) 1
abbrev s_Desk_run : Stmt := inClass (top 56) 2
abbrev s_Desk_deed : Stmt := inClass (top 56) 3
abbrev s_Desk_led : Stmt := inClass (top 56) 4
abbrev s_Desk_check_piece : Stmt := inClass (top 56) 5
abbrev s_Desk_wished : Stmt := inClass (top 56) 6
abbrev s_Desk_with_piece : Stmt := inClass (top 56) 7
abbrev s_Desk_answer : Stmt := inClass (top 56) 8
abbrev s_Desk_undo : Stmt := inClass (top 56) 9
abbrev s_Desk_redo : Stmt := inClass (top 56) 10
abbrev s_InvalidNumber_init : Stmt := inClass (top 3) 0
abbrev s_InvalidWishes_init : Stmt := inClass (top 5) 0
abbrev s_InvalidPlacing_init : Stmt := inClass (top 6) 0
abbrev s_InvalidLot_init : Stmt := inClass (top 7) 0
abbrev s_InvalidLine_init : Stmt := inClass (top 8) 0
abbrev s_UnknownWord_init : Stmt := inClass (top 9) 0
abbrev s_TooMany_init : Stmt := inClass (top 10) 0
abbrev s_NothingToUndo_init : Stmt := inClass (top 12) 0
/-! ### the defs that the walk takes -/
def dD (at_ : Str × Option Str) (n q : Str) (st : Stmt) : He.DefD := ⟨at_, n, q, defArgs st, defBody st, defScope st, [], []⟩
def fn0 : List He.DefD := [dD ("is_from_to", none) "is_from_to" "is_from_to" s_is_from_to, dD ("_check", none) "_check" "_check" s__check, dD ("_put", none) "_put" "_put" s__put, dD ("is_wishes", none) "is_wishes" "is_wishes" s_is_wishes, dD ("is_lot", none) "is_lot" "is_lot" s_is_lot, dD ("is_placing", none) "is_placing" "is_placing" s_is_placing, dD ("first_breach", none) "first_breach" "first_breach" s_first_breach, dD ("is_lot_of", none) "is_lot_of" "is_lot_of" s_is_lot_of, dD ("integer_told", none) "integer_told" "integer_told" s_integer_told, dD ("value_told", none) "value_told" "value_told" s_value_told]
def fn1 : List He.DefD := [dD ("values_told", none) "values_told" "values_told" s_values_told, dD ("_law_mixed", none) "_law_mixed" "_law_mixed" s__law_mixed, dD ("_law_tape", none) "_law_tape" "_law_tape" s__law_tape, dD ("_law_draw", none) "_law_draw" "_law_draw" s__law_draw, dD ("_law_pick", none) "_law_pick" "_law_pick" s__law_pick, dD ("_law_lots", none) "_law_lots" "_law_lots" s__law_lots, dD ("_law_lot", none) "_law_lot" "_law_lot" s__law_lot, dD ("_law_placing", none) "_law_placing" "_law_placing" s__law_placing, dD ("_law_counts", none) "_law_counts" "_law_counts" s__law_counts, dD ("_law_world", none) "_law_world" "_law_world" s__law_world]
def fn2 : List He.DefD := [dD ("_law_cluster", none) "_law_cluster" "_law_cluster" s__law_cluster, dD ("_law_put", none) "_law_put" "_law_put" s__law_put, dD ("_law_deed", none) "_law_deed" "_law_deed" s__law_deed, dD ("_law_joined", none) "_law_joined" "_law_joined" s__law_joined, dD ("_law_line", none) "_law_line" "_law_line" s__law_line, dD ("_law_is_world", none) "_law_is_world" "_law_is_world" s__law_is_world, dD ("_law_desk_world", none) "_law_desk_world" "_law_desk_world" s__law_desk_world, dD ("_law_refused", none) "_law_refused" "_law_refused" s__law_refused, dD ("_law_no_desk", none) "_law_no_desk" "_law_no_desk" s__law_no_desk, dD ("_law_forms", none) "_law_forms" "_law_forms" s__law_forms]
def fn3 : List He.DefD := [dD ("_law_misformed", none) "_law_misformed" "_law_misformed" s__law_misformed, dD ("_law_unknown", none) "_law_unknown" "_law_unknown" s__law_unknown, dD ("_law_unfit", none) "_law_unfit" "_law_unfit" s__law_unfit, dD ("_law_full", none) "_law_full" "_law_full" s__law_full, dD ("law", none) "law" "law" s_law, dD ("Cluster", some "__init__") "__init__" "Cluster.__init__" s_Cluster_init, dD ("Cluster", some "with_store") "with_store" "Cluster.with_store" s_Cluster_with_store, dD ("Cluster", some "with_room") "with_room" "Cluster.with_room" s_Cluster_with_room, dD ("Cluster", some "with_rack") "with_rack" "Cluster.with_rack" s_Cluster_with_rack, dD ("Cluster", some "with_rate") "with_rate" "Cluster.with_rate" s_Cluster_with_rate]
def fn4 : List He.DefD := [dD ("Desk", some "__init__") "__init__" "Desk.__init__" s_Desk_init, dD ("Desk", some "stand") "stand" "Desk.stand" s_Desk_stand, dD ("Desk", some "run") "run" "Desk.run" s_Desk_run, dD ("Desk", some "deed") "deed" "Desk.deed" s_Desk_deed, dD ("Desk", some "led") "led" "Desk.led" s_Desk_led, dD ("Desk", some "check_piece") "check_piece" "Desk.check_piece" s_Desk_check_piece, dD ("Desk", some "wished") "wished" "Desk.wished" s_Desk_wished, dD ("Desk", some "with_piece") "with_piece" "Desk.with_piece" s_Desk_with_piece, dD ("Desk", some "answer") "answer" "Desk.answer" s_Desk_answer, dD ("Desk", some "undo") "undo" "Desk.undo" s_Desk_undo]
def fn5 : List He.DefD := [dD ("Desk", some "redo") "redo" "Desk.redo" s_Desk_redo]
def fn : List He.DefD := fn0 ++ (fn1 ++ (fn2 ++ (fn3 ++ (fn4 ++ (fn5)))))
/-! ### the names -/
def gloN0 : List Str := ["is_from_to", "_check", "_put", "is_wishes", "is_lot", "is_placing", "first_breach", "is_lot_of", "integer_told", "value_told"]
def gloN1 : List Str := ["values_told", "_law_mixed", "_law_tape", "_law_draw", "_law_pick", "_law_lots", "_law_lot", "_law_placing", "_law_counts", "_law_world"]
def gloN2 : List Str := ["_law_cluster", "_law_put", "_law_deed", "_law_joined", "_law_line", "_law_is_world", "_law_desk_world", "_law_refused", "_law_no_desk", "_law_forms"]
def gloN3 : List Str := ["_law_misformed", "_law_unknown", "_law_unfit", "_law_full", "law", "InvalidNumber", "InvalidWishes", "InvalidPlacing", "InvalidLot", "InvalidLine"]
def gloN4 : List Str := ["UnknownWord", "TooMany", "NothingToUndo", "MoveError", "Undefined", "Cluster", "Desk", "DEEDS", "QUESTIONS", "BACKWARD"]
def gloN : List Str := gloN0 ++ (gloN1 ++ (gloN2 ++ (gloN3 ++ (gloN4))))
def freeN0 : List Str := ["len", "isinstance", "int", "bool", "list", "tuple", "enumerate", "all", "any", "range"]
def freeN1 : List Str := ["set", "str", "sorted", "min", "dict", "repr", "super"]
def freeN : List Str := freeN0 ++ (freeN1)
def intN0 : List (Str × Int) := [("MOST_STORES", 8), ("MOST_NUMBER", 99), ("MOST_RATE", 8), ("MOST_WISH_placings", 3), ("MOST_PIECES", 40), ("MOST_WISH_desk", 3)]
def intN : List (Str × Int) := intN0
def noatN0 : List (Str × Str) := [("Cluster", "racks"), ("Cluster", "rooms"), ("Cluster", "rates"), ("Cluster", "store_count"), ("Desk", "done"), ("Desk", "undone"), ("Desk", "cluster"), ("Desk", "wishes"), ("Desk", "placing"), ("Desk", "lines")]
def noatN : List (Str × Str) := noatN0
def methN0 : List (Str × Str) := [("Cluster", "with_store"), ("Cluster", "with_room"), ("Cluster", "with_rack"), ("Cluster", "with_rate"), ("Desk", "stand"), ("Desk", "run"), ("Desk", "deed"), ("Desk", "led"), ("Desk", "check_piece"), ("Desk", "wished")]
def methN1 : List (Str × Str) := [("Desk", "with_piece"), ("Desk", "answer"), ("Desk", "undo"), ("Desk", "redo")]
def methN : List (Str × Str) := methN0 ++ (methN1)
def excN0 : List Str := ["InvalidNumber", "InvalidWishes", "InvalidPlacing", "InvalidLot", "InvalidLine", "UnknownWord", "TooMany", "NothingToUndo"]
def excN : List Str := excN0
def excF0 : List (Str × Str) := [("InvalidNumber", "value"), ("InvalidWishes", "value"), ("InvalidPlacing", "value"), ("InvalidLot", "value"), ("InvalidLine", "line"), ("InvalidLine", "at"), ("UnknownWord", "word"), ("TooMany", "what"), ("NothingToUndo", "word")]
def excF : List (Str × Str) := excF0
def exmN0 : List (Str × Str × Bool) := [("InvalidNumber", "UnknownWord", false), ("InvalidNumber", "InvalidLine", false), ("InvalidNumber", "InvalidNumber", true), ("InvalidNumber", "InvalidLot", false), ("InvalidNumber", "TooMany", false), ("InvalidNumber", "Undefined", false), ("InvalidNumber", "NothingToUndo", false), ("InvalidNumber", "InvalidWishes", false), ("InvalidNumber", "InvalidPlacing", false), ("InvalidWishes", "UnknownWord", false)]
def exmN1 : List (Str × Str × Bool) := [("InvalidWishes", "InvalidLine", false), ("InvalidWishes", "InvalidNumber", false), ("InvalidWishes", "InvalidLot", false), ("InvalidWishes", "TooMany", false), ("InvalidWishes", "Undefined", false), ("InvalidWishes", "NothingToUndo", false), ("InvalidWishes", "InvalidWishes", true), ("InvalidWishes", "InvalidPlacing", false), ("InvalidPlacing", "UnknownWord", false), ("InvalidPlacing", "InvalidLine", false)]
def exmN2 : List (Str × Str × Bool) := [("InvalidPlacing", "InvalidNumber", false), ("InvalidPlacing", "InvalidLot", false), ("InvalidPlacing", "TooMany", false), ("InvalidPlacing", "Undefined", false), ("InvalidPlacing", "NothingToUndo", false), ("InvalidPlacing", "InvalidWishes", false), ("InvalidPlacing", "InvalidPlacing", true), ("InvalidLot", "UnknownWord", false), ("InvalidLot", "InvalidLine", false), ("InvalidLot", "InvalidNumber", false)]
def exmN3 : List (Str × Str × Bool) := [("InvalidLot", "InvalidLot", true), ("InvalidLot", "TooMany", false), ("InvalidLot", "Undefined", false), ("InvalidLot", "NothingToUndo", false), ("InvalidLot", "InvalidWishes", false), ("InvalidLot", "InvalidPlacing", false), ("InvalidLine", "UnknownWord", false), ("InvalidLine", "InvalidLine", true), ("InvalidLine", "InvalidNumber", false), ("InvalidLine", "InvalidLot", false)]
def exmN4 : List (Str × Str × Bool) := [("InvalidLine", "TooMany", false), ("InvalidLine", "Undefined", false), ("InvalidLine", "NothingToUndo", false), ("InvalidLine", "InvalidWishes", false), ("InvalidLine", "InvalidPlacing", false), ("UnknownWord", "UnknownWord", true), ("UnknownWord", "InvalidLine", false), ("UnknownWord", "InvalidNumber", false), ("UnknownWord", "InvalidLot", false), ("UnknownWord", "TooMany", false)]
def exmN5 : List (Str × Str × Bool) := [("UnknownWord", "Undefined", false), ("UnknownWord", "NothingToUndo", false), ("UnknownWord", "InvalidWishes", false), ("UnknownWord", "InvalidPlacing", false), ("TooMany", "UnknownWord", false), ("TooMany", "InvalidLine", false), ("TooMany", "InvalidNumber", false), ("TooMany", "InvalidLot", false), ("TooMany", "TooMany", true), ("TooMany", "Undefined", false)]
def exmN6 : List (Str × Str × Bool) := [("TooMany", "NothingToUndo", false), ("TooMany", "InvalidWishes", false), ("TooMany", "InvalidPlacing", false), ("NothingToUndo", "UnknownWord", false), ("NothingToUndo", "InvalidLine", false), ("NothingToUndo", "InvalidNumber", false), ("NothingToUndo", "InvalidLot", false), ("NothingToUndo", "TooMany", false), ("NothingToUndo", "Undefined", false), ("NothingToUndo", "NothingToUndo", true)]
def exmN7 : List (Str × Str × Bool) := [("NothingToUndo", "InvalidWishes", false), ("NothingToUndo", "InvalidPlacing", false)]
def exmN : List (Str × Str × Bool) := exmN0 ++ (exmN1 ++ (exmN2 ++ (exmN3 ++ (exmN4 ++ (exmN5 ++ (exmN6 ++ (exmN7)))))))
/-- what a word stands for: the dict that holds it, the kinds of its parts -/
def tabN0 : List (Str × Str × List Str) := [("DEEDS", "store", ["integer", "integer", "integer"]), ("DEEDS", "room", ["integer", "integer"]), ("DEEDS", "rack", ["integer", "integer"]), ("DEEDS", "rate", ["integer", "integer"]), ("DEEDS", "wish", ["integer", "integer"]), ("DEEDS", "piece", ["integer", "list"]), ("DEEDS", "settle", []), ("QUESTIONS", "breach", [])]
def tabN1 : List (Str × Str × List Str) := [("QUESTIONS", "lacking", []), ("QUESTIONS", "new", []), ("QUESTIONS", "rounds", []), ("QUESTIONS", "lot", []), ("QUESTIONS", "where", ["integer"]), ("BACKWARD", "undo", []), ("BACKWARD", "redo", [])]
def tabN : List (Str × Str × List Str) := tabN0 ++ (tabN1)
def absN0 : List (Str × Str) := [("DEEDS", "breach"), ("DEEDS", "lacking"), ("DEEDS", "new"), ("DEEDS", "rounds"), ("DEEDS", "lot"), ("DEEDS", "where"), ("DEEDS", "undo"), ("DEEDS", "redo"), ("DEEDS", ""), ("DEEDS", "Room")]
def absN1 : List (Str × Str) := [("DEEDS", "rooms"), ("DEEDS", "settle,"), ("DEEDS", "x"), ("DEEDS", "-"), ("DEEDS", "undo\t"), ("DEEDS", "new;"), ("DEEDS", "room\n0"), ("QUESTIONS", "store"), ("QUESTIONS", "room"), ("QUESTIONS", "rack")]
def absN2 : List (Str × Str) := [("QUESTIONS", "rate"), ("QUESTIONS", "wish"), ("QUESTIONS", "piece"), ("QUESTIONS", "settle"), ("QUESTIONS", "undo"), ("QUESTIONS", "redo"), ("QUESTIONS", ""), ("QUESTIONS", "Room"), ("QUESTIONS", "rooms"), ("QUESTIONS", "settle,")]
def absN3 : List (Str × Str) := [("QUESTIONS", "x"), ("QUESTIONS", "-"), ("QUESTIONS", "undo\t"), ("QUESTIONS", "new;"), ("QUESTIONS", "room\n0"), ("BACKWARD", "store"), ("BACKWARD", "room"), ("BACKWARD", "rack"), ("BACKWARD", "rate"), ("BACKWARD", "wish")]
def absN4 : List (Str × Str) := [("BACKWARD", "piece"), ("BACKWARD", "settle"), ("BACKWARD", "breach"), ("BACKWARD", "lacking"), ("BACKWARD", "new"), ("BACKWARD", "rounds"), ("BACKWARD", "lot"), ("BACKWARD", "where"), ("BACKWARD", ""), ("BACKWARD", "Room")]
def absN5 : List (Str × Str) := [("BACKWARD", "rooms"), ("BACKWARD", "settle,"), ("BACKWARD", "x"), ("BACKWARD", "-"), ("BACKWARD", "undo\t"), ("BACKWARD", "new;"), ("BACKWARD", "room\n0")]
def absN : List (Str × Str) := absN0 ++ (absN1 ++ (absN2 ++ (absN3 ++ (absN4 ++ (absN5)))))
def initN : List (Str × Str × Stmt) := [("InvalidNumber", "InvalidNumber.__init__", s_InvalidNumber_init), ("InvalidWishes", "InvalidWishes.__init__", s_InvalidWishes_init), ("InvalidPlacing", "InvalidPlacing.__init__", s_InvalidPlacing_init), ("InvalidLot", "InvalidLot.__init__", s_InvalidLot_init), ("InvalidLine", "InvalidLine.__init__", s_InvalidLine_init), ("UnknownWord", "UnknownWord.__init__", s_UnknownWord_init), ("TooMany", "TooMany.__init__", s_TooMany_init), ("NothingToUndo", "NothingToUndo.__init__", s_NothingToUndo_init)]
def tabs : List He.Tab := [(fun K => He.ga K "DEEDS", ["store", "room", "rack", "rate", "wish", "piece", "settle"]), (fun K => He.ga K "QUESTIONS", ["breach", "lacking", "new", "rounds", "lot", "where"]), (fun K => He.ga K "BACKWARD", ["undo", "redo"])]
def names0 : List PySem.Str := ["_wall", "MoveError", "InvalidNumber", "InvalidCluster", "InvalidWishes", "InvalidPlacing", "InvalidLot", "InvalidLine", "UnknownWord", "TooMany", "Undefined", "NothingToUndo"]
def names1 : List PySem.Str := ["MOST_STORES", "MOST_NUMBER", "MOST_RATE", "is_from_to", "Cluster", "_check", "_put", "MOST_WISH_placings", "is_wishes", "is_lot", "is_placing", "first_breach"]
def names2 : List PySem.Str := ["new_copies", "StockFlow", "check_world", "cheapest_flow", "fewest_placing", "fewest_new", "is_lot_of", "is_lacking", "all_lots", "lot_lacking", "least_busiest", "busy_lot"]
def names3 : List PySem.Str := ["_lots", "_value", "FIGURES", "MOST_PIECES", "MOST_WISH_desk", "DEEDS", "QUESTIONS", "BACKWARD", "integer_told", "value_told", "values_told", "joined"]
def names4 : List PySem.Str := ["Desk", "_law_mixed", "_law_tape", "_law_draw", "_law_pick", "_law_lots", "_law_lot", "_law_placing", "_law_counts", "_law_world", "_law_cluster", "_law_put"]
def names5 : List PySem.Str := ["_law_deed", "_law_joined", "_law_line", "_law_is_world", "_law_desk_world", "_law_refused", "_law_no_desk", "_law_forms", "_law_misformed", "_law_unknown", "_law_unfit", "_law_full"]
def names : List PySem.Str := names0 ++ (names1 ++ (names2 ++ (names3 ++ (names4 ++ (names5)))))
/-! ### the part of the heap that the facts look at -/
def refsA (o : Obj) : List Addr := match o.data with
  | .dict es _ => es.toList.flatMap fun e => He.refV e.val
  | .func fd => He.refV fd.code ++ fd.closure.map (·.2)
  | .cls cd => [cd.ns]
  | .cell (some v) => He.refV v
  | _ => []
def growA (g : Addr → Option Obj) (as : List Addr) : List Addr := as.flatMap fun a => match g a with
  | some o => refsA o
  | none => []
def addrs (g : Addr → Option Obj) : List Addr :=
  let l1 := gloN.map (He.ga (He.frG g [mainGlobals]))
  let l2 := growA g l1
  let l3 := growA g l2
  let l4 := growA g l3
  mainGlobals :: cStatics :: (l1 ++ (l2 ++ (l3 ++ l4)))
/-! ### facts about the errors' classes -/
def oexB (K : PySem.W.Frag) (C : Addr) : Bool := match K.lookup C with
  | some ⟨.type t, dd, .cls cd, sl⟩ => (match cd.mro, sl.toList with
    | .ref C' :: bm, [k0, k1, k2, k3, some (.builtin n), k5] => decide (t = "type") && (decide (C' = C) && (decide (n = "ValueError.__new__") && (!cd.hasDel && (cd.hasDict && PySem.HandSPX.refsVE bm))))
    | _, _ => false)
  | _ => false
theorem oexB_ok {K : PySem.W.Frag} {C : Addr} (h : oexB K C = true) : ∃ nm q N bs bm sn sub ab col dd k0 k1 k2 k3 k5,
    K.lookup C = some (excClassObj nm q C N bs bm true sn sub ab col dd k0 k1 k2 k3 k5 "ValueError.__new__") ∧ PySem.HandSPX.refsVE bm = true := by
  unfold oexB at h
  split at h
  · rename_i t dd cd sl ho
    split at h
    · rename_i C' bm k0 k1 k2 k3 n k5 hm hs
      simp only [Bool.and_eq_true, decide_eq_true_eq, Bool.not_eq_true'] at h
      obtain ⟨rfl, rfl, rfl, hdel, hd, hv⟩ := h
      obtain ⟨nm, bs, mro, ns, qn, hd', sn, sub, ab, col, del⟩ := cd
      dsimp only at hm hdel hd
      subst hm hdel hd
      have hsl : sl = #[k0, k1, k2, k3, some (.builtin "ValueError.__new__"), k5] := by
        obtain ⟨l⟩ := sl
        simp only at hs
        rw [hs]
      subst hsl
      exact ⟨nm, qn, ns, bs, bm, sn, sub, ab, col, dd, k0, k1, k2, k3, k5, ho, hv⟩
    · cases h
  · cases h
abbrev fI (K : PySem.W.Frag) (x : Str) : Addr := He.ma K (He.ga K x) "__init__"
def dq {α : Type} [DecidableEq α] (a b : α) : Bool := decide (a = b)
theorem dq_ok {α : Type} [DecidableEq α] {a b : α} (h : dq a b = true) : a = b := of_decide_eq_true h
def excB (K : PySem.W.Frag) (x : Str) : Bool :=
  oexB K (He.ga K x) && (dq (PySem.W.findIn K (.ref (He.ga K x)) "__setattr__") (some (some (.builtin "object.__setattr__"))) &&
  (dq (PySem.W.subIn K (.ref (He.ga K x)) (.type "BaseException")) (some true) && (dq (PySem.W.typeIn K (.ref (He.ga K x))) (some (.type "type")) && (PySem.W.keepIn K (.ref (He.ga K x)) &&
  (dq (PySem.W.findIn K (.ref (He.ga K x)) "__init__") (some (some (.ref (fI K x)))) && (dq (PySem.W.typeIn K (.ref (fI K x))) (some (.type "function")) &&
  (xfB K (He.ga K x) && (dq (PySem.W.findIn K (.ref (He.ga K x)) "__class__") (some (some (.builtin "object.__class__"))) && (dq (PySem.W.mroIn K (He.ga K x) (.type "object")) (some true) &&
  (dq (PySem.W.kitOne K (.ref (He.ga K x)) (.ref (He.ga K "MoveError"))) (some true) && (dq (PySem.W.ks_superIn K (He.ga K x) (He.ga K x) "__init__") (some (some (.builtin "ValueError.__init__"))) &&
  (dq (PySem.W.subIn K (.ref (He.ga K x)) (.type "ValueError")) (some true) && (dq (PySem.W.mroIn K (He.ga K x) (.ref (He.ga K x))) (some true) && PySem.W.isClsIn K (He.ga K x))))))))))))))
/-- what is known of an error's class -/
structure ExcT (K : PySem.W.Frag) (x : Str) : Prop where
  o : OexC K (He.ga K x)
  ini : PySem.W.findIn K (.ref (He.ga K x)) "__init__" = some (some (.ref (fI K x)))
  tI : PySem.W.typeIn K (.ref (fI K x)) = some (.type "function")
  xf : XfC K (He.ga K x)
  cl : PySem.W.findIn K (.ref (He.ga K x)) "__class__" = some (some (.builtin "object.__class__"))
  mo : PySem.W.mroIn K (He.ga K x) (.type "object") = some true
  kit : PySem.W.kitOne K (.ref (He.ga K x)) (.ref (He.ga K "MoveError")) = some true
  sup : PySem.W.ks_superIn K (He.ga K x) (He.ga K x) "__init__" = some (some (.builtin "ValueError.__init__"))
  subV : PySem.W.subIn K (.ref (He.ga K x)) (.type "ValueError") = some true
  self : PySem.W.mroIn K (He.ga K x) (.ref (He.ga K x)) = some true
  isC : PySem.W.isClsIn K (He.ga K x) = true
theorem excB_ok {K : PySem.W.Frag} {x : Str} (h : excB K x = true) : ExcT K x := by
  obtain ⟨h1, h⟩ := He.ba h
  obtain ⟨h2, h⟩ := He.ba h
  obtain ⟨h3, h⟩ := He.ba h
  obtain ⟨h4, h⟩ := He.ba h
  obtain ⟨h5, h⟩ := He.ba h
  obtain ⟨h6, h⟩ := He.ba h
  obtain ⟨h7, h⟩ := He.ba h
  obtain ⟨h8, h⟩ := He.ba h
  obtain ⟨h9, h⟩ := He.ba h
  obtain ⟨h10, h⟩ := He.ba h
  obtain ⟨h11, h⟩ := He.ba h
  obtain ⟨h12, h⟩ := He.ba h
  obtain ⟨h13, h⟩ := He.ba h
  obtain ⟨h14, h15⟩ := He.ba h
  exact ⟨⟨oexB_ok h1, dq_ok h2, dq_ok h3, dq_ok h4, h5⟩, dq_ok h6, dq_ok h7, xfB_ok h8, dq_ok h9, dq_ok h10, dq_ok h11, dq_ok h12, dq_ok h13, dq_ok h14, h15⟩
/-! ### an error's __init__: a def that closes over its class -/
abbrev FnC : Type := Option (Str × Str × Arguments × FuncBody × Scope × Addr × List Str × Value × Addr)
def fnC (K : PySem.W.Frag) (x : Str) : FnC := match K.lookup (fI K x) with
  | some ⟨_, _, .func fd, _⟩ => some (fd.name, fd.qualname, fd.params, fd.body, fd.scope, fd.globals, fd.closure.map (·.1), fd.defaults, fd.builtins)
  | _ => none
def valC (p : Str × Str × Stmt) : FnC := some ("__init__", p.2.1, defArgs p.2.2, .stmts (defBody p.2.2), defScope p.2.2, mainGlobals, ["__class__"], .none, builtinsNs)
/-- its cell holds the class; its code object is of this file -/
def clB (K : PySem.W.Frag) (x qual : Str) : Bool := match K.lookup (fI K x) with
  | some ⟨_, _, .func fd, _⟩ => PySem.W.codeIn K fd.code qual && ((match fd.closure with
      | [(_, cc)] => (match K.lookup cc with
        | some ⟨_, _, .cell (some (.ref D)), _⟩ => decide (D = He.ga K x)
        | _ => false)
      | _ => false) && (match fd.code with
      | .ref c => (match K.lookup c with
        | some ⟨_, _, .fields vs, _⟩ => (match vs[2]? with
          | some (Value.str f _) => decide (f = ("/claim/cut.py" : Str))
          | _ => false)
        | _ => false)
      | _ => false))
  | _ => false
/-- an error's __init__ as it stands behind the top -/
structure InitT (K : PySem.W.Frag) (x qual : Str) (st : Stmt) : Prop where
  ex : ∃ (oc : Value) (od : Option Addr) (kV doc pm : Value) (an : Option Addr) (cda : Addr) (ct : Value) (osl : Array (Option Value)) (cc : Addr),
    K.lookup (fI K x) = some ⟨oc, od, .func (PySem.W.ksFn "__init__" qual (defArgs st) (defBody st) (defScope st) .none kV doc pm an (.ref cda) ct cc), osl⟩ ∧ PySem.W.codeIn K (.ref cda) qual = true ∧
      (∃ cl cld csl, K.lookup cc = some ⟨cl, cld, .cell (some (.ref (He.ga K x))), csl⟩) ∧ ∃ ccl cdd vs ccs tf, K.lookup cda = some ⟨ccl, cdd, .fields vs, ccs⟩ ∧ vs[2]? = some (.str "/claim/cut.py" tf)
theorem init_ok {K : PySem.W.Frag} {p : Str × Str × Stmt} (e : fnC K p.1 = valC p) (c : clB K p.1 p.2.1 = true) : InitT K p.1 p.2.1 p.2.2 := by
  obtain ⟨x, qual, st⟩ := p
  dsimp only at e c ⊢
  unfold fnC valC at e
  unfold clB at c
  cases q : K.lookup (fI K x) with
  | none =>
    rw [q] at e
    cases e
  | some o =>
    obtain ⟨oc, od, dt, osl⟩ := o
    rw [q] at e c
    cases dt with
    | func fd =>
      obtain ⟨n1, n2, n3, n4, n5, n6, n7, n8, n9, n10, n11, n12, n13, n14, n15⟩ := fd
      have e2 : (some (n1, n2, n3, n4, n5, n6, n7.map (·.1), n8, n15) : FnC) = (some (("__init__" : Str), qual, defArgs st, FuncBody.stmts (defBody st), defScope st, mainGlobals, [("__class__" : Str)], Value.none, builtinsNs) : FnC) := e
      simp only [Option.some.injEq, Prod.mk.injEq] at e2
      obtain ⟨h1, h2, h3, h4, h5, h6, h7, h8, h9⟩ := e2
      have c2 := c
      dsimp only at c2
      obtain ⟨c3, c4⟩ := He.ba c2
      obtain ⟨c5, c6⟩ := He.ba c4
      obtain ⟨cc, rfl⟩ : ∃ cc, n7 = [(("__class__" : Str), cc)] := by
        match n7, h7 with
        | [(a, cc)], h7 =>
          have h8 : a = ("__class__" : Str) := by
            have := h7
            simp only [List.map_cons, List.map_nil, List.cons.injEq, and_true] at this
            exact this
          exact ⟨cc, by rw [h8]⟩
      subst h1 h2 h3 h4 h5 h6 h8 h9
      cases n13 with
      | ref cda =>
        refine ⟨oc, od, n9, n10, n11, n12, cda, n14, osl, cc, q, c3, ?_, ?_⟩
        · dsimp only at c5
          cases qc : K.lookup cc with
          | none =>
            rw [qc] at c5
            cases c5
          | some o2 =>
            obtain ⟨cl, cld, dt2, csl⟩ := o2
            rw [qc] at c5
            cases dt2 with
            | cell v =>
              cases v with
              | none => cases c5
              | some v =>
                cases v with
                | ref D =>
                  have eD : D = He.ga K x := of_decide_eq_true c5
                  exact ⟨cl, cld, csl, by rw [eD]⟩
                | _ => cases c5
            | _ => cases c5
        · dsimp only at c6
          cases qc : K.lookup cda with
          | none =>
            rw [qc] at c6
            cases c6
          | some o2 =>
            obtain ⟨ccl, cdd, dt2, ccs⟩ := o2
            rw [qc] at c6
            cases dt2 with
            | fields vs =>
              dsimp only at c6
              cases qv : vs[2]? with
              | none =>
                rw [qv] at c6
                cases c6
              | some v =>
                rw [qv] at c6
                cases v with
                | str f tf =>
                  have ef : f = "/claim/cut.py" := of_decide_eq_true c6
                  exact ⟨ccl, cdd, vs, ccs, tf, rfl, by rw [qv, ef]⟩
                | _ => cases c6
            | _ => cases c6
      | _ => cases c6
    | _ => cases e
/-! ### the dicts of the top -/
def tabB (K : PySem.W.Frag) (d z : Str) (ks : List Str) : Bool := match PySem.W.nsIn K (He.ga K d) z with
  | some (some (.ref t)) => (match K.lookup t with
    | some ⟨.type c, _, .seq its _, _⟩ => decide (c = "tuple") && (decide (its.size ≤ sizeLine) && He.relAll (ks.map V.str) its.toList)
    | _ => false)
  | _ => false
theorem tabB_ok {K : PySem.W.Frag} {d z : Str} {ks : List Str} (h : tabB K d z ks = true) : ∃ t, PySem.W.nsIn K (He.ga K d) z = some (some (.ref t)) ∧ ∀ H : Hp, SqT K H t (ks.map V.str) := by
  unfold tabB at h
  cases e : PySem.W.nsIn K (He.ga K d) z with
  | none =>
    rw [e] at h
    cases h
  | some r =>
    rw [e] at h
    cases r with
    | none => cases h
    | some v =>
      cases v with
      | ref t =>
        dsimp only at h
        cases q : K.lookup t with
        | none =>
          rw [q] at h
          cases h
        | some o =>
          obtain ⟨oc, od, dt, osl⟩ := o
          rw [q] at h
          cases oc with
          | type c =>
            cases dt with
            | seq its n =>
              obtain ⟨h1, h2⟩ := He.ba (show (decide (c = "tuple") && (decide (its.size ≤ sizeLine) && He.relAll (ks.map V.str) its.toList)) = true from h)
              obtain ⟨h3, h4⟩ := He.ba h2
              exact ⟨t, rfl, fun H => .inr ⟨_, its, n, q, congrArg Value.type (of_decide_eq_true h1), rfl, of_decide_eq_true h3, He.relAll_ok h4⟩⟩
            | _ => cases h
          | _ => cases dt <;> cases h
      | _ => cases h
/-! ### all facts -/
def fa : List He.Fa := gloN.map He.Fa.glo ++ (freeN.map He.Fa.free ++ ((intN.map fun p => He.Fa.int p.1 p.2) ++ ([.str "FIGURES" "0123456789", .cls "Cluster", .cls "Desk", .mkr "Cluster", .mkr "Desk"] ++
  ((noatN.map fun p => He.Fa.noat p.1 p.2) ++ (methN.map fun p => He.Fa.meth p.1 p.2)))))
def exB (K : PySem.W.Frag) : Bool :=
  (excN.all fun x => excB K x) && ((excF.all fun p => dq (PySem.W.findIn K (.ref (He.ga K p.1)) p.2) (some none)) && ((exmN.all fun p => dq (PySem.W.exmOne K (.ref (He.ga K p.1)) (.ref (He.ga K p.2.1))) (some p.2.2)) &&
  ((initN.all fun p => clB K p.1 p.2.1) && ((tabN.all fun p => tabB K p.1 p.2.1 p.2.2) && ((absN.all fun p => dq (PySem.W.nsIn K (He.ga K p.1) p.2) (some none)) &&
  (dq (PySem.W.nsIn K cStatics "thirdparty.any") (some none) && (dq (PySem.W.specialIn K (.builtin "object.__class__") "__get__") (some (some (.builtin "getset_descriptor.__get__"))) &&
  dq (PySem.W.takesIn K (.builtin "object.__class__")) (some true))))))))
abbrev AlK : Type := He.AlT × Bool × List FnC
def obsK (g : Addr → Option Obj) : AlK := (He.obsT fa fn tabs (He.frG g (addrs g)), exB (He.frG g (addrs g)), initN.map fun p => fnC (He.frG g (addrs g)) p.1)
def valK (w : World) : AlK := (He.valT fn tabs w, true, initN.map valC)
/-- what the head tells of the written part -/
structure SaysK (w : World) (K : PySem.W.Frag) : Prop where
  t : He.SaysT fa fn tabs w K
  x : exB K = true
  i : initN.map (fun p => fnC K p.1) = initN.map valC
theorem says_of {w : World} {h : Heap} (e : obsK h.get? = valK w) : SaysK w (He.frG h.get? (addrs h.get?)) :=
  ⟨congrArg (fun z : AlK => z.1) e, congrArg (fun z : AlK => z.2.1) e, congrArg (fun z : AlK => z.2.2) e⟩
def hk : PySem.W.Hook where
  α := AlK
  obs := fun s => obsK s.heap.get?
  val := valK
  says := fun w h => ∃ K : PySem.W.Frag, K.In h ∧ SaysK w K
  of := fun _ _ e => ⟨_, He.frG_in, says_of e⟩
  keeps := fun _ _ _ ⟨K, hK, c⟩ k => ⟨K, PySem.W.Frag.In.keeps hK k, c⟩
theorem map_at {α β : Type} {f g : α → β} : ∀ {l : List α}, l.map f = l.map g → ∀ p ∈ l, f p = g p
  | a :: r, h, p, hp => by
    rw [List.map_cons, List.map_cons] at h
    injection h with h1 h2
    rcases List.mem_cons.mp hp with rfl | hp
    · exact h1
    · exact map_at h2 p hp
/-- the written part and the module's names, as the walk takes them -/
structure Top (w : World) (K : PySem.W.Frag) (mg : Str → Option Value) : Prop where
  glo : ∀ x ∈ gloN, mg x = some (.ref (He.ga K x))
  free : ∀ x ∈ freeN, mg x = none
  int : ∀ p ∈ intN, ∃ t, mg p.1 = some (.int p.2 t)
  fig : ∃ t, mg "FIGURES" = some (.str "0123456789" t)
  clC : Cls K (He.ga K "Cluster")
  clD : Cls K (He.ga K "Desk")
  mkC : Mk K (He.ga K "Cluster") (He.ma K (He.ga K "Cluster") "__init__")
  mkD : Mk K (He.ga K "Desk") (He.ma K (He.ga K "Desk") "__init__")
  noat : ∀ p ∈ noatN, NoAttr K (He.ga K p.1) p.2
  meth : ∀ p ∈ methN, Meth K (He.ga K p.1) p.2 (He.ma K (He.ga K p.1) p.2)
  exc : ∀ x ∈ excN, ExcT K x
  excf : ∀ p ∈ excF, PySem.W.findIn K (.ref (He.ga K p.1)) p.2 = some none
  exm : ∀ p ∈ exmN, PySem.W.exmOne K (.ref (He.ga K p.1)) (.ref (He.ga K p.2.1)) = some p.2.2
  init : ∀ p ∈ initN, InitT K p.1 p.2.1 p.2.2
  tab : ∀ p ∈ tabN, ∃ t, PySem.W.nsIn K (He.ga K p.1) p.2.1 = some (some (.ref t)) ∧ ∀ H : Hp, SqT K H t (p.2.2.map V.str)
  abs : ∀ p ∈ absN, PySem.W.nsIn K (He.ga K p.1) p.2 = some none
  third : PySem.W.nsIn K cStatics "thirdparty.any" = some none
  oc1 : PySem.W.specialIn K (.builtin "object.__class__") "__get__" = some (some (.builtin "getset_descriptor.__get__"))
  oc2 : PySem.W.takesIn K (.builtin "object.__class__") = some true
  fns : ∀ d ∈ fn, ∃ fd, FunD K d.name d.qual d.params d.body d.scope (d.dvs K) (d.kws K) (He.fAd K d.at_) fd
  kd : ∃ es n, KDict K w (He.ga K "DEEDS") es n
  kq : ∃ es n, KDict K w (He.ga K "QUESTIONS") es n
  kb : ∃ es n, KDict K w (He.ga K "BACKWARD") es n
theorem facts_mem {K : PySem.W.Frag} (c : He.SaysD fa fn K) {f : He.Fa} (h : f ∈ fa) : f.ok K = true := by
  obtain ⟨i, hi, e⟩ := List.mem_iff_getElem.mp h
  exact c.fact i (f := f) (by rw [List.getElem?_eq_getElem hi, e])
theorem defs_mem {K : PySem.W.Frag} (c : He.SaysD fa fn K) {d : He.DefD} (h : d ∈ fn) : ∃ fd, FunD K d.name d.qual d.params d.body d.scope (d.dvs K) (d.kws K) (He.fAd K d.at_) fd := by
  obtain ⟨i, hi, e⟩ := List.mem_iff_getElem.mp h
  exact c.def_ i (d := d) (by rw [List.getElem?_eq_getElem hi, e])
theorem top_of {w : World} {K : PySem.W.Frag} {h : Heap} {mg : Str → Option Value} (X : K.In h) (G : h.Ns mainGlobals mg) (c : SaysK w K) : Top w K mg := by
  have cd := c.t.d
  obtain ⟨x1, x⟩ := He.ba c.x
  obtain ⟨x2, x⟩ := He.ba x
  obtain ⟨x3, x⟩ := He.ba x
  obtain ⟨x4, x⟩ := He.ba x
  obtain ⟨x5, x⟩ := He.ba x
  obtain ⟨x6, x⟩ := He.ba x
  obtain ⟨x7, x⟩ := He.ba x
  obtain ⟨x8, x9⟩ := He.ba x
  have m1 : ∀ {f : He.Fa}, f ∈ gloN.map He.Fa.glo → f ∈ fa := fun h => List.mem_append_left _ h
  have m2 : ∀ {f : He.Fa}, f ∈ freeN.map He.Fa.free → f ∈ fa := fun h => List.mem_append_right _ (List.mem_append_left _ h)
  have m3 : ∀ {f : He.Fa}, f ∈ (intN.map fun p => He.Fa.int p.1 p.2) → f ∈ fa := fun h => List.mem_append_right _ (List.mem_append_right _ (List.mem_append_left _ h))
  have m4 : ∀ {f : He.Fa}, f ∈ ([.str "FIGURES" "0123456789", .cls "Cluster", .cls "Desk", .mkr "Cluster", .mkr "Desk"] : List He.Fa) → f ∈ fa := fun h => List.mem_append_right _ (List.mem_append_right _ (List.mem_append_right _ (List.mem_append_left _ h)))
  have m5 : ∀ {f : He.Fa}, f ∈ (noatN.map fun p => He.Fa.noat p.1 p.2) → f ∈ fa := fun h => List.mem_append_right _ (List.mem_append_right _ (List.mem_append_right _ (List.mem_append_right _ (List.mem_append_left _ h))))
  have m6 : ∀ {f : He.Fa}, f ∈ (methN.map fun p => He.Fa.meth p.1 p.2) → f ∈ fa := fun h => List.mem_append_right _ (List.mem_append_right _ (List.mem_append_right _ (List.mem_append_right _ (List.mem_append_right _ h))))
  exact {
    glo := fun y hy => He.glo_ok X G (facts_mem cd (m1 (List.mem_map_of_mem hy)))
    free := fun y hy => He.free_ok X G (facts_mem cd (m2 (List.mem_map_of_mem hy)))
    int := fun p hp => He.int_ok X G (facts_mem cd (m3 (List.mem_map_of_mem (f := fun p : Str × Int => He.Fa.int p.1 p.2) hp)))
    fig := He.str_ok X G (facts_mem cd (m4 (List.mem_cons_self ..)))
    clC := He.cls_ok (facts_mem cd (m4 (List.mem_cons_of_mem _ (List.mem_cons_self ..))))
    clD := He.cls_ok (facts_mem cd (m4 (List.mem_cons_of_mem _ (List.mem_cons_of_mem _ (List.mem_cons_self ..)))))
    mkC := He.mkr_ok (facts_mem cd (m4 (List.mem_cons_of_mem _ (List.mem_cons_of_mem _ (List.mem_cons_of_mem _ (List.mem_cons_self ..))))))
    mkD := He.mkr_ok (facts_mem cd (m4 (List.mem_cons_of_mem _ (List.mem_cons_of_mem _ (List.mem_cons_of_mem _ (List.mem_cons_of_mem _ (List.mem_cons_self ..)))))))
    noat := fun p hp => He.noat_ok (facts_mem cd (m5 (List.mem_map_of_mem (f := fun p : Str × Str => He.Fa.noat p.1 p.2) hp)))
    meth := fun p hp => He.meth_ok (facts_mem cd (m6 (List.mem_map_of_mem (f := fun p : Str × Str => He.Fa.meth p.1 p.2) hp)))
    exc := fun y hy => excB_ok (List.all_eq_true.mp x1 y hy)
    excf := fun p hp => dq_ok (List.all_eq_true.mp x2 p hp)
    exm := fun p hp => dq_ok (List.all_eq_true.mp x3 p hp)
    init := fun p hp => init_ok (map_at c.i p hp) (List.all_eq_true.mp x4 p hp)
    tab := fun p hp => tabB_ok (List.all_eq_true.mp x5 p hp)
    abs := fun p hp => dq_ok (List.all_eq_true.mp x6 p hp)
    third := dq_ok x7
    oc1 := dq_ok x8
    oc2 := dq_ok x9
    fns := fun d hd => defs_mem cd hd
    kd := c.t.tab 0
    kq := c.t.tab 1
    kb := c.t.tab 2 }
end K5
set_option Elab.async false
set_option linter.all false
set_option maxRecDepth 100000
set_option maxHeartbeats 4000000
namespace K5
open PySem PySem.Spec PySem.Calls PyProof.Rows PySem.W

/-! ### super().__init__('..') at the head of an error's own __init__ -/
section
variable {prog : Program} {w : World} {A : Around} {E : Value → Shared → Prop} {h : Heap} {g : Array GenState} {d : Drawn} {t : Nat} {os : OsState} {K : Frag} {mg : Str → Option Value}
/-- what the first statement needs of the ground -/
structure Grd (K : Frag) (mg : Str → Option Value) (h : Heap) : Prop where
  kin : K.In h
  glob : h.Ns mainGlobals mg
  blt : ∃ mb, h.Ns builtinsNs mb ∧ ∀ x : Str, x ≠ "__name__" → mb x = bootBuiltins x
theorem Grd.keeps {h' : Heap} (x : Grd K mg h) (k : ∀ b o, h.get? b = some o → h'.get? b = some o) : Grd K mg h' :=
  ⟨x.kin.keeps k, x.glob.keeps k, let ⟨mb, h1, h2⟩ := x.blt; ⟨mb, h1.keeps k, h2⟩⟩
/-- the object super(C, x) -/
theorem sup_obj {x C L f cda cc : Addr} {body : List Stmt} {qual : Str} {scope : Scope} {p0 p1 : Pos} {attr : Str} {whole : Sem Value} {fd : FuncData} {ar : Arg} {vs : Array Value} {tf : Tok} {oc ccl cl : Value} {od cdd cld : Option Addr}
    {osl ccs csl : Array (Option Value)} {ox : Obj} {m : Str → Option Value} {Q : Value → Shared → Prop}
    (G : Grd K mg h) (ns : h.Ns L m) (hf : K.lookup f = some ⟨oc, od, .func fd, osl⟩) (hp : (fd.params.posonlyargs ++ fd.params.args).head? = some ar) (hv : m ar.arg = some (.ref x))
    (hx : h.get? x = some ox) (hxc : ox.cls = .ref C) (hnc : ∀ c, ox.data ≠ .cls c)
    (hcode : K.lookup cda = some ⟨ccl, cdd, .fields vs, ccs⟩) (hvs : vs[2]? = some (.str "/claim/cut.py" tf)) (hfile : ((prog.main.file : Str) == ("/claim/cut.py" : Str)) = true)
    (hcell : K.lookup cc = some ⟨cl, cld, .cell (some (.ref C)), csl⟩) (hC : isClsIn K C = true) (hsub : mroIn K C (.ref C) = some true) (hsuper : mg "super" = none)
    (hat : (attr == ("__class__" : Str)) = false) (hks : scope.names.lookup ("super" : Str) = some .globalImplicit) (hkc : scope.names.lookup ("__class__" : Str) = some .free) (hka : scope.names.lookup ar.arg = some .local) (hk : scope.kind = .function)
    (htop : (prog.main.scope.names.lookup ("super" : Str)).isSome = false)
    (q : ∀ h', h'.get? h.objs.size = some (ks_superObj C x C) → (∀ y o, h.get? y = some o → h'.get? y = some o) → Q (.ref h.objs.size) ⟨h', g, d, t, os⟩) :
    _root_.PySem.wpAt (model prog w) A (.func body (ksEnv qual scope L f (.ref cda) cc)) (attributeBase (.Call (.Name "super" p0) [] [] p1) attr (ksEnv qual scope L f (.ref cda) cc) whole) Q E ⟨h, g, d, t, os⟩ := by
  obtain ⟨mb, hb1, hb2⟩ := G.blt
  obtain ⟨cdD, hcd⟩ : ∃ cd, clsIn K C = some cd := Option.isSome_iff_exists.mp hC
  obtain ⟨oD, hD1, hD2⟩ : ∃ oD, h.get? C = some oD ∧ oD.data = .cls cdD := by
    unfold clsIn at hcd
    split at hcd
    · rename_i c dd cd' sl ho
      cases hcd
      exact ⟨_, G.kin _ _ ho, rfl⟩
    · cases hcd
  refine ks_wpAt_super_base (env := ksEnv qual scope L f (.ref cda) cc) hks hkc hat rfl (G.kin _ _ hf) rfl hp rfl (G.kin _ _ hcode) rfl hvs hfile htop ?_
  have hbs : bootBuiltins "super" = some (.type "super") := by first | rfl | kernel_rfl | decide +kernel
  refine ks_loadName_global hk hks (loadGlobal_builtin (env := ksEnv qual scope L f (.ref cda) cc) G.glob hsuper hb1 ((hb2 _ (by decide +kernel)).trans hbs) ⟨rfl, ?_⟩)
  refine wpAny_loadName_free hk hkc rfl ⟨_, G.kin _ _ hcell, rfl⟩ ?_
  refine wpAny_loadName_local hk hka ns hv ?_
  refine ks_wpAny_isType_cls hD1 hD2 ⟨rfl, ?_⟩
  exact ks_wpAny_call_super hD1 hD2 hx hxc hnc (looks_mroIn G.kin hsub) fun h' e k => q h' e k
/-- the bound __init__ called -/
theorem sup_call {u x C t0 : Addr} {rest : List Value} {nm q : Str} {N : Addr} {bs bm : List Value} {hdct : Bool} {sn : List Str} {sub : List Value} {ab : Bool} {col : Option Bool} {dd : Option Addr} {k0 k1 k2 k3 k5 : Option Value} {Q : Value → Shared → Prop}
    (hC : h.get? C = some (excClassObj nm q C N bs bm hdct sn sub ab col dd k0 k1 k2 k3 k5 "ValueError.__new__")) (hx : h.get? x = some (PySem.HandSPX.excO C t0)) (hu : h.get? u = some (kxs_mw "ValueError.__init__" x)) (hz : rest.length ≤ sizeLine)
    (hq : ∀ h' t1, (∀ b o, b ≠ x → h.get? b = some o → h'.get? b = some o) → h'.get? x = some (PySem.HandSPX.excO C t1) → Q .none ⟨h', g, d, t, os⟩) :
    wpAny (model prog w) A (call (.ref u) rest) Q E ⟨h, g, d, t, os⟩ := by
  refine wpAny_call (codeAny_of_tree ?_)
  show wpAny _ A.in1 (callAny (.ref u) ⟨rest, []⟩) _ _ _
  simp only [callAny]
  refine wpAny_bind (wpAny_load hu ?_)
  simp only [kxs_mw, show (Value.type "method-wrapper" == Value.type "method" || Value.type "method-wrapper" == Value.type "builtin_function_or_method" || Value.type "method-wrapper" == Value.type "method-wrapper") = true by decide, if_true]
  refine KFB.if_so (by decide) ?_
  refine wpAny_bind (check_bound_init PySem.F.excBase_ValueError.toExcCallFacts hC hx rfl ?_)
  refine wpAny_bind (wpAny_pure (wpAny_pure ?_))
  refine ⟨plainId_quiet PySem.F.excBase_ValueError.init.plain _, codeAny_builtin PySem.F.excBase_ValueError.initEntry ?_⟩
  exact exc_init_tree (cls := .ref C) (t0 := t0) (dv := none) (c2 := .none) (c3 := .none) (b4 := .bool false) hx hz fun h' k e _ => hq h' _ k e
end
end K5
set_option Elab.async false
set_option linter.all false
set_option maxRecDepth 100000
set_option maxHeartbeats 4000000
namespace K5
open PySem PySem.Spec PySem.Calls PyProof.Rows PySem.W
/-- the first statement's text -/
abbrev supSt (txt : Str) (j : Nat) (p0 p1 p2 p3 p4 p5 : Pos) : Stmt := .Expr (.Call (.Attribute (.Call (.Name "super" p0) [] [] p1) "__init__" p2) [.Constant (.str txt) j p3] [] p4) p5
/-- self.f = f -/
abbrev fldSt (f : Str) (p0 p1 p2 p3 : Pos) : Stmt := .Assign [.Attribute (.Name "self" p0) f p1] (.Name f p2) p3
/-- how that statement is read: by the places in the text alone -/
def SupEv (txt : Str) (j : Nat) (p0 p1 p2 p3 p4 p5 : Pos) (env : Env) (pl : Sem Bool) : Prop :=
  eval (.Call (.Attribute (.Call (.Name "super" p0) [] [] p1) "__init__" p2) [.Constant (.str txt) j p3] [] p4) env = (do
      let ov ← attributeBase (.Call (.Name "super" p0) [] [] p1) "__init__" env (eval (.Call (.Name "super" p0) [] [] p1) env)
      standAt p2.atName
      let (f, first) ← holding [ov] (getMethod ov "__init__" pl)
      callWith p4 f first (backTo p4 (starEach [.Constant (.str txt) j p3] env)) []) ∧
  swapsWith (.Call (.Attribute (.Call (.Name "super" p0) [] [] p1) "__init__" p2) [.Constant (.str txt) j p3] [] p4) none p5.line env = pure false
section
variable {prog : Program} {w : World} {A : Around} {E : Value → Shared → Prop} {h : Heap} {g : Array GenState} {d : Drawn} {t : Nat} {os : OsState} {K : Frag} {mg : Str → Option Value}
theorem sup_stmt {x L f cda cc t0 : Addr} {nm : Str} {body : List Stmt} {qual txt : Str} {scope : Scope} {j : Nat} {p0 p1 p2 p3 p4 p5 : Pos} {fd : FuncData} {ar : Arg} {vs : Array Value} {tf : Tok} {oc ccl cl : Value} {od cdd cld : Option Addr}
    {osl ccs csl : Array (Option Value)} {m : Str → Option Value} {Q : Flow → Shared → Prop} {pl : Sem Bool}
    (X : ExcT K nm) (third : nsIn K cStatics "thirdparty.any" = some none) (G : Grd K mg h) (ns : h.Ns L m) (hf : K.lookup f = some ⟨oc, od, .func fd, osl⟩) (hp : (fd.params.posonlyargs ++ fd.params.args).head? = some ar) (hv : m ar.arg = some (.ref x))
    (hx : h.get? x = some (PySem.HandSPX.excO (He.ga K nm) t0))
    (hcode : K.lookup cda = some ⟨ccl, cdd, .fields vs, ccs⟩) (hvs : vs[2]? = some (.str "/claim/cut.py" tf)) (hfile : ((prog.main.file : Str) == ("/claim/cut.py" : Str)) = true)
    (hcell : K.lookup cc = some ⟨cl, cld, .cell (some (.ref (He.ga K nm))), csl⟩) (hsuper : mg "super" = none)
    (hks : scope.names.lookup ("super" : Str) = some .globalImplicit) (hkc : scope.names.lookup ("__class__" : Str) = some .free) (hka : scope.names.lookup ar.arg = some .local) (hk : scope.kind = .function)
    (htop : (prog.main.scope.names.lookup ("super" : Str)).isSome = false)
    (he : SupEv txt j p0 p1 p2 p3 p4 p5 (ksEnv qual scope L f (.ref cda) cc) pl)
    (q : ∀ h' tk t1, (∀ b o, b ≠ x → h.get? b = some o → h'.get? b = some o) → h'.get? x = some (PySem.HandSPX.excO (He.ga K nm) t1) → Q .next ⟨h', g, d, tk, os⟩) :
    _root_.PySem.wpAt (model prog w) A (.func body (ksEnv qual scope L f (.ref cda) cc)) (exec (supSt txt j p0 p1 p2 p3 p4 p5) (ksEnv qual scope L f (.ref cda) cc)) Q E ⟨h, g, d, t, os⟩ := by
  obtain ⟨nm', q', N, bs, bm, sn, sub, ab, col, dd, k0, k1, k2, k3, k5, hC, hbm⟩ := X.o.cls
  obtain ⟨cdD, hcd⟩ : ∃ cd, clsIn K (He.ga K nm) = some cd := Option.isSome_iff_exists.mp X.isC
  have hsup := X.sup
  unfold ks_superIn at hsup
  rw [hcd] at hsup
  have hnx : x ≠ He.ga K nm := by
    intro e
    have z := G.kin _ _ hC
    rw [← e, hx] at z
    cases z
  refine ks_wpAt_Expr_any (ks_wpAt_MethodCall (pl := pl) ?_ he.1) (by simp [interactive, hk]) he.2
  refine sup_obj G ns hf hp hv hx rfl (fun c e => nomatch e) hcode hvs hfile hcell X.isC X.self hsuper (by decide) hks hkc hka hk htop fun h1 e1 kk1 => ?_
  have G1 := G.keeps kk1
  have hx1 := kk1 _ _ hx
  have LC : Looks (model prog w) h1 (mroOf (.ref (He.ga K nm))) cdD.mro := fun A Q E s k q => wpAny_bind ((looks_clsIn G1.kin hcd) A _ E s k (wpAny_pure q))
  have hI : Looks (model prog w) h1 (isInstance (.ref x) (.type "ValueError")) true :=
    (show W.InstAt h1 x (PySem.HandSPX.excO (He.ga K nm) t0) (He.ga K nm) none from ⟨hx1, rfl, rfl, trivial⟩).type.andThen (looks_subIn G1.kin X.subV)
  refine kxs_getMethod kxs_ValueError e1 (looks_opaque G1.kin third) LC rfl G1.kin hsup hI hnx (by decide) ?_
  have kk2 : ∀ b o, h1.get? b = some o → (h1.push (kxs_mw "ValueError.__init__" x)).get? b = some o := fun b o e => Heap.get?_push_of_some _ e
  have hu : (h1.push (kxs_mw "ValueError.__init__" x)).get? h1.objs.size = some (kxs_mw "ValueError.__init__" x) := Heap.get?_push_size _ rfl
  have hx2 := kk2 _ _ hx1
  have hC2 := kk2 _ _ (G1.kin _ _ hC)
  refine kxs_callWith (i := "ValueError.__init__") (x := x) (by rfl) (evalArgs_plain ?_)
  refine Calls.spliced_cons (Calls.Constant_str (k := j) (pos := p3) (Calls.spliced_nil ?_))
  refine ⟨hu, ?_⟩
  refine sup_call hC2 hx2 hu (by show 1 ≤ sizeLine; rw [sizeLine_eq]; omega) fun h' t1 k e => ?_
  exact q h' _ t1 (fun b o hb eb => k b o hb (kk2 b o (kk1 b o eb))) e
end
end K5
set_option Elab.async false
set_option linter.all false
set_option maxRecDepth 100000
set_option maxHeartbeats 4000000
namespace K5
open PySem PySem.Spec PySem.Calls PyProof.Rows PySem.W L2
/-! ### an error's __init__ as a def of the layer -/
/-- __init__(self, f): self.f = f -/
def spIni1 (C : Addr) (f : Str) : Sp := fun vs H Q _ => ∃ (a : Addr) (v : V), vs = [.ref a, v] ∧ H a = some (exo a C none) ∧
  ∀ dx, H dx = none → dx ≠ a → Q .non (upd (upd H dx (exd dx [(f, v)])) a (exo a C (some dx)))
/-- __init__(self, f, g): self.f = f; self.g = g -/
def spIni2 (C : Addr) (f g : Str) : Sp := fun vs H Q _ => ∃ (a : Addr) (v v2 : V), vs = [.ref a, v, v2] ∧ H a = some (exo a C none) ∧
  ∀ dx, H dx = none → dx ≠ a → Q .non (upd (upd H dx (exd dx [(g, v2), (f, v)])) a (exo a C (some dx)))
section
variable {P : Program} {w : World} {K : Frag} {mg : Str → Option Value} {base : Heap}
/-- the raw end of such an __init__ carried into the layer -/
theorem ini_end {outer : List Env} {A : Around} {s : Shared} {H : Hp} {Q : VK} {a C dx t1 : Addr} {fs : List (Str × V)} {mA : Str → Option Value} {h' : Heap} {tk : Nat}
    (e0 : Env0 P w K mg base A outer s H) (ea : H a = some (exo a C none))
    (k : ∀ b o, b ≠ a → s.heap.get? b = some o → h'.get? b = some o) (dn : s.heap.objs.size ≤ dx) (dne : dx ≠ a)
    (hx : h'.get? a = some ({ cls := .ref C, dict := some dx, data := .fields #[.ref t1, .none, .none, .none, .bool false, .none] } : Obj)) (hn : h'.Ns1 dx mA) (r : ∀ f, RelO (fs.lookup f) (mA f))
    (q : Q .non (upd (upd H dx (exd dx fs)) a (exo a C (some dx)))) : CE outer P w H s Q .none { s with heap := h', toks := tk } := by
  have hnd : H dx = none := e0.hok.fresh dn
  have nd : ∀ {b : Addr} {o : Obj}, s.heap.get? b = some o → b ≠ dx := fun {b o} q => Nat.ne_of_lt (Nat.lt_of_lt_of_le (Heap.lt_size q) dn)
  have na : ∀ {b : Addr}, H b = none → b ≠ a := fun {b} n z => by
    rw [z, ea] at n
    cases n
  refine ⟨.non, _, rfl, e0.bare, ?_, ?_, rfl, q⟩
  · exact {
      keep := fun b o q n _ _ => k b o (na n) q
      slot := fun b o q n _ _ => ⟨o.slots, k b o (na n) q⟩
      free := fun b o q n _ => by rw [upd_ne (na n), upd_ne (nd q)]; exact n
      there := fun b o q _ => by
        by_cases hb : b = a
        · exact ⟨_, by rw [hb]; exact hx⟩
        · exact ⟨o, k b o hb q⟩
      tups := fun b xs q => by rw [upd_ne (at_ne ea q exo_tup), upd_ne (ne_of_none q hnd)]; exact q
      frzs := fun b o v q => by rw [upd_ne (at_ne ea q exo_frz), upd_ne (ne_of_none q hnd)]; exact q
      tbls := fun b ps q => ⟨#[], by rw [upd_ne (at_ne ea q exo_tbl), upd_ne (ne_of_none q hnd), q]; simp⟩ }
  · intro b o q
    by_cases hb : b = a
    · subst hb
      rw [upd_same] at q
      cases q
      exact exo_ok hx
    · rw [upd_ne hb] at q
      by_cases hd : b = dx
      · subst hd
        rw [upd_same] at q
        cases q
        exact exd_ok hn r
      · rw [upd_ne hd] at q
        refine (e0.hok b o q).stay (fun c v hc z => k c v (by
            rcases hc with hc | hc
            · rw [hc]
              exact hb
            · exact at_ne ea hc exo_own) z)
          (fun c hc => by rw [upd_ne (at_ne ea hc exo_own), upd_ne (ne_of_none hc hnd)]; exact hc) (fun c xs hc => by rw [upd_ne (at_ne ea hc exo_tup), upd_ne (ne_of_none hc hnd)]; exact hc)
/-- how the places in the text let a def close over its class alone -/
structure IniTx (ps : List Str) (params : Arguments) (scope : Scope) : Prop where
  self : (params.posonlyargs ++ params.args).head?.map (·.arg) = some ("self" : Str)
  ps0 : ps[0]? = some ("self" : Str)
  nd : ps.Nodup
  sup : scope.names.lookup ("super" : Str) = some .globalImplicit
  cls : scope.names.lookup ("__class__" : Str) = some .free
  par : ∀ x ∈ ps, scope.names.lookup x = some .local
  kind : scope.kind = .function
  co : scope.isCoroutine = false
  gen : scope.isGenerator = false
  nocell : ∀ x ∈ scope.names, x.2 ≠ .cell
theorem zip_rev {ps : List Str} {us : List Value} (nd : ps.Nodup) {i : Nat} {x : Str} {u : Value} (h1 : ps[i]? = some x) (h2 : us[i]? = some u) : (ps.zip us).reverse.lookup x = some u := by
  induction ps generalizing us i with
  | nil => simp at h1
  | cons p ps ih =>
    cases us with
    | nil => simp at h2
    | cons v us =>
      rw [List.zip_cons_cons, List.reverse_cons, List.lookup_append]
      cases i with
      | zero =>
        simp at h1 h2
        subst h1 h2
        have hn : (ps.zip us).reverse.lookup p = none := by
          rw [List.lookup_eq_none_iff]
          intro q hq
          have hm : q ∈ ps.zip us := by simpa using hq
          have := (List.of_mem_zip (a := q.1) (b := q.2) hm).1
          have hne : p ≠ q.1 := fun e => (List.nodup_cons.mp nd).1 (by rw [e]; exact this)
          simpa using hne
        rw [hn]
        simp [List.lookup]
      | succ i =>
        have e := ih (List.nodup_cons.mp nd).2 (by simpa using h1) (by simpa using h2)
        rw [e]
        rfl
end
end K5
set_option Elab.async false
set_option linter.all false
set_option maxRecDepth 100000
set_option maxHeartbeats 4000000
namespace K5
open PySem PySem.Spec PySem.Calls PyProof.Rows PySem.W L2
section
variable {P : Program} {w : World} {K : Frag} {mg : Str → Option Value} {base : Heap}
theorem rel1 {v : V} {u : Value} (r : RelV v u) (f : Str) : ∀ y, RelO (List.lookup y [(f, v)]) (if y = f then some u else none) := fun y => relO_put (fs := []) (mA := fun _ => none) r (fun _ => True.intro) y
theorem ini_fn1 {nm qual txt fn : Str} {st : Stmt} {j : Nat} {p0 p1 p2 p3 p4 p5 q0 q1 q2 q3 : Pos} (T : Top w K mg) (X : ExcT K nm) (I : InitT K nm qual st) (hno : findIn K (.ref (He.ga K nm)) fn = some none)
    (S : IniTx ["self", fn] (defArgs st) (defScope st)) (hb : defBody st = [supSt txt j p0 p1 p2 p3 p4 p5, fldSt fn q0 q1 q2 q3])
    (hev : ∀ L f cda cc, ∃ pl, SupEv txt j p0 p1 p2 p3 p4 p5 (ksEnv qual (defScope st) L f (.ref cda) cc) pl) (hs2 : ∀ L f cda cc, swapsWith (.Name fn q2) (some (.Attribute (.Name "self" q0) fn q1)) q3.line (ksEnv qual (defScope st) L f (.ref cda) cc) = pure false)
    (hdb : (fn == ("__debug__" : Str)) = false)
    (hbd : ∀ (kV doc pm : Value) (an : Option Addr) (cdv ct : Value) (cc : Addr) (us : List Value), us.length = (["self", fn] : List Str).length → bindArgs (ksFn "__init__" qual (defArgs st) (defBody st) (defScope st) .none kV doc pm an cdv ct cc) ⟨us, []⟩ = pure ((["self", fn] : List Str).zip us))
    (hfile : ((P.main.file : Str) == ("/claim/cut.py" : Str)) = true) (htop : (P.main.scope.names.lookup ("super" : Str)).isSome = false) :
    ∃ fd, FnOk P w K mg base (L2.CX P w) 1 (fI K nm) fd ["self", fn] (spIni1 (He.ga K nm) fn) ∧ Binds K fd ["self", fn] [] := by
  obtain ⟨oc, od, kV, doc, pm, an, cda, ct, osl, cc, lk, hcd, ⟨cl, cld, csl, hcell⟩, ccl, cdd, vs', ccs, tf, hcode, hvs⟩ := I.ex
  refine ⟨_, ⟨fun vs H Q E h => ?_, fun A outer s H args us vs Q E hr e0 hbnd rv hsp => ?_⟩, .all (hbd kV doc pm an (.ref cda) ct cc)⟩
  · obtain ⟨a, v, rfl, _⟩ := h
    rfl
  · obtain ⟨a, v, rfl, ea, hq⟩ := hsp
    obtain ⟨t0, hx⟩ := exo_at e0.hok ea
    obtain ⟨u1, u2, rfl, r1, r2⟩ : ∃ u1 u2, us = [u1, u2] ∧ RelV (.ref a) u1 ∧ RelV v u2 := by
      cases rv with
      | cons p q =>
        cases q with
        | cons p' q' =>
          cases q'
          exact ⟨_, _, rfl, p, p'⟩
    obtain rfl : u1 = Value.ref a := r1
    have bk : ∀ b o, base.get? b = some o → s.heap.get? b = some o := fun b o e => (e0.bs b o e).1
    have G0 : Grd K mg s.heap := ⟨e0.mod.kin.keeps bk, e0.mod.glob.keeps bk, let ⟨mb, h1, h2⟩ := e0.mod.blt; ⟨mb, h1.keeps bk, h2⟩⟩
    obtain ⟨nm', q', N, bs, bm, sn, sub, ab, col, dd, k0, k1, k2, k3, k5, hC, hbm⟩ := X.o.cls
    have hcl : clsIn K (He.ga K nm) = some { name := nm', bases := bs, mro := .ref (He.ga K nm) :: bm, ns := N, qualname := q', hasDict := true, slotNames := sn, subclasses := sub, abstract := ab, collection := col, hasDel := false } := by unfold clsIn; rw [hC] <;> rfl
    obtain ⟨ar, har, hname⟩ : ∃ ar, ((defArgs st).posonlyargs ++ (defArgs st).args).head? = some ar ∧ ar.arg = "self" := by
      have z := S.self
      cases e : ((defArgs st).posonlyargs ++ (defArgs st).args).head? with
      | none =>
        rw [e] at z
        cases z
      | some ar =>
        rw [e] at z
        exact ⟨ar, rfl, Option.some.inj z⟩
    rw [show (ksFn "__init__" qual (defArgs st) (defBody st) (defScope st) .none kV doc pm an (.ref cda) ct cc) = ksFn "__init__" qual (defArgs st) [supSt txt j p0 p1 p2 p3 p4 p5, fldSt fn q0 q1 q2 q3] (defScope st) .none kV doc pm an (.ref cda) ct cc by rw [hb]] at lk hbnd
    refine ks_codeAny_call_defAt (fd := ksFn "__init__" qual (defArgs st) [supSt txt j p0 p1 p2 p3 p4 p5, fldSt fn q0 q1 q2 q3] (defScope st) .none kV doc pm an (.ref cda) ct cc) (body := [supSt txt j p0 p1 p2 p3 p4 p5, fldSt fn q0 q1 q2 q3]) (binds := (["self", fn] : List Str).zip [.ref a, u2])
      hr.depth (G0.kin _ _ lk) rfl (e0.mod.nolimit.keeps bk) (codeRec_of G0.kin hcd) rfl hbnd S.nocell (fun y hy => S.par y.1 (List.of_mem_zip (a := y.1) (b := y.2) hy).1) (fun h0 hns kk0 => ?_) S.co S.gen S.kind
    show _root_.PySem.wpAt (model P w) (A.deeper (ksEnv qual (defScope st) s.heap.objs.size (fI K nm) (.ref cda) cc)) (.func _ (ksEnv qual (defScope st) s.heap.objs.size (fI K nm) (.ref cda) cc)) (execs [supSt txt j p0 p1 p2 p3 p4 p5, fldSt fn q0 q1 q2 q3] (ksEnv qual (defScope st) s.heap.objs.size (fI K nm) (.ref cda) cc)) _ _ _
    have G1 := G0.keeps kk0
    have hx0 := kk0 _ _ hx
    have mself : ((["self", fn] : List Str).zip [Value.ref a, u2]).reverse.lookup ("self" : Str) = some (.ref a) := zip_rev S.nd (i := 0) rfl rfl
    have mfn : ((["self", fn] : List Str).zip [Value.ref a, u2]).reverse.lookup fn = some u2 := zip_rev S.nd (i := 1) rfl rfl
    have ax : a < s.heap.objs.size := Heap.lt_size hx
    obtain ⟨pl, hev'⟩ := hev s.heap.objs.size (fI K nm) cda cc
    refine ks_wpAt_execs_cons ?_
    obtain ⟨hp, g, dr, tk, os⟩ := s
    refine sup_stmt (nm := nm) X T.third G1 hns lk har (by rw [hname]; exact mself) hx0 hcode hvs hfile hcell (T.free "super" (by decide +kernel)) S.sup S.cls (by rw [hname]; exact S.par _ (List.mem_of_getElem? S.ps0)) S.kind htop hev' fun h1 tk1 t1 kk1 hx1 => ?_
    refine wpAt_of_wpAny ?_
    have G2 : K.In h1 := fun b o e => by
      have z := G1.kin b o e
      refine kk1 b o (fun q => ?_) z
      rw [q, hx0] at z
      have z2 := Option.some.inj z
      have lka : K.lookup a = some o := by rw [← q]; exact e
      have := (e0.bs a o (e0.mod.kin a o lka)).2
      rw [ea] at this
      cases this
    have hL : hp.objs.size ≠ a := Nat.ne_of_gt ax
    have hns1 : h1.Ns hp.objs.size (fun y => ((["self", fn] : List Str).zip [Value.ref a, u2]).reverse.lookup y) := hns.at fun o q => kk1 _ o hL q
    refine wpAny_execs_cons (plainObj_wpAny_Assign_Attribute ?_ (hs2 _ _ _ _))
    refine wpAny_Name (wpAny_loadName_local S.kind (S.par fn (by simp)) hns1 mfn ?_) hdb
    refine wpAny_Name (wpAny_loadName_local S.kind (S.par "self" (by simp)) hns1 mself ?_) (by decide)
    refine set_plain G2 (ox := PySem.HandSPX.excO (He.ga K nm) t1) (od := none) ⟨hx1, rfl, rfl, trivial⟩ X.o.sa ?_
    refine PySem.HandSPX.exc_osa G2 hx1 hcl (show PySem.HandSPX.refsVE (.ref (He.ga K nm) :: bm) = true from hbm) rfl hno (fun h3 tk3 dx k3' dn dne hx3 hn3 => ?_)
    refine wpAny_execs_nil ?_
    have s01 : hp.objs.size ≤ h1.objs.size := by
      obtain ⟨o, es, ep, e1, _⟩ := hns1
      exact Nat.le_of_lt (Heap.lt_size e1)
    exact ini_end e0 ea (fun b o hb e => k3' b o hb (kk1 b o hb (kk0 b o e))) (Nat.le_trans s01 dn) dne hx3 hn3 (rel1 r2 fn) (hq dx (e0.hok.fresh (Nat.le_trans s01 dn)) dne)
theorem ini_fn2 {nm qual txt fn gn : Str} {st : Stmt} {j : Nat} {p0 p1 p2 p3 p4 p5 q0 q1 q2 q3 y0 y1 y2 y3 : Pos} (T : Top w K mg) (X : ExcT K nm) (I : InitT K nm qual st) (hno : findIn K (.ref (He.ga K nm)) fn = some none) (hno2 : findIn K (.ref (He.ga K nm)) gn = some none)
    (S : IniTx ["self", fn, gn] (defArgs st) (defScope st)) (hb : defBody st = [supSt txt j p0 p1 p2 p3 p4 p5, fldSt fn q0 q1 q2 q3, fldSt gn y0 y1 y2 y3])
    (hev : ∀ L f cda cc, ∃ pl, SupEv txt j p0 p1 p2 p3 p4 p5 (ksEnv qual (defScope st) L f (.ref cda) cc) pl) (hs2 : ∀ L f cda cc, swapsWith (.Name fn q2) (some (.Attribute (.Name "self" q0) fn q1)) q3.line (ksEnv qual (defScope st) L f (.ref cda) cc) = pure false)
    (hs3 : ∀ L f cda cc, swapsWith (.Name gn y2) (some (.Attribute (.Name "self" y0) gn y1)) y3.line (ksEnv qual (defScope st) L f (.ref cda) cc) = pure false) (hdb : (fn == ("__debug__" : Str)) = false) (hdb2 : (gn == ("__debug__" : Str)) = false)
    (hbd : ∀ (kV doc pm : Value) (an : Option Addr) (cdv ct : Value) (cc : Addr) (us : List Value), us.length = (["self", fn, gn] : List Str).length → bindArgs (ksFn "__init__" qual (defArgs st) (defBody st) (defScope st) .none kV doc pm an cdv ct cc) ⟨us, []⟩ = pure ((["self", fn, gn] : List Str).zip us))
    (hfile : ((P.main.file : Str) == ("/claim/cut.py" : Str)) = true) (htop : (P.main.scope.names.lookup ("super" : Str)).isSome = false) :
    ∃ fd, FnOk P w K mg base (L2.CX P w) 1 (fI K nm) fd ["self", fn, gn] (spIni2 (He.ga K nm) fn gn) ∧ Binds K fd ["self", fn, gn] [] := by
  obtain ⟨oc, od, kV, doc, pm, an, cda, ct, osl, cc, lk, hcd, ⟨cl, cld, csl, hcell⟩, ccl, cdd, vs', ccs, tf, hcode, hvs⟩ := I.ex
  refine ⟨_, ⟨fun vs H Q E h => ?_, fun A outer s H args us vs Q E hr e0 hbnd rv hsp => ?_⟩, .all (hbd kV doc pm an (.ref cda) ct cc)⟩
  · obtain ⟨a, v, v2, rfl, _⟩ := h
    rfl
  · obtain ⟨a, v, v2, rfl, ea, hq⟩ := hsp
    obtain ⟨t0, hx⟩ := exo_at e0.hok ea
    obtain ⟨u1, u2, u3, rfl, r1, r2, r3⟩ : ∃ u1 u2 u3, us = [u1, u2, u3] ∧ RelV (.ref a) u1 ∧ RelV v u2 ∧ RelV v2 u3 := by
      cases rv with
      | cons p q =>
        cases q with
        | cons p' q' =>
          cases q' with
          | cons p2 q2 =>
            cases q2
            exact ⟨_, _, _, rfl, p, p', p2⟩
    obtain rfl : u1 = Value.ref a := r1
    have bk : ∀ b o, base.get? b = some o → s.heap.get? b = some o := fun b o e => (e0.bs b o e).1
    have G0 : Grd K mg s.heap := ⟨e0.mod.kin.keeps bk, e0.mod.glob.keeps bk, let ⟨mb, h1, h2⟩ := e0.mod.blt; ⟨mb, h1.keeps bk, h2⟩⟩
    obtain ⟨nm', q', N, bs, bm, sn, sub, ab, col, dd, k0, k1, k2, k3, k5, hC, hbm⟩ := X.o.cls
    have hcl : clsIn K (He.ga K nm) = some { name := nm', bases := bs, mro := .ref (He.ga K nm) :: bm, ns := N, qualname := q', hasDict := true, slotNames := sn, subclasses := sub, abstract := ab, collection := col, hasDel := false } := by unfold clsIn; rw [hC] <;> rfl
    obtain ⟨ar, har, hname⟩ : ∃ ar, ((defArgs st).posonlyargs ++ (defArgs st).args).head? = some ar ∧ ar.arg = "self" := by
      have z := S.self
      cases e : ((defArgs st).posonlyargs ++ (defArgs st).args).head? with
      | none =>
        rw [e] at z
        cases z
      | some ar =>
        rw [e] at z
        exact ⟨ar, rfl, Option.some.inj z⟩
    rw [show (ksFn "__init__" qual (defArgs st) (defBody st) (defScope st) .none kV doc pm an (.ref cda) ct cc) = ksFn "__init__" qual (defArgs st) [supSt txt j p0 p1 p2 p3 p4 p5, fldSt fn q0 q1 q2 q3, fldSt gn y0 y1 y2 y3] (defScope st) .none kV doc pm an (.ref cda) ct cc by rw [hb]] at lk hbnd
    refine ks_codeAny_call_defAt (fd := ksFn "__init__" qual (defArgs st) [supSt txt j p0 p1 p2 p3 p4 p5, fldSt fn q0 q1 q2 q3, fldSt gn y0 y1 y2 y3] (defScope st) .none kV doc pm an (.ref cda) ct cc) (body := [supSt txt j p0 p1 p2 p3 p4 p5, fldSt fn q0 q1 q2 q3, fldSt gn y0 y1 y2 y3]) (binds := (["self", fn, gn] : List Str).zip [.ref a, u2, u3])
      hr.depth (G0.kin _ _ lk) rfl (e0.mod.nolimit.keeps bk) (codeRec_of G0.kin hcd) rfl hbnd S.nocell (fun y hy => S.par y.1 (List.of_mem_zip (a := y.1) (b := y.2) hy).1) (fun h0 hns kk0 => ?_) S.co S.gen S.kind
    show _root_.PySem.wpAt (model P w) (A.deeper (ksEnv qual (defScope st) s.heap.objs.size (fI K nm) (.ref cda) cc)) (.func _ (ksEnv qual (defScope st) s.heap.objs.size (fI K nm) (.ref cda) cc)) (execs [supSt txt j p0 p1 p2 p3 p4 p5, fldSt fn q0 q1 q2 q3, fldSt gn y0 y1 y2 y3] (ksEnv qual (defScope st) s.heap.objs.size (fI K nm) (.ref cda) cc)) _ _ _
    have G1 := G0.keeps kk0
    have hx0 := kk0 _ _ hx
    have mself : ((["self", fn, gn] : List Str).zip [Value.ref a, u2, u3]).reverse.lookup ("self" : Str) = some (.ref a) := zip_rev S.nd (i := 0) rfl rfl
    have mfn : ((["self", fn, gn] : List Str).zip [Value.ref a, u2, u3]).reverse.lookup fn = some u2 := zip_rev S.nd (i := 1) rfl rfl
    have mgn : ((["self", fn, gn] : List Str).zip [Value.ref a, u2, u3]).reverse.lookup gn = some u3 := zip_rev S.nd (i := 2) rfl rfl
    have ax : a < s.heap.objs.size := Heap.lt_size hx
    obtain ⟨pl, hev'⟩ := hev s.heap.objs.size (fI K nm) cda cc
    refine ks_wpAt_execs_cons ?_
    obtain ⟨hp, g, dr, tk, os⟩ := s
    refine sup_stmt (nm := nm) X T.third G1 hns lk har (by rw [hname]; exact mself) hx0 hcode hvs hfile hcell (T.free "super" (by decide +kernel)) S.sup S.cls (by rw [hname]; exact S.par _ (List.mem_of_getElem? S.ps0)) S.kind htop hev' fun h1 tk1 t1 kk1 hx1 => ?_
    refine wpAt_of_wpAny ?_
    have G2 : K.In h1 := fun b o e => by
      have z := G1.kin b o e
      refine kk1 b o (fun q => ?_) z
      rw [q, hx0] at z
      have z2 := Option.some.inj z
      have lka : K.lookup a = some o := by rw [← q]; exact e
      have := (e0.bs a o (e0.mod.kin a o lka)).2
      rw [ea] at this
      cases this
    have hL : hp.objs.size ≠ a := Nat.ne_of_gt ax
    have hns1 : h1.Ns hp.objs.size (fun y => ((["self", fn, gn] : List Str).zip [Value.ref a, u2, u3]).reverse.lookup y) := hns.at fun o q => kk1 _ o hL q
    refine wpAny_execs_cons (plainObj_wpAny_Assign_Attribute ?_ (hs2 _ _ _ _))
    refine wpAny_Name (wpAny_loadName_local S.kind (S.par fn (by simp)) hns1 mfn ?_) hdb
    refine wpAny_Name (wpAny_loadName_local S.kind (S.par "self" (by simp)) hns1 mself ?_) (by decide)
    refine set_plain G2 (ox := PySem.HandSPX.excO (He.ga K nm) t1) (od := none) ⟨hx1, rfl, rfl, trivial⟩ X.o.sa ?_
    refine PySem.HandSPX.exc_osa G2 hx1 hcl (show PySem.HandSPX.refsVE (.ref (He.ga K nm) :: bm) = true from hbm) rfl hno (fun h3 tk3 dx k3' dn dne hx3 hn3 => ?_)
    have s01 : hp.objs.size ≤ h1.objs.size := by
      obtain ⟨o, es, ep, e1, _⟩ := hns1
      exact Nat.le_of_lt (Heap.lt_size e1)
    have hns3 : h3.Ns hp.objs.size (fun y => ((["self", fn, gn] : List Str).zip [Value.ref a, u2, u3]).reverse.lookup y) := hns1.at fun o q => k3' _ o hL q
    have G3 : K.In h3 := fun b o e => by
      have z := G2 b o e
      refine k3' b o (fun q => ?_) z
      rw [q] at e
      have := (e0.bs a o (e0.mod.kin a o e)).2
      rw [ea] at this
      cases this
    have rel := rel1 r2 fn
    obtain ⟨oD, _, _, hoD, _, _⟩ := hn3.count (within_of rel)
    refine wpAny_execs_cons (plainObj_wpAny_Assign_Attribute ?_ (hs3 _ _ _ _))
    refine wpAny_Name (wpAny_loadName_local S.kind (S.par gn (by simp)) hns3 mgn ?_) hdb2
    refine wpAny_Name (wpAny_loadName_local S.kind (S.par "self" (by simp)) hns3 mself ?_) (by decide)
    refine set_plain G3 (ox := { cls := .ref (He.ga K nm), dict := some dx, data := .fields #[.ref t1, .none, .none, .none, .bool false, .none] }) (od := some oD) ⟨hx3, rfl, rfl, hoD⟩ X.o.sa ?_
    refine PySem.OEX.osa_old G3 hx3 hn3 (within_of rel) (by simp) hcl (show PySem.HandSPX.refsVE (.ref (He.ga K nm) :: bm) = true from hbm) rfl hno2 (fun h4 tk4 k4 hn4 => ?_)
    refine wpAny_execs_nil ?_
    have hx4 := k4 a _ (Ne.symm dne) hx3
    refine ini_end e0 ea (fun b o hb e => ?_) (Nat.le_trans s01 dn) dne hx4 hn4 (relO_put r3 rel) (hq dx (e0.hok.fresh (Nat.le_trans s01 dn)) dne)
    have z := kk1 b o hb (kk0 b o e)
    exact k4 b o (fun q => absurd (Nat.lt_of_lt_of_le (Heap.lt_size z) dn) (by rw [q]; exact Nat.lt_irrefl _)) (k3' b o hb z)
end
end K5
set_option Elab.async false
set_option linter.all false
set_option maxRecDepth 100000
set_option maxHeartbeats 4000000
namespace K5
open PySem PySem.Spec PyProof.Rows L2
/-- the program -/
abbrev PG : Program := PySem.Challenge.pw_movedwhole_k51_desk_faults
/-! ### raise X(e) -/
section
variable {X : Cx} {C : Addr} {H1 : Hp} {Q : XK} {v v2 : V} {fn gn : Str}
theorem mk_heap {H1 : Hp} {a d : Addr} {o o2 u : HO} {fs : List (Str × V)} (hn : H1 a = none) (dne : d ≠ a) : upd (del (upd (upd (upd H1 a o) d u) a o2) a) d (.xd fs) = upd H1 d (.xd fs) := by
  funext b
  by_cases hd : b = d
  · rw [hd, upd_same, upd_same]
  · rw [upd_ne hd, upd_ne hd]
    by_cases ha : b = a
    · rw [ha, del_same, hn]
    · rw [del_ne ha, upd_ne ha, upd_ne hd, upd_ne ha]
/-- behind the arguments of X(e) -/
theorem mk1_end (q : ∀ d, H1 d = none → Q (.ref C) (some d) (upd H1 d (.xd [(fn, v)]))) : [v].length ≤ 1000 ∧ ∀ a, H1 a = none → spIni1 C fn (.ref a :: ([v] ++ [])) (upd H1 a (exo a C none))
    (fun x H2 => x = .non ∧ ∃ (d : Addr) (fs : List (Str × V)), H2 a = some (exo a C (some d)) ∧ H2 d = some (exd d fs) ∧ H1 d = none ∧ Q (.ref C) (some d) (upd (del H2 a) d (.xd fs))) (fun _ _ _ => False) := by
  refine ⟨by show 1 ≤ 1000; omega, fun a ha => ⟨a, v, rfl, upd_same, fun dx hdx dne => ⟨rfl, dx, [(fn, v)], upd_same, ?_, ?_, ?_⟩⟩⟩
  · rw [upd_ne dne, upd_same]
  · rw [upd_ne dne] at hdx
    exact hdx
  · rw [mk_heap ha dne]
    rw [upd_ne dne] at hdx
    exact q dx hdx
theorem mk2_end (q : ∀ d, H1 d = none → Q (.ref C) (some d) (upd H1 d (.xd [(gn, v2), (fn, v)]))) : [v, v2].length ≤ 1000 ∧ ∀ a, H1 a = none → spIni2 C fn gn (.ref a :: ([v, v2] ++ [])) (upd H1 a (exo a C none))
    (fun x H2 => x = .non ∧ ∃ (d : Addr) (fs : List (Str × V)), H2 a = some (exo a C (some d)) ∧ H2 d = some (exd d fs) ∧ H1 d = none ∧ Q (.ref C) (some d) (upd (del H2 a) d (.xd fs))) (fun _ _ _ => False) := by
  refine ⟨by show 2 ≤ 1000; omega, fun a ha => ⟨a, v, v2, rfl, upd_same, fun dx hdx dne => ⟨rfl, dx, [(gn, v2), (fn, v)], upd_same, ?_, ?_, ?_⟩⟩⟩
  · rw [upd_ne dne, upd_same]
  · rw [upd_ne dne] at hdx
    exact hdx
  · rw [mk_heap ha dne]
    rw [upd_ne dne] at hdx
    exact q dx hdx
end
section
variable {w : World} {K : PySem.W.Frag} {mg : Str → Option Value} {base : Heap}
/-- an error of one field: its __init__ keeps its promise -/
structure Err1 (w : World) (K : PySem.W.Frag) (mg : Str → Option Value) (base : Heap) (nm fn : Str) : Prop where
  ex : ∃ fd, FnOk PG w K mg base (L2.CX PG w) 1 (fI K nm) fd ["self", fn] (spIni1 (He.ga K nm) fn) ∧ Binds K fd ["self", fn] []
  x : ExcT K nm
  g : mg nm = some (.ref (He.ga K nm))
structure Err2 (w : World) (K : PySem.W.Frag) (mg : Str → Option Value) (base : Heap) (nm fn gn : Str) : Prop where
  ex : ∃ fd, FnOk PG w K mg base (L2.CX PG w) 1 (fI K nm) fd ["self", fn, gn] (spIni2 (He.ga K nm) fn gn) ∧ Binds K fd ["self", fn, gn] []
  x : ExcT K nm
  g : mg nm = some (.ref (He.ga K nm))
end
section
variable {X : Cx} {nm fn gn : Str} {W : WX} {e e2 : Expr} {te te2 : TE} {p pos pos2 : Pos} {k : Nat}
/-- raise X(e) -/
def tErr1 (C : Addr) (fn : Str) (W : WX) (te : TE) : TS := fun _ σ H => tMkO C (spIni1 C fn) [] (tCons te tNil) σ H fun cls d H' => W cls d σ H'
def tErr2 (C : Addr) (fn gn : Str) (W : WX) (te te2 : TE) : TS := fun _ σ H => tMkO C (spIni2 C fn gn) [] (tCons te (tCons te2 tNil)) σ H fun cls d H' => W cls d σ H'
theorem ps_err1 (hp : X.prog = PG) (r : Err1 X.w X.K X.mg X.base nm fn) (hc : X.calm = true) (hr : Room (k + 2) X.A) (tk : Takes X W) (he : PE X e te) (hg : Gl X nm := by rfl) (hdb : (nm == ("__debug__" : Str)) = false := by decide)
    (hs : starEach (e :: []) X.env = (false, eval e X.env) :: starEach [] X.env := by rfl) (hpl : (backTo pos (starEach [] X.env)).any (·.1) = false := by rfl) :
    PS X (.Raise (some (.Call (.Name nm p) [e] [] pos)) none pos2) (tErr1 (He.ga X.K nm) fn W te) := by
  obtain ⟨fd, F, B⟩ := r.ex
  rw [← hp] at F
  exact ps_raise hc tk (pmk_oex r.x.o r.x.ini r.x.tI F (hr.mono (by omega)) B .nil passL hg r.g (pa_cons he pa_nil hs) hdb hs hpl)
theorem ps_err2 (hp : X.prog = PG) (r : Err2 X.w X.K X.mg X.base nm fn gn) (hc : X.calm = true) (hr : Room (k + 2) X.A) (tk : Takes X W) (he : PE X e te) (he2 : PE X e2 te2) (hg : Gl X nm := by rfl) (hdb : (nm == ("__debug__" : Str)) = false := by decide)
    (hs2 : starEach (e2 :: []) X.env = (false, eval e2 X.env) :: starEach [] X.env := by rfl)
    (hs : starEach (e :: e2 :: []) X.env = (false, eval e X.env) :: starEach (e2 :: []) X.env := by rfl) (hpl : (backTo pos (starEach (e2 :: []) X.env)).any (·.1) = false := by rfl) :
    PS X (.Raise (some (.Call (.Name nm p) [e, e2] [] pos)) none pos2) (tErr2 (He.ga X.K nm) fn gn W te te2) := by
  obtain ⟨fd, F, B⟩ := r.ex
  rw [← hp] at F
  exact ps_raise hc tk (pmk_oex r.x.o r.x.ini r.x.tI F (hr.mono (by omega)) B .nil passL hg r.g (pa_cons he (pa_cons he2 pa_nil hs2) hs) hdb hs hpl)
end
section
variable {w : World} {K : PySem.W.Frag} {mg : Str → Option Value} {base : Heap}
theorem err_InvalidNumber (T : Top w K mg) : Err1 w K mg base "InvalidNumber" "value" :=
  ⟨ini_fn1 T (T.exc "InvalidNumber" (by decide +kernel)) (T.init ("InvalidNumber", "InvalidNumber.__init__", s_InvalidNumber_init) (List.mem_of_getElem? (i := 0) rfl)) (T.excf ("InvalidNumber", "value") (by decide +kernel)) ⟨rfl, rfl, by decide +kernel, rfl, rfl, by decide +kernel, rfl, rfl, rfl, by decide +kernel⟩ rfl (fun _ _ _ _ => ⟨_, rfl, rfl⟩) (fun _ _ _ _ => rfl) (by decide)
    (fun _ _ _ _ _ _ _ us hl => match us, hl with | [_, _], _ => rfl) (by decide +kernel) (by decide +kernel), T.exc _ (by decide +kernel), T.glo _ (by decide +kernel)⟩
theorem err_InvalidWishes (T : Top w K mg) : Err1 w K mg base "InvalidWishes" "value" :=
  ⟨ini_fn1 T (T.exc "InvalidWishes" (by decide +kernel)) (T.init ("InvalidWishes", "InvalidWishes.__init__", s_InvalidWishes_init) (List.mem_of_getElem? (i := 1) rfl)) (T.excf ("InvalidWishes", "value") (by decide +kernel)) ⟨rfl, rfl, by decide +kernel, rfl, rfl, by decide +kernel, rfl, rfl, rfl, by decide +kernel⟩ rfl (fun _ _ _ _ => ⟨_, rfl, rfl⟩) (fun _ _ _ _ => rfl) (by decide)
    (fun _ _ _ _ _ _ _ us hl => match us, hl with | [_, _], _ => rfl) (by decide +kernel) (by decide +kernel), T.exc _ (by decide +kernel), T.glo _ (by decide +kernel)⟩
theorem err_InvalidPlacing (T : Top w K mg) : Err1 w K mg base "InvalidPlacing" "value" :=
  ⟨ini_fn1 T (T.exc "InvalidPlacing" (by decide +kernel)) (T.init ("InvalidPlacing", "InvalidPlacing.__init__", s_InvalidPlacing_init) (List.mem_of_getElem? (i := 2) rfl)) (T.excf ("InvalidPlacing", "value") (by decide +kernel)) ⟨rfl, rfl, by decide +kernel, rfl, rfl, by decide +kernel, rfl, rfl, rfl, by decide +kernel⟩ rfl (fun _ _ _ _ => ⟨_, rfl, rfl⟩) (fun _ _ _ _ => rfl) (by decide)
    (fun _ _ _ _ _ _ _ us hl => match us, hl with | [_, _], _ => rfl) (by decide +kernel) (by decide +kernel), T.exc _ (by decide +kernel), T.glo _ (by decide +kernel)⟩
theorem err_InvalidLot (T : Top w K mg) : Err1 w K mg base "InvalidLot" "value" :=
  ⟨ini_fn1 T (T.exc "InvalidLot" (by decide +kernel)) (T.init ("InvalidLot", "InvalidLot.__init__", s_InvalidLot_init) (List.mem_of_getElem? (i := 3) rfl)) (T.excf ("InvalidLot", "value") (by decide +kernel)) ⟨rfl, rfl, by decide +kernel, rfl, rfl, by decide +kernel, rfl, rfl, rfl, by decide +kernel⟩ rfl (fun _ _ _ _ => ⟨_, rfl, rfl⟩) (fun _ _ _ _ => rfl) (by decide)
    (fun _ _ _ _ _ _ _ us hl => match us, hl with | [_, _], _ => rfl) (by decide +kernel) (by decide +kernel), T.exc _ (by decide +kernel), T.glo _ (by decide +kernel)⟩
theorem err_UnknownWord (T : Top w K mg) : Err1 w K mg base "UnknownWord" "word" :=
  ⟨ini_fn1 T (T.exc "UnknownWord" (by decide +kernel)) (T.init ("UnknownWord", "UnknownWord.__init__", s_UnknownWord_init) (List.mem_of_getElem? (i := 5) rfl)) (T.excf ("UnknownWord", "word") (by decide +kernel)) ⟨rfl, rfl, by decide +kernel, rfl, rfl, by decide +kernel, rfl, rfl, rfl, by decide +kernel⟩ rfl (fun _ _ _ _ => ⟨_, rfl, rfl⟩) (fun _ _ _ _ => rfl) (by decide)
    (fun _ _ _ _ _ _ _ us hl => match us, hl with | [_, _], _ => rfl) (by decide +kernel) (by decide +kernel), T.exc _ (by decide +kernel), T.glo _ (by decide +kernel)⟩
theorem err_TooMany (T : Top w K mg) : Err1 w K mg base "TooMany" "what" :=
  ⟨ini_fn1 T (T.exc "TooMany" (by decide +kernel)) (T.init ("TooMany", "TooMany.__init__", s_TooMany_init) (List.mem_of_getElem? (i := 6) rfl)) (T.excf ("TooMany", "what") (by decide +kernel)) ⟨rfl, rfl, by decide +kernel, rfl, rfl, by decide +kernel, rfl, rfl, rfl, by decide +kernel⟩ rfl (fun _ _ _ _ => ⟨_, rfl, rfl⟩) (fun _ _ _ _ => rfl) (by decide)
    (fun _ _ _ _ _ _ _ us hl => match us, hl with | [_, _], _ => rfl) (by decide +kernel) (by decide +kernel), T.exc _ (by decide +kernel), T.glo _ (by decide +kernel)⟩
theorem err_NothingToUndo (T : Top w K mg) : Err1 w K mg base "NothingToUndo" "word" :=
  ⟨ini_fn1 T (T.exc "NothingToUndo" (by decide +kernel)) (T.init ("NothingToUndo", "NothingToUndo.__init__", s_NothingToUndo_init) (List.mem_of_getElem? (i := 7) rfl)) (T.excf ("NothingToUndo", "word") (by decide +kernel)) ⟨rfl, rfl, by decide +kernel, rfl, rfl, by decide +kernel, rfl, rfl, rfl, by decide +kernel⟩ rfl (fun _ _ _ _ => ⟨_, rfl, rfl⟩) (fun _ _ _ _ => rfl) (by decide)
    (fun _ _ _ _ _ _ _ us hl => match us, hl with | [_, _], _ => rfl) (by decide +kernel) (by decide +kernel), T.exc _ (by decide +kernel), T.glo _ (by decide +kernel)⟩
theorem err_InvalidLine (T : Top w K mg) : Err2 w K mg base "InvalidLine" "line" "at" :=
  ⟨ini_fn2 T (T.exc "InvalidLine" (by decide +kernel)) (T.init ("InvalidLine", "InvalidLine.__init__", s_InvalidLine_init) (List.mem_of_getElem? (i := 4) rfl)) (T.excf ("InvalidLine", "line") (by decide +kernel)) (T.excf ("InvalidLine", "at") (by decide +kernel)) ⟨rfl, rfl, by decide +kernel, rfl, rfl, by decide +kernel, rfl, rfl, rfl, by decide +kernel⟩ rfl (fun _ _ _ _ => ⟨_, rfl, rfl⟩) (fun _ _ _ _ => rfl) (fun _ _ _ _ => rfl) (by decide) (by decide)
    (fun _ _ _ _ _ _ _ us hl => match us, hl with | [_, _, _], _ => rfl) (by decide +kernel) (by decide +kernel), T.exc _ (by decide +kernel), T.glo _ (by decide +kernel)⟩
end
end K5
set_option Elab.async false
set_option linter.all false
set_option maxRecDepth 100000
set_option maxHeartbeats 4000000
namespace K5
open PySem PySem.Spec PyProof.Rows L2
/-! ### a def of the text keeps its promise -/
section
variable (w : World) (K : PySem.W.Frag) (mg : Str → Option Value) (base : Heap)
structure HasF (k : Nat) (x : Str) (ps : List Str) (sp : Sp) : Prop where
  ex : ∃ fd, FnOk PG w K mg base (L2.CX PG w) k (He.fAd K (x, none)) fd ps sp ∧ Binds K fd ps []
  kp : PySem.W.keepIn K (.ref (He.fAd K (x, none))) = true
  g : mg x = some (.ref (He.ga K x))
structure HasM (k : Nat) (C m : Str) (ps : List Str) (sp : Sp) : Prop where
  ex : ∃ fd, FnOk PG w K mg base (L2.CX PG w) k (He.fAd K (C, some m)) fd ps sp ∧ Binds K fd ps []
  me : Meth K (He.ga K C) m (He.ma K (He.ga K C) m)
/-- an __init__ of a class of the text -/
structure HasI (k : Nat) (C : Str) (ps : List Str) (sp : Sp) : Prop where
  ex : ∃ fd, FnOk PG w K mg base (L2.CX PG w) k (He.fAd K (C, some "__init__")) fd ps sp ∧ Binds K fd ps []
  mak : Mk K (He.ga K C) (He.ma K (He.ga K C) "__init__")
  g : mg C = some (.ref (He.ga K C))
end
section
variable {w : World} {K : PySem.W.Frag} {mg : Str → Option Value} {base : Heap}
theorem has_ex (T : Top w K mg) (i : Nat) {d : He.DefD} {N ps : List Str} {k : Nat} {sp : Sp} (hd : fn[i]? = some d) (S : FnScope N ps d.scope) (hdv : ∀ K, d.dvs K = [])
    (bnd : ∀ (kV doc pm : Value) (an : Option Addr) (cdv ct : Value) (us : List Value), us.length = ps.length → bindArgs (PySem.W.fnOf d.name d.qual d.params d.body d.scope .none kV doc pm an cdv ct) ⟨us, []⟩ = pure (ps.zip us))
    (len : ∀ vs H Q E, sp vs H Q E → vs.length = ps.length)
    (hbody : ∀ (cdv : Value) (A : Around) (outer : List Env) (s : Shared) (H : Hp) (vs : List V) (Q : VK) (E : XK), Room k (A.deeper (envOfC d.qual d.scope s.heap.objs.size (He.fAd K d.at_) cdv)) → sp vs H Q E →
      ∃ t, PSs (cxOf (L2.CX PG w) PG w K mg base N d.qual d.scope (He.fAd K d.at_) cdv A outer s H E) d.body t ∧ t { nx := fun _ H' => Q .non H', rt := Q } (start N vs) H) :
    (∃ fd, FnOk PG w K mg base (L2.CX PG w) (k + 1) (He.fAd K d.at_) fd ps sp ∧ Binds K fd ps []) ∧ PySem.W.keepIn K (.ref (He.fAd K d.at_)) = true := by
  obtain ⟨fd, F⟩ := T.fns d (List.mem_of_getElem? hd)
  rw [hdv K] at F
  exact ⟨⟨fd, F.ok S len hbody, FunD.bindsN F bnd⟩, F.kp⟩
theorem HasF.of {k : Nat} {x : Str} {ps : List Str} {sp : Sp} (T : Top w K mg) (h : (∃ fd, FnOk PG w K mg base (L2.CX PG w) k (He.fAd K (x, none)) fd ps sp ∧ Binds K fd ps []) ∧ PySem.W.keepIn K (.ref (He.fAd K (x, none))) = true) (hx : x ∈ gloN := by decide +kernel) : HasF w K mg base k x ps sp := ⟨h.1, h.2, T.glo x hx⟩
theorem HasM.of {k : Nat} {C m : Str} {ps : List Str} {sp : Sp} (T : Top w K mg) (h : (∃ fd, FnOk PG w K mg base (L2.CX PG w) k (He.fAd K (C, some m)) fd ps sp ∧ Binds K fd ps []) ∧ PySem.W.keepIn K (.ref (He.fAd K (C, some m))) = true) (hx : (C, m) ∈ methN := by decide +kernel) : HasM w K mg base k C m ps sp := ⟨h.1, T.meth (C, m) hx⟩
end
section
variable {X : Cx} {E : XK} {W : WX} {x m C : Str} {p pos apos : Pos} {e o c : Expr} {es : List Expr} {ta tc to : TE} {t : TA} {j k : Nat} {ps : List Str} {sp : Sp}
/-- f(e, ..), f lets nothing out here -/
theorem pe_fn (G : HasF X.w X.K X.mg X.base k x ps sp) (hp : X.prog = PG) (hr : Room j X.A) (hk : k ≤ j) (ha : PA X (e :: es) t) (hg : Gl X x := by rfl) (hdb : (x == ("__debug__" : Str)) = false := by decide)
    (he : starEach (e :: es) X.env = (false, eval e X.env) :: starEach es X.env := by rfl) (hpl : (backTo pos (starEach es X.env)).any (·.1) = false := by rfl) : PE X (.Call (.Name x p) (e :: es) [] pos) (tCall sp [] E0 t) := by
  obtain ⟨fd, F, B⟩ := G.ex
  rw [← hp] at F
  exact pe_call F (hr.mono hk) hg G.g G.kp B .nil passL ha hdb he hpl
/-- f(e, ..), what f lets out leaves -/
theorem pe_fnX (G : HasF X.w X.K X.mg X.base k x ps sp) (hp : X.prog = PG) (hr : Room j X.A) (hk : k ≤ j) (tk : Takes X (fun cls d _ H => E cls d H)) (ha : PA X (e :: es) t) (hg : Gl X x := by rfl) (hdb : (x == ("__debug__" : Str)) = false := by decide)
    (he : starEach (e :: es) X.env = (false, eval e X.env) :: starEach es X.env := by rfl) (hpl : (backTo pos (starEach es X.env)).any (·.1) = false := by rfl) : PE X (.Call (.Name x p) (e :: es) [] pos) (tCall sp [] E t) := by
  obtain ⟨fd, F, B⟩ := G.ex
  rw [← hp] at F
  exact pe_call F (hr.mono hk) hg G.g G.kp B .nil (passes_call tk fun _ _ _ _ h => h) ha hdb he hpl
theorem pe_fn_0 (G : HasF X.w X.K X.mg X.base k x ps sp) (hp : X.prog = PG) (hr : Room j X.A) (hk : k ≤ j) (hg : Gl X x := by rfl) (hdb : (x == ("__debug__" : Str)) = false := by decide) : PE X (.Call (.Name x p) [] [] pos) (tCall sp [] E0 tNil) := by
  obtain ⟨fd, F, B⟩ := G.ex
  rw [← hp] at F
  exact pe_call0 F (hr.mono hk) hg G.g G.kp B .nil passL hdb
/-- o.m(e, ..) -/
theorem pe_meX {pl : Sem Bool} (G : HasM X.w X.K X.mg X.base k C m ps sp) (cl : Cls X.K (He.ga X.K C)) (hp : X.prog = PG) (hr : Room j X.A) (hk : k ≤ j) (tk : Takes X (fun cls d _ H => E cls d H)) (ho : PE X o to) (ha : PA X (e :: es) t)
    (hst : starEach (e :: es) X.env = (false, eval e X.env) :: starEach es X.env := by rfl) (hpl : (backTo pos (starEach es X.env)).any (·.1) = false := by rfl)
    (ht : eval (.Call (.Attribute o m apos) (e :: es) [] pos) X.env = (do
      let ov ← eval o X.env
      standAt apos.atName
      let (f, first) ← holding [ov] (getMethod ov m pl)
      callWith pos f first (backTo pos (starEach (e :: es) X.env)) (backToKw pos (keywordEach [] X.env))) := by rfl) : PE X (.Call (.Attribute o m apos) (e :: es) [] pos) (tMeth (He.ga X.K C) m sp [] E to t) := by
  obtain ⟨fd, F, B⟩ := G.ex
  rw [← hp] at F
  exact pe_meth (pl := pl) ho cl G.me F (hr.mono hk) B .nil (passes_call tk fun _ _ _ _ h => h) ha hst hpl ht
/-- o.m(), .. -/
theorem pe_meX0 {pl : Sem Bool} (G : HasM X.w X.K X.mg X.base k C m ps sp) (cl : Cls X.K (He.ga X.K C)) (hp : X.prog = PG) (hr : Room j X.A) (hk : k ≤ j) (tk : Takes X (fun cls d _ H => E cls d H)) (ho : PE X o to)
    (ht : eval (.Call (.Attribute o m apos) [] [] pos) X.env = (do
      let ov ← eval o X.env
      standAt apos.atName
      let (f, first) ← holding [ov] (getMethod ov m pl)
      callWith pos f first (backTo pos (starEach [] X.env)) (backToKw pos (keywordEach [] X.env))) := by rfl) : PE X (.Call (.Attribute o m apos) [] [] pos) (tMeth (He.ga X.K C) m sp [] E to tNil) := by
  obtain ⟨fd, F, B⟩ := G.ex
  rw [← hp] at F
  exact pe_meth0 (pl := pl) ho cl G.me F (hr.mono hk) B .nil (passes_call tk fun _ _ _ _ h => h) ht
/-- C(e, ..) -/
theorem pe_mkX (G : HasI X.w X.K X.mg X.base k C ps sp) (hp : X.prog = PG) (hr : Room j X.A) (hk : k + 1 ≤ j) (tk : Takes X (fun cls d _ H => E cls d H)) (ha : PA X (e :: es) t) (hg : Gl X C := by rfl) (hdb : (C == ("__debug__" : Str)) = false := by decide)
    (he : starEach (e :: es) X.env = (false, eval e X.env) :: starEach es X.env := by rfl) (hpl : (backTo pos (starEach es X.env)).any (·.1) = false := by rfl) : PE X (.Call (.Name C p) (e :: es) [] pos) (tMake (He.ga X.K C) sp [] E t) := by
  obtain ⟨fd, F, B⟩ := G.ex
  rw [← hp] at F
  exact pe_make G.mak F (hr.mono hk) hg G.g B .nil (passes_call tk fun _ _ _ _ h => h) ha hdb he hpl

/-! ### the built-ins by their names -/
variable {a b : Expr} {tb : TE} {n : Str}
theorem boots : bootBuiltins "isinstance" = some (.builtin "isinstance") ∧ bootBuiltins "all" = some (.builtin "all") ∧ bootBuiltins "any" = some (.builtin "any") ∧ bootBuiltins "int" = some (.type "int") ∧ bootBuiltins "bool" = some (.type "bool") ∧
    bootBuiltins "tuple" = some (.type "tuple") ∧ bootBuiltins "list" = some (.type "list") ∧ bootBuiltins "str" = some (.type "str") ∧ bootBuiltins "sorted" = some (.builtin "sorted") ∧ bootBuiltins "min" = some (.builtin "min") ∧ bootBuiltins "dict" = some (.type "dict") ∧
    bootBuiltins "repr" = some (.builtin "repr") := by decide +kernel
theorem pe_isi (T : Top X.w X.K X.mg) (ha : PE X a ta) (hc : PE X c tc) (hg : Gl X "isinstance" := by rfl) (h2 : starEach [c] X.env = (false, eval c X.env) :: starEach [] X.env := by rfl)
    (he : starEach [a, c] X.env = (false, eval a X.env) :: starEach [c] X.env := by rfl) (hpl : (backTo pos (starEach [c] X.env)).any (·.1) = false := by rfl) :
    PE X (.Call (.Name "isinstance" p) [a, c] [] pos) (tCB (rIsi X.K) (tCons ta (tCons tc tNil))) := pe_callB call_isi hg (T.free _ (by decide +kernel)) boots.1 (pa_cons ha (pa_cons hc pa_nil h2) he) (by decide) (by decide) he hpl
theorem pe_isiT' (T : Top X.w X.K X.mg) (ha : PE X a ta) (hc : PE X c tc) (hg : Gl X "isinstance" := by rfl) (h2 : starEach [c] X.env = (false, eval c X.env) :: starEach [] X.env := by rfl)
    (he : starEach [a, c] X.env = (false, eval a X.env) :: starEach [c] X.env := by rfl) (hpl : (backTo pos (starEach [c] X.env)).any (·.1) = false := by rfl) :
    PE X (.Call (.Name "isinstance" p) [a, c] [] pos) (tCB (rIsiT X.K) (tCons ta (tCons tc tNil))) := pe_callB call_isiT hg (T.free _ (by decide +kernel)) boots.1 (pa_cons ha (pa_cons hc pa_nil h2) he) (by decide) (by decide) he hpl
theorem pe_tyN (T : Top X.w X.K X.mg) (s : String) (hs : (Str.ofString s) ∈ freeN := by decide +kernel) (hb : bootBuiltins (Str.ofString s) = some (.type s) := by decide +kernel) (hg : Gl X (Str.ofString s) := by rfl) (hn : (Str.ofString s) ≠ "__name__" := by decide) (hd : ((Str.ofString s) == ("__debug__" : Str)) = false := by decide) :
    PE X (.Name (Str.ofString s) pos) (tC (.ty s)) := pe_bltn (v := .ty s) hg (T.free _ hs) hb rfl hn hd
theorem pe_len (T : Top X.w X.K X.mg) (ha : PE X a ta) (hg : Gl X "len" := by rfl) (h1 : starEach [a] X.env = (false, eval a X.env) :: starEach [] X.env := by rfl) (hpl : (backTo pos (starEach [] X.env)).any (·.1) = false := by rfl) :
    PE X (.Call (.Name "len" p) [a] [] pos) (tCB (fun xs H Q => ∃ p ys, xs = [.ref p] ∧ (SqL X.K H p ys ∨ SqT X.K H p ys) ∧ Q (.int ys.length) H) (tCons ta tNil)) := pe_callB call_len_seq hg (T.free _ (by decide +kernel)) PySem.boot_len (pa_cons ha pa_nil h1) (by decide) (by decide) h1 hpl
theorem pe_lenS (T : Top X.w X.K X.mg) (ha : PE X a ta) (hg : Gl X "len" := by rfl) (h1 : starEach [a] X.env = (false, eval a X.env) :: starEach [] X.env := by rfl) (hpl : (backTo pos (starEach [] X.env)).any (·.1) = false := by rfl) :
    PE X (.Call (.Name "len" p) [a] [] pos) (tCB (fun xs H Q => ∃ z, xs = [.str z] ∧ z.length ≤ sizeLine ∧ Q (.int z.length) H) (tCons ta tNil)) := pe_callB call_len_str hg (T.free _ (by decide +kernel)) PySem.boot_len (pa_cons ha pa_nil h1) (by decide) (by decide) h1 hpl
theorem pe_all (T : Top X.w X.K X.mg) (hc : X.calm = true) (ha : PE X a ta) (hg : Gl X "all" := by rfl) (h1 : starEach [a] X.env = (false, eval a X.env) :: starEach [] X.env := by rfl) (hpl : (backTo pos (starEach [] X.env)).any (·.1) = false := by rfl) :
    PE X (.Call (.Name "all" p) [a] [] pos) (tCB (rAll X.K) (tCons ta tNil)) := pe_callB (cr_all hc) hg (T.free _ (by decide +kernel)) boots.2.1 (pa_cons ha pa_nil h1) (by decide) (by decide) h1 hpl
theorem pe_any (T : Top X.w X.K X.mg) (hc : X.calm = true) (ha : PE X a ta) (hg : Gl X "any" := by rfl) (h1 : starEach [a] X.env = (false, eval a X.env) :: starEach [] X.env := by rfl) (hpl : (backTo pos (starEach [] X.env)).any (·.1) = false := by rfl) :
    PE X (.Call (.Name "any" p) [a] [] pos) (tCB (rAny X.K) (tCons ta tNil)) := pe_callB (cr_any hc) hg (T.free _ (by decide +kernel)) boots.2.2.1 (pa_cons ha pa_nil h1) (by decide) (by decide) h1 hpl
/-- int(n), int(flag) -/
theorem pe_intN (T : Top X.w X.K X.mg) (ha : PE X a ta) (hg : Gl X "int" := by rfl) (h1 : starEach [a] X.env = (false, eval a X.env) :: starEach [] X.env := by rfl) (hpl : (backTo pos (starEach [] X.env)).any (·.1) = false := by rfl) :
    PE X (.Call (.Name "int" p) [a] [] pos) (tCB (fun xs H Q => (∃ i, xs = [.int i] ∧ Q (.int i) H) ∨ ∃ k, xs = [.bl k] ∧ Q (.int (if k then 1 else 0)) H) (tCons ta tNil)) := pe_callTy call_int1 hg (T.free _ (by decide +kernel)) boots.2.2.2.1 (pa_cons ha pa_nil h1) (by decide) (by decide) h1 hpl
/-- int(text) -/
theorem pe_intS (T : Top X.w X.K X.mg) (ha : PE X a ta) (hg : Gl X "int" := by rfl) (h1 : starEach [a] X.env = (false, eval a X.env) :: starEach [] X.env := by rfl) (hpl : (backTo pos (starEach [] X.env)).any (·.1) = false := by rfl) :
    PE X (.Call (.Name "int" p) [a] [] pos) (tCB (fun xs H Q => ∃ a n, xs = [.str a] ∧ PySem.intText? a = some n ∧ a.length ≤ 640 ∧ Q (.int n) H) (tCons ta tNil)) := pe_callTy call_int_str hg (T.free _ (by decide +kernel)) boots.2.2.2.1 (pa_cons ha pa_nil h1) (by decide) (by decide) h1 hpl
/-- tuple(list), tuple(tuple) -/
theorem pe_tuple (T : Top X.w X.K X.mg) (ha : PE X a ta) (hg : Gl X "tuple" := by rfl) (h1 : starEach [a] X.env = (false, eval a X.env) :: starEach [] X.env := by rfl) (hpl : (backTo pos (starEach [] X.env)).any (·.1) = false := by rfl) :
    PE X (.Call (.Name "tuple" p) [a] [] pos) (tCB (fun xs H Q => ∃ p ys, xs = [.ref p] ∧ ((SqL X.K H p ys ∧ ∀ l, H l = none → Q (.ref l) (upd H l (.tup ys))) ∨ (SqT X.K H p ys ∧ Q (.ref p) H))) (tCons ta tNil)) :=
  pe_callTy call_tuple_of hg (T.free _ (by decide +kernel)) boots.2.2.2.2.2.1 (pa_cons ha pa_nil h1) (by decide) (by decide) h1 hpl
/-- list(list), list(tuple) -/
theorem pe_list (T : Top X.w X.K X.mg) (ha : PE X a ta) (hg : Gl X "list" := by rfl) (h1 : starEach [a] X.env = (false, eval a X.env) :: starEach [] X.env := by rfl) (hpl : (backTo pos (starEach [] X.env)).any (·.1) = false := by rfl) :
    PE X (.Call (.Name "list" p) [a] [] pos) (tCB (fun xs H Q => ∃ p ys, xs = [.ref p] ∧ (SqL X.K H p ys ∨ SqT X.K H p ys) ∧ ∀ l, H l = none → Q (.ref l) (upd H l (.lst ys))) (tCons ta tNil)) :=
  pe_callTy call_list_of hg (T.free _ (by decide +kernel)) boots.2.2.2.2.2.2.1 (pa_cons ha pa_nil h1) (by decide) (by decide) h1 hpl
/-- str(n) -/
theorem pe_strN (T : Top X.w X.K X.mg) (ha : PE X a ta) (hg : Gl X "str" := by rfl) (h1 : starEach [a] X.env = (false, eval a X.env) :: starEach [] X.env := by rfl) (hpl : (backTo pos (starEach [] X.env)).any (·.1) = false := by rfl) :
    PE X (.Call (.Name "str" p) [a] [] pos) (tCB (fun xs H Q => ∃ i, xs = [.int i] ∧ i.natAbs.log2 < 1920 ∧ Q (.str (toString i)) H) (tCons ta tNil)) := pe_callTy call_str_int hg (T.free _ (by decide +kernel)) boots.2.2.2.2.2.2.2.1 (pa_cons ha pa_nil h1) (by decide) (by decide) h1 hpl
end
end K5
set_option Elab.async false
set_option linter.all false
set_option maxRecDepth 100000
set_option maxHeartbeats 4000000
namespace K5
open PySem PySem.Spec PyProof.Rows L2
/-! ### data -/
/-- a tuple of ints -/
abbrev TI (K : PySem.W.Frag) (H : Hp) (a : Addr) (ns : List Int) : Prop := SqT K H a (ns.map V.int)
/-- a tuple of tuples of ints -/
structure TP (K : PySem.W.Frag) (H : Hp) (a : Addr) (lots : List (List Int)) : Prop where
  ex : ∃ as : List Addr, SqT K H a (as.map V.ref) ∧ as.length = lots.length ∧ ∀ (i : Nat) (b : Addr) (l : List Int), as[i]? = some b → lots[i]? = some l → TI K H b l
/-- what is wanted of an error: its class, its fields; all that stood stands -/
def ErrW (K : PySem.W.Frag) (H : Hp) (E : XK) (nm : Str) (fs : List (Str × V)) : Prop := ∀ (d : Addr) (H' : Hp), Same H H' → H' d = some (.xd fs) → E (.ref (He.ga K nm)) (some d) H'
theorem _root_.L2.Same.upd_new {H : Hp} {a : Addr} {o : HO} (h : H a = none) : Same H (upd H a o) := fun b u e => by rw [upd_ne (ne_of_none e h)]; exact e
theorem _root_.L2.Same.sqt {K : PySem.W.Frag} {H H' : Hp} {a : Addr} {xs : List V} (e : Same H H') (h : SqT K H a xs) : SqT K H' a xs := by
  rcases h with (h | ⟨o, h⟩) | h
  · exact .inl (.inl (e _ _ h))
  · exact .inl (.inr ⟨o, e _ _ h⟩)
  · exact .inr h
theorem _root_.L2.Same.tp {K : PySem.W.Frag} {H H' : Hp} {a : Addr} {ls : List (List Int)} (e : Same H H') (h : TP K H a ls) : TP K H' a ls := by
  obtain ⟨as, h1, h2, h3⟩ := h.ex
  exact ⟨as, e.sqt h1, h2, fun i b l x y => e.sqt (h3 i b l x y)⟩
theorem ErrW.same {K : PySem.W.Frag} {H H' : Hp} {E : XK} {nm : Str} {fs : List (Str × V)} (h : ErrW K H E nm fs) (s : Same H H') : ErrW K H' E nm fs := fun d H2 s2 e => h d H2 (s.trans s2) e
theorem ErrW.new {K : PySem.W.Frag} {H : Hp} {E : XK} {nm : Str} {fs : List (Str × V)} (h : ErrW K H E nm fs) {d : Addr} (hd : H d = none) : E (.ref (He.ga K nm)) (some d) (upd H d (.xd fs)) := h d _ (Same.upd_new hd) upd_same
section
variable (K : PySem.W.Frag)
theorem kit_ii : PySem.W.kitOne K (.type "int") (.type "int") = some true := by kernel_rfl
theorem kit_bi : PySem.W.kitOne K (.type "bool") (.type "int") = some true := by kernel_rfl
theorem kit_ib : PySem.W.kitOne K (.type "int") (.type "bool") = some false := by kernel_rfl
theorem kit_bb : PySem.W.kitOne K (.type "bool") (.type "bool") = some true := by kernel_rfl
theorem kit_tt : PySem.W.kitOne K (.type "tuple") (.type "tuple") = some true := by kernel_rfl
theorem kit_nt : PySem.W.kitOne K (.type "NoneType") (.type "tuple") = some false := by kernel_rfl
theorem kit_it : PySem.W.kitOne K (.type "int") (.type "tuple") = some false := by kernel_rfl
theorem kit_lt : PySem.W.kitOne K (.type "list") (.type "tuple") = some false := by kernel_rfl
theorem kit_st : PySem.W.kitOne K (.type "str") (.type "tuple") = some false := by kernel_rfl
theorem kit_tlt : PySem.W.kitAny K (.type "tuple") [.type "list", .type "tuple"] = some true := by kernel_rfl
end
/-- the type of a tuple that is read -/
theorem ty_tup {K : PySem.W.Frag} {H : Hp} {a : Addr} {xs : List V} (h : SqT K H a xs) : TyX K H (.ref a) (.type "tuple") := by
  rcases h with (h | ⟨o, h⟩) | ⟨o, its, n, hk, hc, _⟩
  · exact .base (.tup h)
  · exact .fTuple h
  · exact .kTuple hk hc
theorem ty_lst {K : PySem.W.Frag} {H : Hp} {a : Addr} {xs : List V} (h : SqL K H a xs) : TyX K H (.ref a) (.type "list") := by
  rcases h with (h | ⟨o, h⟩) | ⟨o, its, n, hk, hc, _⟩
  · exact .base (.lst h)
  · exact .base (.frz h)
  · exact .kList hk hc
/-! ### is_from_to, _check, _put -/
def spFromTo : Sp := fun vs H Q _ => (∃ v lo hi : Int, vs = [.int v, .int lo, .int hi] ∧ Q (.bl (decide (lo ≤ v ∧ v ≤ hi))) H) ∨ ∃ (b : Bool) (lo hi : Int), vs = [.bl b, .int lo, .int hi] ∧ Q (.bl false) H
def spCheck (K : PySem.W.Frag) : Sp := fun vs H Q E => ∃ v lo hi : Int, vs = [.int v, .int lo, .int hi] ∧ (lo ≤ v ∧ v ≤ hi → Q .non H) ∧ (¬ (lo ≤ v ∧ v ≤ hi) → ErrW K H E "InvalidNumber" [("value", .int v)])
section
variable {w : World} {K : PySem.W.Frag} {mg : Str → Option Value} {base : Heap}
theorem sc_is_from_to : FnScope ["value", "least", "most"] ["value", "least", "most"] (defScope s_is_from_to) := ⟨rfl, rfl, rfl, by decide +kernel, rfl, by decide +kernel, by decide +kernel⟩
theorem ok_is_from_to (T : Top w K mg) : HasF w K mg base 1 "is_from_to" ["value", "least", "most"] spFromTo := by
  refine .of T (has_ex (k := 0) T 0 (d := dD ("is_from_to", none) "is_from_to" "is_from_to" s_is_from_to) rfl sc_is_from_to (fun _ => rfl) (fun _ _ _ _ _ _ us hl => match us, hl with | [_, _, _], _ => rfl) (fun vs H Q E h => ?_) (fun cdv A outer s H vs Q E hr h => ?_))
  · rcases h with ⟨v, lo, hi, rfl, _⟩ | ⟨b, lo, hi, rfl, _⟩ <;> rfl
  · refine ⟨_, pss_one (ps_ret (pe_and (pe_isi T (pv 0) (pe_tyN T "int")) (pe_and (pe_not (pe_isi T (pv 0) (pe_tyN T "bool"))) (pe_one (pe_chain op_le op_le (pv 1) (pv 0) (pv 2)))))), ?_⟩
    rcases h with ⟨v, lo, hi, rfl, q⟩ | ⟨b, lo, hi, rfl, q⟩
    · refine ⟨_, rfl, _, _, _, _, _, rfl, .ty _, .base (.int v), kit_ii K, _, rfl, ?_⟩
      refine iteT ⟨_, rfl, _, _, _, _, _, rfl, .ty _, .base (.int v), kit_ib K, _, rfl, _, rfl, ?_⟩
      refine iteT ⟨_, rfl, _, rfl, _, _, rfl, rfl, _, rfl, ?_⟩
      by_cases c : lo ≤ v
      · rw [if_pos (decide_eq_true c)]
        refine ⟨_, rfl, _, _, rfl, rfl, ?_⟩
        have e : decide (lo ≤ v ∧ v ≤ hi) = decide (v ≤ hi) := by simp [c]
        rw [e] at q
        exact q
      · rw [if_neg (by simpa using c)]
        have e : decide (lo ≤ v ∧ v ≤ hi) = false := by simp [c]
        rw [e] at q
        exact q
    · refine ⟨_, rfl, _, _, _, _, _, rfl, .ty _, .base (.bl b), kit_bi K, _, rfl, ?_⟩
      refine iteT ⟨_, rfl, _, _, _, _, _, rfl, .ty _, .base (.bl b), kit_bb K, _, rfl, _, rfl, ?_⟩
      exact iteF q
theorem sc__check : FnScope ["value", "least", "most"] ["value", "least", "most"] (defScope s__check) := ⟨rfl, rfl, rfl, by decide +kernel, rfl, by decide +kernel, by decide +kernel⟩
theorem ok__check (T : Top w K mg) : HasF w K mg base 3 "_check" ["value", "least", "most"] (spCheck K) := by
  refine .of T (has_ex (k := 2) T 1 (d := dD ("_check", none) "_check" "_check" s__check) rfl sc__check (fun _ => rfl) (fun _ _ _ _ _ _ us hl => match us, hl with | [_, _, _], _ => rfl) (fun vs H Q E h => ?_) (fun cdv A outer s H vs Q E hr h => ?_))
  · obtain ⟨v, lo, hi, rfl, _⟩ := h
    rfl
  · obtain ⟨v, lo, hi, rfl, q1, q2⟩ := h
    refine ⟨_, pss_one (ps_if (pt_not (pt_val (pe_fn (ok_is_from_to T) rfl hr (by omega) (pa_cons (pv 0) (pa_cons (pv 1) (pa_cons (pv 2) pa_nil)))))) (pss_one (ps_err1 (k := 0) rfl (err_InvalidNumber T) rfl hr (takes_of rfl rfl rfl rfl) (pv 0))) pss_nil), ?_⟩
    refine ⟨_, rfl, _, rfl, _, rfl, .inl ⟨v, lo, hi, rfl, _, rfl, ?_⟩⟩
    by_cases c : lo ≤ v ∧ v ≤ hi
    · rw [decide_eq_true c]
      exact iteF (q1 c)
    · rw [decide_eq_false c]
      exact iteT ⟨_, rfl, mk1_end fun d hd => (q2 c).new hd⟩
end
end K5
set_option Elab.async false
set_option linter.all false
set_option maxRecDepth 100000
set_option maxHeartbeats 4000000
/-! ### enumerate over a tuple -/
namespace K5
open PySem PySem.Spec PyProof.Rows L2
open PySem.Sem (wp)
open PySem.AutoSeq1 (wpAny_loadPart')
theorem meets_enum_tup (l : Addr) (items : Array Value) (n : Nat) (dct : Option Addr) (sl : Array (Option Value)) :
    Meets (Builtin.«enumerate.__new__» ⟨[.type "enumerate", .ref l], []⟩) (fun _ R s => s.heap.get? l = some { cls := .type "tuple", dict := dct, data := .seq items n, slots := sl } ∧
      R (.ok (.ret (.ref (s.heap.push { cls := .type "tuple_iterator", data := .fields #[.ref l, .int 0 0] }).objs.size)))
        { s with heap := (s.heap.push { cls := .type "tuple_iterator", data := .fields #[.ref l, .int 0 0] }).push { cls := .type "enumerate", data := .fields #[.none, .bool false, .ref s.heap.objs.size, rawInt 0, .none, .none] } }) :=
  .of_wp fun prog w A R s h => by
    obtain ⟨hp, g, d, tk, os⟩ := s; obtain ⟨hl, h⟩ := h
    have hsub := sub_enumerate
    have hL : Heap.IsTuple (Shared.heap ⟨hp, g, d, tk, os⟩) l items := ⟨_, hl, rfl, n, rfl⟩
    wp_walk using wpAny_loadPart' hl
    refine wpAny_stack_any fun st => wpAny_pure ?_
    split
    · rename_i c _ _ _ _ _
      cases (c == Value.type "enumerate")
      · wp_walk using wpAny_loadPart' hl, wpAny_pyIter_tuple hL
        exact ⟨_, rfl, h⟩
      · wp_walk using wpAny_loadPart' hl, wpAny_pyIter_tuple hL
        exact ⟨_, rfl, h⟩
    · wp_walk using wpAny_loadPart' hl, wpAny_pyIter_tuple hL
      exact ⟨_, rfl, h⟩
section
variable {prog : Program} {w : World} {A : Around} {E : Value → Shared → Prop} {s : Shared}
theorem call_enum_tup {l : Addr} {items : Array Value} {Q : Value → Shared → Prop} (hL : s.heap.IsTuple l items)
    (h : ∀ h', IsEnum h' (s.heap.objs.size + 1) s.heap.objs.size 0 .none → h'.IsTupleIter s.heap.objs.size l 0 → h'.objs.size = s.heap.objs.size + 2 →
      (∀ b o, s.heap.get? b = some o → h'.get? b = some o) → Q (.ref (s.heap.objs.size + 1)) { s with heap := h' }) :
    wpAny (model prog w) A (call (.type "enumerate") [.ref l]) Q E s := by
  obtain ⟨⟨c, dct, dt, sl⟩, hl, hc, n, hd⟩ := hL
  replace hc : c = .type "tuple" := hc
  replace hd : dt = .seq items n := hd
  subst hc hd
  refine callType_new F.called_enumerate (by decide) (F.typeCall_enumerate_1 _) (F.newCall_enumerate_1 _) (fun obj => F.args_object_init_2 obj _) F.entry_enumerate_new
    (meets_enum_tup l items n dct sl) ⟨hl, ?_⟩
  have hz : (s.heap.push { cls := .type "tuple_iterator", data := .fields #[.ref l, .int 0 0] }).objs.size = s.heap.objs.size + 1 := Heap.size_push ..
  show _ ∧ _
  rw [hz]
  have he : IsEnum ((s.heap.push { cls := .type "tuple_iterator", data := .fields #[.ref l, .int 0 0] }).push
      { cls := .type "enumerate", data := .fields #[.none, .bool false, .ref s.heap.objs.size, rawInt 0, .none, .none] }) (s.heap.objs.size + 1) s.heap.objs.size 0 .none := by
    have := Heap.get?_push_size (s.heap.push { cls := .type "tuple_iterator", data := .fields #[.ref l, .int 0 0] })
      (o := { cls := .type "enumerate", data := .fields #[.none, .bool false, .ref s.heap.objs.size, rawInt 0, .none, .none] }) rfl
    rw [hz] at this; exact this
  refine ⟨⟨_, he, rfl⟩, h _ he ⟨_, Heap.get?_push_of_some _ (Heap.get?_push_size _ rfl), rfl, rfl⟩ (by rw [Heap.size_push, hz]) fun b o x => Heap.get?_push_of_some _ (Heap.get?_push_of_some _ x)⟩
end
/-- the tuple at a, each item in a new pair -/
def ItE (K : PySem.W.Frag) (a : Addr) : It :=
  ⟨fun i H => ∃ (xs : List V) (x : V), SqT K H a xs ∧ xs[i]? = some x, fun i H v H' => ∃ T x, v = .ref T ∧ H T = none ∧ H' = upd H T (.tup [.int (i : Nat), x]) ∧ ∀ xs, SqT K H a xs → xs[i]? = some x, fun i H => ∃ xs : List V, SqT K H a xs ∧ xs.length ≤ i⟩
theorem turn_enumT {P : Program} {w : World} {K : PySem.W.Frag} {elts : List Expr} {kk : Nat} {tpos : Pos} (a e it : Addr) :
    Turn P w K (.Tuple elts kk tpos) (ItE K a) [e, it] e (fun i h => (∃ old, IsEnum h e it ((i : Nat) : Int) old) ∧ h.IsTupleIter it a i ∧ e ≠ it ∧ a ≠ it ∧ a ≠ e) where
  mem := by simp
  obj := fun i h st b hb => by
    obtain ⟨⟨old, he⟩, ⟨o, ho, hc, hd⟩, _⟩ := st
    have e' : b = e ∨ b = it := by simpa using hb
    rcases e' with z | z
    · rw [z]; exact ⟨_, he, fun v q => nomatch q⟩
    · rw [z]; exact ⟨o, ho, fun v q => by rw [hd] at q; cases q⟩
  keep := fun i h h' st k => let ⟨⟨old, he⟩, hi, hne⟩ := st; ⟨⟨old, k e (by simp) _ he⟩, hi.at fun o q => k it (by simp) o q, hne⟩
  item := by
    intro X hP hw hK hc i pins s σ H E I hf st hg
    subst hP hw hK
    obtain ⟨⟨old, he⟩, hit, hne, hai, hae⟩ := st
    obtain ⟨xs, x, hq, hx⟩ := hg
    obtain ⟨its, rv, p, hz⟩ := I.tuple hq
    obtain ⟨u, hu, ru⟩ := rv.get hx
    have hel : e < s.heap.objs.size := Heap.lt_size he
    have hil : it < s.heap.objs.size := by obtain ⟨_, q, _⟩ := hit; exact Heap.lt_size q
    have hil' : i < its.length := (List.getElem?_eq_some_iff.mp hu).1
    refine wpAny_pyNext_enum_itemD (Draws.tuple (A := X.A.in1) (I.ok.hd hc) it a hai its.toArray) he ⟨hit, (show s.heap.IsTuple a its.toArray from p)⟩ (by simpa using hil') hne (by simp; exact ⟨hne, fun z => hae z.symm⟩) fun x' h' tk hP ho hit' hT hsz hk => ?_
    have hxu : x' = u := by
      have : its[i]? = some x' := by simpa using hP
      rw [hu] at this
      exact (Option.some.inj this).symm
    subst hxu
    refine ⟨_, rfl, wpAny_letOwnedTupleGo_enum (s := { s with heap := h', toks := tk + 1 }) ho fun h'' he' sb => ?_⟩
    have hT2 : h''.get? s.heap.objs.size = some { cls := .type "tuple", data := .seq #[.int i tk, x'] } := (sb.2 _ (Nat.ne_of_gt hel)).trans hT
    have new : ObjOk X.prog X.w (upd H s.heap.objs.size (.tup [.int (i : Nat), x])) h'' s.heap.objs.size (.tup [.int (i : Nat), x]) :=
      ⟨by show 2 ≤ sizeLine; decide, [.int i tk, x'], .cons ⟨_, rfl⟩ (.cons ru .nil), ⟨_, hT2, rfl, _, rfl⟩⟩
    have I1 : Inv X pins σ (upd H s.heap.objs.size (.tup [.int (i : Nat), x])) { s with heap := h'', toks := tk + 1 } :=
      I.turnedNew (ch := [e, it]) (fun b ob hb q => (sb.2 b (fun z => hb (by simp [z]))).trans (hk b ob (fun z => hb (by simp [z])) (fun z => hb (by simp [z])) q)) hf (Nat.le_refl _) new
    refine ⟨.ref s.heap.objs.size, _, I1, rfl, ⟨_, x, rfl, I.hok.fresh (Nat.le_refl _), rfl, fun ys hy => by rw [I.tuple_inj hy hq]; exact hx⟩, ⟨⟨x', ?_⟩, hit'.1.at fun o q => (sb.2 it (Ne.symm hne)).trans q, hne, hai, hae⟩, fun b hb => ?_⟩
    · have e1 : ((i + 1 : Nat) : Int) = (i : Int) + 1 := by omega
      rw [e1]; exact he'
    · have hb' : b < s.heap.objs.size := by
        have e' : b = e ∨ b = it := by simpa using hb
        rcases e' with z | z
        · rw [z]; exact hel
        · rw [z]; exact hil
      rw [upd_ne (Nat.ne_of_lt hb')]
      exact (hf b hb).1
  done := by
    intro X hP hw hK hc i pins s σ H E I hf st hg
    subst hP hw hK
    obtain ⟨⟨old, he⟩, hit, hne, hai, hae⟩ := st
    obtain ⟨xs, hq, hx⟩ := hg
    obtain ⟨its, rv, p, hz⟩ := I.tuple hq
    obtain ⟨f0, f1, f2, f3, f4, f5⟩ := hf it (by simp)
    have hl := rv.length
    have done : ∀ (A : Around) (hh : A.handled = none) (s : Shared) (E : Value → Shared → Prop) (Q : Option Value → Shared → Prop), IsEnum s.heap e it (i : Nat) old → s.heap.IsTupleIter it a i → s.heap.IsTuple a its.toArray →
        (∀ h', Heap.ExtBut it s.heap h' → Q none { s with heap := h' }) → wpAny (model X.prog X.w) A (pyNext (.ref e)) Q E s := by
      intro A hh s E Q he hit p hQ
      have hT : s.TypeIs (.ref e) "enumerate" := ⟨_, he, rfl⟩
      unfold pyNext
      refine wpAny_bind (wpAny_attempt (wpAny_callSpecial?_slot (name := Str.ofString "__next__") hT F.slot_enumerate_next
        (wpAny_call_entry F.slot_enumerate_next hT F.entry_enumerate_next ?_ (F.args_enumerate_next_1 _))))
      show wpAny _ _ (field (.ref e) 2 >>= _) _ _ _
      refine wpAny_bind (wpAny_field he rfl (x := .ref it) rfl ?_)
      refine wpAny_bind (wpAny_nextOf_tuple_end (by first | exact hh | simpa using hh) hit p (by simp; omega) fun h' x he' hx' => ?_)
      obtain ⟨o, ho, hc⟩ := hx'
      refine wpAny_bind (wpAny_isInstance (T := "StopIteration") (b := true) ⟨o, ho, hc⟩ isSubtype_stop ?_)
      exact wpAny_pure (hQ _ he')
    exact done X.A (I.ok.hd hc) s E _ he hit p fun h' eb => ⟨rfl, I.turned (t' := s.toks) (fun b o hb e => eb b o hb e) f0 f1 f3 f4 f5⟩
  self := fun A i s Q E st h => let ⟨⟨_, he⟩, _⟩ := st; wpAny_pyIter_enum he h
def iEnumT (K : PySem.W.Frag) (ta : TA) : L2.TI := fun σ H R => ta σ H fun vs H1 => ∃ a xs, vs = [.ref a] ∧ SqT K H1 a xs ∧ R (ItE K a) H1
theorem pi_enumT {X : Cx} {e : Expr} {ta : TA} {p pos tpos : Pos} {elts : List Expr} {kk : Nat} (hg : Gl X "enumerate") (hm : X.mg "enumerate" = none) (ha : PA X [e] ta) (hs : starEach [e] X.env = [(false, eval e X.env)] := by rfl) :
    PI X (.Tuple elts kk tpos) (.Call (.Name "enumerate" p) [e] [] pos) (iEnumT X.K ta) := by
  refine ⟨fun pins s σ H R I h => ?_⟩
  refine Call_ (ld_blt I hg hm boot_enumerate (PyProof.Rows.callWith_type1 (thn (ha.run pos pins s σ H _ I h) fun us s1 ⟨vs, H1, I1, r1, q1⟩ => ?_) hs rfl))
  obtain ⟨a, xs, ex, hq, q⟩ := q1
  subst ex
  cases r1 with
  | cons r rr =>
    cases rr
    cases r
    obtain ⟨its, rv, p', hz⟩ := I1.tuple hq
    have hal : a < s1.heap.objs.size := by
      obtain ⟨o, ho, _⟩ := (show s1.heap.IsTuple a its.toArray from p')
      exact Heap.lt_size ho
    refine call_enum_tup (show s1.heap.IsTuple a its.toArray from p') fun h' he hit hsz hk => wpAny_pyIter_enum he ?_
    have I2 : Inv X pins σ H1 { s1 with heap := h' } := I1.kept (t' := s1.toks) hk
    refine ⟨s1.heap.objs.size + 1, [s1.heap.objs.size + 1, s1.heap.objs.size], _, _, H1, rfl, I2, turn_enumT a (s1.heap.objs.size + 1) s1.heap.objs.size, ⟨⟨.none, he⟩, hit, Nat.succ_ne_self _, Nat.ne_of_lt hal, Nat.ne_of_lt (Nat.lt_succ_of_lt hal)⟩, fun b hb => ?_, q⟩
    have e' : b = s1.heap.objs.size + 1 ∨ b = s1.heap.objs.size := by simpa using hb
    have hle : s1.heap.objs.size ≤ b := by
      rcases e' with z | z
      · rw [z]; exact Nat.le_add_right _ _
      · rw [z]; exact Nat.le_refl _
    exact I1.fpOk hle (I1.hok.fresh hle)
theorem walk_enumT {K : PySem.W.Frag} {a : Addr} {xs : List V} : Walk (ItE K a) xs.length (fun H => SqT K H a xs) (YPair (fun i => some (.int (i : Nat))) (fun i => xs[i]?)) := by
  refine ⟨fun i _ hi q => ⟨xs, xs[i], q, by simp [hi]⟩, fun _ q => ⟨xs, q, Nat.le_refl _⟩, fun i H v H' _ q y => ?_⟩
  obtain ⟨T, x, h1, h2, h3, h4⟩ := y
  exact ⟨T, .int (i : Nat), x, h1, h2, h3, rfl, h4 xs q⟩
end K5
set_option Elab.async false
set_option linter.all false
set_option maxRecDepth 100000
set_option maxHeartbeats 4000000
/-! ### several clauses 'except X as e' (one name e) -/
namespace K5
open PySem PySem.Spec PyProof.Rows L2
def dEnd (D : Ends) (i : Nat) : Ends := { nx := fun σ' H' => D.nx (σ'.set i none) H', rt := D.rt, bk := fun σ' H' => D.bk (σ'.set i none) H', ct := fun σ' H' => D.ct (σ'.set i none) H' }
def wAll (K : PySem.W.Frag) (i : Nat) (Wout : WX) (D : Ends) : List (Value × (Addr → Value → Option Addr → TS)) → WX
  | [] => Wout
  | (c, ts) :: r => fun cls d σ H => ∃ b, PySem.W.exmOne K cls c = some b ∧ (b = true → ∀ a, H a = none → ts a cls d (dEnd D i) (σ.set i (some (.ref a))) H) ∧ (b = false → wAll K i Wout D r cls d σ H)
inductive HdsA (X : Cx) (n : Str) : List ExceptHandler → List (Value × (Addr → Value → Option Addr → TS)) → Prop
  | nil : HdsA X n [] []
  | cons {x : Str} {c : Value} {ts : Addr → Value → Option Addr → TS} {b₀ : Stmt} {suite : List Stmt} {np pos' : Pos} {hds : List ExceptHandler} {l : List (Value × (Addr → Value → Option Addr → TS))} (hc : Names X x c)
      (hsu : ∀ (a : Addr) (oe : Obj) (cls : Value) (d : Option Addr) (pn : List (Addr × Obj)), Zc cls d oe → (∃ vs, oe.data = .fields vs) → PSs (X.suite a ((a, oe) :: pn)) (b₀ :: suite) (ts a cls d)) (r : HdsA X n hds l) :
      HdsA X n (.ExceptHandler (some (.Name x np)) (some n) (b₀ :: suite) pos' :: hds) ((c, ts) :: l)
section
variable {X : Cx} {n : Str} {i : Nat} {body : List Stmt} {h₀ : ExceptHandler} {hds : List ExceptHandler} {l : List (Value × (Addr → Value → Option Addr → TS))} {pos : Pos} {tb : WX → TS} {Wout : WX}
theorem ps_try_all (hs : X.stack = X.env :: X.outer) (hf : X.env.frame = some X.env.locals) (hN : X.N.Nodup) (hi : X.N[i]? = some n) (hln : X.env.kindOf n = some .local) (tk : Takes X Wout)
    (hb : ∀ (W : WX) (pn : List (Addr × Obj)) (xe : Value → Shared → Prop), Takes (X.tr pn xe) W → PassesOwn (model X.prog X.w) X.A X.env xe → PSs (X.tr pn xe) body (tb W))
    (hh : HdsA X n (h₀ :: hds) l) : PS X (.Try body (h₀ :: hds) [] [] pos) (fun D σ H => tb (wAll X.K i Wout D l) D σ H) := by
  refine ⟨fun pins s σ H D I h => ?_⟩
  have ok := I.ok
  have hfr : X.A.frames = some (X.env :: X.outer) := by rw [ok.frames, hs]
  have hloc : Loc X.env.scope n := .inl hln
  refine wpAny_Try_except ?_
  refine wpAny_mono ((hb (wAll X.K i Wout D l) (X.pn ++ pins) (fun e s₁ => wpAny (model X.prog X.w) X.A (noteFrame e X.env) (fun _ s₂ => wpAny (model X.prog X.w) X.A (setFlight e none) (fun _ s₃ =>
    wpAny (model X.prog X.w) X.A (handleBy e X.env (h₀ :: hds)) (SP X pins D) X.xe s₃) X.xe s₂) X.xe s₁) (fun u s' xx => ?_) PassesOwn.looking).run [] s σ H D (I.toTry _) h) (fun f s1 hsp => ?_) (fun e s1 he => he)
  · -- the catch
    obtain ⟨a, B, sI, pins', σ', H', cls, d, rfl, J', nb, up, sky, na, os, ag, w⟩ := xx
    have J : Inv X pins σ' H' sI := J'.ofTry ok
    have sky' : Sky B (X.env :: X.outer) a (Zc cls d) X.env.locals s'.heap := by rw [← hs]; exact sky
    show wpAny (model X.prog X.w) X.A (noteFrame (.ref a) X.env) _ _ _
    refine Sky.land Zc.steady hfr hf sky' fun h3 fl3 up3 => ?_
    have J3 : Inv X pins σ' H' { s' with heap := h3 } := J.landed nb fl3.1 (up.trans up3) os ag
    obtain ⟨oe3, vs3, he3, hz3, hd3⟩ := fl3.there
    have notFr : ∀ {h : Heap} {o : Obj} {vs : Array Value}, h.FunFrames B (X.env :: X.outer) → h.get? a = some o → o.data = .fields vs → a ∉ frs (X.env :: X.outer) := fun {h o vs} ff e dd hm => by
      obtain ⟨_, o', e', hnf⟩ := ff.mem hm
      rw [e] at e'; cases e'
      exact hnf _ dd
    have nfr := notFr fl3.2.2.1 he3 hd3
    have nL : a ≠ X.env.locals := fun z => nfr (List.mem_filterMap.mpr ⟨X.env, List.mem_cons_self, by rw [hf, z]⟩)
    have nF : a ∉ X.fs := fun hm => by
      obtain ⟨e, he, q⟩ := List.mem_filterMap.mp hm
      exact nfr (List.mem_filterMap.mpr ⟨e, List.mem_cons_of_mem _ he, q⟩)
    have S3 := J3.suite he3 hd3 na nL nF
    have go : ∀ {hds' : List ExceptHandler} {l' : List (Value × (Addr → Value → Option Addr → TS))}, HdsA X n hds' l' → wAll X.K i Wout D l' cls d σ' H' →
        wpAny (model X.prog X.w) X.A (handleBy (.ref a) X.env hds') (SP X pins D) X.xe { s' with heap := h3 } := by
      intro hds' l' hk
      induction hk with
      | nil =>
        intro w
        refine wpAny_handleBy_nil ?_
        obtain ⟨k1, k2, k3, oe, vs, T, oT, ts', he, hz, hd, h1, hr⟩ := id fl3
        unfold PySem.passOn
        refine wpAny_bind (wpAny_field he hd h1 ?_)
        rw [if_neg (show ¬ ((Value.ref T == Value.none) = true) from by simp)]
        have fin : wpAny (model X.prog X.w) X.A (setFlight (.ref a) X.env.frame) (fun _ s4 => wpAny (model X.prog X.w) X.A (throw (.ref a) : Sem Flow) (SP X pins D) X.xe s4) X.xe { s' with heap := h3 } := by
          rw [hf]
          refine HandSPX.setFlight_upZ fl3 fun h4 hh4 up4 => wpAny_throw (tk _ _ ?_)
          exact ⟨a, B, sI, pins, σ', H', cls, d, rfl, J, nb, (up.trans up3).trans up4, .inr (.inr (by rw [hs]; exact hh4)), na, os, ag, w⟩
        first
          | exact wpAny_bind (wpAny_pure (wpAny_bind fin))
          | exact wpAny_bind fin
      | @cons x c ts b₀ suite np pos' hds2 l2 hc hsu r ih =>
        intro w
        obtain ⟨b, hb1, hyes, hno⟩ := w
        refine wpAny_handleBy_cons (codeAny_handlers_test ?_) (by intro q; cases q)
        have LT : PySem.W.Looks (model X.prog X.w) h3 (typeOf (.ref a)) cls := fun A Q E s k q => wpAny_typeOf_ref (k _ _ he3) (by rw [hz3.1]; exact q)
        have LM := PySem.W.exm_one (M := model X.prog X.w) (J3.kIn) LT hb1
        have test : ∀ {Q : Value → Shared → Prop} {E : Value → Shared → Prop}, Q c { s' with heap := h3 } → wpAny (model X.prog X.w) (X.A.mark (some (.ref a))) (eval (.Name x np) X.env) Q E { s' with heap := h3 } := fun {Q E} q => by
          obtain ⟨hg, hdbg, hm | ⟨hm, hv, hnn⟩⟩ := hc
          · exact ld_glob (X := X.suite a ((a, oe3) :: (X.pn ++ pins))) S3 hg hm q hdbg
          · exact ld_blt (X := X.suite a ((a, oe3) :: (X.pn ++ pins))) S3 hg hm hv q hnn hdbg
        refine test (LM.here ?_)
        cases b with
        | true =>
          refine codeAny_handlers_suite_as ?_
          refine HandSPX.lands_againZ fl3 fun h4 fl4 up4 => ?_
          have J4 : Inv X pins σ' H' { s' with heap := h4 } := J.landed nb fl4.1 ((up.trans up3).trans up4) os ag
          obtain ⟨oe4, vs4, he4, hz4, hd4⟩ := fl4.there
          have S4 := J4.suite he4 hd4 na nL nF
          refine store_ok (X := X.suite a ((a, oe4) :: (X.pn ++ pins))) (v := .ref a) S4 hN hi hloc rfl (fun s5 S5 => ?_) (.inr hln)
          refine wpAny_mono ((hsu a oe4 cls d (X.pn ++ pins) hz4 ⟨_, hd4⟩).run [] s5 _ H' _ S5 (hyes rfl a na)) (fun f s6 hsp => ?_) (fun _ _ z => False.elim z)
          have end_ : ∀ {σ6 : L2.St} {H6 : Hp} {Q : Shared → Prop}, Inv (X.suite a ((a, oe4) :: (X.pn ++ pins))) [] σ6 H6 s6 → (∀ s7, Inv X pins (σ6.set i none) H6 s7 → Q s7) →
              wpAny (model X.prog X.w) X.A (do bindName X.env n .none; unbindBehindTheSuite X.env n pos') (fun _ s7 => Q s7) X.xe s6 := fun {σ6 H6 Q} S6 hq => gone_ok (S6.unsuite ok) hN hi hln hq
          cases f with
          | next =>
            obtain ⟨σ6, H6, S6, q6⟩ := hsp
            exact end_ S6 fun s7 J7 => ⟨_, _, J7, q6⟩
          | brk =>
            obtain ⟨σ6, H6, S6, q6⟩ := hsp
            exact end_ S6 fun s7 J7 => ⟨_, _, J7, q6⟩
          | cont =>
            obtain ⟨σ6, H6, S6, q6⟩ := hsp
            exact end_ S6 fun s7 J7 => ⟨_, _, J7, q6⟩
          | ret u =>
            obtain ⟨v6, σ6, H6, S6, r6, q6⟩ := hsp
            exact end_ S6 fun s7 J7 => ⟨_, _, _, J7, r6, q6⟩
        | false =>
          show wpAny _ X.A (handleBy (.ref a) X.env hds2) _ _ _
          exact ih (hno rfl)
    exact go hh w
  · cases f with
    | next =>
      obtain ⟨σ', H', J', q⟩ := hsp
      exact wpAny_execs_nil ⟨σ', H', J'.ofTry ok, q⟩
    | brk =>
      obtain ⟨σ', H', J', q⟩ := hsp
      exact ⟨σ', H', J'.ofTry ok, q⟩
    | cont =>
      obtain ⟨σ', H', J', q⟩ := hsp
      exact ⟨σ', H', J'.ofTry ok, q⟩
    | ret u =>
      obtain ⟨v, σ', H', J', r, q⟩ := hsp
      exact ⟨v, σ', H', J'.ofTry ok, r, q⟩
end
end K5
set_option Elab.async false
set_option linter.all false
set_option maxRecDepth 100000
set_option maxHeartbeats 4000000
/-! ### isinstance(e, C) of an error with a dict of its own; calls in a try -/
namespace K5
open PySem PySem.Spec PySem.Calls PyProof.Rows L2 PySem.W
section
variable {prog : Program} {w : World} {A : Around} {E : Value → Shared → Prop} {s : Shared} {K : Frag} {x D : Addr} {ox : Obj} {od : Option Obj}
theorem findObj_dataO {C : Addr} {name : Str} {a g : Value} (hc : (clsIn K C).isSome = true) (ha : findIn K (.ref C) name = some (some a)) (hg : specialIn K a "__get__" = some (some g)) (ht : takesIn K a = some true) : findObj K C od name = some (.bind g a) := by
  obtain ⟨cd, hc⟩ := Option.isSome_iff_exists.mp hc
  unfold findObj
  rw [hc, Option.bind_some, ha, Option.bind_some]
  simp [hg, ht]
theorem kin_classO {Q : Option Value → Shared → Prop} (C : L2.ExcC K D)
    (X : K.In s.heap) (I : InstAt s.heap x ox D od) (h : Q (some (.ref D)) { s with toks := s.toks + 1 }) : wpAny (model prog w) A (getAttr? (.ref x) "__class__") Q E s := by
  have hf : findObj K D od "__class__" = some (.bind (.builtin "getset_descriptor.__get__") (.builtin "object.__class__")) := findObj_dataO (by obtain ⟨cd, hc, _⟩ := any_some C.hd; rw [hc]; rfl) C.ha C.hn C.ht
  obtain ⟨hp, g, d, t, os⟩ := s
  have L0 := I.type (M := model prog w)
  have L1 := looks_findIn (M := model prog w) X C.hg
  have L2 := looks_findIn (M := model prog w) X C.hk
  have L3 := looks_find (M := model prog w) X I hf
  have sub : Looks (model prog w) hp (isInstance (.ref x) (.type "BaseException")) true := L0.andThen (looks_subIn X C.hs)
  have hx0 : (false && onTheHeap (Value.builtin "BaseException.__getattribute__")) = false := rfl
  have hx2 : (Value.builtin "BaseException.__getattribute__" == Value.builtin "object.__getattribute__") = false := by decide +kernel
  have hx1 : (onTheHeap (Value.ref D) && Value.builtin "BaseException.__getattribute__" == Value.builtin "object.__getattribute__") = false := by rw [hx2]; rfl
  unfold getAttr? getAttrBy? getAttrBy
  refine wpAny_bind (wpAny_mkText (wpAny_bind (wpAny_attempt (wpAny_holding (wpAny_bind (L0.at (wpAny_bind (L1.at ?_))))))))
  show wpAny _ _ (if (onTheHeap (Value.ref D) && Value.builtin "BaseException.__getattribute__" == Value.builtin "object.__getattribute__") = true then _ else _) _ _ _
  rw [hx1, if_neg Bool.false_ne_true]
  unfold getAttrByItsOwn hookBefore
  refine wpAny_bind ?_
  rw [if_pos (show onTheHeap (Value.ref D) = true from rfl)]
  refine L2.at ?_
  refine wpAny_bind (wpAny_attempt (wpAny_holding ?_))
  unfold callGetattribute
  rw [hx0, if_neg Bool.false_ne_true]
  unfold boundAndCalled
  rw [PySem.F.excAttr_ValueError.ga.bind (.ref x)]
  refine wpAny_bind (wpAny_pure ?_)
  show wpAny _ _ (call (.builtin "BaseException.__getattribute__") [.ref x, .str "__class__" t]) _ _ _
  refine wpAny_call (codeAny_call_builtin PySem.F.excAttr_ValueError.ga.plain PySem.F.entry_bexc_ga ?_)
  refine @check_slot (model prog w) _ _ ⟨hp, g, d, t + 1, os⟩ "BaseException.__getattribute__" "BaseException" "__getattribute__" (.ref x) [.str "__class__" t] [] _ (by decide +kernel) (by decide +kernel) sub (PySem.F.args_bexc_ga (.ref x) (.str "__class__" t)) ?_
  unfold Builtin.«object.__getattribute__»
  refine wpAny_bind (wpAny_of_eq (a := ((Value.ref x : Value), [Value.str "__class__" t])) (by first | rfl | (simp only [slotArgs]; rfl)) ?_)
  refine wpAny_bind (wpAny_pure (wpAny_bind (L0.at (wpAny_bind (L3.at ?_)))))
  show wpAny _ _ (holding [Value.builtin "object.__class__"] (call (.builtin "getset_descriptor.__get__") [.builtin "object.__class__", .ref x, .ref D]) >>= ret) _ _ _
  refine wpAny_bind (wpAny_holding (wpAny_call (class_get (s := ⟨hp, g, d, t + 1, os⟩) (ox := ox) (od := od) X I C.hm ?_)))
  refine wpAny_pure ?_
  show wpAny _ _ (handedOut (.ref D)) _ _ _
  rw [handedOut_of (v := .ref D) rfl]
  first
    | exact wpAny_pure (wpAny_pure h)
    | exact wpAny_pure h
    | exact wpAny_pure (wpAny_bind (wpAny_pure (wpAny_pure h)))
theorem kitxO (C : L2.ExcC K D) : KitX K (.ref x) (.ref D) (fun h => InstAt h x ox D od) where
  ty := fun _ _ _ I => I.type
  it := fun _ _ X _ => by
    obtain ⟨cdD, hcD, _⟩ := any_some C.hd
    unfold clsIn at hcD
    split at hcD
    · rename_i c' d' cd' sl' ho
      intro A' Q' E' s' k q
      unfold isType loadHead
      exact wpAny_bind (wpAny_loadPart (k _ _ (X _ _ ho)) (wpAny_pure q))
    · cases hcD
  ne := fun h tp dd its n sl X htp => by
    obtain ⟨cdD, hcD, _⟩ := any_some C.hd
    refine Bool.eq_false_iff.mpr fun q => ?_
    have e : D = tp := Value.ref.inj (beq_iff_eq.mp q)
    subst e
    unfold clsIn at hcD
    split at hcD
    · rename_i c' d' cd' sl' ho
      have z := (X _ _ ho).symm.trans htp
      cases z
    · cases hcD
  ca := fun X I k => kin_classO C X I k
end
/-- isinstance(e, c), e the exception that the suite holds, its dict at dd -/
def rIsO (K : PySem.W.Frag) (D a dd : Addr) : List V → Hp → VK → Prop := fun xs H Q => ∃ (c : V) (cv : Value) (b : Bool) (fs : List (Str × V)), xs = [.ref a, c] ∧ H dd = some (.xd fs) ∧ (∀ u, RelV c u → u = cv) ∧ PySem.W.kitOne K (.ref D) cv = some b ∧ Q (.bl b) H
theorem call_isO {X : Cx} {a D dd : Addr} {oe : Obj} {pn : List (Addr × Obj)} (C : L2.ExcC X.K D) (hz : Zc (.ref D) (some dd) oe) (hf : ∃ vs, oe.data = .fields vs) : CallR (X.suite a ((a, oe) :: pn)) (.builtin "isinstance") (rIsO X.K D a dd) := by
  intro pins s σ H xs us Q I r h
  obtain ⟨c, cv, b, fs, rfl, ea, hcv, e, q⟩ := h
  cases r with
  | cons rx rr =>
    cases rr with
    | cons rt rr =>
      cases rr
      cases rx
      have ec := hcv _ rt
      subst ec
      obtain ⟨hget, _⟩ := I.pin (a, oe) (List.mem_append.mpr (.inl List.mem_cons_self))
      obtain ⟨vs, hv⟩ := hf
      obtain ⟨mA, hns, hr⟩ : ObjOk X.prog X.w H s.heap dd (.xd fs) := I.hok dd _ ea
      obtain ⟨od, ho, hl⟩ := lookIn_ns hns
      have J : PySem.W.InstAt s.heap a oe D (some od) := ⟨hget, hz.1, by unfold PySem.W.notCls; rw [hv] <;> rfl, by rw [hz.2]; exact ho⟩
      exact PySem.W.kia_one (kitxO C) I.kIn J e (fun z => nomatch z) fun tk => ⟨.bl b, H, I.kept (t' := tk) fun _ _ z => z, rfl, q⟩
/-- isinstance(e, MoveError) in a suite; a value for each cls and d -/
def tIsO (K : PySem.W.Frag) (a : Addr) (cls : Value) (d : Option Addr) (C : Addr) (t : TA) : TE := fun σ H Q => cls = .ref C ∧ ∃ dd, d = some dd ∧ tCB (rIsO K C a dd) t σ H Q
theorem pe_isO {X : Cx} {a C : Addr} {cls : Value} {d : Option Addr} {oe : Obj} {pn : List (Addr × Obj)} {e c : Expr} {te tc : TE} {p pos : Pos} (T : Top X.w X.K X.mg) (G : L2.ExcC X.K C) (hz : Zc cls d oe) (hf : ∃ vs, oe.data = .fields vs)
    (ha : PE (X.suite a ((a, oe) :: pn)) e te) (hc : PE (X.suite a ((a, oe) :: pn)) c tc) (hg : Gl (X.suite a ((a, oe) :: pn)) "isinstance" := by rfl) (h2 : starEach [c] (X.suite a ((a, oe) :: pn)).env = (false, eval c (X.suite a ((a, oe) :: pn)).env) :: starEach [] (X.suite a ((a, oe) :: pn)).env := by rfl)
    (he : starEach [e, c] (X.suite a ((a, oe) :: pn)).env = (false, eval e (X.suite a ((a, oe) :: pn)).env) :: starEach [c] (X.suite a ((a, oe) :: pn)).env := by rfl) (hpl : (backTo pos (starEach [c] (X.suite a ((a, oe) :: pn)).env)).any (·.1) = false := by rfl) :
    PE (X.suite a ((a, oe) :: pn)) (.Call (.Name "isinstance" p) [e, c] [] pos) (tIsO X.K a cls d C (tCons te (tCons tc tNil))) := by
  refine ⟨fun pins s σ H Q I h => ?_⟩
  obtain ⟨rfl, dd, rfl, h⟩ := h
  exact (pe_callB (call_isO G hz hf) hg (T.free _ (by decide +kernel)) boots.1 (pa_cons ha (pa_cons hc pa_nil h2) he) (by decide) (by decide) he hpl).run pins s σ H Q I h
theorem Top.excC {w : World} {K : Frag} {mg : Str → Option Value} (T : Top w K mg) {x : Str} (X : ExcT K x) : L2.ExcC K (He.ga K x) := ⟨X.xf.ga, X.xf.gg, X.xf.exC, X.xf.hdC, X.cl, T.oc1, T.oc2, X.mo⟩
section
variable {X : Cx} {W : WX} {x m C : Str} {p pos apos : Pos} {e o c : Expr} {es : List Expr} {ta tc to : TE} {t : TA} {j k : Nat} {ps : List Str} {sp : Sp}
def tMethS (C : Addr) (m : Str) (sp : Sp) (E : L2.St → XK) (ta : TE) (t : TA) : TE := fun σ H Q => ta σ H fun x H1 => ∃ a dx fs, x = .ref a ∧ H1 a = some (.ins C dx fs) ∧ fs.lookup m = none ∧ t σ H1 fun vs H2 => sp (.ref a :: vs) H2 Q (E σ)
theorem pe_meS {pl : Sem Bool} (G : HasM X.w X.K X.mg X.base k C m ps sp) (cl : Cls X.K (He.ga X.K C)) (hp : X.prog = PG) (hr : Room j X.A) (hk : k ≤ j) (tk : Takes X W) (ho : PE X o to) (ha : PA X (e :: es) t)
    (hst : starEach (e :: es) X.env = (false, eval e X.env) :: starEach es X.env := by rfl) (hpl : (backTo pos (starEach es X.env)).any (·.1) = false := by rfl)
    (ht : eval (.Call (.Attribute o m apos) (e :: es) [] pos) X.env = (do
      let ov ← eval o X.env
      standAt apos.atName
      let (f, first) ← holding [ov] (getMethod ov m pl)
      callWith pos f first (backTo pos (starEach (e :: es) X.env)) (backToKw pos (keywordEach [] X.env))) := by rfl) : PE X (.Call (.Attribute o m apos) (e :: es) [] pos) (tMethS (He.ga X.K C) m sp (WE W) to t) := by
  obtain ⟨fd, F, B⟩ := G.ex
  rw [← hp] at F
  refine ⟨fun pins s σ H Q I h => ?_⟩
  refine PySem.W.methodCall_KW (pl := pl) (thn (ho.run pins s σ H _ I h) fun u s1 ⟨x, H1, I1, rx, a, dx, fs, ex, ea, l, q⟩ => ?_) ht
  subst ex
  obtain rfl : u = Value.ref a := rx
  refine getmeth_ok I1 ea cl G.me l ?_
  refine PySem.W.callWith_K (first := [.ref a]) (h₀ := X.base) I.ok.mod.kin G.me.kp (thn (ha.run pos pins s1 σ H1 _ I1 q) fun us s2 ⟨vs, H2, I2, r, q2⟩ => ⟨I2.kIn, ?_⟩) hst hpl
  exact run_fnS (us := .ref a :: us) (vs := .ref a :: vs) (E := WE W) F (hr.mono hk) B (passAt tk σ) I2 (.cons rfl r) q2
def tMakeS (C : Addr) (sp : Sp) (E : L2.St → XK) (t : TA) : TE := fun σ H Q => t σ H fun vs H1 => ∀ x dx, H1 x = none → H1 dx = none → dx ≠ x → sp (.ref x :: vs) (upd (upd H1 dx (.own x)) x (.ins C dx [])) (fun v H2 => v = .non ∧ Q (.ref x) H2) (E σ)
theorem pe_mkS (G : HasI X.w X.K X.mg X.base k C ps sp) (hp : X.prog = PG) (hr : Room j X.A) (hk : k + 1 ≤ j) (tk : Takes X W) (ha : PA X (e :: es) t) (hg : Gl X C := by rfl) (hdb : (C == ("__debug__" : Str)) = false := by decide)
    (he : starEach (e :: es) X.env = (false, eval e X.env) :: starEach es X.env := by rfl) (hpl : (backTo pos (starEach es X.env)).any (·.1) = false := by rfl) : PE X (.Call (.Name C p) (e :: es) [] pos) (tMakeS (He.ga X.K C) sp (WE W) t) := by
  obtain ⟨fd, F, B⟩ := G.ex
  rw [← hp] at F
  refine ⟨fun pins s σ H Q I h => ?_⟩
  refine wpAny_Call_Name_kw (ld_glob I hg G.g ?_ hdb)
  refine PySem.W.callWith_K (h₀ := X.base) I.ok.mod.kin G.mak.kp (thn (ha.run pos pins s σ H _ I h) fun us s1 ⟨vs, H1, I1, r, q⟩ => ⟨I1.kIn, ?_⟩) he hpl
  have hq := q (s1.heap.objs.size + 1) s1.heap.objs.size (I1.hok.fresh (Nat.le_succ _)) (I1.hok.fresh (Nat.le_refl _)) (Nat.ne_of_lt (Nat.lt_succ_self _))
  have I2 := Inv.made (C := He.ga X.K C) I1
  have r2 : Vals (V.ref (s1.heap.objs.size + 1) :: vs) (Value.ref (s1.heap.objs.size + 1) :: us) := .cons rfl r
  have hl : (Value.ref (s1.heap.objs.size + 1) :: us).length = ps.length := by
    have e := r2.length
    rw [F.len _ _ _ _ hq] at e
    exact e.symm
  refine wpAny_call (make_map (f := He.ma X.K (He.ga X.K C) "__init__") I1.kIn G.mak.makes G.mak.init (beq_iff_eq.mp G.mak.fn) (codeAny_mono (F.run _ X.stack _ _ ⟨Value.ref (s1.heap.objs.size + 1) :: us, []⟩ (Value.ref (s1.heap.objs.size + 1) :: us) _ _ (WE W σ) ((hr.mono hk).make (He.ga X.K C) us [])
    (I2.env0.make (He.ga X.K C) us []) (by have hB := B _ (Value.ref (s1.heap.objs.size + 1) :: us) I2.kIn (by simpa using hl); rw [List.append_nil] at hB; exact hB) r2 hq) fun r s' hq' => ?_))
  cases r with
  | error e => exact passAt tk σ pins _ _ e s' I2 hq'
  | ok fl =>
    cases fl with
    | ret u =>
      obtain ⟨v, H', I3, rv, ev, q3⟩ := I2.after hq'
      subst ev
      exact ⟨rv, ⟨V.ref (s1.heap.objs.size + 1), H', I3, rfl, q3⟩⟩
    | next => exact False.elim hq'
    | brk => exact False.elim hq'
    | cont => exact False.elim hq'
end
end K5
set_option Elab.async false
set_option linter.all false
set_option maxRecDepth 100000
set_option maxHeartbeats 4000000
namespace K5
open PySem PySem.Spec PyProof.Rows L2
/-! ### names of the module, readings of tuples -/
section
variable {X : Cx} {pos : Pos}
theorem pe_gi (T : Top X.w X.K X.mg) {x : Str} (v : Int) (h : (x, v) ∈ intN := by decide +kernel) (hg : Gl X x := by rfl) (hd : (x == ("__debug__" : Str)) = false := by decide) : PE X (.Name x pos) (tC (.int v)) :=
  let ⟨t, e⟩ := T.int (x, v) h
  pe_glob hg e ⟨t, rfl⟩ hd
theorem pe_gr (T : Top X.w X.K X.mg) {x : Str} (h : x ∈ gloN := by decide +kernel) (hg : Gl X x := by rfl) (hd : (x == ("__debug__" : Str)) = false := by decide) : PE X (.Name x pos) (tC (.ref (He.ga X.K x))) := pe_glob hg (T.glo x h) rfl hd
end
section
variable {K : PySem.W.Frag} {H : Hp} {a b : Addr} {xs ys : List V} {Q : VK}
theorem cat_of (ha : SqT K H a xs) (hb : SqT K H b ys) (hz : xs.length + ys.length ≤ sizeLine) (q : ∀ p H', Same H H' → SqT K H' p (xs ++ ys) → Q (.ref p) H') : rCatA K (.ref a) (.ref b) H Q := by
  refine ⟨a, b, xs, ys, rfl, rfl, ha, hb, hz, fun e => ?_, fun _ e => ?_, fun _ _ p hp => q p _ (Same.upd_new hp) (.of upd_same)⟩
  · subst e
    exact q b H (Same.refl _) (by simpa using hb)
  · subst e
    exact q a H (Same.refl _) (by simpa using ha)
theorem cut_whole {lo hi : Option Int} (h : HT.sIx xs.length 0 lo = 0 ∧ HT.sIx xs.length xs.length hi = xs.length) : cutV xs lo hi = xs := by
  unfold cutV
  rw [h.1, h.2]
  simp
theorem sl_of {lo hi : Option Int} (ha : SqT K H a xs) (q : ∀ p H', Same H H' → SqT K H' p (cutV xs lo hi) → Q (.ref p) H') : rSlA K (.ref a) lo hi H Q :=
  ⟨a, xs, rfl, ha, fun h => q a H (Same.refl _) (by rw [cut_whole h]; exact ha), fun _ p hp => q p _ (Same.upd_new hp) (.of upd_same)⟩
theorem cut_to (n : Nat) : cutV xs none (some (n : Int)) = xs.take n := by
  unfold cutV
  rw [HT.sIx_nat, HT.sIx_none]
  simp only [List.drop_zero, Nat.sub_zero]
  rw [List.take_eq_take_iff]
  omega
theorem cut_from (n : Nat) : cutV xs (some (n : Int)) none = xs.drop n := by
  unfold cutV
  rw [HT.sIx_nat, HT.sIx_none, List.take_of_length_le]
  · by_cases h : n ≤ xs.length
    · rw [Nat.min_eq_left h]
    · rw [Nat.min_eq_right (by omega), List.drop_eq_nil_of_le (Nat.le_refl _), List.drop_eq_nil_of_le (by omega)]
  · rw [List.length_drop]
    exact Nat.le_refl _
theorem nopart {σ : L2.St} {R : Option Int → Hp → Prop} (h : R none H) : tNoPart σ H R := h
theorem fldAt {c C dx : Addr} {fs : List (Str × V)} {f : Str} {v : V} (h : H c = some (.ins C dx fs)) (cl : Cls K C) (na : NoAttr K C f) (l : fs.lookup f = some v) (q : Q v H) :
    ∃ a C dx fs v, V.ref c = .ref a ∧ H a = some (.ins C dx fs) ∧ Cls K C ∧ NoAttr K C f ∧ fs.lookup f = some v ∧ Q v H := ⟨_, _, _, _, _, rfl, h, cl, na, l, q⟩
/-- an item of a tuple by its place -/
theorem ixT_of {i : Nat} {x : V} (ha : SqT K H a xs) (e : xs[i]? = some x) (q : Q x H) : rIxT K (.ref a) (.int (i : Nat)) H Q := ⟨a, xs, _, x, rfl, rfl, ha, atI_nat e, q⟩
theorem ixL_of {i : Nat} {x : V} (ha : SqL K H a xs) (e : xs[i]? = some x) (q : Q x H) : rIxL K (.ref a) (.int (i : Nat)) H Q := ⟨a, xs, _, x, rfl, rfl, ha, atI_nat e, q⟩
end
/-- the row with the value v at place i -/
def putL {α : Type} (l : List α) (i : Nat) (v : α) : List α := l.take i ++ [v] ++ l.drop (i + 1)
theorem putL_len {α : Type} {l : List α} {i : Nat} {v : α} (h : i < l.length) : (putL l i v).length = l.length := by
  unfold putL
  simp
  omega
theorem putL_map {α β : Type} (f : α → β) (l : List α) (i : Nat) (v : α) : (putL l i v).map f = putL (l.map f) i (f v) := by
  unfold putL
  simp
theorem putL_mem {α : Type} {l : List α} {i : Nat} {v x : α} (h : x ∈ putL l i v) : x = v ∨ x ∈ l := by
  unfold putL at h
  rw [List.mem_append, List.mem_append] at h
  rcases h with (h | h) | h
  · exact .inr (List.mem_of_mem_take h)
  · exact .inl (by simpa using h)
  · exact .inr (List.mem_of_mem_drop h)
section
variable {w : World} {K : PySem.W.Frag} {mg : Str → Option Value} {base : Heap}
/-! ### _put -/
def spPut (K : PySem.W.Frag) : Sp := fun vs H Q _ => ∃ (a : Addr) (i : Nat) (v : V) (xs : List V), vs = [.ref a, .int (i : Nat), v] ∧ SqT K H a xs ∧ xs.length < 1000 ∧ i < xs.length ∧ ∀ p H', Same H H' → SqT K H' p (putL xs i v) → Q (.ref p) H'
theorem put_z1 {xs : List V} {v : V} {i : Nat} (hz : xs.length < 1000) : (cutV xs none (some (i : Int))).length + [v].length ≤ sizeLine := by
  have hl : (1001 : Nat) ≤ sizeLine := by rw [sizeLine_eq]; decide
  rw [cut_to, List.length_take, List.length_singleton]
  omega
theorem put_z2 {xs : List V} {v : V} {i : Nat} (hz : xs.length < 1000) : (cutV xs none (some (i : Int)) ++ [v]).length + (cutV xs (some ((i : Int) + 1)) none).length ≤ sizeLine := by
  have hl : (2002 : Nat) ≤ sizeLine := by rw [sizeLine_eq]; decide
  have e : ((i : Int) + 1) = ((i + 1 : Nat) : Int) := by omega
  rw [e, cut_from, cut_to, List.length_append, List.length_take, List.length_singleton, List.length_drop]
  omega
theorem put_e {H : Hp} {p : Addr} {xs : List V} {v : V} {i : Nat} (h : SqT K H p (cutV xs none (some (i : Int)) ++ [v] ++ cutV xs (some ((i : Int) + 1)) none)) : SqT K H p (putL xs i v) := by
  have e : ((i : Int) + 1) = ((i + 1 : Nat) : Int) := by omega
  rw [e, cut_from, cut_to] at h
  exact h
theorem sc__put : FnScope ["row", "place", "value"] ["row", "place", "value"] (defScope s__put) := ⟨rfl, rfl, rfl, by decide +kernel, rfl, by decide +kernel, by decide +kernel⟩
theorem ok__put (T : Top w K mg) : HasF w K mg base 1 "_put" ["row", "place", "value"] (spPut K) := by
  refine .of T (has_ex (k := 0) T 2 (d := dD ("_put", none) "_put" "_put" s__put) rfl sc__put (fun _ => rfl) (fun _ _ _ _ _ _ us hl => match us, hl with | [_, _, _], _ => rfl) (fun vs H Q E h => ?_) (fun cdv A outer s H vs Q E hr h => ?_))
  · obtain ⟨a, i, v, xs, rfl, _⟩ := h
    rfl
  · obtain ⟨a, i, v, xs, rfl, ha, hz, hi, q⟩ := h
    refine ⟨_, pss_one (ps_ret (pe_op op_catA (pe_op op_catA (pe_slice sl_tupA (pv 0) po_none (po_some (pv 1))) (pe_tup (pa_cons (pv 2) pa_nil))) (pe_slice sl_tupA (pv 0) (po_some (pe_op op_add (pv 1) pe_int)) po_none))), ?_⟩
    refine ⟨_, rfl, _, rfl, _, rfl, ?_⟩
    refine sl_of ha fun p1 H1 s1 h1 => ⟨_, rfl, by show 1 ≤ sizeLine; decide, fun p hp => ?_⟩
    refine cat_of ((Same.upd_new hp).sqt h1) (.of upd_same) (put_z1 hz) fun p2 H2 s3 h2 => ?_
    refine ⟨_, rfl, _, rfl, _, _, rfl, rfl, _, rfl, ?_⟩
    refine nopart ?_
    refine sl_of ((s1.trans ((Same.upd_new hp).trans s3)).sqt ha) fun p3 H3 s4 h3 => ?_
    refine cat_of (s4.sqt h2) h3 (put_z2 hz) fun p4 H4 s5 h4 => ?_
    exact q p4 H4 (s1.trans ((Same.upd_new hp).trans (s3.trans (s4.trans s5)))) (put_e h4)
end
end K5
set_option Elab.async false
set_option linter.all false
set_option maxRecDepth 100000
set_option maxHeartbeats 4000000
namespace K5
open PySem PySem.Spec PyProof.Rows L2
/-! ### clusters -/
def ClO (K : PySem.W.Frag) (dx ra ro rt : Addr) (n : Int) : HO := .ins (He.ga K "Cluster") dx [("racks", .ref ra), ("rooms", .ref ro), ("rates", .ref rt), ("store_count", .int n)]
def OkN (lo hi : Int) (l : List Int) : Prop := ∀ x ∈ l, lo ≤ x ∧ x ≤ hi
structure OkC (ra ro rt : List Int) : Prop where
  l1 : 1 ≤ ra.length
  l8 : ra.length ≤ 8
  lo : ro.length = ra.length
  lt : rt.length = ra.length
  bra : OkN 0 99 ra
  bro : OkN 0 99 ro
  brt : OkN 1 8 rt
structure ClAt (K : PySem.W.Frag) (H : Hp) (c : Addr) (ra ro rt : List Int) : Prop where
  ex : ∃ dx a b d, H c = some (ClO K dx a b d ra.length) ∧ TI K H a ra ∧ TI K H b ro ∧ TI K H d rt
  ok : OkC ra ro rt
theorem ClAt.same {K : PySem.W.Frag} {H H' : Hp} {c : Addr} {ra ro rt : List Int} (s : Same H H') (h : ClAt K H c ra ro rt) : ClAt K H' c ra ro rt := by
  obtain ⟨⟨dx, a, b, d, h1, h2, h3, h4⟩, ok⟩ := h
  exact ⟨⟨dx, a, b, d, s _ _ h1, s.sqt h2, s.sqt h3, s.sqt h4⟩, ok⟩
/-! ### what is written and what is not -/
def isMu : HO → Bool
  | .ins .. => true
  | .lst _ => true
  | .dK _ => true
  | _ => false
/-- all that stands at other places than those of M stands -/
def FrX (M : List Addr) (H H' : Hp) : Prop := ∀ b o, b ∉ M → H b = some o → H' b = some o
def MuX (M : List Addr) (H : Hp) : Prop := ∀ b ∈ M, ∃ o, H b = some o ∧ isMu o = true
theorem FrX.sqt {K : PySem.W.Frag} {M : List Addr} {H H' : Hp} {a : Addr} {xs : List V} (f : FrX M H H') (m : MuX M H) (h : SqT K H a xs) : SqT K H' a xs := by
  rcases h with (h | ⟨o, h⟩) | h
  · refine .inl (.inl (f _ _ (fun hm => ?_) h))
    obtain ⟨o, e, i⟩ := m a hm
    rw [h] at e; cases e; cases i
  · refine .inl (.inr ⟨o, f _ _ (fun hm => ?_) h⟩)
    obtain ⟨o, e, i⟩ := m a hm
    rw [h] at e; cases e; cases i
  · exact .inr h
theorem _root_.L2.Same.fr {H H' : Hp} {M : List Addr} (s : Same H H') : FrX M H H' := fun b o _ e => s b o e
theorem FrX.trans {M : List Addr} {H H' H2 : Hp} (f : FrX M H H') (g : FrX M H' H2) : FrX M H H2 := fun b o n e => g b o n (f b o n e)
theorem FrX.upd {M : List Addr} {H H' : Hp} {a : Addr} {o : HO} (f : FrX M H H') (h : a ∈ M) : FrX M H (upd H' a o) := fun b u n e => by rw [upd_ne (fun z => n (by rw [z]; exact h))]; exact f b u n e
theorem FrX.mono {M M' : List Addr} {H H' : Hp} (f : FrX M H H') (h : ∀ x ∈ M, x ∈ M') : FrX M' H H' := fun b o n e => f b o (fun z => n (h b z)) e
theorem MuX.one {H : Hp} {a : Addr} {o : HO} (h : H a = some o) (i : isMu o = true) : MuX [a] H := fun b hb => by
  rw [List.mem_singleton.mp hb]
  exact ⟨o, h, i⟩
theorem _root_.L2.SqT.updI {K : PySem.W.Frag} {H : Hp} {a b C dx : Addr} {fs : List (Str × V)} {xs : List V} {o : HO} (h : SqT K H b xs) (ha : H a = some (.ins C dx fs)) : SqT K (L2.upd H a o) b xs :=
  FrX.sqt (M := [a]) (FrX.upd (Same.refl H).fr (by simp)) (MuX.one ha rfl) h
def spCl (K : PySem.W.Frag) : Sp := fun vs H Q _ => ∃ (a dx x y z : Addr) (ra ro rt : List Int), vs = [.ref a, .ref x, .ref y, .ref z] ∧ H a = some (.ins (He.ga K "Cluster") dx []) ∧ TI K H x ra ∧ TI K H y ro ∧ TI K H z rt ∧ OkC ra ro rt ∧
  ∀ H', FrX [a] H H' → H' a = some (ClO K dx x y z ra.length) → Q .non H'
section
variable {w : World} {K : PySem.W.Frag} {mg : Str → Option Value} {base : Heap}
theorem sc_Cluster_init : FnScope ["self", "racks", "rooms", "rates", "store", "rack", "room", "rate"] ["self", "racks", "rooms", "rates"] (defScope s_Cluster_init) := ⟨rfl, rfl, rfl, by decide +kernel, rfl, by decide +kernel, by decide +kernel⟩
theorem map_get {α β : Type} {f : α → β} {l : List α} {i : Nat} {y : β} (h : (l.map f)[i]? = some y) : ∃ x, l[i]? = some x ∧ y = f x := by
  rw [List.getElem?_map] at h
  cases e : l[i]? with
  | none => rw [e] at h; cases h
  | some x => rw [e] at h; exact ⟨x, rfl, (Option.some.inj h).symm⟩
theorem ok_Cluster_init (T : Top w K mg) : HasI w K mg base 3 "Cluster" ["self", "racks", "rooms", "rates"] (spCl K) := by
  refine ⟨(has_ex (k := 2) T 35 (d := dD ("Cluster", some "__init__") "__init__" "Cluster.__init__" s_Cluster_init) rfl sc_Cluster_init (fun _ => rfl) (fun _ _ _ _ _ _ us hl => match us, hl with | [_, _, _, _], _ => rfl) (fun vs H Q E h => ?_) (fun cdv A outer s H vs Q E hr h => ?_)).1, T.mkC, T.glo "Cluster" (by decide +kernel)⟩
  · obtain ⟨a, dx, x, y, z, ra, ro, rt, rfl, _⟩ := h
    rfl
  · obtain ⟨a, dx, x, y, z, ra, ro, rt, rfl, ha, hx, hy, hz, ok, q⟩ := h
    refine ⟨_, (pss_cons (ps_if (PW.pt (pw_or (pt_not (pt_val (pe_isiT' T (pv 1) (pe_tup (pa_cons (pe_tyN T "list") (pa_cons (pe_tyN T "tuple") pa_nil)))))) (pw_or1 (pt_not (pt_chain op_le op_le pe_int (pe_len T (pv 1)) (pe_gi T 8)))))) pss_never pss_nil)
      (pss_cons (ps_for (passes_of rfl) rfl (pi_enumT rfl (T.free _ (by decide +kernel)) (pa_cons (pv 1) pa_nil)) (pg_tup rfl (pgs_cons (pg_name (i := 4) sc_Cluster_init.nd rfl (Or.inl rfl)) (pgs_cons (pg_name (i := 5) sc_Cluster_init.nd rfl (Or.inl rfl)) pgs_nil))) (pss_one (ps_if (pt_not (pt_val (pe_fn (ok_is_from_to T) rfl hr (by omega) (pa_cons (pv 5) (pa_cons pe_int (pa_cons (pe_gi T 99) pa_nil)))))) pss_never pss_nil)))
      (pss_cons (ps_if (PW.pt (pw_or (pt_not (pt_val (pe_isiT' T (pv 2) (pe_tup (pa_cons (pe_tyN T "list") (pa_cons (pe_tyN T "tuple") pa_nil)))))) (pw_or1 (pt_cmpR op_ne (pe_len T (pv 2)) (pe_len T (pv 1)) (nomark _))))) pss_never pss_nil)
      (pss_cons (ps_for (passes_of rfl) rfl (pi_enumT rfl (T.free _ (by decide +kernel)) (pa_cons (pv 2) pa_nil)) (pg_tup rfl (pgs_cons (pg_name (i := 4) sc_Cluster_init.nd rfl (Or.inl rfl)) (pgs_cons (pg_name (i := 6) sc_Cluster_init.nd rfl (Or.inl rfl)) pgs_nil))) (pss_one (ps_if (pt_not (pt_val (pe_fn (ok_is_from_to T) rfl hr (by omega) (pa_cons (pv 6) (pa_cons pe_int (pa_cons (pe_gi T 99) pa_nil)))))) pss_never pss_nil)))
      (pss_cons (ps_if (PW.pt (pw_or (pt_not (pt_val (pe_isiT' T (pv 3) (pe_tup (pa_cons (pe_tyN T "list") (pa_cons (pe_tyN T "tuple") pa_nil)))))) (pw_or1 (pt_cmpR op_ne (pe_len T (pv 3)) (pe_len T (pv 1)) (nomark _))))) pss_never pss_nil)
      (pss_cons (ps_for (passes_of rfl) rfl (pi_enumT rfl (T.free _ (by decide +kernel)) (pa_cons (pv 3) pa_nil)) (pg_tup rfl (pgs_cons (pg_name (i := 4) sc_Cluster_init.nd rfl (Or.inl rfl)) (pgs_cons (pg_name (i := 7) sc_Cluster_init.nd rfl (Or.inl rfl)) pgs_nil))) (pss_one (ps_if (pt_not (pt_val (pe_fn (ok_is_from_to T) rfl hr (by omega) (pa_cons (pv 7) (pa_cons pe_int (pa_cons (pe_gi T 8) pa_nil)))))) pss_never pss_nil)))
      (pss_cons (ps_fld (pv 0) (pe_tuple T (pv 1)) rfl)
      (pss_cons (ps_fld (pv 0) (pe_tuple T (pv 2)) rfl)
      (pss_cons (ps_fld (pv 0) (pe_tuple T (pv 3)) rfl)
      (pss_one (ps_fld (pv 0) (pe_len T (pv 1)) rfl))))))))))), ?_⟩
    -- the racks
    refine ⟨_, rfl, by show 2 ≤ sizeLine; decide, fun p hp => ?_⟩
    have s1 : Same H (upd H p (.tup [.ty "list", .ty "tuple"])) := Same.upd_new hp
    refine ⟨_, _, _, _, _, _, rfl, upd_same, .cons (.ty _) (.cons (.ty _) .nil), ty_tup (s1.sqt hx), kit_tlt K, _, rfl, ?_⟩
    refine iteF ⟨_, rfl, _, _, rfl, .inr (s1.sqt hx), _, _, rfl, rfl, _, rfl, ?_⟩
    rw [if_pos (decide_eq_true (by have := ok.l1; rw [List.length_map]; omega))]
    refine ⟨_, _, rfl, rfl, _, rfl, ?_⟩
    rw [show decide (((ra.map V.int).length : Int) ≤ 8) = true from decide_eq_true (by have := ok.l8; rw [List.length_map]; omega)]
    refine iteF ?_
    refine ⟨_, rfl, _, _, rfl, s1.sqt hx, for_it walk_enumT (fun i σ H2 => ∃ u1 u2 u3 u4, σ = [some (.ref a), some (.ref x), some (.ref y), some (.ref z), u1, u2, u3, u4] ∧ Same H H2) ⟨_, _, _, _, rfl, s1⟩ (fun i σ H2 _ ⟨_, _, _, _, _, s2⟩ => s2.sqt hx) ?_ ?_⟩
    · rintro i v σ H1 H2 hi ⟨u1, u2, u3, u4, rfl, s2⟩ ⟨P, v1, v2, rfl, hP, rfl, e1, e2⟩
      cases e1
      obtain ⟨n, en, rfl⟩ := map_get e2
      refine ⟨_, _, rfl, .of upd_same, rfl, _, _, rfl, _, _, rfl, rfl, ?_⟩
      have hn := ok.bra n (List.mem_of_getElem? en)
      refine ⟨_, rfl, .inl ⟨n, _, _, rfl, _, rfl, ?_⟩⟩
      rw [decide_eq_true hn]
      exact iteF ⟨_, _, _, _, rfl, s2.trans (Same.upd_new hP)⟩
    rintro σ H2 ⟨u1, u2, u3, u4, rfl, s2⟩
    -- the rooms
    refine ⟨_, rfl, by show 2 ≤ sizeLine; decide, fun p2 hp2 => ?_⟩
    have t2 : Same H (upd H2 p2 (.tup [.ty "list", .ty "tuple"])) := s2.trans (Same.upd_new hp2)
    refine ⟨_, _, _, _, _, _, rfl, upd_same, .cons (.ty _) (.cons (.ty _) .nil), ty_tup (t2.sqt hy), kit_tlt K, _, rfl, ?_⟩
    refine iteF ⟨_, rfl, _, _, rfl, .inr (t2.sqt hy), _, rfl, _, _, rfl, .inr (t2.sqt hx), rfl, _, rfl, ?_⟩
    refine iteNS (by simp [dec_int, ok.lo]) ?_
    refine ⟨_, rfl, _, _, rfl, t2.sqt hy, for_it walk_enumT (fun i σ H2 => ∃ u1 u2 u3 u4, σ = [some (.ref a), some (.ref x), some (.ref y), some (.ref z), u1, u2, u3, u4] ∧ Same H H2) ⟨_, _, _, _, rfl, t2⟩ (fun i σ H2 _ ⟨_, _, _, _, _, s2⟩ => s2.sqt hy) ?_ ?_⟩
    · rintro i v σ H1 H2 hi ⟨u1, u2, u3, u4, rfl, s2⟩ ⟨P, v1, v2, rfl, hP, rfl, e1, e2⟩
      cases e1
      obtain ⟨n, en, rfl⟩ := map_get e2
      refine ⟨_, _, rfl, .of upd_same, rfl, _, _, rfl, _, _, rfl, rfl, ?_⟩
      have hn := ok.bro n (List.mem_of_getElem? en)
      refine ⟨_, rfl, .inl ⟨n, _, _, rfl, _, rfl, ?_⟩⟩
      rw [decide_eq_true hn]
      exact iteF ⟨_, _, _, _, rfl, s2.trans (Same.upd_new hP)⟩
    clear u1 u2 u3 u4
    rintro σ H3 ⟨u1, u2, u3, u4, rfl, s3⟩
    -- the rates
    refine ⟨_, rfl, by show 2 ≤ sizeLine; decide, fun p3 hp3 => ?_⟩
    have t3 : Same H (upd H3 p3 (.tup [.ty "list", .ty "tuple"])) := s3.trans (Same.upd_new hp3)
    refine ⟨_, _, _, _, _, _, rfl, upd_same, .cons (.ty _) (.cons (.ty _) .nil), ty_tup (t3.sqt hz), kit_tlt K, _, rfl, ?_⟩
    refine iteF ⟨_, rfl, _, _, rfl, .inr (t3.sqt hz), _, rfl, _, _, rfl, .inr (t3.sqt hx), rfl, _, rfl, ?_⟩
    refine iteNS (by simp [dec_int, ok.lt]) ?_
    refine ⟨_, rfl, _, _, rfl, t3.sqt hz, for_it walk_enumT (fun i σ H2 => ∃ u1 u2 u3 u4, σ = [some (.ref a), some (.ref x), some (.ref y), some (.ref z), u1, u2, u3, u4] ∧ Same H H2) ⟨_, _, _, _, rfl, t3⟩ (fun i σ H2 _ ⟨_, _, _, _, _, s2⟩ => s2.sqt hz) ?_ ?_⟩
    · rintro i v σ H1 H2 hi ⟨u1, u2, u3, u4, rfl, s2⟩ ⟨P, v1, v2, rfl, hP, rfl, e1, e2⟩
      cases e1
      obtain ⟨n, en, rfl⟩ := map_get e2
      refine ⟨_, _, rfl, .of upd_same, rfl, _, _, rfl, _, _, rfl, rfl, ?_⟩
      have hn := ok.brt n (List.mem_of_getElem? en)
      refine ⟨_, rfl, .inl ⟨n, _, _, rfl, _, rfl, ?_⟩⟩
      rw [decide_eq_true hn]
      exact iteF ⟨_, _, _, _, rfl, s2.trans (Same.upd_new hP)⟩
    clear u1 u2 u3 u4
    rintro σ H4 ⟨u1, u2, u3, u4, rfl, s4⟩
    -- the fields
    have ea : H4 a = some (.ins (He.ga K "Cluster") dx []) := s4 _ _ ha
    refine ⟨_, rfl, _, _, rfl, .inr ⟨s4.sqt hx, ?_⟩⟩
    refine ⟨_, rfl, a, _, _, _, rfl, ea, T.clC, T.noat ("Cluster", "racks") (by decide +kernel), (show (0 : Nat) < 1000 by decide), ?_⟩
    have y1 := (s4.sqt hy).updI (o := .ins (He.ga K "Cluster") dx [("racks", .ref x)]) ea
    have x1 := (s4.sqt hx).updI (o := .ins (He.ga K "Cluster") dx [("racks", .ref x)]) ea
    have z1 := (s4.sqt hz).updI (o := .ins (He.ga K "Cluster") dx [("racks", .ref x)]) ea
    refine ⟨_, rfl, _, _, rfl, .inr ⟨y1, ?_⟩⟩
    refine ⟨_, rfl, a, _, _, _, rfl, upd_same, T.clC, T.noat ("Cluster", "rooms") (by decide +kernel), (show (1 : Nat) < 1000 by decide), ?_⟩
    have x2 := x1.updI (o := .ins (He.ga K "Cluster") dx [("racks", .ref x), ("rooms", .ref y)]) upd_same
    have z2 := z1.updI (o := .ins (He.ga K "Cluster") dx [("racks", .ref x), ("rooms", .ref y)]) upd_same
    refine ⟨_, rfl, _, _, rfl, .inr ⟨z2, ?_⟩⟩
    refine ⟨_, rfl, a, _, _, _, rfl, upd_same, T.clC, T.noat ("Cluster", "rates") (by decide +kernel), (show (2 : Nat) < 1000 by decide), ?_⟩
    have x3 := x2.updI (o := .ins (He.ga K "Cluster") dx [("racks", .ref x), ("rooms", .ref y), ("rates", .ref z)]) upd_same
    refine ⟨_, rfl, _, _, rfl, .inr x3, ?_⟩
    refine ⟨_, rfl, a, _, _, _, rfl, upd_same, T.clC, T.noat ("Cluster", "store_count") (by decide +kernel), (show (3 : Nat) < 1000 by decide), ?_⟩
    refine q _ ((((s4.fr.upd (by simp)).upd (by simp)).upd (by simp)).upd (by simp)) ?_
    · rw [upd_same, List.length_map]
      rfl
end
end K5
set_option Elab.async false
set_option linter.all false
set_option maxRecDepth 100000
set_option maxHeartbeats 4000000
namespace K5
open PySem PySem.Spec PyProof.Rows L2
/-! ### the cluster's deeds -/
inductive Er where
  | num (i : Int)
  | lot (l : List Int)
  | many (s : Str)
def ErW (K : PySem.W.Frag) (H : Hp) (E : XK) : Er → Prop
  | .num i => ErrW K H E "InvalidNumber" [("value", .int i)]
  | .lot l => ∀ d H' p, Same H H' → TI K H' p l → H' d = some (.xd [("value", .ref p)]) → E (.ref (He.ga K "InvalidLot")) (some d) H'
  | .many s => ErrW K H E "TooMany" [("what", .str s)]
theorem ErW.same {K : PySem.W.Frag} {H H' : Hp} {E : XK} {e : Er} (h : ErW K H E e) (s : Same H H') : ErW K H' E e := by
  cases e with
  | num i => exact ErrW.same h s
  | many z => exact ErrW.same h s
  | lot l => exact fun d H2 p s2 t x => h d H2 p (s.trans s2) t x
structure Cl where
  ra : List Int
  ro : List Int
  rt : List Int
deriving DecidableEq
def storeR (c : Cl) (a b d : Int) : Except Er Cl :=
  if c.ra.length = 8 then .error (.many "stores") else if 0 ≤ a ∧ a ≤ 99 then if 0 ≤ b ∧ b ≤ 99 then if 1 ≤ d ∧ d ≤ 8 then .ok ⟨c.ra ++ [a], c.ro ++ [b], c.rt ++ [d]⟩ else .error (.num d) else .error (.num b) else .error (.num a)
def slotR (n : Nat) (lo hi : Int) (set : Nat → Cl) (s v : Int) : Except Er Cl :=
  if 0 ≤ s ∧ s ≤ (n : Int) - 1 then if lo ≤ v ∧ v ≤ hi then .ok (set s.toNat) else .error (.num v) else .error (.num s)
def roomR (c : Cl) (s v : Int) : Except Er Cl := slotR c.ra.length 0 99 (fun i => ⟨c.ra, putL c.ro i v, c.rt⟩) s v
def rackR (c : Cl) (s v : Int) : Except Er Cl := slotR c.ra.length 0 99 (fun i => ⟨putL c.ra i v, c.ro, c.rt⟩) s v
def rateR (c : Cl) (s v : Int) : Except Er Cl := slotR c.ra.length 1 8 (fun i => ⟨c.ra, c.ro, putL c.rt i v⟩) s v
abbrev ClA (K : PySem.W.Frag) (H : Hp) (a : Addr) (c : Cl) : Prop := ClAt K H a c.ra c.ro c.rt
def ClEnd (K : PySem.W.Frag) (H : Hp) (Q : VK) (E : XK) : Except Er Cl → Prop
  | .ok c => ∀ p H', Same H H' → ClA K H' p c → Q (.ref p) H'
  | .error e => ErW K H E e
def spStore (K : PySem.W.Frag) : Sp := fun vs H Q E => ∃ (c : Addr) (a b d : Int) (k : Cl), vs = [.ref c, .int a, .int b, .int d] ∧ ClA K H c k ∧ ClEnd K H Q E (storeR k a b d)
def spSlot (K : PySem.W.Frag) (R : Cl → Int → Int → Except Er Cl) : Sp := fun vs H Q E => ∃ (c : Addr) (s v : Int) (k : Cl), vs = [.ref c, .int s, .int v] ∧ ClA K H c k ∧ ClEnd K H Q E (R k s v)
theorem Top.nRa {w : World} {K : PySem.W.Frag} {mg : Str → Option Value} (T : Top w K mg) : NoAttr K (He.ga K "Cluster") "racks" := T.noat ("Cluster", "racks") (by decide +kernel)
theorem Top.nRo {w : World} {K : PySem.W.Frag} {mg : Str → Option Value} (T : Top w K mg) : NoAttr K (He.ga K "Cluster") "rooms" := T.noat ("Cluster", "rooms") (by decide +kernel)
theorem Top.nRt {w : World} {K : PySem.W.Frag} {mg : Str → Option Value} (T : Top w K mg) : NoAttr K (He.ga K "Cluster") "rates" := T.noat ("Cluster", "rates") (by decide +kernel)
theorem Top.nCt {w : World} {K : PySem.W.Frag} {mg : Str → Option Value} (T : Top w K mg) : NoAttr K (He.ga K "Cluster") "store_count" := T.noat ("Cluster", "store_count") (by decide +kernel)
theorem Top.dDo {w : World} {K : PySem.W.Frag} {mg : Str → Option Value} (T : Top w K mg) : NoAttr K (He.ga K "Desk") "done" := T.noat ("Desk", "done") (by decide +kernel)
theorem Top.dUn {w : World} {K : PySem.W.Frag} {mg : Str → Option Value} (T : Top w K mg) : NoAttr K (He.ga K "Desk") "undone" := T.noat ("Desk", "undone") (by decide +kernel)
theorem Top.dCl {w : World} {K : PySem.W.Frag} {mg : Str → Option Value} (T : Top w K mg) : NoAttr K (He.ga K "Desk") "cluster" := T.noat ("Desk", "cluster") (by decide +kernel)
theorem Top.dWi {w : World} {K : PySem.W.Frag} {mg : Str → Option Value} (T : Top w K mg) : NoAttr K (He.ga K "Desk") "wishes" := T.noat ("Desk", "wishes") (by decide +kernel)
theorem Top.dPl {w : World} {K : PySem.W.Frag} {mg : Str → Option Value} (T : Top w K mg) : NoAttr K (He.ga K "Desk") "placing" := T.noat ("Desk", "placing") (by decide +kernel)
theorem Top.dLi {w : World} {K : PySem.W.Frag} {mg : Str → Option Value} (T : Top w K mg) : NoAttr K (He.ga K "Desk") "lines" := T.noat ("Desk", "lines") (by decide +kernel)
theorem iteB {b : Bool} {A B : Prop} (h : b = true) (x : A) : if b = true then A else B := by rw [if_pos h]; exact x
theorem iteC {b : Bool} {A B : Prop} (h : b = false) (x : B) : if b = true then A else B := by rw [if_neg (by rw [h]; decide)]; exact x
theorem mk_same {H1 H2 : Hp} {x dx : Addr} {o : HO} (hx : H1 x = none) (hd : H1 dx = none) (f : FrX [x] (upd (upd H1 dx (.own x)) x o) H2) : Same H1 H2 := fun b u e =>
  f b u (fun z => ne_of_none e hx (List.mem_singleton.mp z)) (by rw [upd_ne (ne_of_none e hx), upd_ne (ne_of_none e hd)]; exact e)
theorem mk_pre {H1 : Hp} {x dx : Addr} {o : HO} (hx : H1 x = none) (hd : H1 dx = none) : Same H1 (upd (upd H1 dx (.own x)) x o) := fun b u e => by
  rw [upd_ne (ne_of_none e hx), upd_ne (ne_of_none e hd)]; exact e
theorem sl_small {n : Nat} (h : n < 10000) : n ≤ sizeLine := by
  have hl : (10000 : Nat) ≤ sizeLine := by rw [sizeLine_eq]; decide
  omega
section
variable {w : World} {K : PySem.W.Frag} {mg : Str → Option Value} {base : Heap}
/-- a new cluster of good rows -/
theorem cl_make {H1 : Hp} {Q : VK} {E : XK} {a b d : Addr} {k : Cl} (ha : TI K H1 a k.ra) (hb : TI K H1 b k.ro) (hd : TI K H1 d k.rt) (ok : OkC k.ra k.ro k.rt) (q : ∀ p H', Same H1 H' → ClA K H' p k → Q (.ref p) H') :
    ∀ x dx, H1 x = none → H1 dx = none → dx ≠ x → spCl K (.ref x :: ([.ref a, .ref b, .ref d] ++ [])) (upd (upd H1 dx (.own x)) x (.ins (He.ga K "Cluster") dx [])) (fun v H2 => v = .non ∧ Q (.ref x) H2) E := fun x dx hx hdx _ =>
  ⟨x, dx, a, b, d, k.ra, k.ro, k.rt, rfl, upd_same, (mk_pre hx hdx).sqt ha, (mk_pre hx hdx).sqt hb, (mk_pre hx hdx).sqt hd, ok, fun H2 f e => ⟨rfl, q x H2 (mk_same hx hdx f) ⟨⟨dx, a, b, d, e, (mk_same hx hdx f).sqt ha, (mk_same hx hdx f).sqt hb, (mk_same hx hdx f).sqt hd⟩, ok⟩⟩⟩
/-- row + (v,) -/
theorem app_of {H : Hp} {a p : Addr} {l : List Int} {v : Int} {Q : VK} (ha : TI K H a l) (hp : H p = none) (hz : l.length < 1000) (q : ∀ b H', Same H H' → TI K H' b (l ++ [v]) → Q (.ref b) H') : rCatA K (.ref a) (.ref p) (upd H p (.tup [.int v])) Q :=
  cat_of ((Same.upd_new hp).sqt ha) (.of upd_same) (sl_small (by simp; omega)) fun b H' s h => q b H' ((Same.upd_new hp).trans s) (by rw [TI, List.map_append]; exact h)
theorem sc_with_store : FnScope ["self", "rack", "room", "rate"] ["self", "rack", "room", "rate"] (defScope s_Cluster_with_store) := ⟨rfl, rfl, rfl, by decide +kernel, rfl, by decide +kernel, by decide +kernel⟩
theorem ok_Cluster_with_store (T : Top w K mg) : HasM w K mg base 5 "Cluster" "with_store" ["self", "rack", "room", "rate"] (spStore K) := by
  refine .of T (has_ex (k := 4) T 36 (d := dD ("Cluster", some "with_store") "with_store" "Cluster.with_store" s_Cluster_with_store) rfl sc_with_store (fun _ => rfl) (fun _ _ _ _ _ _ us hl => match us, hl with | [_, _, _, _], _ => rfl) (fun vs H Q E h => ?_) (fun cdv A outer s H vs Q E hr h => ?_))
  · obtain ⟨c, a, b, d, k, rfl, _⟩ := h
    rfl
  · obtain ⟨c, a, b, d, k, rfl, hc, q⟩ := h
    obtain ⟨⟨dx, xa, xb, xd, hc, ha, hb, hd⟩, ok⟩ := id hc
    refine ⟨_, (pss_cons (ps_if (pt_cmpR op_eq (pe_fld (pv 0) rfl) (pe_gi T 8) (nomark _)) (pss_one (ps_err1 (k := 0) rfl (err_TooMany T) rfl (hr.mono (by omega)) (takes_of rfl rfl rfl rfl) pe_str)) pss_nil)
      (pss_cons (ps_expr (pe_fnX (ok__check T) rfl hr (by omega) (takes_of rfl rfl rfl rfl) (pa_cons (pv 1) (pa_cons pe_int (pa_cons (pe_gi T 99) pa_nil)))))
      (pss_cons (ps_expr (pe_fnX (ok__check T) rfl hr (by omega) (takes_of rfl rfl rfl rfl) (pa_cons (pv 2) (pa_cons pe_int (pa_cons (pe_gi T 99) pa_nil)))))
      (pss_cons (ps_expr (pe_fnX (ok__check T) rfl hr (by omega) (takes_of rfl rfl rfl rfl) (pa_cons (pv 3) (pa_cons pe_int (pa_cons (pe_gi T 8) pa_nil)))))
      (pss_one (ps_ret (pe_mkX (ok_Cluster_init T) rfl hr (by omega) (takes_of rfl rfl rfl rfl) (pa_cons (pe_op op_catA (pe_fld (pv 0) rfl) (pe_tup (pa_cons (pv 1) pa_nil))) (pa_cons (pe_op op_catA (pe_fld (pv 0) rfl) (pe_tup (pa_cons (pv 2) pa_nil))) (pa_cons (pe_op op_catA (pe_fld (pv 0) rfl) (pe_tup (pa_cons (pv 3) pa_nil))) pa_nil)))))))))), ?_⟩
    refine ⟨_, rfl, _, _, _, _, _, rfl, hc, T.clC, T.nCt, rfl, rfl, _, rfl, ?_⟩
    unfold storeR at q
    by_cases c8 : k.ra.length = 8
    · rw [if_pos c8] at q
      refine iteB (by rw [dec_int]; simp [c8]) ?_
      exact mk1_end fun d hd => ErrW.new q hd
    rw [if_neg c8] at q
    refine iteC (by rw [dec_int]; simp; omega) ?_
    refine ⟨_, rfl, a, _, _, rfl, fun c1 => ?_, fun c1 => ?_⟩
    rotate_left
    · rw [if_neg c1] at q
      exact q
    rw [if_pos c1] at q
    refine ⟨_, rfl, b, _, _, rfl, fun c2 => ?_, fun c2 => ?_⟩
    rotate_left
    · rw [if_neg c2] at q
      exact q
    rw [if_pos c2] at q
    refine ⟨_, rfl, d, _, _, rfl, fun c3 => ?_, fun c3 => ?_⟩
    rotate_left
    · rw [if_neg c3] at q
      exact q
    rw [if_pos c3] at q
    have l8 := ok.l8
    have e1 := ok.lo
    have e2 := ok.lt
    refine ⟨_, rfl, _, _, _, _, _, rfl, hc, T.clC, T.nRa, rfl, _, rfl, by show 1 ≤ sizeLine; decide, fun p hp => ?_⟩
    refine app_of ha hp (by omega) fun r1 H1 s1 h1 => ?_
    refine ⟨_, rfl, _, _, _, _, _, rfl, (s1 _ _ hc), T.clC, T.nRo, rfl, _, rfl, by show 1 ≤ sizeLine; decide, fun p hp => ?_⟩
    refine app_of (s1.sqt hb) hp (by omega) fun r2 H2 s2 h2 => ?_
    refine ⟨_, rfl, _, _, _, _, _, rfl, (s2 _ _ (s1 _ _ hc)), T.clC, T.nRt, rfl, _, rfl, by show 1 ≤ sizeLine; decide, fun p hp => ?_⟩
    refine app_of (s2.sqt (s1.sqt hd)) hp (by omega) fun r3 H3 s3 h3 => ?_
    refine cl_make (k := ⟨k.ra ++ [a], k.ro ++ [b], k.rt ++ [d]⟩) (s3.sqt (s2.sqt h1)) (s3.sqt h2) h3 ?_ fun p H' s h => q p H' (s1.trans (s2.trans (s3.trans s))) h
    have app : ∀ {lo hi : Int} {l : List Int} {v : Int}, OkN lo hi l → lo ≤ v ∧ v ≤ hi → OkN lo hi (l ++ [v]) := fun {lo hi l v} h1 h2 x hx => by
      rcases List.mem_append.mp hx with hx | hx
      · exact h1 x hx
      · rw [List.mem_singleton.mp hx]; exact h2
    exact ⟨by simp, by simp; omega, by simp [e1], by simp [e2], app ok.bra c1, app ok.bro c2, app ok.brt c3⟩
end
end K5
set_option Elab.async false
set_option linter.all false
set_option maxRecDepth 100000
set_option maxHeartbeats 4000000
namespace K5
open PySem PySem.Spec PyProof.Rows L2
/-! ### the cluster's other deeds -/
section
variable {w : World} {K : PySem.W.Frag} {mg : Str → Option Value} {base : Heap}
theorem nilOf {σ : L2.St} {H : Hp} {R : List V → Hp → Prop} (h : R [] H) : tNil σ H R := h
theorem OkN.put {lo hi : Int} {l : List Int} {i : Nat} {v : Int} (h : OkN lo hi l) (c : lo ≤ v ∧ v ≤ hi) : OkN lo hi (putL l i v) := fun x hx => by
  rcases putL_mem hx with hx | hx
  · rw [hx]; exact c
  · exact h x hx
theorem putT {H : Hp} {b : Addr} {l : List Int} {s v : Int} {Q : VK} {E : XK} (hb : TI K H b l) (h0 : 0 ≤ s) (h1 : s < l.length) (hz : l.length < 1000) (q : ∀ p H', Same H H' → TI K H' p (putL l s.toNat v) → Q (.ref p) H') : spPut K ([V.ref b, V.int s, V.int v] ++ []) H Q E :=
  ⟨b, s.toNat, .int v, l.map .int, by rw [Int.toNat_of_nonneg h0]; rfl, hb, by rw [List.length_map]; exact hz, by rw [List.length_map]; omega, fun p H' s h => q p H' s (by rw [TI, putL_map]; exact h)⟩
theorem sc_with_room : FnScope ["self", "store", "room"] ["self", "store", "room"] (defScope s_Cluster_with_room) := ⟨rfl, rfl, rfl, by decide +kernel, rfl, by decide +kernel, by decide +kernel⟩
theorem ok_Cluster_with_room (T : Top w K mg) : HasM w K mg base 5 "Cluster" "with_room" ["self", "store", "room"] (spSlot K roomR) := by
  refine .of T (has_ex (k := 4) T 37 (d := dD ("Cluster", some "with_room") "with_room" "Cluster.with_room" s_Cluster_with_room) rfl sc_with_room (fun _ => rfl) (fun _ _ _ _ _ _ us hl => match us, hl with | [_, _, _], _ => rfl) (fun vs H Q E h => ?_) (fun cdv A outer s H vs Q E hr h => ?_))
  · obtain ⟨c, s, v, k, rfl, _⟩ := h
    rfl
  · obtain ⟨c, s, v, k, rfl, hc, q⟩ := h
    obtain ⟨⟨dx, xa, xb, xd, hc, ha, hb, hd⟩, ok⟩ := id hc
    refine ⟨_, (pss_cons (ps_expr (pe_fnX (ok__check T) rfl hr (by omega) (takes_of rfl rfl rfl rfl) (pa_cons (pv 1) (pa_cons pe_int (pa_cons (pe_op op_sub (pe_fld (pv 0) rfl) pe_int) pa_nil)))))
      (pss_cons (ps_expr (pe_fnX (ok__check T) rfl hr (by omega) (takes_of rfl rfl rfl rfl) (pa_cons (pv 2) (pa_cons pe_int (pa_cons (pe_gi T 99) pa_nil)))))
      (pss_one (ps_ret (pe_mkX (ok_Cluster_init T) rfl hr (by omega) (takes_of rfl rfl rfl rfl) (pa_cons (pe_fld (pv 0) rfl) (pa_cons (pe_fn (ok__put T) rfl hr (by omega) (pa_cons (pe_fld (pv 0) rfl) (pa_cons (pv 1) (pa_cons (pv 2) pa_nil)))) (pa_cons (pe_fld (pv 0) rfl) pa_nil)))))))), ?_⟩
    unfold roomR slotR at q
    have l8 := ok.l8
    have e1 := ok.lo
    have e2 := ok.lt
    refine ⟨_, rfl, _, rfl, _, _, _, _, _, rfl, hc, T.clC, T.nCt, rfl, _, _, rfl, rfl, s, _, _, rfl, fun c1 => ?_, fun c1 => ?_⟩
    rotate_left
    · rw [if_neg c1] at q
      exact q
    rw [if_pos c1] at q
    refine ⟨_, rfl, v, _, _, rfl, fun c2 => ?_, fun c2 => ?_⟩
    rotate_left
    · rw [if_neg c2] at q
      exact q
    rw [if_pos c2] at q
    refine ⟨_, rfl, _, _, _, _, _, rfl, hc, T.clC, T.nRa, rfl, _, rfl, _, _, _, _, _, rfl, hc, T.clC, T.nRo, rfl, _, rfl, _, rfl, ?_⟩
    refine nilOf ?_
    refine putT hb c1.1 (by omega) (by omega) fun p1 H1 s1 h1 => ?_
    refine ⟨_, rfl, _, _, _, _, _, rfl, (s1 _ _ hc), T.clC, T.nRt, rfl, ?_⟩
    refine cl_make (k := ⟨k.ra, putL k.ro s.toNat v, k.rt⟩) (s1.sqt ha) h1 (s1.sqt hd) ?_ fun p H' s h => q p H' (s1.trans s) h
    have pl : ∀ (l : List Int), s.toNat < l.length → (putL l s.toNat v).length = l.length := fun l h => putL_len h
    have e := pl k.ro (by omega)
    exact ⟨ok.l1, ok.l8, by simp only; omega, ok.lt, ok.bra, ok.bro.put c2, ok.brt⟩
theorem sc_with_rack : FnScope ["self", "store", "rack"] ["self", "store", "rack"] (defScope s_Cluster_with_rack) := ⟨rfl, rfl, rfl, by decide +kernel, rfl, by decide +kernel, by decide +kernel⟩
theorem ok_Cluster_with_rack (T : Top w K mg) : HasM w K mg base 5 "Cluster" "with_rack" ["self", "store", "rack"] (spSlot K rackR) := by
  refine .of T (has_ex (k := 4) T 38 (d := dD ("Cluster", some "with_rack") "with_rack" "Cluster.with_rack" s_Cluster_with_rack) rfl sc_with_rack (fun _ => rfl) (fun _ _ _ _ _ _ us hl => match us, hl with | [_, _, _], _ => rfl) (fun vs H Q E h => ?_) (fun cdv A outer s H vs Q E hr h => ?_))
  · obtain ⟨c, s, v, k, rfl, _⟩ := h
    rfl
  · obtain ⟨c, s, v, k, rfl, hc, q⟩ := h
    obtain ⟨⟨dx, xa, xb, xd, hc, ha, hb, hd⟩, ok⟩ := id hc
    refine ⟨_, (pss_cons (ps_expr (pe_fnX (ok__check T) rfl hr (by omega) (takes_of rfl rfl rfl rfl) (pa_cons (pv 1) (pa_cons pe_int (pa_cons (pe_op op_sub (pe_fld (pv 0) rfl) pe_int) pa_nil)))))
      (pss_cons (ps_expr (pe_fnX (ok__check T) rfl hr (by omega) (takes_of rfl rfl rfl rfl) (pa_cons (pv 2) (pa_cons pe_int (pa_cons (pe_gi T 99) pa_nil)))))
      (pss_one (ps_ret (pe_mkX (ok_Cluster_init T) rfl hr (by omega) (takes_of rfl rfl rfl rfl) (pa_cons (pe_fn (ok__put T) rfl hr (by omega) (pa_cons (pe_fld (pv 0) rfl) (pa_cons (pv 1) (pa_cons (pv 2) pa_nil)))) (pa_cons (pe_fld (pv 0) rfl) (pa_cons (pe_fld (pv 0) rfl) pa_nil)))))))), ?_⟩
    unfold rackR slotR at q
    have l8 := ok.l8
    have e1 := ok.lo
    have e2 := ok.lt
    refine ⟨_, rfl, _, rfl, _, _, _, _, _, rfl, hc, T.clC, T.nCt, rfl, _, _, rfl, rfl, s, _, _, rfl, fun c1 => ?_, fun c1 => ?_⟩
    rotate_left
    · rw [if_neg c1] at q
      exact q
    rw [if_pos c1] at q
    refine ⟨_, rfl, v, _, _, rfl, fun c2 => ?_, fun c2 => ?_⟩
    rotate_left
    · rw [if_neg c2] at q
      exact q
    rw [if_pos c2] at q
    refine ⟨_, rfl, _, _, _, _, _, rfl, hc, T.clC, T.nRa, rfl, _, rfl, _, rfl, ?_⟩
    refine nilOf ?_
    refine putT ha c1.1 (by omega) (by omega) fun p1 H1 s1 h1 => ?_
    refine ⟨_, rfl, _, _, _, _, _, rfl, (s1 _ _ hc), T.clC, T.nRo, rfl, _, rfl, _, _, _, _, _, rfl, (s1 _ _ hc), T.clC, T.nRt, rfl, ?_⟩
    refine cl_make (k := ⟨putL k.ra s.toNat v, k.ro, k.rt⟩) h1 (s1.sqt hb) (s1.sqt hd) ?_ fun p H' s h => q p H' (s1.trans s) h
    have pl : ∀ (l : List Int), s.toNat < l.length → (putL l s.toNat v).length = l.length := fun l h => putL_len h
    have e := pl k.ra (by omega)
    exact ⟨by simp only; omega, by simp only; omega, by simp only; omega, by simp only; omega, ok.bra.put c2, ok.bro, ok.brt⟩
theorem sc_with_rate : FnScope ["self", "store", "rate"] ["self", "store", "rate"] (defScope s_Cluster_with_rate) := ⟨rfl, rfl, rfl, by decide +kernel, rfl, by decide +kernel, by decide +kernel⟩
theorem ok_Cluster_with_rate (T : Top w K mg) : HasM w K mg base 5 "Cluster" "with_rate" ["self", "store", "rate"] (spSlot K rateR) := by
  refine .of T (has_ex (k := 4) T 39 (d := dD ("Cluster", some "with_rate") "with_rate" "Cluster.with_rate" s_Cluster_with_rate) rfl sc_with_rate (fun _ => rfl) (fun _ _ _ _ _ _ us hl => match us, hl with | [_, _, _], _ => rfl) (fun vs H Q E h => ?_) (fun cdv A outer s H vs Q E hr h => ?_))
  · obtain ⟨c, s, v, k, rfl, _⟩ := h
    rfl
  · obtain ⟨c, s, v, k, rfl, hc, q⟩ := h
    obtain ⟨⟨dx, xa, xb, xd, hc, ha, hb, hd⟩, ok⟩ := id hc
    refine ⟨_, (pss_cons (ps_expr (pe_fnX (ok__check T) rfl hr (by omega) (takes_of rfl rfl rfl rfl) (pa_cons (pv 1) (pa_cons pe_int (pa_cons (pe_op op_sub (pe_fld (pv 0) rfl) pe_int) pa_nil)))))
      (pss_cons (ps_expr (pe_fnX (ok__check T) rfl hr (by omega) (takes_of rfl rfl rfl rfl) (pa_cons (pv 2) (pa_cons pe_int (pa_cons (pe_gi T 8) pa_nil)))))
      (pss_one (ps_ret (pe_mkX (ok_Cluster_init T) rfl hr (by omega) (takes_of rfl rfl rfl rfl) (pa_cons (pe_fld (pv 0) rfl) (pa_cons (pe_fld (pv 0) rfl) (pa_cons (pe_fn (ok__put T) rfl hr (by omega) (pa_cons (pe_fld (pv 0) rfl) (pa_cons (pv 1) (pa_cons (pv 2) pa_nil)))) pa_nil)))))))), ?_⟩
    unfold rateR slotR at q
    have l8 := ok.l8
    have e1 := ok.lo
    have e2 := ok.lt
    refine ⟨_, rfl, _, rfl, _, _, _, _, _, rfl, hc, T.clC, T.nCt, rfl, _, _, rfl, rfl, s, _, _, rfl, fun c1 => ?_, fun c1 => ?_⟩
    rotate_left
    · rw [if_neg c1] at q
      exact q
    rw [if_pos c1] at q
    refine ⟨_, rfl, v, _, _, rfl, fun c2 => ?_, fun c2 => ?_⟩
    rotate_left
    · rw [if_neg c2] at q
      exact q
    rw [if_pos c2] at q
    refine ⟨_, rfl, _, _, _, _, _, rfl, hc, T.clC, T.nRa, rfl, _, rfl, _, _, _, _, _, rfl, hc, T.clC, T.nRo, rfl, _, rfl, _, _, _, _, _, rfl, hc, T.clC, T.nRt, rfl, _, rfl, _, rfl, ?_⟩
    refine nilOf ?_
    refine putT hd c1.1 (by omega) (by omega) fun p1 H1 s1 h1 => ?_
    refine cl_make (k := ⟨k.ra, k.ro, putL k.rt s.toNat v⟩) (s1.sqt ha) (s1.sqt hb) h1 ?_ fun p H' s h => q p H' (s1.trans s) h
    have pl : ∀ (l : List Int), s.toNat < l.length → (putL l s.toNat v).length = l.length := fun l h => putL_len h
    have e := pl k.rt (by omega)
    exact ⟨ok.l1, ok.l8, ok.lo, by simp only; omega, ok.bra, ok.bro, ok.brt.put c2⟩
end
end K5
set_option Elab.async false
set_option linter.all false
set_option maxRecDepth 100000
set_option maxHeartbeats 4000000
namespace K5
open PySem PySem.Spec PyProof.Rows L2
/-! ### comprehensions read off -/
section
variable {J : It} {n : Nat} {G : Hp → Prop} {Y : Nat → Hp → V → Hp → Prop}
theorem lc_gen (w : Walk J n G Y) {g : TG} {tt : TT} {te : TE} {vs : List Nat} {σ : L2.St} {H1 : Hp} {D : Addr} {Qd : Hp → Prop} (M : List Addr) (IV : Hp → Prop) (R : Nat → List V → Hp → Prop)
    (hD : H1 D = none) (mD : D ∉ M) (hn : n < 1000) (ivD : ∀ H o, IV H → IV (upd H D o)) (rD : ∀ i acc H l o, H D = some (.lst l) → R i acc H → R i acc (upd H D o)) (i0 : IV H1) (r0 : R 0 [] (upd H1 D (.lst [])))
    (hG : ∀ H, FrX M H1 H → IV H → G H)
    (hs : ∀ i x H H' acc (N1 : VK) (N0 : Hp → Prop), i < n → FrX M H1 H → IV H → H D = some (.lst acc) → R i acc H → Y i H x H' → (∀ y H4, FrX M H H4 → IV H4 → R (i + 1) (acc ++ [y]) H4 → N1 y H4) → (∀ H4, FrX M H H4 → IV H4 → R (i + 1) acc H4 → N0 H4) →
      g x (wipe σ vs) H' fun σ2 H2 => wipe σ2 vs = wipe σ vs ∧ tt σ2 H2 fun b H3 => if b = true then te σ2 H3 N1 else N0 H3)
    (hd : ∀ H acc, FrX M H1 H → IV H → H D = some (.lst acc) → R n acc H → Qd H) :
    ∃ W : Nat → Nat → Hp → Prop, (∃ m, W 0 m (upd H1 D (.lst []))) ∧ ∀ i m H, W i m H →
      (J.stop i H ∧ Qd H) ∨ (J.go i H ∧ ∃ Nx : Hp → Prop, (∀ H', Nx H' → ∃ m', m' < m ∧ W (i + 1) m' H') ∧ ∀ x H', J.yld i H x H' → g x (wipe σ vs) H' fun σ2 H2 => wipe σ2 vs = wipe σ vs ∧ tt σ2 H2 fun b H3 =>
        if b = true then te σ2 H3 fun y H4 => ∃ acc, H4 D = some (.lst acc) ∧ acc.length < sizeLine ∧ Nx (upd H4 D (.lst (acc ++ [y]))) else Nx H3) := by
  have fu : ∀ {H o}, FrX M H1 H → FrX M H1 (upd H D o) := fun {H o} f b u nb e => by
    rw [upd_ne (ne_of_none e hD)]
    exact f b u nb e
  refine lc_it w (fun i H => FrX M H1 H ∧ IV H ∧ ∃ acc, H D = some (.lst acc) ∧ acc.length ≤ i ∧ R i acc H) ⟨fu (Same.refl _).fr, ivD _ _ i0, [], upd_same, Nat.le_refl _, r0⟩ (fun i H _ ⟨f, v, _⟩ => hG H f v) ?_ (fun H ⟨f, v, acc, e, _, r⟩ => hd H acc f v e r)
  rintro i x H H' hi ⟨f, v, acc, e, hl, r⟩ y
  refine hs i x H H' acc _ _ hi f v e r y (fun y H4 h1 h2 h3 => ?_) (fun H4 h1 h2 h3 => ?_)
  · have e4 := h1 D _ mD e
    exact ⟨acc, e4, Nat.lt_of_lt_of_le (by omega : acc.length < 1000) (sl_small (by decide)), fu (f.trans h1), ivD _ _ h2, acc ++ [y], upd_same, by rw [List.length_append, List.length_singleton]; omega, rD _ _ _ _ _ e4 h3⟩
  · exact ⟨f.trans h1, h2, acc, h1 D _ mD e, by omega, h3⟩
/-- each item one value, known before -/
theorem lc_vals (w : Walk J n G Y) {g : TG} {tt : TT} {te : TE} {vs : List Nat} {σ : L2.St} {H1 : Hp} {D : Addr} {Qd : Hp → Prop} (ys : List V) (hl : ys.length = n) (hD : H1 D = none) (hn : n < 1000)
    (hG : ∀ H, Same H1 H → G H)
    (hs : ∀ i x y H H' (N1 : VK) (N0 : Hp → Prop), ys[i]? = some y → Same H1 H → Y i H x H' → (∀ H4, Same H H4 → N1 y H4) →
      g x (wipe σ vs) H' fun σ2 H2 => wipe σ2 vs = wipe σ vs ∧ tt σ2 H2 fun b H3 => if b = true then te σ2 H3 N1 else N0 H3)
    (hd : ∀ H, Same H1 H → H D = some (.lst ys) → Qd H) :
    ∃ W : Nat → Nat → Hp → Prop, (∃ m, W 0 m (upd H1 D (.lst []))) ∧ ∀ i m H, W i m H →
      (J.stop i H ∧ Qd H) ∨ (J.go i H ∧ ∃ Nx : Hp → Prop, (∀ H', Nx H' → ∃ m', m' < m ∧ W (i + 1) m' H') ∧ ∀ x H', J.yld i H x H' → g x (wipe σ vs) H' fun σ2 H2 => wipe σ2 vs = wipe σ vs ∧ tt σ2 H2 fun b H3 =>
        if b = true then te σ2 H3 fun y H4 => ∃ acc, H4 D = some (.lst acc) ∧ acc.length < sizeLine ∧ Nx (upd H4 D (.lst (acc ++ [y]))) else Nx H3) := by
  have fs : ∀ {H H'}, FrX [] H H' → Same H H' := fun {H H'} f b o e => f b o (by simp) e
  refine lc_gen w [] (fun _ => True) (fun i acc _ => acc = ys.take i) hD (by simp) hn (fun _ _ _ => trivial) (fun _ _ _ _ _ _ h => h) trivial (by simp) (fun H f _ => hG H (fs f)) ?_ (fun H acc f _ e r => hd H (fs f) (by rw [e, r, List.take_of_length_le (by omega)]))
  intro i x H H' acc N1 N0 hi f _ e r y k1 _
  have ei : ys[i]? = some ys[i] := by simp [hl, hi]
  refine hs i x ys[i] H H' N1 N0 ei (fs f) y (fun H4 s => k1 _ _ s.fr trivial ?_)
  rw [r, List.take_add_one, ei]
  rfl
end
/-! ### rules within a comprehension: the readings say X's own K -/
section
variable {X : Cx} {s : Shared} {H : Hp} {sc : Scope} {env : Env} {fp : List Addr} {e : Expr} {ta : TE} {f : Str} {pos p : Pos}
theorem pe_fldB (he : PE (X.blk s H sc env fp) e ta) (hb : attributeBase e f (X.blk s H sc env fp).env (eval e (X.blk s H sc env fp).env) = eval e (X.blk s H sc env fp).env) : PE (X.blk s H sc env fp) (.Attribute e f pos) (tFld X.K ta f) := pe_fld he hb
theorem ix_tupB : IxR (X.blk s H sc env fp) (rIxT X.K) := ix_tup
theorem ix_listB : IxR (X.blk s H sc env fp) (rIxL X.K) := ix_list
theorem op_in_seqB : OpR (X.blk s H sc env fp) (compareOp .In) (rIn X.K false) := op_in_seq
theorem op_notIn_seqB : OpR (X.blk s H sc env fp) (compareOp .NotIn) (rIn X.K true) := op_notIn_seq
theorem op_catAB : OpR (X.blk s H sc env fp) (binaryOp .Add) (rCatA X.K) := op_catA
theorem sl_tupAB : L2.SlR (X.blk s H sc env fp) (rSlA X.K) := sl_tupA
theorem pi_tupB {tg : Expr} (hl : PE (X.blk s H sc env fp) e ta) : PI (X.blk s H sc env fp) tg e (iTup X.K ta) := pi_tup hl
theorem pi_listB {tg : Expr} (hl : PE (X.blk s H sc env fp) e ta) : PI (X.blk s H sc env fp) tg e (iList X.K ta) := pi_list hl
theorem pe_lenB (T : Top X.w X.K X.mg) (ha : PE (X.blk s H sc env fp) e ta) (hg : Gl (X.blk s H sc env fp) "len" := by rfl) (h1 : starEach [e] (X.blk s H sc env fp).env = (false, eval e (X.blk s H sc env fp).env) :: starEach [] (X.blk s H sc env fp).env := by rfl) (hpl : (backTo pos (starEach [] (X.blk s H sc env fp).env)).any (·.1) = false := by rfl) :
    PE (X.blk s H sc env fp) (.Call (.Name "len" p) [e] [] pos) (tCB (fun xs H Q => ∃ p ys, xs = [.ref p] ∧ (SqL X.K H p ys ∨ SqT X.K H p ys) ∧ Q (.int ys.length) H) (tCons ta tNil)) := pe_len (X := X.blk s H sc env fp) T ha hg h1 hpl
end
theorem yesT {σ : L2.St} {H : Hp} {A B : Hp → Prop} (h : A H) : tYes σ H (fun b H3 => if b = true then A H3 else B H3) := by
  show if true = true then A H else B H
  rw [if_pos rfl]; exact h
/-! ### wishes and lots -/
/-- a value as an item of wishes: is it an int between lo and hi? -/
def inR (lo hi : Int) : V → Bool
  | .int n => decide (lo ≤ n ∧ n ≤ hi)
  | _ => false
def isNu : V → Bool
  | .int _ => true
  | .bl _ => true
  | _ => false
def spIsW (K : PySem.W.Frag) : Sp := fun vs H Q _ => (∃ (a : Addr) (xs : List V), vs = [.ref a] ∧ SqT K H a xs ∧ xs.length < 1000 ∧ (∀ x ∈ xs, isNu x = true) ∧ ∀ H', Same H H' → Q (.bl (xs.all (inR 1 3))) H') ∨
  ∃ (x : V) (t : Value), vs = [x] ∧ TyX K H x t ∧ PySem.W.kitOne K t (.type "tuple") = some false ∧ Q (.bl false) H
section
variable {w : World} {K : PySem.W.Frag} {mg : Str → Option Value} {base : Heap}
theorem sc_is_wishes : FnScope ["value", "wish"] ["value"] (defScope s_is_wishes) := ⟨rfl, rfl, rfl, by decide +kernel, rfl, by decide +kernel, by decide +kernel⟩
theorem ok_is_wishes (T : Top w K mg) : HasF w K mg base 2 "is_wishes" ["value"] (spIsW K) := by
  refine .of T (has_ex (k := 1) T 3 (d := dD ("is_wishes", none) "is_wishes" "is_wishes" s_is_wishes) rfl sc_is_wishes (fun _ => rfl) (fun _ _ _ _ _ _ us hl => match us, hl with | [_], _ => rfl) (fun vs H Q E h => ?_) (fun cdv A outer s H vs Q E hr h => ?_))
  · rcases h with ⟨a, xs, rfl, _⟩ | ⟨x, t, rfl, _⟩ <;> rfl
  · refine ⟨_, (pss_one (ps_ret (pe_and (pe_isi T (pv 0) (pe_tyN T "tuple")) (pe_one (pe_all T rfl (pe_lc (own := [("wish", 1)]) (g := gName 1) (tt := tYes) rfl sc_is_wishes.nd (pi_tup (pv 0)) (blkOk_by (N := ["value", "wish"]) (sc := defScope s_is_wishes) (by decide +kernel)) (fun _ _ _ _ _ => (pg_name (i := 1) sc_is_wishes.nd rfl (Or.inl rfl))) (fun _ _ _ _ _ => pts_nil) (fun _ _ _ _ _ => (pe_fn (ok_is_from_to T) rfl hr (by omega) (pa_cons (pv 1) (pa_cons pe_int (pa_cons (pe_gi T 3) pa_nil))))))))))), ?_⟩
    rcases h with ⟨a, xs, rfl, ha, hz, hx, q⟩ | ⟨x, t, rfl, ty, kt, q⟩
    · refine ⟨_, rfl, _, _, _, _, _, rfl, .ty _, ty_tup ha, kit_tt K, _, rfl, ?_⟩
      refine iteT ⟨_, rfl, a, rfl, ⟨_, ha⟩, fun D hD => lc_vals walk_tup (xs.map fun x => V.bl (inR 1 3 x)) (by simp) hD (by simpa using hz) (fun H1 s1 => s1.sqt ha) ?_ ?_⟩
      · rintro i x y H1 H2 N1 N0 ey s1 ⟨rfl, ex⟩ k
        obtain ⟨x', ex', rfl⟩ := map_get ey
        rw [ex] at ex'
        cases ex'
        refine ⟨rfl, yesT ?_⟩
        refine ⟨_, rfl, ?_⟩
        have nu := hx x (List.mem_of_getElem? ex)
        cases x with
        | int m => exact .inl ⟨m, _, _, rfl, k _ (Same.refl _)⟩
        | bl b => exact .inr ⟨b, _, _, rfl, k _ (Same.refl _)⟩
        | _ => cases nu
      · intro H1 s1 e
        refine ⟨_, xs.map (inR 1 3), rfl, .of (by rw [e, List.map_map]; rfl), ?_⟩
        have e2 : (xs.map (inR 1 3)).all id = xs.all (inR 1 3) := by rw [List.all_map]; rfl
        rw [e2]
        exact q H1 s1
    · refine ⟨_, rfl, _, _, _, _, _, rfl, .ty _, ty, kt, _, rfl, ?_⟩
      exact iteF q
/-- a lot: stores of n, each once and from the least on -/
def OkLot (n : Nat) (l : List Int) : Prop := (∀ x ∈ l, 0 ≤ x ∧ x ≤ (n : Int) - 1) ∧ l.Pairwise (· < ·) ∧ l.length < 1000
theorem atI_eq {xs : List V} {x : V} {j : Int} {i : Nat} (h : j = (i : Int)) (e : xs[i]? = some x) : atI xs j = some x := by subst h; exact atI_nat e
def spIsLot (K : PySem.W.Frag) : Sp := fun vs H Q _ => ∃ (c a : Addr) (k : Cl) (l : List Int), vs = [.ref c, .ref a] ∧ ClA K H c k ∧ TI K H a l ∧ OkLot k.ra.length l ∧ ∀ H', Same H H' → Q (.bl true) H'
theorem sc_is_lot : FnScope ["cluster", "value", "store", "k"] ["cluster", "value"] (defScope s_is_lot) := ⟨rfl, rfl, rfl, by decide +kernel, rfl, by decide +kernel, by decide +kernel⟩
theorem ok_is_lot (T : Top w K mg) : HasF w K mg base 2 "is_lot" ["cluster", "value"] (spIsLot K) := by
  refine .of T (has_ex (k := 1) T 4 (d := dD ("is_lot", none) "is_lot" "is_lot" s_is_lot) rfl sc_is_lot (fun _ => rfl) (fun _ _ _ _ _ _ us hl => match us, hl with | [_, _], _ => rfl) (fun vs H Q E h => ?_) (fun cdv A outer s H vs Q E hr h => ?_))
  · obtain ⟨c, a, k, l, rfl, _⟩ := h
    rfl
  · obtain ⟨c, a, k, l, rfl, hc, ha, ok, q⟩ := h
    obtain ⟨⟨dx, xa, xb, xd, hc, _⟩, _⟩ := id hc
    refine ⟨_, (pss_cons (ps_if (PW.pt (pw_or (pt_not (pt_val (pe_isi T (pv 1) (pe_tyN T "tuple")))) (pw_or1 (pt_not (pt_val (pe_all T rfl (pe_lc (own := [("store", 2)]) (g := gName 2) (tt := tYes) rfl sc_is_lot.nd (pi_tup (pv 1)) (blkOk_by (N := ["cluster", "value", "store", "k"]) (sc := defScope s_is_lot) (by decide +kernel)) (fun _ _ _ _ _ => (pg_name (i := 2) sc_is_lot.nd rfl (Or.inl rfl))) (fun _ _ _ _ _ => pts_nil) (fun _ _ _ _ _ => (pe_fn (ok_is_from_to T) rfl hr (by omega) (pa_cons (pv 2) (pa_cons pe_int (pa_cons (pe_op op_sub (pe_fldB (pv 0) rfl) pe_int) pa_nil)))))))))))) (pss_one (ps_ret pe_bl)) pss_nil)
      (pss_one (ps_ret (pe_all T rfl (pe_lc (own := [("k", 3)]) (g := gName 3) (tt := tYes) rfl sc_is_lot.nd (pi_range2 rfl (T.free _ (by decide +kernel)) (pa_cons pe_int (pa_cons (pe_len T (pv 1)) pa_nil))) (blkOk_by (N := ["cluster", "value", "store", "k"]) (sc := defScope s_is_lot) (by decide +kernel)) (fun _ _ _ _ _ => (pg_name (i := 3) sc_is_lot.nd rfl (Or.inl rfl))) (fun _ _ _ _ _ => pts_nil) (fun _ _ _ _ _ => (pe_cmpR op_lt (pe_ix ix_tupB (pv 1) (pe_op op_sub (pv 3) pe_int) (fun _ _ => rfl)) (pe_ix ix_tupB (pv 1) (pv 3) (fun _ _ => rfl)) (nomark _)))))))), ?_⟩
    refine ⟨_, rfl, _, _, _, _, _, rfl, .ty _, ty_tup ha, kit_tt K, _, rfl, ?_⟩
    refine iteF ⟨_, rfl, a, rfl, ⟨_, ha⟩, fun D hD => lc_vals walk_tup (l.map fun _ => V.bl true) (by simp) hD (by simpa using ok.2.2) (fun H1 s1 => s1.sqt ha) ?_ ?_⟩
    · rintro i x y H1 H2 N1 N0 ey s1 ⟨rfl, ex⟩ kk
      obtain ⟨n, en, rfl⟩ := map_get ex
      obtain ⟨_, _, rfl⟩ := map_get ey
      refine ⟨rfl, yesT ?_⟩
      refine ⟨_, rfl, _, rfl, _, _, _, _, _, rfl, s1 _ _ hc, T.clC, T.nCt, rfl, _, _, rfl, rfl, .inl ⟨n, _, _, rfl, ?_⟩⟩
      rw [decide_eq_true (ok.1 n (List.mem_of_getElem? en))]
      exact kk _ (Same.refl _)
    · intro H1 s1 e
      refine ⟨_, l.map fun _ => true, rfl, .of (by rw [e, List.map_map]; rfl), ?_⟩
      have e2 : (l.map fun _ => true).all id = true := by rw [List.all_map]; simp
      rw [e2]
      refine ⟨_, rfl, iteF ?_⟩
      refine ⟨_, rfl, _, _, rfl, .inr (s1.sqt ha), 1, _, rfl, by have := ok.2.2; rw [List.length_map]; omega, fun D2 hD2 => lc_vals (n := ((((l.map V.int).length : Nat) : Int) - 1).toNat) walk_range (List.replicate (((((l.map V.int).length : Nat) : Int) - 1).toNat) (V.bl true)) (by simp) hD2 (by have := ok.2.2; rw [List.length_map]; omega) (fun H1 s1 => trivial) ?_ ?_⟩
      · rintro i x y H2 H3 N1 N0 ey s2 ⟨rfl, rfl⟩ kk
        obtain ⟨hi, ey⟩ := List.getElem?_eq_some_iff.mp ey
        rw [List.length_replicate, List.length_map] at hi
        rw [List.getElem_replicate] at ey
        subst ey
        have e1 : (l.map V.int)[i]? = some (V.int (l[i]'(by omega))) := by simp
        have e2 : (l.map V.int)[i + 1]? = some (V.int (l[i + 1]'(by omega))) := by simp
        have lt : l[i]'(by omega) < l[i + 1]'(by omega) := List.pairwise_iff_getElem.mp ok.2.1 i (i + 1) (by omega) (by omega) (by omega)
        refine ⟨rfl, yesT ?_⟩
        have s3 := s1.trans s2
        refine ⟨_, rfl, _, rfl, _, _, rfl, rfl, _, _, _, _, rfl, rfl, s3.sqt ha, atI_eq (i := i) (by omega) e1, _, rfl, _, rfl, _, _, _, _, rfl, rfl, s3.sqt ha, atI_eq (i := i + 1) (by omega) e2, _, _, rfl, rfl, ?_⟩
        show N1 (V.bl (decide (l[i]'(by omega) < l[i + 1]'(by omega)))) _
        rw [decide_eq_true lt]
        exact kk _ (Same.refl _)
      · intro H2 s2 e
        refine ⟨_, List.replicate ((((l.map V.int).length : Nat) : Int) - 1).toNat true, rfl, .of (by rw [e, List.map_replicate]), ?_⟩
        have e2 : (List.replicate ((((l.map V.int).length : Nat) : Int) - 1).toNat true).all id = true := by simp
        rw [e2]
        exact q H2 (s1.trans s2)
/-- the placing of that many lots -/
def spIsP (K : PySem.W.Frag) : Sp := fun vs H Q _ => (∃ (c a : Addr) (k : Cl) (ls : List (List Int)) (m : Int), vs = [.ref c, .ref a, .int m] ∧ ClA K H c k ∧ TP K H a ls ∧ ls.length < 1000 ∧ m = ls.length ∧ (∀ l ∈ ls, OkLot k.ra.length l ∧ l ≠ []) ∧ ∀ H', Same H H' → Q (.bl true) H') ∨
  (∃ (c : V) (a : Addr) (xs : List V) (m : Int), vs = [c, .ref a, .int m] ∧ SqT K H a xs ∧ (xs.length : Int) ≠ m ∧ Q (.bl false) H) ∨ ∃ (c x : V) (t : Value) (m : Int), vs = [c, x, .int m] ∧ TyX K H x t ∧ PySem.W.kitOne K t (.type "tuple") = some false ∧ Q (.bl false) H
theorem sc_is_placing : FnScope ["cluster", "value", "many", "lot"] ["cluster", "value", "many"] (defScope s_is_placing) := ⟨rfl, rfl, rfl, by decide +kernel, rfl, by decide +kernel, by decide +kernel⟩
theorem ok_is_placing (T : Top w K mg) : HasF w K mg base 3 "is_placing" ["cluster", "value", "many"] (spIsP K) := by
  refine .of T (has_ex (k := 2) T 5 (d := dD ("is_placing", none) "is_placing" "is_placing" s_is_placing) rfl sc_is_placing (fun _ => rfl) (fun _ _ _ _ _ _ us hl => match us, hl with | [_, _, _], _ => rfl) (fun vs H Q E h => ?_) (fun cdv A outer s H vs Q E hr h => ?_))
  · rcases h with ⟨c, a, k, l, m, rfl, _⟩ | ⟨c, a, xs, m, rfl, _⟩ | ⟨c, x, t, m, rfl, _⟩ <;> rfl
  · refine ⟨_, (pss_cons (ps_if (PW.pt (pw_or (pt_not (pt_val (pe_isi T (pv 1) (pe_tyN T "tuple")))) (pw_or1 (pt_cmpR op_ne (pe_len T (pv 1)) (pv 2) (nomark _))))) (pss_one (ps_ret pe_bl)) pss_nil)
      (pss_one (ps_ret (pe_all T rfl (pe_lc (own := [("lot", 3)]) (g := gName 3) (tt := tYes) rfl sc_is_placing.nd (pi_tup (pv 1)) (blkOk_by (N := ["cluster", "value", "many", "lot"]) (sc := defScope s_is_placing) (by decide +kernel)) (fun _ _ _ _ _ => (pg_name (i := 3) sc_is_placing.nd rfl (Or.inl rfl))) (fun _ _ _ _ _ => pts_nil) (fun _ _ _ _ _ => (pe_and (pe_fn (ok_is_lot T) rfl hr (by omega) (pa_cons (pv 0) (pa_cons (pv 3) pa_nil))) (pe_one (pe_cmpR op_gt (pe_lenB T (pv 3)) pe_int (nomark _)))))))))), ?_⟩
    rcases h with ⟨c, a, k, ls, m, rfl, hc, ha, hz, em, ok, q⟩ | ⟨c, a, xs, m, rfl, ha, hm, q⟩ | ⟨c, x, t, m, rfl, ty, kt, q⟩
    · obtain ⟨as, ha, hl, hi⟩ := ha
      refine ⟨_, rfl, _, _, _, _, _, rfl, .ty _, ty_tup ha, kit_tt K, _, rfl, ?_⟩
      refine iteF ⟨_, rfl, _, _, rfl, .inr ha, _, rfl, rfl, _, rfl, ?_⟩
      refine iteC (by rw [dec_int]; simp; omega) ?_
      refine ⟨_, rfl, a, rfl, ⟨_, ha⟩, fun D hD => lc_vals walk_tup (as.map fun _ => V.bl true) (by simp) hD (by simp; omega) (fun H1 s1 => s1.sqt ha) ?_ ?_⟩
      · rintro i x y H1 H2 N1 N0 ey s1 ⟨rfl, ex⟩ kk
        obtain ⟨b, eb, rfl⟩ := map_get ex
        obtain ⟨_, _, rfl⟩ := map_get ey
        have hi' : i < ls.length := by rw [← hl]; exact (List.getElem?_eq_some_iff.mp eb).1
        have el : ls[i]? = some ls[i] := by simp [hi']
        have ol := ok ls[i] (List.getElem_mem hi')
        have hb := hi i b _ eb el
        refine ⟨rfl, yesT ?_⟩
        refine ⟨_, rfl, _, rfl, c, b, k, ls[i], rfl, hc.same s1, s1.sqt hb, ol.1, fun H3 s3 => ⟨_, rfl, ?_⟩⟩
        refine iteT ⟨_, rfl, _, _, rfl, .inr (s3.sqt (s1.sqt hb)), _, _, rfl, rfl, ?_⟩
        have e2 : decide ((0 : Int) < (((ls[i].map V.int).length : Nat) : Int)) = true := decide_eq_true (by
          have := List.length_pos_iff.mpr ol.2
          rw [List.length_map]
          omega)
        show N1 (V.bl (decide ((0 : Int) < (((ls[i].map V.int).length : Nat) : Int)))) H3
        rw [e2]
        exact kk _ s3
      · intro H1 s1 e
        refine ⟨_, as.map fun _ => true, rfl, .of (by rw [e, List.map_map]; rfl), ?_⟩
        have e2 : (as.map fun _ => true).all id = true := by rw [List.all_map]; simp
        rw [e2]
        exact q H1 s1
    · refine ⟨_, rfl, _, _, _, _, _, rfl, .ty _, ty_tup ha, kit_tt K, _, rfl, ?_⟩
      refine iteF ⟨_, rfl, _, _, rfl, .inr ha, _, rfl, rfl, _, rfl, ?_⟩
      exact iteB (by rw [dec_int]; simpa using hm) q
    · refine ⟨_, rfl, _, _, _, _, _, rfl, .ty _, ty, kt, _, rfl, ?_⟩
      exact iteT q
end
end K5
set_option Elab.async false
set_option linter.all false
set_option maxRecDepth 100000
set_option maxHeartbeats 4000000
namespace K5
open PySem PySem.Spec PyProof.Rows L2
/-! ### len(set(list of ints)), repeats or none -/
theorem firstMet_len (f : Nat → Int) (i : Nat) : (firstMet f i).length ≤ i := by
  have key : ∀ (l : List Int) (acc : List Int), (l.foldl step_dedup acc).length ≤ acc.length + l.length := by
    intro l
    induction l with
    | nil => intro acc; simp
    | cons x l ih =>
      intro acc
      have := ih (step_dedup acc x)
      have h2 : (step_dedup acc x).length ≤ acc.length + 1 := by
        unfold step_dedup
        split <;> simp
      simp only [List.foldl_cons, List.length_cons]
      omega
  have := key ((List.range i).map f) []
  simpa [firstMet] using this
/-- some number -/
def tLenSetA (K : PySem.W.Frag) (ta : TE) : TE := fun σ H Q => ta σ H fun x H1 => ∃ (l : Addr) (ns : List Int), x = V.ref l ∧ SqL K H1 l (ns.map V.int) ∧ ns.length < 64 ∧ ∀ k : Nat, Q (.int k) H1
theorem pe_lenSetA {X : Cx} {a : Expr} {ta : TE} {p p2 q pos : Pos} (T : Top X.w X.K X.mg) (hc : X.calm = true) (ha : PE X a ta) (hg : Gl X "len" := by rfl) (hg2 : Gl X "set" := by rfl)
    (na : starEach [a] X.env = (false, eval a X.env) :: starEach [] X.env := by rfl) : PE X (.Call (.Name "len" p) [.Call (.Name "set" p2) [a] [] q] [] pos) (tLenSetA X.K ta) := by
  refine ⟨fun pins s σ H Q I h => ?_⟩
  refine Call_ (ld_blt I hg (T.free _ (by decide +kernel)) PySem.boot_len ?_)
  refine PyProof.Rows.callWith_builtin1 (PyProof.Rows.args_cons ?_ rfl) rfl rfl
  refine Call_ (ld_blt I hg2 (T.free _ (by decide +kernel)) PyProof.Rows.boot_set ?_)
  refine PyProof.Rows.callWith_type1 (PyProof.Rows.args_cons (thn (ha.run pins s σ H _ I h) fun v s1 ⟨x, H1, I1, r1, q1⟩ => PyProof.Rows.args_nil ?_) na) na rfl
  obtain ⟨l, ns, rfl, hq, h1, q1⟩ := q1
  cases r1
  obtain ⟨its, r, pl, hz⟩ := I1.list hq
  have hl : its.toArray.size = ns.length := by rw [List.size_toArray, ← r.length, List.length_map]
  refine call_set_list (I1.ok.hd hc) pl.isList (ns := ns) (by simpa using r.ints) (by unfold scanBound; omega) fun h' tk hS hk => ?_
  rw [hl] at hS
  have hb := firstMet_len (fun i => ns.getD i 0) ns.length
  refine PyProof.Rows.args_nil ?_
  obtain ⟨o, es, ep, t, ho, hex, hd, _, _, _, hf, hn⟩ := hS
  have I2 : Inv X pins σ H1 { s1 with heap := h', toks := tk } := I1.kept fun b o e => hk b o (Heap.lt_size e) e
  refine call_len_set ho hex hd hf (by rw [hn] <;> omega) ⟨.int (firstMet (fun i => ns.getD i 0) ns.length).length, H1, I2.tok _, ⟨_, by rw [hn]⟩, q1 _⟩
theorem tyx_same {K : PySem.W.Frag} {H H' : Hp} {x : V} {t : Value} (s : Same H H') (h : TyX K H x t) : TyX K H' x t := by
  cases h with
  | base h =>
    cases h with
    | non => exact .base .non
    | bl x => exact .base (.bl x)
    | int i => exact .base (.int i)
    | str x => exact .base (.str x)
    | flt x => exact .base (.flt x)
    | lst e => exact .base (.lst (s _ _ e))
    | frz e => exact .base (.frz (s _ _ e))
    | tup e => exact .base (.tup (s _ _ e))
    | dK e => exact .base (.dK (s _ _ e))
    | dT e => exact .base (.dT (s _ _ e))
    | ins e cl ha hn htk hm => exact .base (.ins (s _ _ e) cl ha hn htk hm)
  | byt b => exact .byt b
  | set e => exact .set (s _ _ e)
  | kList e c => exact .kList e c
  | kTuple e c => exact .kTuple e c
  | kDict e c => exact .kDict e c
  | fTuple e => exact .fTuple (s _ _ e)
  | fDict e => exact .fDict (s _ _ e)
/-! ### first_breach: good wishes and a good placing, or an error -/
structure OkW (n : Nat) (ws : List Int) (ls : List (List Int)) : Prop where
  w : OkN 1 3 ws
  l : ls.length = ws.length
  z : ws.length < 100
  p : ∀ l ∈ ls, OkLot n l ∧ l ≠ []
def BadW (K : PySem.W.Frag) (H : Hp) (x : V) : Prop := (∃ (a : Addr) (xs : List V), x = .ref a ∧ SqT K H a xs ∧ xs.length < 1000 ∧ (∀ x ∈ xs, isNu x = true) ∧ xs.all (inR 1 3) = false) ∨ ∃ t, TyX K H x t ∧ PySem.W.kitOne K t (.type "tuple") = some false
def BadP (K : PySem.W.Frag) (H : Hp) (y : V) (m : Int) : Prop := (∃ (a : Addr) (xs : List V), y = .ref a ∧ SqT K H a xs ∧ (xs.length : Int) ≠ m) ∨ ∃ t, TyX K H y t ∧ PySem.W.kitOne K t (.type "tuple") = some false
def spFB (K : PySem.W.Frag) : Sp := fun vs H Q E => (∃ (c wi pl : Addr) (k : Cl) (ws : List Int) (ls : List (List Int)), vs = [.ref c, .ref wi, .ref pl] ∧ ClA K H c k ∧ TI K H wi ws ∧ TP K H pl ls ∧ OkW k.ra.length ws ls ∧ ∀ v H', Same H H' → Q v H') ∨
  (∃ (c x y : V), vs = [c, x, y] ∧ BadW K H x ∧ ErrW K H E "InvalidWishes" [("value", x)]) ∨
  ∃ (c : V) (wi : Addr) (ws : List Int) (y : V), vs = [c, .ref wi, y] ∧ TI K H wi ws ∧ OkN 1 3 ws ∧ ws.length < 100 ∧ BadP K H y ws.length ∧ ErrW K H E "InvalidPlacing" [("value", y)]
theorem all_inR {lo hi : Int} {l : List Int} (h : OkN lo hi l) : (l.map V.int).all (inR lo hi) = true := by
  rw [List.all_eq_true]
  intro x hx
  obtain ⟨n, hn, rfl⟩ := List.mem_map.mp hx
  exact decide_eq_true (h n hn)
theorem nu_ints (l : List Int) : ∀ x ∈ l.map V.int, isNu x = true := by
  intro x hx
  obtain ⟨n, hn, rfl⟩ := List.mem_map.mp hx
  rfl
section
variable {w : World} {K : PySem.W.Frag} {mg : Str → Option Value} {base : Heap}
theorem sc_first_breach : FnScope ["cluster", "wishes", "placing", "piece", "lot", "store"] ["cluster", "wishes", "placing"] (defScope s_first_breach) := ⟨rfl, rfl, rfl, by decide +kernel, rfl, by decide +kernel, by decide +kernel⟩
theorem asc_len {n : Nat} : ∀ {l : List Int} {lo : Int}, (∀ x ∈ l, lo ≤ x ∧ x ≤ (n : Int) - 1) → l.Pairwise (· < ·) → 0 ≤ lo → (l.length : Int) ≤ max 0 ((n : Int) - lo)
  | [], lo, _, _, _ => by simp; omega
  | x :: l, lo, h, p, h0 => by
    obtain ⟨p1, p2⟩ := List.pairwise_cons.mp p
    have hx := h x List.mem_cons_self
    have := asc_len (lo := x + 1) (fun y hy => ⟨p1 y hy, (h y (List.mem_cons_of_mem _ hy)).2⟩) p2 (by omega)
    simp only [List.length_cons]
    omega
theorem OkLot.len {n : Nat} {l : List Int} (h : OkLot n l) : l.length ≤ n := by
  have := asc_len h.1 h.2.1 (Int.le_refl 0)
  omega
theorem ok_first_breach (T : Top w K mg) : HasF w K mg base 4 "first_breach" ["cluster", "wishes", "placing"] (spFB K) := by
  refine .of T (has_ex (k := 3) T 6 (d := dD ("first_breach", none) "first_breach" "first_breach" s_first_breach) rfl sc_first_breach (fun _ => rfl) (fun _ _ _ _ _ _ us hl => match us, hl with | [_, _, _], _ => rfl) (fun vs H Q E h => ?_) (fun cdv A outer s H vs Q E hr h => ?_))
  · rcases h with ⟨c, wi, pl, k, ws, ls, rfl, _⟩ | ⟨c, x, y, rfl, _⟩ | ⟨c, wi, ws, y, rfl, _⟩ <;> rfl
  · refine ⟨_, (pss_cons (ps_if (pt_not (pt_val (pe_fn (ok_is_wishes T) rfl hr (by omega) (pa_cons (pv 1) pa_nil)))) (pss_one (ps_err1 (k := 0) rfl (err_InvalidWishes T) rfl (hr.mono (by omega)) (takes_of rfl rfl rfl rfl) (pv 1))) pss_nil)
      (pss_cons (ps_if (pt_not (pt_val (pe_fn (ok_is_placing T) rfl hr (by omega) (pa_cons (pv 0) (pa_cons (pv 2) (pa_cons (pe_len T (pv 1)) pa_nil)))))) (pss_one (ps_err1 (k := 0) rfl (err_InvalidPlacing T) rfl (hr.mono (by omega)) (takes_of rfl rfl rfl rfl) (pv 2))) pss_nil)
      (pss_cons (ps_for (passes_of rfl) rfl (pi_enumT rfl (T.free _ (by decide +kernel)) (pa_cons (pv 2) pa_nil)) (pg_tup rfl (pgs_cons (pg_name (i := 3) sc_first_breach.nd rfl (Or.inl rfl)) (pgs_cons (pg_name (i := 4) sc_first_breach.nd rfl (Or.inl rfl)) pgs_nil))) (pss_cons (ps_if (pt_cmpR op_ne (pe_len T (pv 4)) (pe_ix ix_tup (pv 1) (pv 3) (fun _ _ => rfl)) (nomark _)) (pss_one (ps_ret (pe_tup (pa_cons pe_str (pa_cons (pv 3) pa_nil))))) pss_nil)
      (pss_one (ps_if (pt_cmpR op_lt (pe_lenSetA T rfl (pe_lc (own := [("store", 5)]) (g := gName 5) (tt := tYes) rfl sc_first_breach.nd (pi_tup (pv 4)) (blkOk_by (N := ["cluster", "wishes", "placing", "piece", "lot", "store"]) (sc := defScope s_first_breach) (by decide +kernel)) (fun _ _ _ _ _ => (pg_name (i := 5) sc_first_breach.nd rfl (Or.inl rfl))) (fun _ _ _ _ _ => pts_nil) (fun _ _ _ _ _ => (pe_ix ix_tupB (pe_fldB (pv 0) rfl) (pv 5) (fun _ _ => rfl))))) (pe_len T (pv 4)) (nomark _)) (pss_one (ps_ret (pe_tup (pa_cons pe_str (pa_cons (pv 3) pa_nil))))) pss_nil))))
      (pss_cons (ps_for (passes_of rfl) rfl (pi_range1 rfl (T.free _ (by decide +kernel)) (pa_cons (pe_fld (pv 0) rfl) pa_nil)) (pg_name (i := 5) sc_first_breach.nd rfl (Or.inr rfl)) (pss_one (ps_if (pt_cmpR op_gt (pe_len T (pe_lc (own := [("lot", 4)]) (g := gName 4)  rfl sc_first_breach.nd (pi_tup (pv 2)) (blkOk_by (N := ["cluster", "wishes", "placing", "piece", "lot", "store"]) (sc := defScope s_first_breach) (by decide +kernel)) (fun _ _ _ _ _ => (pg_name (i := 4) sc_first_breach.nd rfl (Or.inl rfl))) (fun _ _ _ _ _ => pts_one (pt_cmpR op_in_seqB (pv 5) (pv 4) rfl)) (fun _ _ _ _ _ => (pv 4)))) (pe_ix ix_tup (pe_fld (pv 0) rfl) (pv 5) (fun _ _ => rfl)) (nomark _)) (pss_one (ps_ret (pe_tup (pa_cons pe_str (pa_cons (pv 5) pa_nil))))) pss_nil)))
      (pss_one (ps_ret pe_non)))))), ?_⟩
    rcases h with ⟨c, wi, pl, k, ws, ls, rfl, hc, hw, hp, ok, q⟩ | ⟨c, x, y, rfl, bw, q⟩ | ⟨c, wi, ws, y, rfl, hw, okw, hz, bp, q⟩
    · have wz := ok.z
      refine ⟨_, rfl, .inl ⟨wi, _, rfl, hw, by rw [List.length_map]; omega, nu_ints ws, fun H1 s1 => ⟨_, rfl, ?_⟩⟩⟩
      rw [all_inR ok.w]
      refine iteF ⟨_, rfl, _, rfl, _, rfl, _, _, rfl, .inr (s1.sqt hw), .inl ⟨c, pl, k, ls, _, rfl, hc.same s1, s1.tp hp, by have := ok.l; omega, by rw [List.length_map, ok.l], ok.p, fun H2 s2 => ⟨_, rfl, ?_⟩⟩⟩
      refine iteF ?_
      have sa := s1.trans s2
      obtain ⟨as, ha, hl, hi⟩ := id hp
      obtain ⟨⟨dx, xa, xb, xd, hcl, hra, hro, hrt⟩, okc⟩ := id hc
      refine ⟨_, rfl, pl, _, rfl, sa.sqt ha, for_it walk_enumT (fun i σ H2 => ∃ u3 u4 u5, σ = [some (.ref c), some (.ref wi), some (.ref pl), u3, u4, u5] ∧ Same H H2) ⟨_, _, _, rfl, sa⟩ (fun i σ H2 _ ⟨_, _, _, _, s2⟩ => s2.sqt ha) ?_ ?_⟩
      · rintro i v σ H1 H2 hi' ⟨u3, u4, u5, rfl, s2⟩ ⟨P, v1, v2, rfl, hP, rfl, e1, e2⟩
        cases e1
        obtain ⟨b, eb, rfl⟩ := map_get e2
        have hi2 : i < ls.length := by rw [← hl]; exact (List.getElem?_eq_some_iff.mp eb).1
        have el : ls[i]? = some ls[i] := by simp [hi2]
        have ol := ok.p ls[i] (List.getElem_mem hi2)
        have hb := hi i b _ eb el
        have s3 := s2.trans (Same.upd_new (o := .tup [.int (i : Nat), .ref b]) hP)
        have ew : (ws.map V.int)[i]? = some (V.int (ws[i]'(by have := ok.l; omega))) := by simp
        refine ⟨_, _, rfl, .of upd_same, rfl, _, _, rfl, _, _, rfl, rfl, ?_⟩
        refine ⟨_, rfl, _, _, rfl, .inr (s3.sqt hb), _, rfl, _, rfl, _, _, _, _, rfl, rfl, s3.sqt hw, atI_nat ew, rfl, _, rfl, ?_⟩
        refine ite2 (fun _ => ?_) (fun _ => ?_)
        · exact ⟨_, rfl, by show 2 ≤ sizeLine; decide, fun p hp => q _ _ (s3.trans (Same.upd_new hp))⟩
        have lln := ol.1.len
        have l8 := okc.l8
        refine ⟨_, rfl, b, rfl, ⟨_, s3.sqt hb⟩, fun D hD => lc_vals walk_tup (ls[i].map fun n => V.int (k.ra.getD n.toNat 0)) (by simp) hD (by simp; omega) (fun H1 s1 => s1.sqt (s3.sqt hb)) ?_ ?_⟩
        · rintro j x y H4 H5 N1 N0 ey s4 ⟨rfl, ex⟩ kk
          obtain ⟨n, en, rfl⟩ := map_get ex
          obtain ⟨n', en', rfl⟩ := map_get ey
          rw [en] at en'; cases en'
          have s5 := s3.trans s4
          have bn := ol.1.1 n (List.mem_of_getElem? en)
          have er : (k.ra.map V.int)[n.toNat]? = some (V.int (k.ra.getD n.toNat 0)) := by
            have hlt : n.toNat < k.ra.length := by omega
            simp [List.getD, hlt]
          refine ⟨rfl, yesT ?_⟩
          exact ⟨_, rfl, _, _, _, _, _, rfl, s5 _ _ hcl, T.clC, T.nRa, rfl, _, rfl, _, _, _, _, rfl, rfl, s5.sqt hra, atI_eq (i := n.toNat) (by omega) er, kk _ (Same.refl _)⟩
        · intro H4 s4 e
          have s5 := s3.trans s4
          refine ⟨D, ls[i].map fun n => k.ra.getD n.toNat 0, rfl, .of (by rw [e, List.map_map]; rfl), by rw [List.length_map]; omega, fun m => ?_⟩
          refine ⟨_, rfl, _, _, rfl, .inr (s5.sqt hb), _, _, rfl, rfl, _, rfl, ?_⟩
          refine ite2 (fun _ => ?_) (fun _ => ?_)
          · exact ⟨_, rfl, by show 2 ≤ sizeLine; decide, fun p hp => q _ _ (s5.trans (Same.upd_new hp))⟩
          · exact ⟨_, _, _, rfl, s5⟩
      · rintro σ H2 ⟨u3, u4, u5, rfl, s2⟩
        have l8 := okc.l8
        refine ⟨_, rfl, _, _, _, _, _, rfl, s2 _ _ hcl, T.clC, T.nCt, rfl, _, rfl, by omega, by omega, for_range (fun i σ H2 => ∃ u3 u4 u5, σ = [some (.ref c), some (.ref wi), some (.ref pl), u3, u4, u5] ∧ Same H H2) ⟨_, _, _, rfl, s2⟩ ?_ ?_⟩
        · rintro i σ H3 hi' ⟨u3, u4, u5, rfl, s3⟩
          refine ⟨_, rfl, pl, rfl, ⟨_, s3.sqt ha⟩, fun D hD => lc_gen walk_tup [] (fun _ => True) (fun i acc _ => acc.length ≤ i) hD (by simp) (by have := ok.l; simp; omega) (fun _ _ _ => trivial) (fun _ _ _ _ _ _ h => h) trivial (Nat.le_refl _) (fun H1 f _ => f.sqt (fun _ h => by simp at h) (s3.sqt ha)) ?_ ?_⟩
          · rintro j x H4 H5 acc N1 N0 hj f4 _ _ hacc ⟨rfl, ex⟩ k1 k0
            obtain ⟨b, eb, rfl⟩ := map_get ex
            have hi2 : j < ls.length := by rw [← hl]; exact (List.getElem?_eq_some_iff.mp eb).1
            have hb := hi j b _ eb (show ls[j]? = some ls[j] by simp [hi2])
            have hb2 : TI K H5 b ls[j] := f4.sqt (fun _ h => by simp at h) (s3.sqt hb)
            refine ⟨rfl, _, rfl, _, rfl, b, _, rfl, .inr hb2, rfl, by simp [List.all_map, flatV], _, rfl, ?_⟩
            refine ite2 (fun _ => ?_) (fun _ => ?_)
            · exact ⟨_, rfl, k1 _ _ (Same.refl _).fr trivial (by simp; omega)⟩
            · exact k0 _ (Same.refl _).fr trivial (by omega)
          · intro H4 acc f4 _ e4 _
            have s4 : Same H H4 := s3.trans fun b o e => f4 b o (by simp) e
            have hlo := okc.lo
            have eo : (k.ro.map V.int)[i]? = some (V.int (k.ro[i]'(by omega))) := by simp
            refine ⟨_, _, rfl, .inl (.of e4), _, rfl, _, _, _, _, _, rfl, s4 _ _ hcl, T.clC, T.nRo, rfl, _, rfl, _, _, _, _, rfl, rfl, s4.sqt hro, atI_eq (i := i) (by omega) eo, _, _, rfl, rfl, _, rfl, ?_⟩
            refine ite2 (fun _ => ?_) (fun _ => ?_)
            · exact ⟨_, rfl, by show 2 ≤ sizeLine; decide, fun p hp => q _ _ (s4.trans (Same.upd_new hp))⟩
            · exact ⟨_, _, _, rfl, s4⟩
        · rintro σ H3 ⟨u3, u4, u5, rfl, s3⟩
          exact q _ _ s3
    · have bad : ∀ H1, Same H H1 → ErrW K H1 E "InvalidWishes" [("value", x)] := fun H1 s1 => q.same s1
      rcases bw with ⟨a, xs, rfl, ha, hz, hx, ef⟩ | ⟨t, ty, kt⟩
      · refine ⟨_, rfl, .inl ⟨a, _, rfl, ha, hz, hx, fun H1 s1 => ⟨_, rfl, ?_⟩⟩⟩
        rw [ef]
        exact iteT ⟨_, rfl, mk1_end fun d hd => (bad H1 s1).new hd⟩
      · exact ⟨_, rfl, .inr ⟨x, t, rfl, ty, kt, _, rfl, iteT ⟨_, rfl, mk1_end fun d hd => q.new hd⟩⟩⟩
    · refine ⟨_, rfl, .inl ⟨wi, _, rfl, hw, by rw [List.length_map]; omega, nu_ints ws, fun H1 s1 => ⟨_, rfl, ?_⟩⟩⟩
      rw [all_inR okw]
      refine iteF ⟨_, rfl, _, rfl, _, rfl, _, _, rfl, .inr (s1.sqt hw), ?_⟩
      rcases bp with ⟨a, xs, rfl, ha, hm⟩ | ⟨t, ty, kt⟩
      · exact .inr (.inl ⟨_, a, xs, _, rfl, s1.sqt ha, by rw [List.length_map]; exact hm, _, rfl, iteT ⟨_, rfl, mk1_end fun d hd => (q.same s1).new hd⟩⟩)
      · exact .inr (.inr ⟨_, y, t, _, rfl, tyx_same s1 ty, kt, _, rfl, iteT ⟨_, rfl, mk1_end fun d hd => (q.same s1).new hd⟩⟩)
end
end K5
set_option Elab.async false
set_option linter.all false
set_option maxRecDepth 100000
set_option maxHeartbeats 4000000
namespace K5
open PySem PySem.Spec PyProof.Rows L2
/-! ### words as numbers: the mirror -/
def figs : Str := "0123456789"
def intTold (x : Str) : Option Int :=
  if decide (1 ≤ x.length ∧ x.length ≤ 2) && x.cps.toList.all (fun c => decide (c ∈ figs.cps.toList)) then (if x.length == 2 && x.cps.toList.head? == some 48 then none else PySem.intText? x) else none
theorem int_ok1 : ∀ c ∈ figs.cps.toList, PySem.intText? ⟨#[c]⟩ = some ((c : Int) - 48) := by decide +kernel
theorem int_ok2 : ∀ c ∈ figs.cps.toList, ∀ d ∈ figs.cps.toList, PySem.intText? ⟨#[c, d]⟩ = some (((c : Int) - 48) * 10 + ((d : Int) - 48)) := by decide +kernel
inductive VV where
  | int (i : Int)
  | lst (l : List Int)
deriving DecidableEq
def listTold (x : Str) : Option (List Int) := (Txt.split x ",").mapM intTold
def valTold (k x : Str) : Option VV := if k == "integer" then (intTold x).map .int else (listTold x).map .lst
def opI : Option Int → V
  | none => .non
  | some i => .int i
def VVR (K : PySem.W.Frag) (H : Hp) (v : V) : VV → Prop
  | .int i => v = .int i
  | .lst l => ∃ a, v = .ref a ∧ TI K H a l
def spInt : Sp := fun vs H Q _ => ∃ x : Str, vs = [.str x] ∧ x.length < 1000 ∧ ∀ H', Same H H' → Q (opI (intTold x)) H'
section
variable {X : Cx} {pos : Pos}
theorem pe_fig (T : Top X.w X.K X.mg) (hg : Gl X "FIGURES" := by rfl) : PE X (.Name "FIGURES" pos) (tC (.str figs)) :=
  let ⟨t, e⟩ := T.fig
  pe_glob hg e ⟨t, rfl⟩ (by decide)
end
section
variable {w : World} {K : PySem.W.Frag} {mg : Str → Option Value} {base : Heap}
theorem sc_integer_told : FnScope ["word", "sign"] ["word"] (defScope s_integer_told) := ⟨rfl, rfl, rfl, by decide +kernel, rfl, by decide +kernel, by decide +kernel⟩
theorem ok_integer_told (T : Top w K mg) : HasF w K mg base 2 "integer_told" ["word"] spInt := by
  refine .of T (has_ex (k := 1) T 8 (d := dD ("integer_told", none) "integer_told" "integer_told" s_integer_told) rfl sc_integer_told (fun _ => rfl) (fun _ _ _ _ _ _ us hl => match us, hl with | [_], _ => rfl) (fun vs H Q E h => ?_) (fun cdv A outer s H vs Q E hr h => ?_))
  · obtain ⟨x, rfl, _⟩ := h
    rfl
  · obtain ⟨x, rfl, hz, q⟩ := h
    refine ⟨_, (pss_cons (ps_if (PW.pt (pw_or (pt_not (pt_chain op_le op_le pe_int (pe_lenS T (pv 0)) pe_int)) (pw_or1 (pt_val (pe_any T rfl (pe_lc (own := [("sign", 1)]) (g := gName 1) (tt := tYes) rfl sc_integer_told.nd (pi_str (pv 0)) (blkOk_by (N := ["word", "sign"]) (sc := defScope s_integer_told) (by decide +kernel)) (fun _ _ _ _ _ => (pg_name (i := 1) sc_integer_told.nd rfl (Or.inl rfl))) (fun _ _ _ _ _ => pts_nil) (fun _ _ _ _ _ => (pe_cmpR op_notIn_sign (pv 1) (pe_fig T) rfl)))))))) (pss_one (ps_ret pe_non)) pss_nil)
      (pss_one (ps_ret (pe_ifExp (PW.pt (pw_and (pt_cmpR op_eq (pe_lenS T (pv 0)) pe_int (nomark _)) (pw_and1 (pt_cmpR op_eq (pe_ix ix_str (pv 0) pe_int (fun _ _ => rfl)) pe_str (nomark _))))) pe_non (pe_intS T (pv 0)))))), ?_⟩
    have hzl : x.length ≤ sizeLine := sl_small (by omega)
    have no : intTold x = none → ∀ H', Same H H' → Q .non H' := fun e H' s' => by
      have := q H' s'
      rw [e] at this
      exact this
    refine ⟨_, rfl, x, rfl, hzl, _, _, rfl, rfl, _, rfl, ?_⟩
    by_cases c1 : (1 : Int) ≤ (x.length : Int)
    rotate_left
    · rw [if_neg (by simpa using c1)]
      refine ⟨_, rfl, iteT ?_⟩
      exact iteT (no (by unfold intTold; rw [if_neg (by simp; omega)]) H (Same.refl _))
    rw [if_pos (decide_eq_true c1)]
    refine ⟨_, _, rfl, rfl, _, rfl, ?_⟩
    by_cases c2 : (x.length : Int) ≤ 2
    rotate_left
    · rw [show decide ((x.length : Int) ≤ 2) = false from decide_eq_false c2]
      refine iteT ?_
      exact iteT (no (by unfold intTold; rw [if_neg (by simp; omega)]) H (Same.refl _))
    rw [show decide ((x.length : Int) ≤ 2) = true from decide_eq_true c2]
    refine iteF ⟨_, rfl, x, rfl, fun D hD => lc_vals walk_str (x.cps.toList.map fun c => V.bl (!decide (c ∈ figs.cps.toList))) (by simp) hD (by simpa [Str.length] using hz) (fun _ _ => trivial) ?_ ?_⟩
    · rintro i v y H1 H2 N1 N0 ey s1 ⟨rfl, c, ec, rfl⟩ kk
      obtain ⟨c', ec', rfl⟩ := map_get ey
      have : c' = c := by
        rw [Array.getElem?_toList, ec] at ec'
        exact (Option.some.inj ec').symm
      subst this
      exact ⟨rfl, yesT ⟨_, rfl, c', figs, rfl, rfl, kk _ (Same.refl _)⟩⟩
    · intro H1 s1 e
      refine ⟨_, x.cps.toList.map fun c => !decide (c ∈ figs.cps.toList), rfl, .of (by rw [e, List.map_map]; rfl), _, rfl, ?_⟩
      have l12 : decide (1 ≤ x.length ∧ x.length ≤ 2) = true := decide_eq_true ⟨by omega, by omega⟩
      by_cases ca : x.cps.toList.all (fun c => decide (c ∈ figs.cps.toList)) = true
      rotate_left
      · have e2 : (x.cps.toList.map fun c => !decide (c ∈ figs.cps.toList)).any id = true := by
          rw [List.any_map]
          have h2 : (x.cps.toList.all fun c => decide (c ∈ figs.cps.toList)) = false := by simpa using ca
          rw [List.all_eq_false] at h2
          obtain ⟨c, hc, hn⟩ := h2
          exact List.any_eq_true.mpr ⟨c, hc, by simpa using hn⟩
        rw [e2]
        exact iteT (no (by unfold intTold; rw [if_neg (by rw [l12]; simpa using ca)]) _ s1)
      have e2 : (x.cps.toList.map fun c => !decide (c ∈ figs.cps.toList)).any id = false := by
        rw [List.any_map]
        rw [List.any_eq_false]
        intro c hc
        have := List.all_eq_true.mp ca c hc
        simpa using this
      rw [e2]
      refine iteF ?_
      have ei : intTold x = if x.length == 2 && x.cps.toList.head? == some 48 then none else PySem.intText? x := by
        unfold intTold
        rw [if_pos (by rw [l12, ca]; rfl)]
      obtain ⟨l, hl⟩ : ∃ l, x = ⟨l.toArray⟩ := ⟨x.cps.toList, by simp⟩
      have hxl : x.length = l.length := by rw [hl]; simp [Str.length]
      have hca : ∀ c ∈ l, c ∈ figs.cps.toList := by
        intro c hc
        have := List.all_eq_true.mp ca c (by rw [hl]; simpa using hc)
        simpa using this
      refine ⟨_, rfl, x, rfl, hzl, rfl, _, rfl, ?_⟩
      rw [dec_int]
      match l, hl, hxl, hca with
      | [], _, h, _ => simp at h; omega
      | [c], hl, h, hca =>
        have e1 : PySem.intText? x = some ((c : Int) - 48) := by rw [hl]; exact int_ok1 c (hca c (by simp))
        rw [h]
        refine iteF ?_
        refine iteF ?_
        refine ⟨_, rfl, x, _, rfl, e1, by omega, ?_⟩
        have := q H1 s1
        rw [ei, h] at this
        simpa [e1, opI] using this
      | [c, d], hl, h, hca =>
        have e1 : PySem.intText? x = some (((c : Int) - 48) * 10 + ((d : Int) - 48)) := by rw [hl]; exact int_ok2 c (hca c (by simp)) d (hca d (by simp))
        rw [h]
        refine iteT ?_
        have e0 : atI x.cps.toList 0 = some c := by rw [hl]; rfl
        refine ⟨_, rfl, x, 0, c, rfl, rfl, hzl, e0, rfl, _, rfl, ?_⟩
        rw [dec_str]
        have eh : x.cps.toList.head? = some c := by rw [hl]; rfl
        by_cases h0 : c = 48
        · subst h0
          rw [show ((⟨#[48]⟩ : Str) == ("0" : Str)) = true by decide]
          refine iteT ?_
          have := q H1 s1
          rw [ei, h, eh] at this
          show Q V.non H1
          simpa [opI] using this
        · have hne : ((⟨#[c]⟩ : Str) == ("0" : Str)) = false := by
            rw [beq_eq_false_iff_ne]
            intro z
            have := congrArg Str.cps z
            have h3 : (#[c] : Array Nat) = #[48] := this
            simp at h3
            exact h0 h3
          rw [hne]
          refine iteF ?_
          refine ⟨_, rfl, x, _, rfl, e1, by omega, ?_⟩
          have := q H1 s1
          rw [ei, h, eh] at this
          simpa [opI, e1, h0] using this
      | _ :: _ :: _ :: _, _, h, _ => simp at h; omega
end
end K5
set_option Elab.async false
set_option linter.all false
set_option maxRecDepth 100000
set_option maxHeartbeats 4000000
namespace K5
open PySem PySem.Spec PyProof.Rows L2
/-! ### value_told, values_told -/
theorem mapM_opI : ∀ ps : List Str, match ps.mapM intTold with
    | none => inV .non (ps.map fun p => opI (intTold p)) = true
    | some l => inV .non (ps.map fun p => opI (intTold p)) = false ∧ (ps.map fun p => opI (intTold p)) = l.map V.int
  | [] => ⟨rfl, rfl⟩
  | p :: ps => by
    have ih := mapM_opI ps
    have ec : inV .non ((p :: ps).map fun p => opI (intTold p)) = (eqV (opI (intTold p)) .non || inV .non (ps.map fun p => opI (intTold p))) := rfl
    rw [List.mapM_cons, ec]
    cases e : intTold p with
    | none => rfl
    | some n =>
      cases e2 : ps.mapM intTold with
      | none =>
        rw [e2] at ih
        have ih : inV .non (ps.map fun p => opI (intTold p)) = true := ih
        rw [ih]
        rfl
      | some l =>
        rw [e2] at ih
        obtain ⟨h1, h2⟩ := ih
        rw [h1]
        exact ⟨rfl, by rw [List.map_cons, h2, e]; rfl⟩
def OkWord (k x : Str) : Prop := x.length < 1000 ∧ (k = "integer" ∨ (k = "list" ∧ (Txt.split x ",").length < 900 ∧ ∀ p ∈ Txt.split x ",", p.length < 1000))
def VEnd (K : PySem.W.Frag) (H : Hp) (Q : VK) : Option VV → Prop
  | none => ∀ H', Same H H' → Q .non H'
  | some y => ∀ v H', Same H H' → VVR K H' v y → Q v H'
def spVal (K : PySem.W.Frag) : Sp := fun vs H Q _ => ∃ x k : Str, vs = [.str x, .str k] ∧ OkWord k x ∧ VEnd K H Q (valTold k x)
section
variable {w : World} {K : PySem.W.Frag} {mg : Str → Option Value} {base : Heap}
theorem sc_value_told : FnScope ["word", "kind", "numbers", "part"] ["word", "kind"] (defScope s_value_told) := ⟨rfl, rfl, rfl, by decide +kernel, rfl, by decide +kernel, by decide +kernel⟩
theorem ok_value_told (T : Top w K mg) : HasF w K mg base 3 "value_told" ["word", "kind"] (spVal K) := by
  refine .of T (has_ex (k := 2) T 9 (d := dD ("value_told", none) "value_told" "value_told" s_value_told) rfl sc_value_told (fun _ => rfl) (fun _ _ _ _ _ _ us hl => match us, hl with | [_, _], _ => rfl) (fun vs H Q E h => ?_) (fun cdv A outer s H vs Q E hr h => ?_))
  · obtain ⟨x, k, rfl, _⟩ := h
    rfl
  · obtain ⟨x, k, rfl, ⟨hx, ok⟩, q⟩ := h
    refine ⟨_, (pss_cons (ps_if (pt_cmpR op_eq (pv 1) pe_str (nomark _)) (pss_one (ps_ret (pe_fn (ok_integer_told T) rfl hr (by omega) (pa_cons (pv 0) pa_nil)))) pss_nil)
      (pss_cons (ps_setLc (i := 2) (own := [("part", 3)]) (g := gName 3) (tt := tYes) rfl sc_value_told.nd rfl rfl (sw_true rfl rfl rfl (by decide +kernel)) (pi_list (pe_split (pv 0) pe_str)) (blkOk_by (N := ["word", "kind", "numbers", "part"]) (sc := defScope s_value_told) (by decide +kernel)) (fun _ _ _ _ _ => (pg_name (i := 3) sc_value_told.nd rfl (Or.inl rfl))) (fun _ _ _ _ _ => pts_nil) (fun _ _ _ _ _ => (pe_fn (ok_integer_told T) rfl hr (by omega) (pa_cons (pv 3) pa_nil))))
      (pss_one (ps_ret (pe_ifExp (pt_cmpR op_in_seq pe_non (pv 2) rfl) pe_non (pe_tuple T (pv 2))))))), ?_⟩
    refine ⟨_, rfl, rfl, _, rfl, ?_⟩
    rw [dec_str]
    rcases ok with rfl | ⟨rfl, hl, hp⟩
    · refine iteB rfl ⟨_, rfl, x, rfl, hx, fun H1 s1 => ?_⟩
      have e : valTold "integer" x = (intTold x).map .int := rfl
      rw [e] at q
      cases e2 : intTold x with
      | none => rw [e2] at q; exact q H1 s1
      | some n => rw [e2] at q; exact q _ H1 s1 rfl
    · refine iteC rfl ?_
      have e : valTold "list" x = ((Txt.split x ",").mapM intTold).map .lst := rfl
      rw [e] at q
      refine ⟨_, rfl, ⟨x, rfl⟩, x, _, rfl, rfl, rfl, sl_small (by omega), fun p hp' => ⟨p, rfl, ⟨_, .of upd_same⟩, fun D hD => ?_⟩⟩
      have s0 : Same H (upd H p (.lst ((Txt.split x ",").map V.str))) := Same.upd_new hp'
      refine lc_vals walk_list ((Txt.split x ",").map fun z => opI (intTold z)) (by simp) hD (by simp; omega) (fun H1 s1 => .of (s1 _ _ upd_same)) ?_ ?_
      · rintro i v y H1 H2 N1 N0 ey s1 ⟨rfl, ex⟩ kk
        obtain ⟨z, ez, rfl⟩ := map_get ex
        obtain ⟨z', ez', rfl⟩ := map_get ey
        rw [ez] at ez'
        cases ez'
        exact ⟨rfl, yesT ⟨_, rfl, z, rfl, hp z (List.mem_of_getElem? ez), fun H3 s3 => kk _ s3⟩⟩
      · intro H1 s1 e1
        have s2 := s0.trans s1
        have mm := mapM_opI (Txt.split x ",")
        have fl : ((Txt.split x ",").map fun z => opI (intTold z)).all flatV = true := by
          rw [List.all_map, List.all_eq_true]
          intro z _
          show flatV (opI (intTold z)) = true
          cases intTold z <;> rfl
        refine ⟨_, rfl, D, _, rfl, .inl (.of e1), rfl, fl, _, rfl, ?_⟩
        cases e2 : (Txt.split x ",").mapM intTold with
        | none =>
          rw [e2] at q mm
          exact iteB mm (q H1 s2)
        | some l =>
          rw [e2] at q mm
          refine iteC mm.1 ?_
          rw [mm.2] at e1
          refine ⟨_, rfl, D, _, rfl, .inl ⟨.of e1, fun a ha => ?_⟩⟩
          exact q _ _ (s2.trans (Same.upd_new ha)) ⟨a, rfl, .of upd_same⟩
end
end K5
set_option Elab.async false
set_option linter.all false
set_option maxRecDepth 100000
set_option maxHeartbeats 4000000
namespace K5
open PySem PySem.Spec PyProof.Rows L2
/-! ### values_told -/
/-- the words read by their kinds; at the first wrong word its place, where words lack none -/
def toldGo : List Str → List Str → Nat → Except (Option Nat) (List VV)
  | [], [], _ => .ok []
  | _ :: _, [], _ => .error none
  | [], _ :: _, at_ => .error (some at_)
  | k :: ks, x :: xs, at_ => match valTold k x with
    | none => .error (some at_)
    | some y => match toldGo ks xs (at_ + x.length + 1) with
      | .ok ys => .ok (y :: ys)
      | .error e => .error e
def app (xs : List VV) : Except (Option Nat) (List VV) → Except (Option Nat) (List VV)
  | .ok ys => .ok (xs ++ ys)
  | .error e => .error e
def VVs (K : PySem.W.Frag) (H : Hp) (vs : List V) (xs : List VV) : Prop := vs.length = xs.length ∧ ∀ (i : Nat) (v : V) (x : VV), vs[i]? = some v → xs[i]? = some x → VVR K H v x
theorem VVR.fr {K : PySem.W.Frag} {M : List Addr} {H H' : Hp} {v : V} {x : VV} (f : FrX M H H') (m : MuX M H) (h : VVR K H v x) : VVR K H' v x := by
  cases x with
  | int i => exact h
  | lst l =>
    obtain ⟨a, e, t⟩ := h
    exact ⟨a, e, f.sqt m t⟩
theorem VVs.fr {K : PySem.W.Frag} {M : List Addr} {H H' : Hp} {vs : List V} {xs : List VV} (f : FrX M H H') (m : MuX M H) (h : VVs K H vs xs) : VVs K H' vs xs := ⟨h.1, fun i v x e1 e2 => (h.2 i v x e1 e2).fr f m⟩
theorem VVs.snoc {K : PySem.W.Frag} {H : Hp} {vs : List V} {xs : List VV} {v : V} {x : VV} (h : VVs K H vs xs) (r : VVR K H v x) : VVs K H (vs ++ [v]) (xs ++ [x]) := by
  refine ⟨by simp [h.1], fun i u y e1 e2 => ?_⟩
  by_cases hi : i < vs.length
  · rw [List.getElem?_append_left hi] at e1
    rw [List.getElem?_append_left (by have := h.1; omega)] at e2
    exact h.2 i u y e1 e2
  · rw [List.getElem?_append_right (by omega)] at e1
    rw [List.getElem?_append_right (by have := h.1; omega)] at e2
    have h1 := (List.getElem?_eq_some_iff.mp e1).1
    simp at h1
    have e : i = vs.length := by omega
    have l1 := h.1
    rw [e, Nat.sub_self] at e1
    rw [e, l1, Nat.sub_self] at e2
    cases e1
    cases e2
    exact r
theorem noMu {H : Hp} : MuX [] H := fun _ h => by simp at h
def LineEr (K : PySem.W.Frag) (H : Hp) (E : XK) (line : Str) (at_ : Nat) : Prop := ErrW K H E "InvalidLine" [("at", .int (at_ : Nat)), ("line", .str line)]
def VTEnd (K : PySem.W.Frag) (H : Hp) (Q : VK) (E : XK) (line : Str) : Except (Option Nat) (List VV) → Prop
  | .ok xs => ∀ F vs H', Same H H' → H F = none → H' F = some (.lst vs) → VVs K H' vs xs → Q (.ref F) H'
  | .error o => LineEr K H E line (o.getD line.length)
def OkKind (k : Str) : Prop := k = "integer" ∨ k = "list"
/-- every word that is read may be read -/
def OkWords : List Str → List Str → Prop
  | k :: ks, x :: xs => OkWord k x ∧ OkWords ks xs
  | _, _ => True
def spVT (K : PySem.W.Frag) : Sp := fun vs H Q E => ∃ (line w0 : Str) (ws kinds : List Str) (kd : Addr), vs = [.str line, .ref kd] ∧ Txt.split line " " = w0 :: ws ∧ line.length < 1000 ∧ w0.length < 1000 ∧ ws.length < 900 ∧ (∀ x ∈ ws, x.length < 1000) ∧ kinds.length < 900 ∧ (∀ H, SqT K H kd (kinds.map .str)) ∧
  OkWords kinds ws ∧ VTEnd K H Q E line (toldGo kinds ws (w0.length + 1))
section
variable {w : World} {K : PySem.W.Frag} {mg : Str → Option Value} {base : Heap}
theorem okWords_at : ∀ {ks xs : List Str} {i : Nat} {k x : Str}, OkWords ks xs → ks[i]? = some k → xs[i]? = some x → OkWord k x
  | k :: ks, x :: xs, 0, _, _, h, e1, e2 => by
    cases e1; cases e2
    exact h.1
  | k :: ks, x :: xs, i + 1, _, _, h, e1, e2 => okWords_at (i := i) h.2 (by simpa using e1) (by simpa using e2)
  | [], _, _, _, _, _, e1, _ => by simp at e1
  | _ :: _, [], _, _, _, _, _, e2 => by simp at e2
theorem sc_values_told : FnScope ["line", "kinds", "words", "at", "found", "number", "word", "value"] ["line", "kinds"] (defScope s_values_told) := ⟨rfl, rfl, rfl, by decide +kernel, rfl, by decide +kernel, by decide +kernel⟩
theorem ok_values_told (T : Top w K mg) : HasF w K mg base 4 "values_told" ["line", "kinds"] (spVT K) := by
  refine .of T (has_ex (k := 3) T 10 (d := dD ("values_told", none) "values_told" "values_told" s_values_told) rfl sc_values_told (fun _ => rfl) (fun _ _ _ _ _ _ us hl => match us, hl with | [_, _], _ => rfl) (fun vs H Q E h => ?_) (fun cdv A outer s H vs Q E hr h => ?_))
  · obtain ⟨line, w0, ws, kinds, kd, rfl, _⟩ := h
    rfl
  · obtain ⟨line, w0, ws, kinds, kd, rfl, esp, hline, hw0, hws, hwl, hkl, hkd, okw, q⟩ := h
    refine ⟨_, (pss_cons (ps_set (i := 2) sc_values_told.nd rfl (Or.inl rfl) (pe_split (pv 0) pe_str))
      (pss_cons (ps_set (i := 3) sc_values_told.nd rfl (Or.inl rfl) (pe_op op_add (pe_lenS T (pe_ix ix_list (pv 2) pe_int (fun _ _ => rfl))) pe_int))
      (pss_cons (ps_set (i := 4) sc_values_told.nd rfl (Or.inl rfl) (pe_lst pa_nil))
      (pss_cons (ps_for (passes_of rfl) rfl (pi_enum rfl (T.free _ (by decide +kernel)) (pa_cons (pe_slice sl_list (pv 2) (po_some pe_int) po_none) pa_nil)) (pg_tup rfl (pgs_cons (pg_name (i := 5) sc_values_told.nd rfl (Or.inl rfl)) (pgs_cons (pg_name (i := 6) sc_values_told.nd rfl (Or.inl rfl)) pgs_nil))) (pss_cons (ps_set (i := 7) sc_values_told.nd rfl (Or.inl rfl) (pe_ifExp (pt_cmpR op_lt (pv 5) (pe_len T (pv 1)) (nomark _)) (pe_fn (ok_value_told T) rfl hr (by omega) (pa_cons (pv 6) (pa_cons (pe_ix ix_tup (pv 1) (pv 5) (fun _ _ => rfl)) pa_nil))) pe_non))
      (pss_cons (ps_if (pt_cmpR op_isN (pv 7) pe_non (nomark _)) (pss_one (ps_err2 (k := 0) rfl (err_InvalidLine T) rfl (hr.mono (by omega)) (takes_of rfl rfl rfl rfl) (pv 0) (pv 3))) pss_nil)
      (pss_cons (ps_expr (pe_bm PySem.F.plainAttrs_list PySem.F.slot_list_append PySem.F.type_list_append mt_append (pv 4) (pa_cons (pv 7) pa_nil)))
      (pss_one (ps_set (i := 3) sc_values_told.nd rfl (Or.inl rfl) (pe_op op_add (pe_op op_add (pv 3) (pe_lenS T (pv 6))) pe_int)))))))
      (pss_cons (ps_if (pt_cmpR op_lt (pe_len T (pv 4)) (pe_len T (pv 1)) (nomark _)) (pss_one (ps_err2 (k := 0) rfl (err_InvalidLine T) rfl (hr.mono (by omega)) (takes_of rfl rfl rfl rfl) (pv 0) (pe_lenS T (pv 0)))) pss_nil)
      (pss_one (ps_ret (pv 4)))))))), ?_⟩
    have z1 : ∀ {n : Nat}, n < 1000 → n ≤ sizeLine := fun h => sl_small (by omega)
    refine ⟨_, rfl, ⟨line, rfl⟩, line, _, rfl, rfl, rfl, sl_small (by omega), fun W hW => ?_⟩
    rw [esp]
    have s0 : Same H (upd H W (.lst ((w0 :: ws).map V.str))) := Same.upd_new hW
    refine ⟨_, rfl, W, _, 0, _, rfl, rfl, .of upd_same, atI_eq (i := 0) rfl rfl, w0, rfl, z1 hw0, _, _, rfl, rfl, by show 0 ≤ sizeLine; decide, fun F hF => ?_⟩
    have s1 := s0.trans (Same.upd_new (o := .lst []) hF)
    have hHF : H F = none := s0.free hF
    have hWF : W ≠ F := fun e => by rw [← e, upd_same] at hF; cases hF
    have eW : (upd (upd H W (.lst ((w0 :: ws).map V.str))) F (.lst [])) W = some (.lst ((w0 :: ws).map V.str)) := by rw [upd_ne hWF, upd_same]
    refine ⟨_, rfl, _, rfl, W, _, rfl, .of eW, fun Z hZ => ?_⟩
    have ec : cutV ((w0 :: ws).map V.str) (some (1 : Int)) none = ws.map V.str := cut_from (xs := (w0 :: ws).map V.str) 1
    have s2 := s1.trans (Same.upd_new (o := .lst (cutV ((w0 :: ws).map V.str) (some (1 : Int)) none)) hZ)
    have hZF : F ≠ Z := fun e => by rw [← e, upd_same] at hZ; cases hZ
    have hHZ : H Z = none := s1.free hZ
    have toFr : ∀ {H1 H2 : Hp} {o : HO}, Same H H1 → Same H (upd H1 F o) := fun {H1 H2 o} s b u e => by
      rw [upd_ne (ne_of_none e hHF)]
      exact s b u e
    refine ⟨Z, ws.map V.str, rfl, .of (by rw [upd_same, ec]), for_it walk_enum (fun i σ H2 => ∃ (at_ : Nat) (xs : List VV) (vs : List V) (u5 u6 u7 : Option V), σ = [some (.str line), some (.ref kd), some (.ref W), some (.int (at_ : Nat)), some (.ref F), u5, u6, u7] ∧ Same H H2 ∧ H2 F = some (.lst vs) ∧ H2 Z = some (.lst (ws.map V.str)) ∧
      VVs K H2 vs xs ∧ xs.length = i ∧ i ≤ kinds.length ∧ app xs (toldGo (kinds.drop i) (ws.drop i) at_) = toldGo kinds ws (w0.length + 1))
      ⟨w0.length + 1, [], [], none, none, none, rfl, s2, by rw [upd_ne hZF, upd_same], by rw [upd_same, ec], ⟨rfl, fun i v x e => by simp at e⟩, rfl, Nat.zero_le _, ?_⟩ (fun i σ H2 _ ⟨_, _, _, _, _, _, _, _, _, z, _⟩ => .of z) ?_ ?_⟩
    · rw [List.drop_zero, List.drop_zero]
      cases toldGo kinds ws (w0.length + 1) <;> rfl
    · rintro i v σ H1 H2 hi ⟨at_, xs, vs, u5, u6, u7, rfl, s3, eF, eZ, hv, hx, hk, ht⟩ ⟨P, v1, v2, rfl, hP, rfl, e1, e2⟩
      cases e1
      obtain ⟨x, ex, rfl⟩ := map_get e2
      have s4 : Same H1 (upd H1 P (.tup [.int (i : Nat), .str x])) := Same.upd_new hP
      have sH := s3.trans s4
      refine ⟨_, _, rfl, .of upd_same, rfl, _, _, rfl, _, _, rfl, rfl, ?_⟩
      refine ⟨_, rfl, _, rfl, _, _, rfl, .inr (hkd _), _, _, rfl, rfl, _, rfl, ?_⟩
      have hxl := hwl x (List.mem_of_getElem? ex)
      have hil : i < ws.length := (List.getElem?_eq_some_iff.mp ex).1
      have exi : ws[i] = x := by
        have := List.getElem?_eq_getElem hil
        rw [ex] at this
        exact (Option.some.inj this).symm
      have ed : ws.drop i = x :: ws.drop (i + 1) := by rw [List.drop_eq_getElem_cons hil, exi]
      by_cases ck : i < kinds.length
      · refine iteB (show decide ((i : Int) < (((kinds.map V.str).length : Nat) : Int)) = true from decide_eq_true (by rw [List.length_map]; omega)) ?_
        have ek : kinds[i]? = some kinds[i] := by simp [ck]
        have ekd : kinds.drop i = kinds[i] :: kinds.drop (i + 1) := List.drop_eq_getElem_cons ck
        rw [ed, ekd] at ht
        have ow := okWords_at okw ek ex
        refine ⟨_, rfl, _, rfl, _, rfl, _, _, _, _, rfl, rfl, hkd _, atI_nat (by rw [List.getElem?_map, ek]; rfl), x, kinds[i], rfl, ow, ?_⟩
        cases e3 : valTold kinds[i] x with
        | none =>
          intro H3 s5
          refine ⟨_, rfl, rfl, _, rfl, ?_⟩
          refine iteT ⟨_, rfl, _, rfl, mk2_end fun d hd => ?_⟩
          have e4 : toldGo kinds ws (w0.length + 1) = .error (some at_) := by rw [← ht]; simp [toldGo, e3, app]
          rw [e4] at q
          exact ErrW.new (ErrW.same q (sH.trans s5)) hd
        | some y =>
          intro v H3 s5 hvy
          have hnn : decide (v = V.non) = false := by
            cases y with
            | int n => rw [show v = .int n from hvy]; rfl
            | lst l => obtain ⟨a, e, _⟩ := hvy; rw [e]; rfl
          refine ⟨_, rfl, rfl, _, rfl, ?_⟩
          refine iteC hnn ?_
          have eF3 : H3 F = some (.lst vs) := s5 _ _ (s4 _ _ eF)
          have eZ3 : H3 Z = some (.lst (ws.map V.str)) := s5 _ _ (s4 _ _ eZ)
          have hvl := hv.1
          refine ⟨_, rfl, .inl ⟨rfl, _, .of eF3⟩, _, rfl, F, vs, v, rfl, rfl, eF3, by have : vs.length ≤ 1000 := (by omega); exact Nat.lt_of_le_of_lt this (by rw [sizeLine_eq]; decide), ?_⟩
          refine ⟨_, rfl, _, rfl, x, rfl, z1 hxl, _, _, rfl, rfl, _, _, rfl, rfl, ?_⟩
          refine ⟨at_ + x.length + 1, xs ++ [y], vs ++ [v], some (.int (i : Nat)), some (.str x), some v, ?_, toFr (H2 := H) (sH.trans s5), upd_same, by rw [upd_ne hZF.symm]; exact eZ3, ?_, by simp [hx], by omega, ?_⟩
          · rw [show (((at_ + x.length + 1 : Nat)) : Int) = (at_ : Int) + (x.length : Int) + 1 by omega]
            rfl
          · refine VVs.fr (M := [F]) (H := H3) (FrX.upd (Same.refl _).fr (by simp)) (MuX.one eF3 rfl) ?_
            exact (hv.fr (M := []) (s4.trans s5).fr noMu).snoc hvy
          · rw [← ht]
            simp only [toldGo, e3]
            cases toldGo (kinds.drop (i + 1)) (ws.drop (i + 1)) (at_ + x.length + 1) <;> simp [app]
      · refine iteC (show decide ((i : Int) < (((kinds.map V.str).length : Nat) : Int)) = false from decide_eq_false (by rw [List.length_map]; omega)) ?_
        have ekd : kinds.drop i = [] := List.drop_eq_nil_of_le (by omega)
        rw [ed, ekd] at ht
        refine ⟨_, rfl, rfl, _, rfl, ?_⟩
        refine iteT ⟨_, rfl, _, rfl, mk2_end fun d hd => ?_⟩
        have e4 : toldGo kinds ws (w0.length + 1) = .error (some at_) := by rw [← ht]; rfl
        rw [e4] at q
        exact ErrW.new (ErrW.same q sH) hd
    · rintro σ H2 ⟨at_, xs, vs, u5, u6, u7, rfl, s3, eF, eZ, hv, hx, hk, ht⟩
      have hvl := hv.1
      rw [List.length_map] at hx ht
      rw [List.drop_eq_nil_of_le (Nat.le_refl ws.length)] at ht
      refine ⟨_, rfl, _, _, rfl, .inl (.of eF), _, rfl, _, _, rfl, .inr (hkd _), _, _, rfl, rfl, _, rfl, ?_⟩
      by_cases ck : ws.length < kinds.length
      · refine iteB (show decide (((vs.length : Nat) : Int) < (((kinds.map V.str).length : Nat) : Int)) = true from decide_eq_true (by rw [List.length_map]; omega)) ?_
        refine ⟨_, rfl, _, rfl, line, rfl, z1 hline, mk2_end fun d hd => ?_⟩
        rw [List.drop_eq_getElem_cons ck] at ht
        have e4 : toldGo kinds ws (w0.length + 1) = .error none := by rw [← ht]; rfl
        rw [e4] at q
        exact ErrW.new (ErrW.same q s3) hd
      · refine iteC (show decide (((vs.length : Nat) : Int) < (((kinds.map V.str).length : Nat) : Int)) = false from decide_eq_false (by rw [List.length_map]; omega)) ?_
        rw [List.drop_eq_nil_of_le (by omega)] at ht
        have e4 : toldGo kinds ws (w0.length + 1) = .ok xs := by rw [← ht]; simp [toldGo, app]
        rw [e4] at q
        exact ⟨_, rfl, q F vs H2 s3 hHF eF hv⟩
end
end K5
set_option Elab.async false
set_option linter.all false
set_option maxRecDepth 100000
set_option maxHeartbeats 4000000
namespace K5
open PySem PySem.Spec PyProof.Rows L2
/-! ### an attribute as a target within a tuple of targets -/
def gFld (K : PySem.W.Frag) (ta : TE) (f : Str) : TG := fun y σ H Q => ta σ H fun x H2 => ∃ a C dx fs, x = .ref a ∧ H2 a = some (.ins C dx fs) ∧ Cls K C ∧ NoAttr K C f ∧ fs.length < 1000 ∧ Q σ (upd H2 a (.ins C dx (putF f y fs)))
theorem pg_fld {X : Cx} {o : Expr} {f : Str} {pos : Pos} {ta : TE} (ha : PE X o ta) : L2.PG X (.Attribute o f pos) (gFld X.K ta f) := by
  refine ⟨fun pins s σ H v u Q I r h => ?_⟩
  rw [assign_Attribute]
  refine wpAny_bind (wpAny_holding (thn (ha.run pins s σ H _ I h) fun ov s2 ⟨x, H2, I2, rx, a, C, dx, fs, ex, ea, c, n, l, q2⟩ => ?_))
  subst ex
  obtain rfl : ov = Value.ref a := rx
  refine wpAny_bind (wpAny_standAt (wpAny_bind (wpAny_holding (setattr_ok I2 ea c n l r fun s3 I3 => ?_))))
  exact wpAny_release ⟨σ, _, I3, q2⟩
/-! ### is_lot_of -/
def lotGo (n : Nat) : Option Int → List Int → Bool
  | _, [] => true
  | p, x :: xs => decide (0 ≤ x ∧ x < (n : Int)) && (match p with | none => true | some y => decide (y < x)) && lotGo n (some x) xs
def spLotOf (K : PySem.W.Frag) : Sp := fun vs H Q _ => ∃ (c a : Addr) (k : Cl) (l : List Int), vs = [.ref c, .ref a] ∧ ClA K H c k ∧ TI K H a l ∧ ∀ H', Same H H' → Q (.bl (lotGo k.ra.length none l)) H'
section
variable {w : World} {K : PySem.W.Frag} {mg : Str → Option Value} {base : Heap}
theorem sc_is_lot_of : FnScope ["cluster", "value", "at", "store"] ["cluster", "value"] (defScope s_is_lot_of) := ⟨rfl, rfl, rfl, by decide +kernel, rfl, by decide +kernel, by decide +kernel⟩
def prevO (l : List Int) : Nat → Option Int
  | 0 => none
  | i + 1 => l[i]?
theorem ok_is_lot_of (T : Top w K mg) : HasF w K mg base 1 "is_lot_of" ["cluster", "value"] (spLotOf K) := by
  refine .of T (has_ex (k := 0) T 7 (d := dD ("is_lot_of", none) "is_lot_of" "is_lot_of" s_is_lot_of) rfl sc_is_lot_of (fun _ => rfl) (fun _ _ _ _ _ _ us hl => match us, hl with | [_, _], _ => rfl) (fun vs H Q E h => ?_) (fun cdv A outer s H vs Q E hr h => ?_))
  · obtain ⟨c, a, k, l, rfl, _⟩ := h
    rfl
  · obtain ⟨c, a, k, l, rfl, hc, ha, q⟩ := h
    obtain ⟨⟨dx, xa, xb, xd, hc, _⟩, _⟩ := id hc
    refine ⟨_, (pss_cons (ps_if (pt_not (pt_val (pe_isi T (pv 1) (pe_tyN T "tuple")))) (pss_one (ps_ret pe_bl)) pss_nil)
      (pss_cons (ps_for (passes_of rfl) rfl (pi_enumT rfl (T.free _ (by decide +kernel)) (pa_cons (pv 1) pa_nil)) (pg_tup rfl (pgs_cons (pg_name (i := 2) sc_is_lot_of.nd rfl (Or.inl rfl)) (pgs_cons (pg_name (i := 3) sc_is_lot_of.nd rfl (Or.inl rfl)) pgs_nil))) (pss_cons (ps_if (PW.pt (pw_or (pt_not (pt_val (pe_isi T (pv 3) (pe_tyN T "int")))) (pw_or (pt_val (pe_isi T (pv 3) (pe_tyN T "bool"))) (pw_or1 (pt_not (pt_chain op_le op_lt pe_int (pv 3) (pe_fld (pv 0) rfl))))))) (pss_one (ps_ret pe_bl)) pss_nil)
      (pss_one (ps_if (PW.pt (pw_and (pt_cmpR op_gt (pv 2) pe_int (nomark _)) (pw_and1 (pt_cmpR op_ge (pe_ix ix_tup (pv 1) (pe_op op_sub (pv 2) pe_int) (fun _ _ => rfl)) (pv 3) (nomark _))))) (pss_one (ps_ret pe_bl)) pss_nil))))
      (pss_one (ps_ret pe_bl)))), ?_⟩
    refine ⟨_, rfl, _, _, _, _, _, rfl, .ty _, ty_tup ha, kit_tt K, _, rfl, ?_⟩
    refine iteF ⟨_, rfl, a, _, rfl, ha, for_it walk_enumT (fun i σ H2 => ∃ u2 u3, σ = [some (.ref c), some (.ref a), u2, u3] ∧ Same H H2 ∧ lotGo k.ra.length (prevO l i) (l.drop i) = lotGo k.ra.length none l) ⟨_, _, rfl, Same.refl _, rfl⟩ (fun i σ H2 _ ⟨_, _, _, s2, _⟩ => s2.sqt ha) ?_ ?_⟩
    · rintro i v σ H1 H2 hi ⟨u2, u3, rfl, s2, ht⟩ ⟨P, v1, v2, rfl, hP, rfl, e1, e2⟩
      cases e1
      obtain ⟨x, ex, rfl⟩ := map_get e2
      have s3 := s2.trans (Same.upd_new (o := .tup [.int (i : Nat), .int x]) hP)
      have hil : i < l.length := (List.getElem?_eq_some_iff.mp ex).1
      have exi : l[i] = x := by
        have := List.getElem?_eq_getElem hil
        rw [ex] at this
        exact (Option.some.inj this).symm
      have ed : l.drop i = x :: l.drop (i + 1) := by rw [List.drop_eq_getElem_cons hil, exi]
      rw [ed] at ht
      have fin : lotGo k.ra.length none l = false → ∀ H', Same H H' → Q (.bl false) H' := fun e H' s' => by
        have := q H' s'
        rw [e] at this
        exact this
      refine ⟨_, _, rfl, .of upd_same, rfl, _, _, rfl, _, _, rfl, rfl, ?_⟩
      refine ⟨_, rfl, _, _, _, _, _, rfl, .ty _, .base (.int x), kit_ii K, _, rfl, ?_⟩
      refine iteF ⟨_, rfl, _, _, _, _, _, rfl, .ty _, .base (.int x), kit_ib K, _, rfl, ?_⟩
      refine iteF ⟨_, rfl, _, _, rfl, rfl, _, rfl, ?_⟩
      by_cases c0 : 0 ≤ x
      rotate_left
      · refine iteC (decide_eq_false c0) ⟨_, rfl, ?_⟩
        refine iteT ?_
        exact fin (by rw [← ht]; simp [lotGo, c0]) _ s3
      refine iteB (decide_eq_true c0) ⟨_, rfl, _, _, _, _, _, rfl, s3 _ _ hc, T.clC, T.nCt, rfl, _, _, rfl, rfl, _, rfl, ?_⟩
      by_cases c1 : x < (k.ra.length : Int)
      rotate_left
      · rw [show decide (x < (k.ra.length : Int)) = false from decide_eq_false c1]
        refine iteT ?_
        exact fin (by rw [← ht]; simp [lotGo, c1]) _ s3
      rw [show decide (x < (k.ra.length : Int)) = true from decide_eq_true c1]
      refine iteF ?_
      refine ⟨_, rfl, _, _, rfl, rfl, _, rfl, ?_⟩
      cases i with
      | zero =>
        refine iteC rfl ?_
        refine iteF ?_
        exact ⟨_, _, rfl, s3, by rw [← ht]; simp only [lotGo, prevO, ex]; simp [c0, c1]⟩
      | succ i =>
        have hp : l[i]? = some (l[i]'(by omega)) := by simp
        refine iteB (decide_eq_true (by omega)) ⟨_, rfl, _, rfl, _, _, rfl, rfl, a, _, _, _, rfl, rfl, s3.sqt ha, atI_eq (i := i) (by omega) (by rw [List.getElem?_map, hp]; rfl), _, rfl, _, _, rfl, rfl, _, rfl, ?_⟩
        by_cases c2 : l[i]'(by omega) < x
        · refine iteC (decide_eq_false (by omega)) ?_
          exact ⟨_, _, rfl, s3, by rw [← ht]; simp only [lotGo, prevO, ex, hp]; simp [c0, c1, c2]⟩
        · refine iteB (decide_eq_true (by omega)) ?_
          exact fin (by rw [← ht]; simp [lotGo, prevO, hp, c2]) _ s3
    · rintro σ H2 ⟨u2, u3, rfl, s2, ht⟩
      rw [List.length_map, List.drop_eq_nil_of_le (Nat.le_refl _)] at ht
      have := q H2 s2
      rw [← ht] at this
      show Q (V.bl true) H2
      simpa [lotGo] using this
end
end K5
set_option Elab.async false
set_option linter.all false
set_option maxRecDepth 100000
set_option maxHeartbeats 4000000
namespace K5
open PySem PySem.Spec PyProof.Rows L2
/-! ### the desk: data -/
/-- what is written once it stands: lists, dicts, instances other than clusters -/
def isMd : HO → Bool
  | .ins _ _ fs => fs.length != 4
  | .lst _ => true
  | .dK _ => true
  | _ => false
def MdX (M : List Addr) (H : Hp) : Prop := ∀ b ∈ M, ∃ o, H b = some o ∧ isMd o = true
theorem MdX.mu {M : List Addr} {H : Hp} (m : MdX M H) : MuX M H := fun b hb => by
  obtain ⟨o, e, i⟩ := m b hb
  refine ⟨o, e, ?_⟩
  cases o <;> first | rfl | cases i
structure Wd where
  cl : Cl
  wi : List Int
  pl : List (List Int)
deriving DecidableEq
structure WdIn (K : PySem.W.Frag) (H : Hp) (c wi pl : Addr) (W : Wd) : Prop where
  c : ClA K H c W.cl
  w : TI K H wi W.wi
  p : TP K H pl W.pl
def WdAt (K : PySem.W.Frag) (H : Hp) (x : Addr) (W : Wd) : Prop := ∃ c wi pl, SqT K H x [.ref c, .ref wi, .ref pl] ∧ WdIn K H c wi pl W
structure Deed where
  line : Str
  ah : Wd
  be : Wd
def DeedAt (K : PySem.W.Frag) (H : Hp) (v : V) (d : Deed) : Prop := ∃ a x y, v = .ref a ∧ SqT K H a [.str d.line, .ref x, .ref y] ∧ WdAt K H x d.ah ∧ WdAt K H y d.be
def Deeds (K : PySem.W.Frag) (H : Hp) (vs : List V) (ds : List Deed) : Prop := vs.length = ds.length ∧ ∀ (i : Nat) (v : V) (d : Deed), vs[i]? = some v → ds[i]? = some d → DeedAt K H v d
theorem ClAt.fr {K : PySem.W.Frag} {M : List Addr} {H H' : Hp} {c : Addr} {ra ro rt : List Int} (f : FrX M H H') (m : MdX M H) (h : ClAt K H c ra ro rt) : ClAt K H' c ra ro rt := by
  obtain ⟨⟨dx, a, b, d, h1, h2, h3, h4⟩, ok⟩ := h
  refine ⟨⟨dx, a, b, d, f _ _ (fun hm => ?_) h1, f.sqt m.mu h2, f.sqt m.mu h3, f.sqt m.mu h4⟩, ok⟩
  obtain ⟨o, e, i⟩ := m c hm
  rw [h1] at e
  cases e
  cases i
theorem TP.fr {K : PySem.W.Frag} {M : List Addr} {H H' : Hp} {a : Addr} {ls : List (List Int)} (f : FrX M H H') (m : MuX M H) (h : TP K H a ls) : TP K H' a ls := by
  obtain ⟨as, h1, h2, h3⟩ := h.ex
  exact ⟨as, f.sqt m h1, h2, fun i b l x y => f.sqt m (h3 i b l x y)⟩
theorem WdIn.fr {K : PySem.W.Frag} {M : List Addr} {H H' : Hp} {c wi pl : Addr} {W : Wd} (f : FrX M H H') (m : MdX M H) (h : WdIn K H c wi pl W) : WdIn K H' c wi pl W := ⟨h.c.fr f m, f.sqt m.mu h.w, h.p.fr f m.mu⟩
theorem WdAt.fr {K : PySem.W.Frag} {M : List Addr} {H H' : Hp} {x : Addr} {W : Wd} (f : FrX M H H') (m : MdX M H) (h : WdAt K H x W) : WdAt K H' x W := let ⟨c, wi, pl, h1, h2⟩ := h; ⟨c, wi, pl, f.sqt m.mu h1, h2.fr f m⟩
theorem DeedAt.fr {K : PySem.W.Frag} {M : List Addr} {H H' : Hp} {v : V} {d : Deed} (f : FrX M H H') (m : MdX M H) (h : DeedAt K H v d) : DeedAt K H' v d := let ⟨a, x, y, e, h1, h2, h3⟩ := h; ⟨a, x, y, e, f.sqt m.mu h1, h2.fr f m, h3.fr f m⟩
theorem Deeds.fr {K : PySem.W.Frag} {M : List Addr} {H H' : Hp} {vs : List V} {ds : List Deed} (f : FrX M H H') (m : MdX M H) (h : Deeds K H vs ds) : Deeds K H' vs ds := ⟨h.1, fun i v d e1 e2 => (h.2 i v d e1 e2).fr f m⟩
theorem noMd {H : Hp} : MdX [] H := fun _ h => by simp at h
theorem WdIn.same {K : PySem.W.Frag} {H H' : Hp} {c wi pl : Addr} {W : Wd} (s : Same H H') (h : WdIn K H c wi pl W) : WdIn K H' c wi pl W := h.fr (M := []) s.fr noMd
theorem WdAt.same {K : PySem.W.Frag} {H H' : Hp} {x : Addr} {W : Wd} (s : Same H H') (h : WdAt K H x W) : WdAt K H' x W := h.fr (M := []) s.fr noMd
theorem Deeds.same {K : PySem.W.Frag} {H H' : Hp} {vs : List V} {ds : List Deed} (s : Same H H') (h : Deeds K H vs ds) : Deeds K H' vs ds := h.fr (M := []) s.fr noMd
theorem Deeds.snoc {K : PySem.W.Frag} {H : Hp} {vs : List V} {ds : List Deed} {v : V} {d : Deed} (h : Deeds K H vs ds) (r : DeedAt K H v d) : Deeds K H (vs ++ [v]) (ds ++ [d]) := by
  refine ⟨by simp [h.1], fun i u y e1 e2 => ?_⟩
  have l1 := h.1
  by_cases hi : i < vs.length
  · rw [List.getElem?_append_left hi] at e1
    rw [List.getElem?_append_left (by omega)] at e2
    exact h.2 i u y e1 e2
  · rw [List.getElem?_append_right (by omega)] at e1
    rw [List.getElem?_append_right (by omega)] at e2
    have h1 := (List.getElem?_eq_some_iff.mp e1).1
    simp at h1
    have e : i = vs.length := by omega
    rw [e, Nat.sub_self] at e1
    rw [e, l1, Nat.sub_self] at e2
    cases e1
    cases e2
    exact r
theorem Deeds.unsnoc {K : PySem.W.Frag} {H : Hp} {vs : List V} {ds : List Deed} {d : Deed} (h : Deeds K H vs (ds ++ [d])) : ∃ us v, vs = us ++ [v] ∧ Deeds K H us ds ∧ DeedAt K H v d := by
  have l1 := h.1
  rw [List.length_append, List.length_singleton] at l1
  have hne : vs ≠ [] := by intro e; rw [e] at l1; simp at l1
  refine ⟨vs.dropLast, vs.getLast hne, (List.dropLast_concat_getLast hne).symm, ⟨by simp; omega, fun i v d' e1 e2 => ?_⟩, ?_⟩
  · have hi : i < ds.length := (List.getElem?_eq_some_iff.mp e2).1
    refine h.2 i v d' ?_ (by rw [List.getElem?_append_left hi]; exact e2)
    rw [List.getElem?_dropLast] at e1
    split at e1
    · exact e1
    · cases e1
  · refine h.2 ds.length _ d ?_ (by rw [List.getElem?_append_right (Nat.le_refl _)]; simp)
    rw [List.getLast_eq_getElem, List.getElem?_eq_getElem (by omega)]
    congr 1
    congr 1
    omega
def DkO (K : PySem.W.Frag) (dx dl ul c wi pl li : Addr) : HO := .ins (He.ga K "Desk") dx [("done", .ref dl), ("undone", .ref ul), ("cluster", .ref c), ("wishes", .ref wi), ("placing", .ref pl), ("lines", .ref li)]
structure Dk where
  w : Wd
  done : List Deed
  undone : List Deed
structure DkAt (K : PySem.W.Frag) (H : Hp) (b dl ul : Addr) (D : Dk) : Prop where
  ex : ∃ dx c wi pl li xs ys, H b = some (DkO K dx dl ul c wi pl li) ∧ H dl = some (.lst xs) ∧ H ul = some (.lst ys) ∧ Deeds K H xs D.done ∧ Deeds K H ys D.undone ∧ WdIn K H c wi pl D.w ∧ SqT K H li (D.done.map fun d => V.str d.line)
  ne : dl ≠ ul
  z : D.done.length < 900 ∧ D.undone.length < 900
theorem DkAt.md {K : PySem.W.Frag} {H : Hp} {b dl ul : Addr} {D : Dk} (h : DkAt K H b dl ul D) : MdX [b, dl, ul] H := by
  obtain ⟨dx, c, wi, pl, li, xs, ys, h1, h2, h3, _⟩ := h.ex
  intro x hx
  simp only [List.mem_cons, List.not_mem_nil, or_false] at hx
  rcases hx with rfl | rfl | rfl
  · exact ⟨_, h1, rfl⟩
  · exact ⟨_, h2, rfl⟩
  · exact ⟨_, h3, rfl⟩
/-- other things are written: the desk stands -/
theorem DkAt.fr {K : PySem.W.Frag} {M : List Addr} {H H' : Hp} {b dl ul : Addr} {D : Dk} (f : FrX M H H') (m : MdX M H) (n : b ∉ M ∧ dl ∉ M ∧ ul ∉ M) (h : DkAt K H b dl ul D) : DkAt K H' b dl ul D := by
  obtain ⟨dx, c, wi, pl, li, xs, ys, h1, h2, h3, h4, h5, h6, h7⟩ := h.ex
  exact ⟨⟨dx, c, wi, pl, li, xs, ys, f _ _ n.1 h1, f _ _ n.2.1 h2, f _ _ n.2.2 h3, h4.fr f m, h5.fr f m, h6.fr f m, f.sqt m.mu h7⟩, h.ne, h.z⟩
theorem DkAt.same {K : PySem.W.Frag} {H H' : Hp} {b dl ul : Addr} {D : Dk} (s : Same H H') (h : DkAt K H b dl ul D) : DkAt K H' b dl ul D := h.fr (M := []) s.fr noMd ⟨by simp, by simp, by simp⟩
/-! ### stand -/
def spStand (K : PySem.W.Frag) : Sp := fun vs H Q _ => ∃ (b x C dx dl c wi pl : Addr) (fs : List (Str × V)) (xs : List V) (ls : List Str), vs = [.ref b, .ref x] ∧ C = He.ga K "Desk" ∧ H b = some (.ins C dx fs) ∧ fs.length < 900 ∧ fs.lookup ("done" : Str) = some (V.ref dl) ∧ H dl = some (.lst xs) ∧ xs.length < 1000 ∧
  (xs.length = ls.length ∧ ∀ (i : Nat) (v : V) (l : Str), xs[i]? = some v → ls[i]? = some l → ∃ a y z, v = .ref a ∧ SqT K H a [.str l, y, z]) ∧ SqT K H x [.ref c, .ref wi, .ref pl] ∧
  ∀ li H', FrX [b] H H' → H' b = some (.ins C dx (putF "lines" (.ref li) (putF "placing" (.ref pl) (putF "wishes" (.ref wi) (putF "cluster" (.ref c) fs))))) → SqT K H' li (ls.map V.str) → Q .non H'
section
variable {w : World} {K : PySem.W.Frag} {mg : Str → Option Value} {base : Heap}
theorem sc_Desk_stand : FnScope ["self", "world", "line", "_"] ["self", "world"] (defScope s_Desk_stand) := ⟨rfl, rfl, rfl, by decide +kernel, rfl, by decide +kernel, by decide +kernel⟩
theorem pg_tupB {X : Cx} {s : Shared} {H : Hp} {sc : Scope} {env : Env} {fp : List Addr} {es : List Expr} {k : Nat} {t : TGs} {n : Nat} {pos : Pos} (hc : (X.blk s H sc env fp).calm = true) (h : PGs (X.blk s H sc env fp) es t)
    (hn : (assignEach es (X.blk s H sc env fp).env).length = n) (hst : (assignEach es (X.blk s H sc env fp).env).findIdx? (·.1) = none) : L2.PG (X.blk s H sc env fp) (.Tuple es k pos) (gTup X.K n t) := pg_tup hc h hn hst
theorem ok_Desk_stand (T : Top w K mg) : HasM w K mg base 1 "Desk" "stand" ["self", "world"] (spStand K) := by
  refine .of T (has_ex (k := 0) T 41 (d := dD ("Desk", some "stand") "stand" "Desk.stand" s_Desk_stand) rfl sc_Desk_stand (fun _ => rfl) (fun _ _ _ _ _ _ us hl => match us, hl with | [_, _], _ => rfl) (fun vs H Q E h => ?_) (fun cdv A outer s H vs Q E hr h => ?_))
  · obtain ⟨b, x, C, dx, dl, c, wi, pl, fs, xs, ls, rfl, _⟩ := h
    rfl
  · obtain ⟨b, x, C, dx, dl, c, wi, pl, fs, xs, ls, rfl, rfl, hb, hf, hd, hdl, hz, hx, hw, q⟩ := h
    refine ⟨_, pss_cons (ps_asg (pv 1) (pg_tup rfl (pgs_cons (pg_fld (pv 0)) (pgs_cons (pg_fld (pv 0)) (pgs_cons (pg_fld (pv 0)) pgs_nil)))))
      (pss_one (ps_fld (pv 0) (pe_tuple T (pe_lc (own := [("line", 2), ("_", 3)]) (g := gTup K 3 (gCons (gName 2) (gCons (gName 3) (gCons (gName 3) gNil)))) (tt := tYes) rfl sc_Desk_stand.nd (pi_list (pe_fld (pv 0) rfl)) (blkOk_by (N := ["self", "world", "line", "_"]) (sc := defScope s_Desk_stand) (by decide +kernel))
        (fun _ _ _ _ _ => pg_tupB rfl (pgs_cons (pg_name (i := 2) sc_Desk_stand.nd rfl (.inl rfl)) (pgs_cons (pg_name (i := 3) sc_Desk_stand.nd rfl (.inl rfl)) (pgs_cons (pg_name (i := 3) sc_Desk_stand.nd rfl (.inl rfl)) pgs_nil))) rfl rfl) (fun _ _ _ _ _ => pts_nil) (fun _ _ _ _ _ => pv 2))) rfl)), ?_⟩
    refine ⟨_, rfl, x, _, rfl, hw, rfl, _, _, rfl, ⟨_, rfl, b, _, dx, _, rfl, hb, T.clD, T.dCl, by omega, ?_⟩⟩
    have l1 := length_putF "cluster" (V.ref c) fs
    have l2 := length_putF "wishes" (V.ref wi) (putF "cluster" (.ref c) fs)
    have l3 := length_putF "placing" (V.ref pl) (putF "wishes" (.ref wi) (putF "cluster" (.ref c) fs))
    refine ⟨_, _, rfl, ⟨_, rfl, b, _, dx, _, rfl, upd_same, T.clD, T.dWi, by omega, ?_⟩⟩
    refine ⟨_, _, rfl, ⟨_, rfl, b, _, dx, _, rfl, upd_same, T.clD, T.dPl, by omega, ?_⟩⟩
    refine ⟨rfl, ?_⟩
    have f3 : ∀ {o1 o2 o3 : HO}, FrX [b] H (upd (upd (upd H b o1) b o2) b o3) := fun {o1 o2 o3} => (((Same.refl H).fr.upd (by simp)).upd (by simp)).upd (by simp)
    have mb : MuX [b] H := MuX.one hb rfl
    have ndl : dl ≠ b := ne_of hdl hb (by intro z; cases z)
    have ll : (putF "placing" (V.ref pl) (putF "wishes" (V.ref wi) (putF "cluster" (V.ref c) fs))).lookup ("done" : Str) = some (V.ref dl) := by
      rw [lookup_putF, if_neg (by decide), lookup_putF, if_neg (by decide), lookup_putF, if_neg (by decide)]
      exact hd
    refine ⟨_, rfl, b, _, dx, _, _, rfl, upd_same, T.clD, T.dDo, ll, dl, rfl, ⟨xs, .of (by rw [upd_ne ndl, upd_ne ndl, upd_ne ndl]; exact hdl)⟩, fun D hD => ?_⟩
    refine lc_vals (walk_list (xs := xs)) (ls.map V.str) (by simp [hx.1]) hD (by have := hx.1; omega) (fun H1 s1 => .of (s1 _ _ (by rw [upd_ne ndl, upd_ne ndl, upd_ne ndl]; exact hdl))) ?_ ?_
    · rintro i v y H1 H2 N1 N0 ey s1 ⟨rfl, ex⟩ kk
      obtain ⟨l, el, rfl⟩ := map_get ey
      obtain ⟨a, y, z, rfl, ht⟩ := hx.2 i v l ex el
      refine ⟨a, _, rfl, s1.sqt (f3.sqt mb ht), rfl, _, _, rfl, _, _, rfl, _, _, rfl, rfl, rfl, yesT ?_⟩
      exact ⟨_, rfl, kk _ (Same.refl _)⟩
    · intro H1 s1 e1
      refine ⟨D, _, rfl, .inl ⟨.of e1, fun li hli => ?_⟩⟩
      refine ⟨_, rfl, b, _, dx, _, rfl, (Same.upd_new hli) _ _ (s1 _ _ upd_same), T.clD, T.dLi, by omega, ?_⟩
      have nli : li ≠ b := fun e => by
        rw [e] at hli
        rw [s1 _ _ upd_same] at hli
        cases hli
      refine q li _ ?_ upd_same (.of (by rw [upd_ne nli, upd_same]))
      refine FrX.upd ?_ (by simp)
      exact (f3.trans s1.fr).trans (Same.upd_new hli).fr
end
end K5
set_option Elab.async false
set_option linter.all false
set_option maxRecDepth 100000
set_option maxHeartbeats 4000000
namespace K5
open PySem PySem.Spec PyProof.Rows L2
/-! ### the desk's reading methods -/
def DkR (K : PySem.W.Frag) (H : Hp) (b c wi pl : Addr) (W : Wd) : Prop := (∃ dx dl ul li, H b = some (DkO K dx dl ul c wi pl li)) ∧ WdIn K H c wi pl W
theorem DkR.same {K : PySem.W.Frag} {H H' : Hp} {b c wi pl : Addr} {W : Wd} (s : Same H H') (h : DkR K H b c wi pl W) : DkR K H' b c wi pl W := let ⟨⟨dx, dl, ul, li, e⟩, i⟩ := h; ⟨⟨dx, dl, ul, li, s _ _ e⟩, i.same s⟩
def spCP (K : PySem.W.Frag) : Sp := fun vs H Q E => ∃ (b c wi pl : Addr) (W : Wd) (p : Int), vs = [.ref b, .int p] ∧ DkR K H b c wi pl W ∧ (p < W.wi.length → Q .non H) ∧ (¬ p < W.wi.length → ErW K H E (.num p))
def wishR (W : Wd) (p v : Int) : Except Er (List Int) := if p < W.wi.length then if 1 ≤ v ∧ v ≤ 3 then .ok (putL W.wi p.toNat v) else .error (.num v) else .error (.num p)
def spWish (K : PySem.W.Frag) : Sp := fun vs H Q E => ∃ (b c wi pl : Addr) (W : Wd) (p v : Int), vs = [.ref b, .int p, .int v] ∧ DkR K H b c wi pl W ∧ 0 ≤ p ∧ W.wi.length < 900 ∧ match wishR W p v with
  | .ok l => ∀ a H', Same H H' → TI K H' a l → Q (.ref a) H'
  | .error e => ErW K H E e
def pieceR (W : Wd) (v : Int) (l : List Int) : Except Er Wd :=
  if 1 ≤ v ∧ v ≤ 3 then if lotGo W.cl.ra.length none l = true ∧ l ≠ [] then if W.wi.length = 40 then .error (.many "pieces") else .ok ⟨W.cl, W.wi ++ [v], W.pl ++ [l]⟩ else .error (.lot l) else .error (.num v)
def WdEnd (K : PySem.W.Frag) (H : Hp) (Q : VK) (E : XK) : Except Er Wd → Prop
  | .ok W' => ∀ x H', Same H H' → WdAt K H' x W' → Q (.ref x) H'
  | .error e => ErW K H E e
def spPiece (K : PySem.W.Frag) : Sp := fun vs H Q E => ∃ (b c wi pl a : Addr) (W : Wd) (v : Int) (l : List Int), vs = [.ref b, .int v, .ref a] ∧ DkR K H b c wi pl W ∧ TI K H a l ∧ W.wi.length < 900 ∧ W.pl.length < 900 ∧ WdEnd K H Q E (pieceR W v l)
theorem ErW.new_lot {K : PySem.W.Frag} {H : Hp} {E : XK} {l : List Int} {a d : Addr} (q : ErW K H E (.lot l)) (ha : TI K H a l) (hd : H d = none) : E (.ref (He.ga K "InvalidLot")) (some d) (upd H d (.xd [("value", .ref a)])) :=
  q d _ a (Same.upd_new hd) ((Same.upd_new hd).sqt ha) upd_same
theorem TP.snoc {K : PySem.W.Frag} {H : Hp} {p a : Addr} {ls : List (List Int)} {l : List Int} {as : List Addr} (h1 : SqT K H p (as.map V.ref ++ [.ref a])) (h2 : as.length = ls.length) (h3 : ∀ (i : Nat) (b : Addr) (l : List Int), as[i]? = some b → ls[i]? = some l → TI K H b l) (ha : TI K H a l) : TP K H p (ls ++ [l]) := by
  refine ⟨as ++ [a], by rw [List.map_append]; exact h1, by simp [h2], fun i b m e1 e2 => ?_⟩
  by_cases hi : i < as.length
  · rw [List.getElem?_append_left hi] at e1
    rw [List.getElem?_append_left (by omega)] at e2
    exact h3 i b m e1 e2
  · rw [List.getElem?_append_right (by omega)] at e1
    rw [List.getElem?_append_right (by omega)] at e2
    have h1 := (List.getElem?_eq_some_iff.mp e1).1
    simp at h1
    have e : i = as.length := by omega
    rw [e, Nat.sub_self] at e1
    rw [e, h2, Nat.sub_self] at e2
    cases e1
    cases e2
    exact ha
section
variable {w : World} {K : PySem.W.Frag} {mg : Str → Option Value} {base : Heap}
theorem sc_Desk_check_piece : FnScope ["self", "piece"] ["self", "piece"] (defScope s_Desk_check_piece) := ⟨rfl, rfl, rfl, by decide +kernel, rfl, by decide +kernel, by decide +kernel⟩
theorem ok_Desk_check_piece (T : Top w K mg) : HasM w K mg base 3 "Desk" "check_piece" ["self", "piece"] (spCP K) := by
  refine .of T (has_ex (k := 2) T 45 (d := dD ("Desk", some "check_piece") "check_piece" "Desk.check_piece" s_Desk_check_piece) rfl sc_Desk_check_piece (fun _ => rfl) (fun _ _ _ _ _ _ us hl => match us, hl with | [_, _], _ => rfl) (fun vs H Q E h => ?_) (fun cdv A outer s H vs Q E hr h => ?_))
  · obtain ⟨b, c, wi, pl, W, p, rfl, _⟩ := h
    rfl
  · obtain ⟨b, c, wi, pl, W, p, rfl, ⟨⟨dx, dl, ul, li, hb⟩, hw⟩, q1, q2⟩ := h
    refine ⟨_, (pss_one (ps_if (pt_cmpR op_ge (pv 1) (pe_len T (pe_fld (pv 0) rfl)) (nomark _)) (pss_one (ps_err1 (k := 0) rfl (err_InvalidNumber T) rfl (hr.mono (by omega)) (takes_of rfl rfl rfl rfl) (pv 1))) pss_nil)), ?_⟩
    refine ⟨_, rfl, _, rfl, _, _, _, _, _, rfl, hb, T.clD, T.dWi, rfl, _, _, rfl, .inr hw.w, _, _, rfl, rfl, _, rfl, ?_⟩
    by_cases c : p < W.wi.length
    · refine iteC (decide_eq_false (by rw [List.length_map]; omega)) (q1 c)
    · refine iteB (decide_eq_true (by rw [List.length_map]; omega)) ⟨_, rfl, mk1_end fun d hd => ErrW.new (q2 c) hd⟩
theorem sc_Desk_wished : FnScope ["self", "piece", "wish"] ["self", "piece", "wish"] (defScope s_Desk_wished) := ⟨rfl, rfl, rfl, by decide +kernel, rfl, by decide +kernel, by decide +kernel⟩
theorem ok_Desk_wished (T : Top w K mg) : HasM w K mg base 4 "Desk" "wished" ["self", "piece", "wish"] (spWish K) := by
  refine .of T (has_ex (k := 3) T 46 (d := dD ("Desk", some "wished") "wished" "Desk.wished" s_Desk_wished) rfl sc_Desk_wished (fun _ => rfl) (fun _ _ _ _ _ _ us hl => match us, hl with | [_, _, _], _ => rfl) (fun vs H Q E h => ?_) (fun cdv A outer s H vs Q E hr h => ?_))
  · obtain ⟨b, c, wi, pl, W, p, v, rfl, _⟩ := h
    rfl
  · obtain ⟨b, c, wi, pl, W, p, v, rfl, hR, h0, hz, q⟩ := h
    obtain ⟨⟨dx, dl, ul, li, hb⟩, hw⟩ := id hR
    refine ⟨_, (pss_cons (ps_expr (pe_meX (ok_Desk_check_piece T) T.clD rfl hr (by omega) (takes_of rfl rfl rfl rfl) (pv 0) (pa_cons (pv 1) pa_nil)))
      (pss_cons (ps_if (pt_not (pt_chain op_le op_le pe_int (pv 2) (pe_gi T 3))) (pss_one (ps_err1 (k := 0) rfl (err_InvalidNumber T) rfl (hr.mono (by omega)) (takes_of rfl rfl rfl rfl) (pv 2))) pss_nil)
      (pss_one (ps_ret (pe_op op_catA (pe_op op_catA (pe_slice sl_tupA (pe_fld (pv 0) rfl) po_none (po_some (pv 1))) (pe_tup (pa_cons (pv 2) pa_nil))) (pe_slice sl_tupA (pe_fld (pv 0) rfl) (po_some (pe_op op_add (pv 1) pe_int)) po_none)))))), ?_⟩
    unfold wishR at q
    refine ⟨_, rfl, b, dx, _, rfl, hb, rfl, _, rfl, b, c, wi, pl, W, p, rfl, hR, fun c1 => ?_, fun c1 => ?_⟩
    rotate_left
    · rw [if_neg c1] at q
      exact q
    rw [if_pos c1] at q
    refine ⟨_, rfl, _, _, rfl, rfl, _, rfl, ?_⟩
    by_cases c2 : 1 ≤ v ∧ v ≤ 3
    rotate_left
    · rw [if_neg c2] at q
      by_cases c3 : 1 ≤ v
      · refine iteB (decide_eq_true c3) ⟨_, _, rfl, rfl, _, rfl, ?_⟩
        rw [show decide (v ≤ 3) = false from decide_eq_false (by omega)]
        refine iteT ⟨_, rfl, mk1_end fun d hd => ErrW.new q hd⟩
      · refine iteC (decide_eq_false c3) ⟨_, rfl, ?_⟩
        refine iteT ⟨_, rfl, mk1_end fun d hd => ErrW.new q hd⟩
    rw [if_pos c2] at q
    refine iteB (decide_eq_true c2.1) ⟨_, _, rfl, rfl, _, rfl, ?_⟩
    rw [show decide (v ≤ 3) = true from decide_eq_true c2.2]
    refine iteF ?_
    have ep : p = ((p.toNat : Nat) : Int) := by omega
    have hz2 : (W.wi.map V.int).length < 1000 := by rw [List.length_map]; omega
    refine ⟨_, rfl, _, _, _, _, _, rfl, hb, T.clD, T.dWi, rfl, ?_⟩
    refine nopart ?_
    refine ⟨_, rfl, _, rfl, ?_⟩
    rw [ep]
    refine sl_of hw.w fun p1 H1 s1 h1 => ⟨_, rfl, by show 1 ≤ sizeLine; decide, fun p2 hp => ?_⟩
    refine cat_of ((Same.upd_new hp).sqt h1) (.of upd_same) (put_z1 hz2) fun p3 H2 s3 h2 => ?_
    have s2 := s1.trans ((Same.upd_new (o := .tup [.int v]) hp).trans s3)
    refine ⟨_, rfl, _, _, _, _, _, rfl, s2 _ _ hb, T.clD, T.dWi, rfl, _, rfl, _, _, rfl, rfl, _, rfl, ?_⟩
    refine nopart ?_
    rw [ep]
    refine sl_of (s2.sqt hw.w) fun p4 H3 s4 h3 => ?_
    refine cat_of (s4.sqt h2) h3 (put_z2 hz2) fun p5 H4 s5 h4 => ?_
    have h5 := put_e h4
    have q : ∀ a H', Same H H' → TI K H' a (putL W.wi p.toNat v) → Q (.ref a) H' := q
    exact q p5 H4 (s2.trans (s4.trans s5)) (by rw [TI, putL_map]; exact h5)
theorem sc_Desk_with_piece : FnScope ["self", "wish", "lot"] ["self", "wish", "lot"] (defScope s_Desk_with_piece) := ⟨rfl, rfl, rfl, by decide +kernel, rfl, by decide +kernel, by decide +kernel⟩
theorem ok_Desk_with_piece (T : Top w K mg) : HasM w K mg base 3 "Desk" "with_piece" ["self", "wish", "lot"] (spPiece K) := by
  refine .of T (has_ex (k := 2) T 47 (d := dD ("Desk", some "with_piece") "with_piece" "Desk.with_piece" s_Desk_with_piece) rfl sc_Desk_with_piece (fun _ => rfl) (fun _ _ _ _ _ _ us hl => match us, hl with | [_, _, _], _ => rfl) (fun vs H Q E h => ?_) (fun cdv A outer s H vs Q E hr h => ?_))
  · obtain ⟨b, c, wi, pl, a, W, v, l, rfl, _⟩ := h
    rfl
  · obtain ⟨b, c, wi, pl, a, W, v, l, rfl, hR, ha, hz, hz2, q⟩ := h
    obtain ⟨⟨dx, dl, ul, li, hb⟩, hw⟩ := id hR
    refine ⟨_, (pss_cons (ps_if (pt_not (pt_chain op_le op_le pe_int (pv 1) (pe_gi T 3))) (pss_one (ps_err1 (k := 0) rfl (err_InvalidNumber T) rfl (hr.mono (by omega)) (takes_of rfl rfl rfl rfl) (pv 1))) pss_nil)
      (pss_cons (ps_if (PW.pt (pw_or (pt_not (pt_val (pe_fn (ok_is_lot_of T) rfl hr (by omega) (pa_cons (pe_fld (pv 0) rfl) (pa_cons (pv 2) pa_nil))))) (pw_or1 (pt_cmpR op_eq (pe_len T (pv 2)) pe_int (nomark _))))) (pss_one (ps_err1 (k := 0) rfl (err_InvalidLot T) rfl (hr.mono (by omega)) (takes_of rfl rfl rfl rfl) (pv 2))) pss_nil)
      (pss_cons (ps_if (pt_cmpR op_eq (pe_len T (pe_fld (pv 0) rfl)) (pe_gi T 40) (nomark _)) (pss_one (ps_err1 (k := 0) rfl (err_TooMany T) rfl (hr.mono (by omega)) (takes_of rfl rfl rfl rfl) pe_str)) pss_nil)
      (pss_one (ps_ret (pe_tup (pa_cons (pe_fld (pv 0) rfl) (pa_cons (pe_op op_catA (pe_fld (pv 0) rfl) (pe_tup (pa_cons (pv 1) pa_nil))) (pa_cons (pe_op op_catA (pe_fld (pv 0) rfl) (pe_tup (pa_cons (pv 2) pa_nil))) pa_nil))))))))), ?_⟩
    unfold pieceR at q
    refine ⟨_, rfl, _, _, rfl, rfl, _, rfl, ?_⟩
    by_cases c2 : 1 ≤ v ∧ v ≤ 3
    rotate_left
    · rw [if_neg c2] at q
      by_cases c3 : 1 ≤ v
      · refine iteB (decide_eq_true c3) ⟨_, _, rfl, rfl, _, rfl, ?_⟩
        rw [show decide (v ≤ 3) = false from decide_eq_false (by omega)]
        refine iteT ⟨_, rfl, mk1_end fun d hd => ErrW.new q hd⟩
      · refine iteC (decide_eq_false c3) ⟨_, rfl, ?_⟩
        refine iteT ⟨_, rfl, mk1_end fun d hd => ErrW.new q hd⟩
    rw [if_pos c2] at q
    refine iteB (decide_eq_true c2.1) ⟨_, _, rfl, rfl, _, rfl, ?_⟩
    rw [show decide (v ≤ 3) = true from decide_eq_true c2.2]
    refine iteF ?_
    refine ⟨_, rfl, _, _, _, _, _, rfl, hb, T.clD, T.dCl, rfl, _, rfl, c, a, W.cl, l, rfl, hw.c, ha, fun H1 s1 => ⟨_, rfl, ?_⟩⟩
    cases cl : lotGo W.cl.ra.length none l with
    | false =>
      rw [if_neg (by rw [cl]; simp)] at q
      have q : ErW K H E (.lot l) := q
      refine iteT ?_
      exact iteT ⟨_, rfl, mk1_end fun d hd => (q.same s1).new_lot (s1.sqt ha) hd⟩
    | true =>
      refine iteF ⟨_, rfl, _, _, rfl, .inr (s1.sqt ha), rfl, _, rfl, ?_⟩
      by_cases cn : l = []
      · rw [if_neg (by simp [cn])] at q
        have q : ErW K H E (.lot l) := q
        refine iteB (by rw [cn]; rfl) ⟨_, rfl, mk1_end fun d hd => (q.same s1).new_lot (s1.sqt ha) hd⟩
      rw [if_pos ⟨cl, cn⟩] at q
      have lp := List.length_pos_iff.mpr cn
      refine iteC (by rw [dec_int]; simp; omega) ?_
      refine ⟨_, rfl, _, _, _, _, _, rfl, s1 _ _ hb, T.clD, T.dWi, rfl, _, _, rfl, .inr (s1.sqt hw.w), rfl, _, rfl, ?_⟩
      by_cases c40 : W.wi.length = 40
      · rw [if_pos c40] at q
        have q : ErW K H E (.many "pieces") := q
        refine iteB (by rw [dec_int]; simp [c40]) ?_
        exact mk1_end fun d hd => ErrW.new (q.same s1) hd
      rw [if_neg c40] at q
      refine iteC (by rw [dec_int]; simp; omega) ?_
      obtain ⟨as, hp, hl, hi⟩ := id hw.p
      refine ⟨_, rfl, _, _, _, _, _, rfl, s1 _ _ hb, T.clD, T.dCl, rfl, _, rfl, _, _, _, _, _, rfl, s1 _ _ hb, T.clD, T.dWi, rfl, _, rfl, by show 1 ≤ sizeLine; decide, fun p1 hp1 => ?_⟩
      refine app_of (s1.sqt hw.w) hp1 (by omega) fun p2 H2 s2 h2 => ?_
      have s12 := s1.trans s2
      refine ⟨_, rfl, _, _, _, _, _, rfl, s12 _ _ hb, T.clD, T.dPl, rfl, _, rfl, by show 1 ≤ sizeLine; decide, fun p3 hp3 => ?_⟩
      refine cat_of ((Same.upd_new hp3).sqt (s12.sqt hp)) (.of upd_same) (sl_small (by simp; omega)) fun p4 H4 s4 h4 => ?_
      have s14 := s12.trans ((Same.upd_new (o := .tup [.ref a]) hp3).trans s4)
      refine ⟨by show 3 ≤ sizeLine; decide, fun x hx => ?_⟩
      have sx := Same.upd_new (o := .tup [.ref c, .ref p2, .ref p4]) hx
      have q : ∀ x H', Same H H' → WdAt K H' x ⟨W.cl, W.wi ++ [v], W.pl ++ [l]⟩ → Q (.ref x) H' := q
      have s24 := (Same.upd_new (o := .tup [.ref a]) hp3).trans s4
      exact q x _ (s14.trans sx) ⟨c, p2, p4, .of upd_same, (hw.c.same (s14.trans sx)), (s24.trans sx).sqt h2, TP.snoc (sx.sqt h4) hl (fun i b m e1 e2 => (s14.trans sx).sqt (hi i b m e1 e2)) ((s14.trans sx).sqt ha)⟩
/-! ### led -/
inductive Dd where
  | store (a b d : Int)
  | room (s v : Int)
  | rack (s v : Int)
  | rate (s v : Int)
  | wish (p v : Int)
  | piece (v : Int) (l : List Int)
def Dd.word : Dd → Str
  | .store .. => "store"
  | .room .. => "room"
  | .rack .. => "rack"
  | .rate .. => "rate"
  | .wish .. => "wish"
  | .piece .. => "piece"
def Dd.vals : Dd → List VV
  | .store a b d => [.int a, .int b, .int d]
  | .room s v => [.int s, .int v]
  | .rack s v => [.int s, .int v]
  | .rate s v => [.int s, .int v]
  | .wish p v => [.int p, .int v]
  | .piece v l => [.int v, .lst l]
def toW (W : Wd) : Except Er Cl → Except Er Wd
  | .ok c => .ok ⟨c, W.wi, W.pl⟩
  | .error e => .error e
def ledR (W : Wd) : Dd → Except Er Wd
  | .store a b d => toW W (storeR W.cl a b d)
  | .room s v => toW W (roomR W.cl s v)
  | .rack s v => toW W (rackR W.cl s v)
  | .rate s v => toW W (rateR W.cl s v)
  | .wish p v => match wishR W p v with
    | .ok l => .ok ⟨W.cl, l, W.pl⟩
    | .error e => .error e
  | .piece v l => pieceR W v l
def Dd.nn : Dd → Prop
  | .wish p _ => 0 ≤ p
  | _ => True
def spLed (K : PySem.W.Frag) : Sp := fun vs H Q E => ∃ (b c wi pl F : Addr) (W : Wd) (d : Dd) (xs : List V), vs = [.ref b, .str d.word, .ref F] ∧ DkR K H b c wi pl W ∧ H F = some (.lst xs) ∧ VVs K H xs d.vals ∧ d.nn ∧ W.wi.length < 900 ∧ W.pl.length < 900 ∧ WdEnd K H Q E (ledR W d)
theorem sc_Desk_led : FnScope ["self", "word", "values", "cluster"] ["self", "word", "values"] (defScope s_Desk_led) := ⟨rfl, rfl, rfl, by decide +kernel, rfl, by decide +kernel, by decide +kernel⟩
end
end K5
set_option Elab.async false
set_option linter.all false
set_option maxRecDepth 100000
set_option maxHeartbeats 4000000
namespace K5
open PySem PySem.Spec PyProof.Rows L2
/-! ### led -/
theorem strT {a b : Str} (h : (a == b) = true) : decide (V.str a = V.str b) = true := by rw [dec_str]; exact h
theorem strF {a b : Str} (h : (a == b) = false) : decide (V.str a = V.str b) = false := by rw [dec_str]; exact h
theorem vv2 {K : PySem.W.Frag} {H : Hp} {xs : List V} {s v : Int} (h : VVs K H xs [.int s, .int v]) : xs = [V.int s, V.int v] := by
  obtain ⟨h1, h2⟩ := h
  match xs, h1 with
  | [a, b], _ =>
    have e1 : a = .int s := h2 0 a (.int s) rfl rfl
    have e2 : b = .int v := h2 1 b (.int v) rfl rfl
    rw [e1, e2]
theorem vv3 {K : PySem.W.Frag} {H : Hp} {xs : List V} {s v t : Int} (h : VVs K H xs [.int s, .int v, .int t]) : xs = [V.int s, V.int v, V.int t] := by
  obtain ⟨h1, h2⟩ := h
  match xs, h1 with
  | [a, b, c], _ =>
    have e1 : a = .int s := h2 0 a (.int s) rfl rfl
    have e2 : b = .int v := h2 1 b (.int v) rfl rfl
    have e3 : c = .int t := h2 2 c (.int t) rfl rfl
    rw [e1, e2, e3]
theorem vvp {K : PySem.W.Frag} {H : Hp} {xs : List V} {v : Int} {l : List Int} (h : VVs K H xs [.int v, .lst l]) : ∃ a, xs = [V.int v, .ref a] ∧ TI K H a l := by
  obtain ⟨h1, h2⟩ := h
  match xs, h1 with
  | [a, b], _ =>
    have e1 : a = .int v := h2 0 a (.int v) rfl rfl
    obtain ⟨p, e2, t⟩ : ∃ p, b = .ref p ∧ TI K H p l := h2 1 b (.lst l) rfl rfl
    exact ⟨p, by rw [e1, e2], t⟩
theorem ClEnd.mono {K : PySem.W.Frag} {H : Hp} {Q Q' : VK} {E : XK} {R : Except Er Cl} (h : ClEnd K H Q E R) (m : ∀ v H', Q v H' → Q' v H') : ClEnd K H Q' E R := by
  cases R with
  | ok k => exact fun p H' s x => m _ _ (h p H' s x)
  | error e => exact h
section
variable {w : World} {K : PySem.W.Frag} {mg : Str → Option Value} {base : Heap}
theorem ok_Desk_led (T : Top w K mg) : HasM w K mg base 6 "Desk" "led" ["self", "word", "values"] (spLed K) := by
  refine .of T (has_ex (k := 5) T 44 (d := dD ("Desk", some "led") "led" "Desk.led" s_Desk_led) rfl sc_Desk_led (fun _ => rfl) (fun _ _ _ _ _ _ us hl => match us, hl with | [_, _, _], _ => rfl) (fun vs H Q E h => ?_) (fun cdv A outer s H vs Q E hr h => ?_))
  · obtain ⟨b, c, wi, pl, F, W, d, xs, rfl, _⟩ := h
    rfl
  · obtain ⟨b, c, wi, pl, F, W, d, xs, rfl, hR, hF, hv, hn, hz, hz2, q⟩ := h
    obtain ⟨⟨dx, dl, ul, li, hb⟩, hw⟩ := id hR
    obtain ⟨⟨dxc, xa, xb, xd, hcl, _⟩, _⟩ := id hw.c
    refine ⟨_, (pss_cons (ps_set (i := 3) sc_Desk_led.nd rfl (Or.inl rfl) (pe_fld (pv 0) rfl))
      (pss_cons (ps_if (pt_cmpR op_eq (pv 1) pe_str (nomark _)) (pss_one (ps_set (i := 3) sc_Desk_led.nd rfl (Or.inl rfl) (pe_meX (ok_Cluster_with_store T) T.clC rfl hr (by omega) (takes_of rfl rfl rfl rfl) (pv 3) (pa_cons (pe_ix ix_list (pv 2) pe_int (fun _ _ => rfl)) (pa_cons (pe_ix ix_list (pv 2) pe_int (fun _ _ => rfl)) (pa_cons (pe_ix ix_list (pv 2) pe_int (fun _ _ => rfl)) pa_nil)))))) (pss_one (ps_if (pt_cmpR op_eq (pv 1) pe_str (nomark _)) (pss_one (ps_set (i := 3) sc_Desk_led.nd rfl (Or.inl rfl) (pe_meX (ok_Cluster_with_room T) T.clC rfl hr (by omega) (takes_of rfl rfl rfl rfl) (pv 3) (pa_cons (pe_ix ix_list (pv 2) pe_int (fun _ _ => rfl)) (pa_cons (pe_ix ix_list (pv 2) pe_int (fun _ _ => rfl)) pa_nil))))) (pss_one (ps_if (pt_cmpR op_eq (pv 1) pe_str (nomark _)) (pss_one (ps_set (i := 3) sc_Desk_led.nd rfl (Or.inl rfl) (pe_meX (ok_Cluster_with_rack T) T.clC rfl hr (by omega) (takes_of rfl rfl rfl rfl) (pv 3) (pa_cons (pe_ix ix_list (pv 2) pe_int (fun _ _ => rfl)) (pa_cons (pe_ix ix_list (pv 2) pe_int (fun _ _ => rfl)) pa_nil))))) (pss_one (ps_if (pt_cmpR op_eq (pv 1) pe_str (nomark _)) (pss_one (ps_set (i := 3) sc_Desk_led.nd rfl (Or.inl rfl) (pe_meX (ok_Cluster_with_rate T) T.clC rfl hr (by omega) (takes_of rfl rfl rfl rfl) (pv 3) (pa_cons (pe_ix ix_list (pv 2) pe_int (fun _ _ => rfl)) (pa_cons (pe_ix ix_list (pv 2) pe_int (fun _ _ => rfl)) pa_nil))))) (pss_one (ps_if (pt_cmpR op_eq (pv 1) pe_str (nomark _)) (pss_one (ps_ret (pe_tup (pa_cons (pv 3) (pa_cons (pe_meX (ok_Desk_wished T) T.clD rfl hr (by omega) (takes_of rfl rfl rfl rfl) (pv 0) (pa_cons (pe_ix ix_list (pv 2) pe_int (fun _ _ => rfl)) (pa_cons (pe_ix ix_list (pv 2) pe_int (fun _ _ => rfl)) pa_nil))) (pa_cons (pe_fld (pv 0) rfl) pa_nil)))))) (pss_one (ps_if (pt_cmpR op_eq (pv 1) pe_str (nomark _)) (pss_one (ps_ret (pe_meX (ok_Desk_with_piece T) T.clD rfl hr (by omega) (takes_of rfl rfl rfl rfl) (pv 0) (pa_cons (pe_ix ix_list (pv 2) pe_int (fun _ _ => rfl)) (pa_cons (pe_ix ix_list (pv 2) pe_int (fun _ _ => rfl)) pa_nil))))) pss_never)))))))))))
      (pss_one (ps_ret (pe_tup (pa_cons (pv 3) (pa_cons (pe_fld (pv 0) rfl) (pa_cons (pe_fld (pv 0) rfl) pa_nil)))))))), ?_⟩
    refine ⟨_, rfl, _, _, _, _, _, rfl, hb, T.clD, T.dCl, rfl, ?_⟩
    have fin : ∀ {H1 : Hp} {c' : Addr} {k : Cl}, Same H H1 → ClA K H1 c' k → (∀ x H', Same H H' → WdAt K H' x ⟨k, W.wi, W.pl⟩ → Q (.ref x) H') → ∀ x, H1 x = none → Q (.ref x) (upd H1 x (.tup [.ref c', .ref wi, .ref pl])) := fun {H1 c' k} s1 hc' q x hx => by
      have sx := Same.upd_new (o := .tup [.ref c', .ref wi, .ref pl]) hx
      exact q x _ (s1.trans sx) ⟨c', wi, pl, .of upd_same, (hc'.same sx), (s1.trans sx).sqt hw.w, (s1.trans sx).tp hw.p⟩
    have go : ∀ {R : Except Er Cl}, WdEnd K H Q E (toW W R) → ClEnd K H (fun v H1 => ∃ c' k, v = .ref c' ∧ Same H H1 ∧ ClA K H1 c' k ∧ ∀ x H', Same H H' → WdAt K H' x ⟨k, W.wi, W.pl⟩ → Q (.ref x) H') E R := fun {R} q => by
      cases R with
      | ok k => exact fun p H' s h => ⟨p, k, rfl, s, h, q⟩
      | error e => exact q
    cases d with
    | store i j k =>
      have e := vv3 hv
      subst e
      refine ⟨_, rfl, rfl, _, rfl, ?_⟩
      refine iteB (strT rfl) ?_
      refine ⟨_, rfl, c, _, _, rfl, hcl, rfl, _, rfl, F, _, _, _, rfl, rfl, .of hF, atI_eq (i := 0) rfl rfl, _, rfl, F, _, _, _, rfl, rfl, .of hF, atI_eq (i := 1) rfl rfl, _, rfl, F, _, _, _, rfl, rfl, .of hF, atI_eq (i := 2) rfl rfl, c, i, j, k, W.cl, rfl, hw.c, ?_⟩
      refine ClEnd.mono (go q) ?_
      rintro v H1 ⟨c', k', rfl, s1, hc', q⟩
      refine ⟨_, rfl, _, rfl, _, _, _, _, _, rfl, s1 _ _ hb, T.clD, T.dWi, rfl, _, rfl, _, _, _, _, _, rfl, s1 _ _ hb, T.clD, T.dPl, rfl, by show 3 ≤ sizeLine; decide, fun x hx => ?_⟩
      exact fin s1 hc' q x hx
    | room s v =>
      have e := vv2 hv
      subst e
      refine ⟨_, rfl, rfl, _, rfl, ?_⟩
      refine iteC (strF rfl) ⟨_, rfl, rfl, _, rfl, ?_⟩
      refine iteB (strT rfl) ?_
      refine ⟨_, rfl, c, _, _, rfl, hcl, rfl, _, rfl, F, _, _, _, rfl, rfl, .of hF, atI_eq (i := 0) rfl rfl, _, rfl, F, _, _, _, rfl, rfl, .of hF, atI_eq (i := 1) rfl rfl, c, s, v, W.cl, rfl, hw.c, ?_⟩
      refine ClEnd.mono (go q) ?_
      rintro v H1 ⟨c', k', rfl, s1, hc', q⟩
      refine ⟨_, rfl, _, rfl, _, _, _, _, _, rfl, s1 _ _ hb, T.clD, T.dWi, rfl, _, rfl, _, _, _, _, _, rfl, s1 _ _ hb, T.clD, T.dPl, rfl, by show 3 ≤ sizeLine; decide, fun x hx => ?_⟩
      exact fin s1 hc' q x hx
    | rack s v =>
      have e := vv2 hv
      subst e
      refine ⟨_, rfl, rfl, _, rfl, ?_⟩
      refine iteC (strF rfl) ⟨_, rfl, rfl, _, rfl, ?_⟩
      refine iteC (strF rfl) ⟨_, rfl, rfl, _, rfl, ?_⟩
      refine iteB (strT rfl) ?_
      refine ⟨_, rfl, c, _, _, rfl, hcl, rfl, _, rfl, F, _, _, _, rfl, rfl, .of hF, atI_eq (i := 0) rfl rfl, _, rfl, F, _, _, _, rfl, rfl, .of hF, atI_eq (i := 1) rfl rfl, c, s, v, W.cl, rfl, hw.c, ?_⟩
      refine ClEnd.mono (go q) ?_
      rintro v H1 ⟨c', k', rfl, s1, hc', q⟩
      refine ⟨_, rfl, _, rfl, _, _, _, _, _, rfl, s1 _ _ hb, T.clD, T.dWi, rfl, _, rfl, _, _, _, _, _, rfl, s1 _ _ hb, T.clD, T.dPl, rfl, by show 3 ≤ sizeLine; decide, fun x hx => ?_⟩
      exact fin s1 hc' q x hx
    | rate s v =>
      have e := vv2 hv
      subst e
      refine ⟨_, rfl, rfl, _, rfl, ?_⟩
      refine iteC (strF rfl) ⟨_, rfl, rfl, _, rfl, ?_⟩
      refine iteC (strF rfl) ⟨_, rfl, rfl, _, rfl, ?_⟩
      refine iteC (strF rfl) ⟨_, rfl, rfl, _, rfl, ?_⟩
      refine iteB (strT rfl) ?_
      refine ⟨_, rfl, c, _, _, rfl, hcl, rfl, _, rfl, F, _, _, _, rfl, rfl, .of hF, atI_eq (i := 0) rfl rfl, _, rfl, F, _, _, _, rfl, rfl, .of hF, atI_eq (i := 1) rfl rfl, c, s, v, W.cl, rfl, hw.c, ?_⟩
      refine ClEnd.mono (go q) ?_
      rintro v H1 ⟨c', k', rfl, s1, hc', q⟩
      refine ⟨_, rfl, _, rfl, _, _, _, _, _, rfl, s1 _ _ hb, T.clD, T.dWi, rfl, _, rfl, _, _, _, _, _, rfl, s1 _ _ hb, T.clD, T.dPl, rfl, by show 3 ≤ sizeLine; decide, fun x hx => ?_⟩
      exact fin s1 hc' q x hx
    | wish p v =>
      have e := vv2 hv
      subst e
      refine ⟨_, rfl, rfl, _, rfl, ?_⟩
      refine iteC (strF rfl) ⟨_, rfl, rfl, _, rfl, ?_⟩
      refine iteC (strF rfl) ⟨_, rfl, rfl, _, rfl, ?_⟩
      refine iteC (strF rfl) ⟨_, rfl, rfl, _, rfl, ?_⟩
      refine iteC (strF rfl) ⟨_, rfl, rfl, _, rfl, ?_⟩
      refine iteB (strT rfl) ?_
      refine ⟨_, rfl, _, rfl, b, _, _, rfl, hb, rfl, _, rfl, F, _, _, _, rfl, rfl, .of hF, atI_eq (i := 0) rfl rfl, _, rfl, F, _, _, _, rfl, rfl, .of hF, atI_eq (i := 1) rfl rfl, b, c, wi, pl, W, p, v, rfl, hR, hn, hz, ?_⟩
      have q : WdEnd K H Q E (match wishR W p v with | .ok l => .ok ⟨W.cl, l, W.pl⟩ | .error e => .error e) := q
      cases e : wishR W p v with
      | error e' =>
        rw [e] at q
        exact q
      | ok l =>
        rw [e] at q
        have q : ∀ x H', Same H H' → WdAt K H' x ⟨W.cl, l, W.pl⟩ → Q (.ref x) H' := q
        intro a H1 s1 h1
        refine ⟨_, rfl, _, _, _, _, _, rfl, s1 _ _ hb, T.clD, T.dPl, rfl, by show 3 ≤ sizeLine; decide, fun x hx => ?_⟩
        have sx := Same.upd_new (o := .tup [.ref c, .ref a, .ref pl]) hx
        exact q x _ (s1.trans sx) ⟨c, a, pl, .of upd_same, hw.c.same (s1.trans sx), sx.sqt h1, (s1.trans sx).tp hw.p⟩
    | piece v l =>
      obtain ⟨a, e, ha⟩ := vvp hv
      subst e
      refine ⟨_, rfl, rfl, _, rfl, ?_⟩
      refine iteC (strF rfl) ⟨_, rfl, rfl, _, rfl, ?_⟩
      refine iteC (strF rfl) ⟨_, rfl, rfl, _, rfl, ?_⟩
      refine iteC (strF rfl) ⟨_, rfl, rfl, _, rfl, ?_⟩
      refine iteC (strF rfl) ⟨_, rfl, rfl, _, rfl, ?_⟩
      refine iteC (strF rfl) ⟨_, rfl, rfl, _, rfl, ?_⟩
      refine iteB (strT rfl) ?_
      exact ⟨_, rfl, b, _, _, rfl, hb, rfl, _, rfl, F, _, _, _, rfl, rfl, .of hF, atI_eq (i := 0) rfl rfl, _, rfl, F, _, _, _, rfl, rfl, .of hF, atI_eq (i := 1) rfl rfl, b, c, wi, pl, a, W, v, l, rfl, hR, ha, hz, hz2, q⟩
end
end K5
set_option Elab.async false
set_option linter.all false
set_option maxRecDepth 100000
set_option maxHeartbeats 4000000
namespace K5
open PySem PySem.Spec PyProof.Rows L2
/-! ### deed, undo, redo -/
def DkEnd (K : PySem.W.Frag) (H : Hp) (Q : VK) (E : XK) (b dl : Addr) (D : Dk) (line : Str) : Except Er Wd → Prop
  | .ok W' => ∀ ul' H', FrX [b, dl] H H' → H ul' = none → DkAt K H' b dl ul' ⟨W', D.done ++ [⟨line, D.w, W'⟩], []⟩ → Q (.str "") H'
  | .error e => ErW K H E e
def spDeed (K : PySem.W.Frag) : Sp := fun vs H Q E => ∃ (b dl ul F : Addr) (D : Dk) (line : Str) (d : Dd) (xs : List V), vs = [.ref b, .str line, .str d.word, .ref F] ∧ DkAt K H b dl ul D ∧ D.done.length < 800 ∧ H F = some (.lst xs) ∧ VVs K H xs d.vals ∧ d.nn ∧ D.w.wi.length < 900 ∧ D.w.pl.length < 900 ∧ DkEnd K H Q E b dl D line (ledR D.w d)
theorem Deeds.stand {K : PySem.W.Frag} {H : Hp} {xs : List V} {ds : List Deed} (h : Deeds K H xs ds) : xs.length = (ds.map Deed.line).length ∧ ∀ (i : Nat) (v : V) (l : Str), xs[i]? = some v → (ds.map Deed.line)[i]? = some l → ∃ a y z, v = .ref a ∧ SqT K H a [.str l, y, z] := by
  refine ⟨by rw [List.length_map]; exact h.1, fun i v l e1 e2 => ?_⟩
  obtain ⟨d, ed, rfl⟩ := map_get e2
  obtain ⟨a, x, y, e, t, _⟩ := h.2 i v d e1 ed
  exact ⟨a, _, _, e, t⟩
theorem snoc_or {α : Type} (l : List α) : l = [] ∨ ∃ es e, l = es ++ [e] := by
  by_cases h : l = []
  · exact .inl h
  · exact .inr ⟨l.dropLast, l.getLast h, (List.dropLast_concat_getLast h).symm⟩
section
variable {w : World} {K : PySem.W.Frag} {mg : Str → Option Value} {base : Heap}
theorem sc_Desk_deed : FnScope ["self", "line", "word", "values", "ahead", "behind"] ["self", "line", "word", "values"] (defScope s_Desk_deed) := ⟨rfl, rfl, rfl, by decide +kernel, rfl, by decide +kernel, by decide +kernel⟩
theorem ok_Desk_deed (T : Top w K mg) : HasM w K mg base 7 "Desk" "deed" ["self", "line", "word", "values"] (spDeed K) := by
  refine .of T (has_ex (k := 6) T 43 (d := dD ("Desk", some "deed") "deed" "Desk.deed" s_Desk_deed) rfl sc_Desk_deed (fun _ => rfl) (fun _ _ _ _ _ _ us hl => match us, hl with | [_, _, _, _], _ => rfl) (fun vs H Q E h => ?_) (fun cdv A outer s H vs Q E hr h => ?_))
  · obtain ⟨b, dl, ul, F, D, line, d, xs, rfl, _⟩ := h
    rfl
  · obtain ⟨b, dl, ul, F, D, line, d, xs, rfl, hD, hdz, hF, hv, hn, hz, hz2, q⟩ := h
    obtain ⟨⟨dx, c, wi, pl, li, ds, us, hb, hdl, hul, hds, hus, hw, hli⟩, hne, hsz⟩ := id hD
    refine ⟨_, (pss_cons (ps_set (i := 4) sc_Desk_deed.nd rfl (Or.inl rfl) (pe_tup (pa_cons (pe_fld (pv 0) rfl) (pa_cons (pe_fld (pv 0) rfl) (pa_cons (pe_fld (pv 0) rfl) pa_nil)))))
      (pss_cons (ps_set (i := 5) sc_Desk_deed.nd rfl (Or.inl rfl) (pe_meX (ok_Desk_led T) T.clD rfl hr (by omega) (takes_of rfl rfl rfl rfl) (pv 0) (pa_cons (pv 2) (pa_cons (pv 3) pa_nil))))
      (pss_cons (ps_expr (pe_bm PySem.F.plainAttrs_list PySem.F.slot_list_append PySem.F.type_list_append mt_append (pe_fld (pv 0) rfl) (pa_cons (pe_tup (pa_cons (pv 1) (pa_cons (pv 4) (pa_cons (pv 5) pa_nil)))) pa_nil)))
      (pss_cons (ps_fld (pv 0) (pe_lst pa_nil) rfl)
      (pss_cons (ps_expr (pe_meX (ok_Desk_stand T) T.clD rfl hr (by omega) (takes_of rfl rfl rfl rfl) (pv 0) (pa_cons (pv 5) pa_nil)))
      (pss_one (ps_ret pe_str))))))), ?_⟩
    refine ⟨_, rfl, _, _, _, _, _, rfl, hb, T.clD, T.dCl, rfl, _, rfl, _, _, _, _, _, rfl, hb, T.clD, T.dWi, rfl, _, rfl, _, _, _, _, _, rfl, hb, T.clD, T.dPl, rfl, by show 3 ≤ sizeLine; decide, fun p hp => ?_⟩
    have s1 : Same H (upd H p (.tup [.ref c, .ref wi, .ref pl])) := Same.upd_new hp
    refine ⟨_, rfl, b, dx, _, rfl, s1 _ _ hb, rfl, _, rfl, _, rfl, b, c, wi, pl, F, D.w, d, xs, rfl, ⟨⟨dx, dl, ul, li, s1 _ _ hb⟩, hw.same s1⟩, s1 _ _ hF, hv.fr (M := []) s1.fr noMu, hn, hz, hz2, ?_⟩
    cases e : ledR D.w d with
    | error e' =>
      rw [e] at q
      exact ErW.same q s1
    | ok W' =>
      rw [e] at q
      have q : ∀ ul' H', FrX [b, dl] H H' → H ul' = none → DkAt K H' b dl ul' ⟨W', D.done ++ [⟨line, D.w, W'⟩], []⟩ → Q (.str "") H' := q
      intro x H2 s2 hx
      have s12 := s1.trans s2
      have hpW : WdAt K H2 p D.w := ⟨c, wi, pl, s2.sqt (.of upd_same), hw.same s12⟩
      have lz : ds.length = D.done.length := hds.1
      refine ⟨_, rfl, _, _, _, _, _, rfl, s12 _ _ hb, T.clD, T.dDo, rfl, .inl ⟨rfl, _, .of (s12 _ _ hdl)⟩, _, rfl, _, rfl, _, rfl, by show 3 ≤ sizeLine; decide, fun t ht => ?_⟩
      have st : Same H2 (upd H2 t (.tup [.str line, .ref p, .ref x])) := Same.upd_new ht
      have s13 := s12.trans st
      refine ⟨dl, ds, .ref t, rfl, rfl, s13 _ _ hdl, Nat.lt_of_lt_of_le (by omega : ds.length < 1000) (sl_small (by decide)), ?_⟩
      refine ⟨by show 0 ≤ sizeLine; decide, fun n hnew => ?_⟩
      have ndb : dl ≠ b := ne_of hdl hb (by intro z; cases z)
      have nnd : n ≠ dl := fun z => by rw [z, upd_same] at hnew; cases hnew
      have hn2 : (upd H2 t (.tup [.str line, .ref p, .ref x])) n = none := by rw [upd_ne nnd] at hnew; exact hnew
      have hHn : H n = none := s13.free hn2
      have nnb : n ≠ b := fun z => by rw [z] at hHn; rw [hHn] at hb; cases hb
      have hb5 : (upd (upd (upd H2 t (.tup [.str line, .ref p, .ref x])) dl (.lst (ds ++ [.ref t]))) n (.lst [])) b = some (DkO K dx dl ul c wi pl li) := by
        rw [upd_ne nnb.symm, upd_ne ndb.symm]
        exact s13 _ _ hb
      refine ⟨_, rfl, b, _, dx, _, rfl, hb5, T.clD, T.dUn, (show (6 : Nat) < 1000 by decide), ?_⟩
      have f5 : ∀ {o : HO}, FrX [b, dl] H (upd (upd (upd (upd H2 t (.tup [.str line, .ref p, .ref x])) dl (.lst (ds ++ [.ref t]))) n (.lst [])) b o) := fun {o} => by
        refine FrX.upd (FrX.trans ?_ (Same.upd_new hnew).fr) (by simp)
        exact FrX.upd s13.fr (by simp)
      have g5 : ∀ {o : HO}, FrX [b, dl] (upd H2 t (.tup [.str line, .ref p, .ref x])) (upd (upd (upd (upd H2 t (.tup [.str line, .ref p, .ref x])) dl (.lst (ds ++ [.ref t]))) n (.lst [])) b o) := fun {o} => by
        refine FrX.upd (FrX.trans ?_ (Same.upd_new hnew).fr) (by simp)
        exact FrX.upd (Same.refl _).fr (by simp)
      have md : MdX [b, dl] H := fun y hy => hD.md y (by simp at hy ⊢; rcases hy with rfl | rfl <;> simp)
      have mdS : ∀ {H' : Hp}, Same H H' → MdX [b, dl] H' := fun {H'} s y hy => let ⟨o, e, i⟩ := md y hy; ⟨o, s _ _ e, i⟩
      obtain ⟨c', wi', pl', hxt, hxW⟩ := id hx
      have d2 := hds.fr (M := []) s13.fr noMd
      have dt : DeedAt K (upd H2 t (.tup [.str line, .ref p, .ref x])) (.ref t) ⟨line, D.w, W'⟩ := ⟨t, p, x, rfl, .of upd_same, hpW.same st, hx.same st⟩
      have d3 := d2.snoc dt
      refine ⟨_, rfl, b, dx, _, rfl, upd_same, rfl, _, rfl, b, x, _, dx, dl, c', wi', pl', _, ds ++ [.ref t], (D.done ++ [(⟨line, D.w, W'⟩ : Deed)]).map Deed.line, rfl, rfl, upd_same, (show (6 : Nat) < 900 by decide), rfl, ?_, by rw [List.length_append, List.length_singleton]; omega, ?_, ?_, fun li' H6 f6 e6 h6 => ?_⟩
      · rw [upd_ne ndb, upd_ne nnd.symm, upd_same]
      · exact (d3.fr g5 (mdS s13)).stand
      · exact g5.sqt (mdS s13).mu ((st.sqt hxt))
      · have f6' := f6.mono (M' := [b, dl]) (by simp)
        have fA := f5.trans f6'
        have gA := g5.trans f6'
        have e6' : H6 b = some (DkO K dx dl n c' wi' pl' li') := e6
        have n6 : H6 n = some (.lst []) := f6 _ _ (by simpa using nnb) (by rw [upd_ne nnb, upd_same])
        have dl6 : H6 dl = some (.lst (ds ++ [.ref t])) := f6 _ _ (by simpa using ndb) (by rw [upd_ne ndb, upd_ne nnd.symm, upd_same])
        refine q n H6 fA hHn ⟨⟨dx, c', wi', pl', li', ds ++ [.ref t], [], e6', dl6, n6, d3.fr gA (mdS s13), (show Deeds K H6 [] [] from ⟨rfl, fun i v d e => by simp at e⟩), (hxW.same st).fr gA (mdS s13), ?_⟩, nnd.symm, by simp; omega⟩
        rw [List.map_map] at h6
        exact h6

def spundo (K : PySem.W.Frag) : Sp := fun vs H Q E => ∃ (b dl ul : Addr) (D : Dk), vs = [.ref b] ∧ DkAt K H b dl ul D ∧ D.done.length < 800 ∧ D.undone.length < 800 ∧ (D.done = [] → ErrW K H E "NothingToUndo" [("word", .str "undo")]) ∧
  ∀ ds d, D.done = ds ++ [d] → ∀ H', FrX [b, dl, ul] H H' → DkAt K H' b dl ul ⟨d.ah, ds, D.undone ++ [d]⟩ → Q (.str "") H'
theorem sc_Desk_undo : FnScope ["self", "deed"] ["self"] (defScope s_Desk_undo) := ⟨rfl, rfl, rfl, by decide +kernel, rfl, by decide +kernel, by decide +kernel⟩
theorem ok_Desk_undo (T : Top w K mg) : HasM w K mg base 3 "Desk" "undo" ["self"] (spundo K) := by
  refine .of T (has_ex (k := 2) T 49 (d := dD ("Desk", some "undo") "undo" "Desk.undo" s_Desk_undo) rfl sc_Desk_undo (fun _ => rfl) (fun _ _ _ _ _ _ us hl => match us, hl with | [_], _ => rfl) (fun vs H Q E h => ?_) (fun cdv A outer s H vs Q E hr h => ?_))
  · obtain ⟨b, dl, ul, D, rfl, _⟩ := h
    rfl
  · obtain ⟨b, dl, ul, D, rfl, hD, z1, z2, q1, q2⟩ := h
    obtain ⟨⟨dx, c, wi, pl, li, ds, us, hb, hdl, hul, hds, hus, hw, hli⟩, hne, hsz⟩ := id hD
    have ld := hds.1
    have lu := hus.1
    have ndb : dl ≠ b := ne_of hdl hb (by intro z; cases z)
    have nub : ul ≠ b := ne_of hul hb (by intro z; cases z)
    refine ⟨_, (pss_cons (ps_if (pt_cmpR op_eq (pe_len T (pe_fld (pv 0) rfl)) pe_int (nomark _)) (pss_one (ps_err1 (k := 0) rfl (err_NothingToUndo T) rfl (hr.mono (by omega)) (takes_of rfl rfl rfl rfl) pe_str)) pss_nil)
      (pss_cons (ps_set (i := 1) sc_Desk_undo.nd rfl (Or.inl rfl) (pe_bm0 PySem.F.plainAttrs_list PySem.F.slot_list_pop PySem.F.type_list_pop mt_pop (pe_fld (pv 0) rfl)))
      (pss_cons (ps_expr (pe_bm PySem.F.plainAttrs_list PySem.F.slot_list_append PySem.F.type_list_append mt_append (pe_fld (pv 0) rfl) (pa_cons (pv 1) pa_nil)))
      (pss_cons (ps_expr (pe_meX (ok_Desk_stand T) T.clD rfl hr (by omega) (takes_of rfl rfl rfl rfl) (pv 0) (pa_cons (pe_ix ix_tup (pv 1) pe_int (fun _ _ => rfl)) pa_nil)))
      (pss_one (ps_ret pe_str)))))), ?_⟩
    refine ⟨_, rfl, _, _, _, _, _, rfl, hb, T.clD, T.dDo, rfl, _, _, rfl, .inl (.of hdl), rfl, _, rfl, ?_⟩
    rcases snoc_or D.done with hx | ⟨es, e, hx⟩
    · refine iteB (by rw [dec_int]; simp [ld, hx]) ?_
      exact mk1_end fun d hd => ErrW.new (q1 hx) hd
    have q := q2 es e hx
    have hxl : D.done.length = es.length + 1 := by rw [hx]; simp
    rw [hx] at hds
    obtain ⟨us2, v, rfl, hu2, hv⟩ := hds.unsnoc
    have hu2l := hu2.1
    refine iteC (by rw [dec_int]; simp; omega) ?_
    refine ⟨_, rfl, _, _, _, _, _, rfl, hb, T.clD, T.dDo, rfl, .inl ⟨rfl, _, .of hdl⟩, dl, _, v, rfl, rfl, hdl, by simp, ?_⟩
    rw [List.dropLast_concat]
    have hS1 : (upd H dl (.lst us2)) ul = some (.lst us) := by rw [upd_ne hne.symm]; exact hul
    have hb1 : (upd H dl (.lst us2)) b = some (DkO K dx dl ul c wi pl li) := by rw [upd_ne ndb.symm]; exact hb
    refine ⟨_, rfl, _, _, _, _, _, rfl, hb1, T.clD, T.dUn, rfl, .inl ⟨rfl, _, .of hS1⟩, _, rfl, ul, us, v, rfl, rfl, hS1, Nat.lt_of_lt_of_le (by omega : us.length < 1000) (sl_small (by decide)), ?_⟩
    have hb2 : (upd (upd H dl (.lst us2)) ul (.lst (us ++ [v]))) b = some (DkO K dx dl ul c wi pl li) := by rw [upd_ne nub.symm]; exact hb1
    have f2 : FrX [b, dl, ul] H (upd (upd H dl (.lst us2)) ul (.lst (us ++ [v]))) := FrX.upd (FrX.upd (Same.refl H).fr (by simp)) (by simp)
    have md := hD.md
    obtain ⟨a, x, y, rfl, hat, hxa, hya⟩ := id hv
    obtain ⟨c', wi', pl', hxt, hxW⟩ := id hxa
    have eP2 : (upd (upd H dl (.lst us2)) ul (.lst (us ++ [.ref a]))) dl = some (.lst us2) := by rw [upd_ne hne, upd_same]
    have eS2 : (upd (upd H dl (.lst us2)) ul (.lst (us ++ [.ref a]))) ul = some (.lst (us ++ [.ref a])) := upd_same
    have dP5 := hu2.fr f2 md
    have dS5 := (hus.snoc hv).fr f2 md
    refine ⟨_, rfl, b, dx, _, rfl, hb2, rfl, _, rfl, a, _, _, _, rfl, rfl, f2.sqt md.mu hat, atI_eq (i := 1) rfl rfl, b, x, _, dx, dl, c', wi', pl', _, us2, (es).map Deed.line, rfl, rfl, hb2, (show (6 : Nat) < 900 by decide), rfl, eP2, by (try simp); omega, dP5.stand, f2.sqt md.mu hxt, fun li' H6 f6 e6 h6 => ?_⟩
    have f6' := f6.mono (M' := [b, dl, ul]) (by simp)
    have fA := f2.trans f6'
    have e6' : H6 b = some (DkO K dx dl ul c' wi' pl' li') := e6
    have eP6 : H6 dl = some (.lst us2) := f6 _ _ (by simpa using ndb) eP2
    have eS6 : H6 ul = some (.lst (us ++ [.ref a])) := f6 _ _ (by simpa using nub) eS2
    have dP6 := hu2.fr fA md
    have dS6 := (hus.snoc hv).fr fA md
    refine q H6 fA ⟨⟨dx, c', wi', pl', li', _, _, e6', eP6, eS6, dP6, dS6, hxW.fr fA md, ?_⟩, hne, by simp; omega⟩
    rw [List.map_map] at h6
    exact h6

def spredo (K : PySem.W.Frag) : Sp := fun vs H Q E => ∃ (b dl ul : Addr) (D : Dk), vs = [.ref b] ∧ DkAt K H b dl ul D ∧ D.done.length < 800 ∧ D.undone.length < 800 ∧ (D.undone = [] → ErrW K H E "NothingToUndo" [("word", .str "redo")]) ∧
  ∀ ds d, D.undone = ds ++ [d] → ∀ H', FrX [b, dl, ul] H H' → DkAt K H' b dl ul ⟨d.be, D.done ++ [d], ds⟩ → Q (.str "") H'
theorem sc_Desk_redo : FnScope ["self", "deed"] ["self"] (defScope s_Desk_redo) := ⟨rfl, rfl, rfl, by decide +kernel, rfl, by decide +kernel, by decide +kernel⟩
theorem ok_Desk_redo (T : Top w K mg) : HasM w K mg base 3 "Desk" "redo" ["self"] (spredo K) := by
  refine .of T (has_ex (k := 2) T 50 (d := dD ("Desk", some "redo") "redo" "Desk.redo" s_Desk_redo) rfl sc_Desk_redo (fun _ => rfl) (fun _ _ _ _ _ _ us hl => match us, hl with | [_], _ => rfl) (fun vs H Q E h => ?_) (fun cdv A outer s H vs Q E hr h => ?_))
  · obtain ⟨b, dl, ul, D, rfl, _⟩ := h
    rfl
  · obtain ⟨b, dl, ul, D, rfl, hD, z1, z2, q1, q2⟩ := h
    obtain ⟨⟨dx, c, wi, pl, li, ds, us, hb, hdl, hul, hds, hus, hw, hli⟩, hne, hsz⟩ := id hD
    have ld := hds.1
    have lu := hus.1
    have ndb : dl ≠ b := ne_of hdl hb (by intro z; cases z)
    have nub : ul ≠ b := ne_of hul hb (by intro z; cases z)
    refine ⟨_, (pss_cons (ps_if (pt_cmpR op_eq (pe_len T (pe_fld (pv 0) rfl)) pe_int (nomark _)) (pss_one (ps_err1 (k := 0) rfl (err_NothingToUndo T) rfl (hr.mono (by omega)) (takes_of rfl rfl rfl rfl) pe_str)) pss_nil)
      (pss_cons (ps_set (i := 1) sc_Desk_redo.nd rfl (Or.inl rfl) (pe_bm0 PySem.F.plainAttrs_list PySem.F.slot_list_pop PySem.F.type_list_pop mt_pop (pe_fld (pv 0) rfl)))
      (pss_cons (ps_expr (pe_bm PySem.F.plainAttrs_list PySem.F.slot_list_append PySem.F.type_list_append mt_append (pe_fld (pv 0) rfl) (pa_cons (pv 1) pa_nil)))
      (pss_cons (ps_expr (pe_meX (ok_Desk_stand T) T.clD rfl hr (by omega) (takes_of rfl rfl rfl rfl) (pv 0) (pa_cons (pe_ix ix_tup (pv 1) pe_int (fun _ _ => rfl)) pa_nil)))
      (pss_one (ps_ret pe_str)))))), ?_⟩
    refine ⟨_, rfl, _, _, _, _, _, rfl, hb, T.clD, T.dUn, rfl, _, _, rfl, .inl (.of hul), rfl, _, rfl, ?_⟩
    rcases snoc_or D.undone with hx | ⟨es, e, hx⟩
    · refine iteB (by rw [dec_int]; simp [lu, hx]) ?_
      exact mk1_end fun d hd => ErrW.new (q1 hx) hd
    have q := q2 es e hx
    have hxl : D.undone.length = es.length + 1 := by rw [hx]; simp
    rw [hx] at hus
    obtain ⟨us2, v, rfl, hu2, hv⟩ := hus.unsnoc
    have hu2l := hu2.1
    refine iteC (by rw [dec_int]; simp; omega) ?_
    refine ⟨_, rfl, _, _, _, _, _, rfl, hb, T.clD, T.dUn, rfl, .inl ⟨rfl, _, .of hul⟩, ul, _, v, rfl, rfl, hul, by simp, ?_⟩
    rw [List.dropLast_concat]
    have hS1 : (upd H ul (.lst us2)) dl = some (.lst ds) := by rw [upd_ne hne]; exact hdl
    have hb1 : (upd H ul (.lst us2)) b = some (DkO K dx dl ul c wi pl li) := by rw [upd_ne nub.symm]; exact hb
    refine ⟨_, rfl, _, _, _, _, _, rfl, hb1, T.clD, T.dDo, rfl, .inl ⟨rfl, _, .of hS1⟩, _, rfl, dl, ds, v, rfl, rfl, hS1, Nat.lt_of_lt_of_le (by omega : ds.length < 1000) (sl_small (by decide)), ?_⟩
    have hb2 : (upd (upd H ul (.lst us2)) dl (.lst (ds ++ [v]))) b = some (DkO K dx dl ul c wi pl li) := by rw [upd_ne ndb.symm]; exact hb1
    have f2 : FrX [b, dl, ul] H (upd (upd H ul (.lst us2)) dl (.lst (ds ++ [v]))) := FrX.upd (FrX.upd (Same.refl H).fr (by simp)) (by simp)
    have md := hD.md
    obtain ⟨a, x, y, rfl, hat, hxa, hya⟩ := id hv
    obtain ⟨c', wi', pl', hxt, hxW⟩ := id hya
    have eP2 : (upd (upd H ul (.lst us2)) dl (.lst (ds ++ [.ref a]))) ul = some (.lst us2) := by rw [upd_ne hne.symm, upd_same]
    have eS2 : (upd (upd H ul (.lst us2)) dl (.lst (ds ++ [.ref a]))) dl = some (.lst (ds ++ [.ref a])) := upd_same
    have dP5 := hu2.fr f2 md
    have dS5 := (hds.snoc hv).fr f2 md
    refine ⟨_, rfl, b, dx, _, rfl, hb2, rfl, _, rfl, a, _, _, _, rfl, rfl, f2.sqt md.mu hat, atI_eq (i := 2) rfl rfl, b, y, _, dx, dl, c', wi', pl', _, (ds ++ [.ref a]), ((D.done ++ [e])).map Deed.line, rfl, rfl, hb2, (show (6 : Nat) < 900 by decide), rfl, eS2, by (try simp); omega, dS5.stand, f2.sqt md.mu hxt, fun li' H6 f6 e6 h6 => ?_⟩
    have f6' := f6.mono (M' := [b, dl, ul]) (by simp)
    have fA := f2.trans f6'
    have e6' : H6 b = some (DkO K dx dl ul c' wi' pl' li') := e6
    have eP6 : H6 ul = some (.lst us2) := f6 _ _ (by simpa using nub) eP2
    have eS6 : H6 dl = some (.lst (ds ++ [.ref a])) := f6 _ _ (by simpa using ndb) eS2
    have dP6 := hu2.fr fA md
    have dS6 := (hds.snoc hv).fr fA md
    refine q H6 fA ⟨⟨dx, c', wi', pl', li', _, _, e6', eS6, eP6, dS6, dP6, hxW.fr fA md, ?_⟩, hne, by simp; omega⟩
    rw [List.map_map] at h6
    exact h6
end
end K5
set_option Elab.async false
set_option linter.all false
set_option maxRecDepth 100000
set_option maxHeartbeats 4000000
namespace K5
open PySem PySem.Spec PyProof.Rows L2
/-! ### Desk.__init__, answer -/
def spDesk (K : PySem.W.Frag) : Sp := fun vs H Q E => ∃ (b dx : Addr) (c x y : V), vs = [.ref b, c, x, y] ∧ H b = some (.ins (He.ga K "Desk") dx []) ∧
  ((∃ (ca wi pl : Addr) (k : Cl) (ws : List Int) (ls : List (List Int)), c = .ref ca ∧ x = .ref wi ∧ y = .ref pl ∧ ClA K H ca k ∧ TI K H wi ws ∧ TP K H pl ls ∧ OkW k.ra.length ws ls ∧ ∀ dl ul H', FrX [b] H H' → H dl = none → H ul = none → DkAt K H' b dl ul ⟨⟨k, ws, ls⟩, [], []⟩ → Q .non H') ∨
   (BadW K H x ∧ ErrW K H E "InvalidWishes" [("value", x)]) ∨ ∃ (wi : Addr) (ws : List Int), x = .ref wi ∧ TI K H wi ws ∧ OkN 1 3 ws ∧ ws.length < 100 ∧ BadP K H y ws.length ∧ ErrW K H E "InvalidPlacing" [("value", y)])
def spAns (K : PySem.W.Frag) : Sp := fun vs H Q E => ∃ (b c wi pl F : Addr) (W : Wd) (p : Int), vs = [.ref b, .str "where", .ref F] ∧ DkR K H b c wi pl W ∧ H F = some (.lst [.int p]) ∧ ¬ p < W.wi.length ∧ ErW K H E (.num p)
section
variable {w : World} {K : PySem.W.Frag} {mg : Str → Option Value} {base : Heap}
theorem sc_Desk_init : FnScope ["self", "cluster", "wishes", "placing"] ["self", "cluster", "wishes", "placing"] (defScope s_Desk_init) := ⟨rfl, rfl, rfl, by decide +kernel, rfl, by decide +kernel, by decide +kernel⟩
theorem ok_Desk_init (T : Top w K mg) : HasI w K mg base 5 "Desk" ["self", "cluster", "wishes", "placing"] (spDesk K) := by
  refine ⟨(has_ex (k := 4) T 40 (d := dD ("Desk", some "__init__") "__init__" "Desk.__init__" s_Desk_init) rfl sc_Desk_init (fun _ => rfl) (fun _ _ _ _ _ _ us hl => match us, hl with | [_, _, _, _], _ => rfl) (fun vs H Q E h => ?_) (fun cdv A outer s H vs Q E hr h => ?_)).1, T.mkD, T.glo "Desk" (by decide +kernel)⟩
  · obtain ⟨b, dx, c, x, y, rfl, _⟩ := h
    rfl
  · obtain ⟨b, dx, c, x, y, rfl, hb, h⟩ := h
    refine ⟨_, (pss_cons (ps_expr (pe_fnX (ok_first_breach T) rfl hr (by omega) (takes_of rfl rfl rfl rfl) (pa_cons (pv 1) (pa_cons (pv 2) (pa_cons (pv 3) pa_nil)))))
      (pss_cons (ps_fld (pv 0) (pe_lst pa_nil) rfl)
      (pss_cons (ps_fld (pv 0) (pe_lst pa_nil) rfl)
      (pss_one (ps_expr (pe_meX (ok_Desk_stand T) T.clD rfl hr (by omega) (takes_of rfl rfl rfl rfl) (pv 0) (pa_cons (pe_tup (pa_cons (pv 1) (pa_cons (pv 2) (pa_cons (pv 3) pa_nil)))) pa_nil))))))), ?_⟩
    rcases h with ⟨ca, wi, pl, k, ws, ls, rfl, rfl, rfl, hc, hw, hp, ok, q⟩ | ⟨bw, q⟩ | ⟨wi, ws, rfl, hw, okn, hz, bp, q⟩
    · refine ⟨_, rfl, _, rfl, _, rfl, .inl ⟨ca, wi, pl, k, ws, ls, rfl, hc, hw, hp, ok, fun v H1 s1 => ?_⟩⟩
      refine ⟨by show 0 ≤ sizeLine; decide, fun dl hdl => ?_⟩
      have hHd : H dl = none := s1.free hdl
      have ndb : dl ≠ b := fun e => by rw [e, hb] at hHd; cases hHd
      have hb1 : (upd H1 dl (.lst [])) b = some (.ins (He.ga K "Desk") dx []) := by rw [upd_ne ndb.symm]; exact s1 _ _ hb
      refine ⟨_, rfl, b, _, dx, _, rfl, hb1, T.clD, T.dDo, (show (0 : Nat) < 1000 by decide), ?_⟩
      refine ⟨by show 0 ≤ sizeLine; decide, fun ul hul => ?_⟩
      have nub : ul ≠ b := fun e => by rw [e, upd_same] at hul; cases hul
      have hul1 : (upd H1 dl (.lst [])) ul = none := by rw [upd_ne nub] at hul; exact hul
      have ndu : dl ≠ ul := fun e => by rw [← e, upd_same] at hul1; cases hul1
      have hHu : H ul = none := s1.free (by rw [upd_ne ndu.symm] at hul1; exact hul1)
      have hb2 : (upd (upd (upd H1 dl (.lst [])) b (.ins (He.ga K "Desk") dx [("done", .ref dl)])) ul (.lst [])) b = some (.ins (He.ga K "Desk") dx [("done", .ref dl)]) := by rw [upd_ne nub.symm, upd_same]
      refine ⟨_, rfl, b, _, dx, _, rfl, hb2, T.clD, T.dUn, (show (1 : Nat) < 1000 by decide), ?_⟩
      refine ⟨_, rfl, b, dx, _, rfl, upd_same, rfl, _, rfl, _, rfl, _, rfl, by show 3 ≤ sizeLine; decide, fun p hp' => ?_⟩
      have npb : p ≠ b := fun e => by rw [e, upd_same] at hp'; cases hp'
      have npd : p ≠ dl := fun e => by rw [e, upd_ne ndb, upd_ne ndu, upd_ne ndb, upd_same] at hp'; cases hp'
      have npu : p ≠ ul := fun e => by rw [e, upd_ne nub, upd_same] at hp'; cases hp'
      have f1 : ∀ {o1 o2 : HO} {H2 : Hp}, Same H H2 → FrX [b] H (upd (upd (upd (upd H2 dl (.lst [])) b o1) ul (.lst [])) b o2) := fun {o1 o2 H2} s => by
        refine FrX.upd (fun y u ny e => ?_) (by simp)
        have nyb : y ≠ b := by simpa using ny
        rw [upd_ne (ne_of_none e hHu), upd_ne nyb, upd_ne (ne_of_none e hHd)]
        exact s y u e
      have md : MdX [b] H := fun y hy => by
        rw [List.mem_singleton.mp hy]
        exact ⟨_, hb, rfl⟩
      have sp := Same.upd_new (o := .tup [.ref ca, .ref wi, .ref pl]) hp'
      refine ⟨b, p, _, dx, dl, ca, wi, pl, _, [], [], rfl, rfl, sp _ _ upd_same, (show (2 : Nat) < 900 by decide), rfl, sp _ _ (by rw [upd_ne ndb, upd_ne ndu, upd_ne ndb, upd_same]), by decide, ⟨rfl, fun i v l e => by simp at e⟩, .of upd_same, fun li H6 f6 e6 h6 => ?_⟩
      have fA := ((f1 s1).trans sp.fr).trans f6
      have e6' : H6 b = some (DkO K dx dl ul ca wi pl li) := e6
      have dl6 : H6 dl = some (.lst []) := f6 _ _ (by simpa using ndb) (sp _ _ (by rw [upd_ne ndb, upd_ne ndu, upd_ne ndb, upd_same]))
      have ul6 : H6 ul = some (.lst []) := f6 _ _ (by simpa using nub) (sp _ _ (by rw [upd_ne nub, upd_same]))
      exact q dl ul H6 fA hHd hHu ⟨⟨dx, ca, wi, pl, li, [], [], e6', dl6, ul6, (show Deeds K H6 [] [] from ⟨rfl, fun i v d e => by simp at e⟩), (show Deeds K H6 [] [] from ⟨rfl, fun i v d e => by simp at e⟩), ⟨hc.fr fA md, fA.sqt md.mu hw, hp.fr fA md.mu⟩, h6⟩, ndu, (show 0 < 900 ∧ 0 < 900 by decide)⟩
    · refine ⟨_, rfl, _, rfl, _, rfl, .inr (.inl ⟨c, x, y, rfl, bw, q⟩)⟩
    · exact ⟨_, rfl, _, rfl, _, rfl, .inr (.inr ⟨c, wi, ws, y, rfl, hw, okn, hz, bp, q⟩)⟩
theorem sc_Desk_answer : FnScope ["self", "word", "values", "cluster", "wishes", "placing", "breach", "lot", "after"] ["self", "word", "values"] (defScope s_Desk_answer) := ⟨rfl, rfl, rfl, by decide +kernel, rfl, by decide +kernel, by decide +kernel⟩
theorem ok_Desk_answer (T : Top w K mg) : HasM w K mg base 4 "Desk" "answer" ["self", "word", "values"] (spAns K) := by
  refine .of T (has_ex (k := 3) T 48 (d := dD ("Desk", some "answer") "answer" "Desk.answer" s_Desk_answer) rfl sc_Desk_answer (fun _ => rfl) (fun _ _ _ _ _ _ us hl => match us, hl with | [_, _, _], _ => rfl) (fun vs H Q E h => ?_) (fun cdv A outer s H vs Q E hr h => ?_))
  · obtain ⟨b, c, wi, pl, F, W, p, rfl, _⟩ := h
    rfl
  · obtain ⟨b, c, wi, pl, F, W, p, rfl, hR, hF, hp, q⟩ := h
    obtain ⟨⟨dx, dl, ul, li, hb⟩, hw⟩ := id hR
    refine ⟨_, (pss_cons (ps_par3 (i := 3) (j := 4) (l := 5) rfl sc_Desk_answer.nd rfl rfl rfl (by decide) (by decide) (by decide) rfl rfl rfl (pa_cons (pe_fld (pv 0) rfl) (pa_cons (pe_fld (pv 0) rfl) (pa_cons (pe_fld (pv 0) rfl) pa_nil))) (by rfl))
      (pss_cons (ps_if (pt_cmpR op_eq (pv 1) pe_str (nomark _)) pss_never pss_nil)
      (pss_cons (ps_if (pt_cmpR op_eq (pv 1) pe_str (nomark _)) pss_never pss_nil)
      (pss_cons (ps_if (pt_cmpR op_eq (pv 1) pe_str (nomark _)) pss_never pss_nil)
      (pss_cons (ps_if (pt_cmpR op_eq (pv 1) pe_str (nomark _)) (pss_cons (ps_expr (pe_meX (ok_Desk_check_piece T) T.clD rfl hr (by omega) (takes_of rfl rfl rfl rfl) (pv 0) (pa_cons (pe_ix ix_list (pv 2) pe_int (fun _ _ => rfl)) pa_nil)))
      (pss_one ps_never)) pss_nil)
      (pss_cons ps_never
      (pss_cons ps_never
      (pss_one ps_never)))))))), ?_⟩
    refine ⟨_, rfl, _, _, _, _, _, rfl, hb, T.clD, T.dCl, rfl, _, rfl, _, _, _, _, _, rfl, hb, T.clD, T.dWi, rfl, _, rfl, _, _, _, _, _, rfl, hb, T.clD, T.dPl, rfl, _, _, _, rfl, ?_⟩
    refine ⟨_, rfl, rfl, _, rfl, ?_⟩
    refine iteC (strF rfl) ⟨_, rfl, rfl, _, rfl, ?_⟩
    refine iteC (strF rfl) ⟨_, rfl, rfl, _, rfl, ?_⟩
    refine iteC (strF rfl) ⟨_, rfl, rfl, _, rfl, ?_⟩
    refine iteB (strT rfl) ?_
    exact ⟨_, rfl, b, dx, _, rfl, hb, rfl, _, rfl, F, _, _, _, rfl, rfl, .of hF, atI_eq (i := 0) rfl rfl, b, c, wi, pl, W, p, rfl, hR, fun z => absurd z hp, fun _ => q⟩
end
end K5
set_option Elab.async false
set_option linter.all false
set_option maxRecDepth 100000
set_option maxHeartbeats 4000000
namespace K5
open PySem PySem.Spec PyProof.Rows L2
/-! ### run -/
def Dd.kinds : Dd → List Str
  | .store .. => ["integer", "integer", "integer"]
  | .piece .. => ["integer", "list"]
  | _ => ["integer", "integer"]
def Kn (w0 : Str) (ks : List Str) : Prop := (("DEEDS" : Str), w0, ks) ∈ tabN ∨ (("QUESTIONS" : Str), w0, ks) ∈ tabN ∨ (("BACKWARD" : Str), w0, ks) ∈ tabN
def Un (w0 : Str) : Prop := (("DEEDS" : Str), w0) ∈ absN ∧ (("QUESTIONS" : Str), w0) ∈ absN ∧ (("BACKWARD" : Str), w0) ∈ absN
theorem q_abs : ∀ p ∈ tabN, p.1 = ("QUESTIONS" : Str) → (("DEEDS" : Str), p.2.1) ∈ absN := by decide +kernel
theorem b_abs : ∀ p ∈ tabN, p.1 = ("BACKWARD" : Str) → (("DEEDS" : Str), p.2.1) ∈ absN ∧ (("QUESTIONS" : Str), p.2.1) ∈ absN := by decide +kernel
theorem k_len : ∀ p ∈ tabN, p.2.2.length < 900 := by decide +kernel
theorem m_store : (("DEEDS" : Str), ("store" : Str), (["integer", "integer", "integer"] : List Str)) ∈ tabN := by decide +kernel
theorem m_room : (("DEEDS" : Str), ("room" : Str), (["integer", "integer"] : List Str)) ∈ tabN := by decide +kernel
theorem m_rack : (("DEEDS" : Str), ("rack" : Str), (["integer", "integer"] : List Str)) ∈ tabN := by decide +kernel
theorem m_rate : (("DEEDS" : Str), ("rate" : Str), (["integer", "integer"] : List Str)) ∈ tabN := by decide +kernel
theorem m_wish : (("DEEDS" : Str), ("wish" : Str), (["integer", "integer"] : List Str)) ∈ tabN := by decide +kernel
theorem m_piece : (("DEEDS" : Str), ("piece" : Str), (["integer", "list"] : List Str)) ∈ tabN := by decide +kernel
theorem m_where : (("QUESTIONS" : Str), ("where" : Str), (["integer"] : List Str)) ∈ tabN := by decide +kernel
theorem m_undo : (("BACKWARD" : Str), ("undo" : Str), ([] : List Str)) ∈ tabN := by decide +kernel
theorem m_redo : (("BACKWARD" : Str), ("redo" : Str), ([] : List Str)) ∈ tabN := by decide +kernel
theorem Dd.kn : (d : Dd) → (("DEEDS" : Str), d.word, d.kinds) ∈ tabN
  | .store .. => m_store
  | .room .. => m_room
  | .rack .. => m_rack
  | .rate .. => m_rate
  | .wish .. => m_wish
  | .piece .. => m_piece
structure LineIs (line w0 : Str) (ws : List Str) : Prop where
  sp : Txt.split line " " = w0 :: ws
  l : line.length < 1000
  l0 : w0.length < 1000
  n : ws.length < 900
  ls : ∀ x ∈ ws, x.length < 1000
def spRun (K : PySem.W.Frag) : Sp := fun vs H Q E => ∃ (b dl ul : Addr) (D : Dk) (line w0 : Str) (ws : List Str), vs = [.ref b, .str line] ∧ DkAt K H b dl ul D ∧ D.done.length < 800 ∧ D.undone.length < 800 ∧ D.w.wi.length < 900 ∧ D.w.pl.length < 900 ∧ LineIs line w0 ws ∧
  ((∃ d : Dd, w0 = d.word ∧ OkWords d.kinds ws ∧ toldGo d.kinds ws (w0.length + 1) = .ok d.vals ∧ d.nn ∧ DkEnd K H Q E b dl D line (ledR D.w d)) ∨
   (∃ ks o, Kn w0 ks ∧ OkWords ks ws ∧ toldGo ks ws (w0.length + 1) = .error o ∧ LineEr K H E line (o.getD line.length)) ∨
   (Un w0 ∧ ErrW K H E "UnknownWord" [("word", .str w0)]) ∨
   (∃ p : Int, w0 = "where" ∧ OkWords ["integer"] ws ∧ toldGo ["integer"] ws (w0.length + 1) = .ok [.int p] ∧ ¬ p < D.w.wi.length ∧ ErW K H E (.num p)) ∨
   (w0 = "undo" ∧ ws = [] ∧ (D.done = [] → ErrW K H E "NothingToUndo" [("word", .str "undo")]) ∧ ∀ ds d, D.done = ds ++ [d] → ∀ H', FrX [b, dl, ul] H H' → DkAt K H' b dl ul ⟨d.ah, ds, D.undone ++ [d]⟩ → Q (.str "") H') ∨
   (w0 = "redo" ∧ ws = [] ∧ (D.undone = [] → ErrW K H E "NothingToUndo" [("word", .str "redo")]) ∧ ∀ ds d, D.undone = ds ++ [d] → ∀ H', FrX [b, dl, ul] H H' → DkAt K H' b dl ul ⟨d.be, D.done ++ [d], ds⟩ → Q (.str "") H'))
theorem DkEnd.same {K : PySem.W.Frag} {H H1 : Hp} {Q : VK} {E : XK} {b dl : Addr} {D : Dk} {line : Str} {R : Except Er Wd} (s : Same H H1) (h : DkEnd K H Q E b dl D line R) : DkEnd K H1 Q E b dl D line R := by
  cases R with
  | ok W' => exact fun ul' H' f n x => h ul' H' (s.fr.trans f) (s.free n) x
  | error e => exact ErW.same h s
section
variable {w : World} {K : PySem.W.Frag} {mg : Str → Option Value} {base : Heap}
theorem DkAt.r {H : Hp} {b dl ul : Addr} {D : Dk} (h : DkAt K H b dl ul D) : ∃ c wi pl, DkR K H b c wi pl D.w ∧ ∃ dx li, H b = some (DkO K dx dl ul c wi pl li) := by
  obtain ⟨dx, c, wi, pl, li, xs, ys, h1, h2, h3, h4, h5, h6, h7⟩ := h.ex
  exact ⟨c, wi, pl, ⟨⟨dx, dl, ul, li, h1⟩, h6⟩, dx, li, h1⟩
theorem kdct {d t : Addr} {z : Str} {es : Array DictEntry} {n : Nat} (D : KDict K w d es n) (h : PySem.W.nsIn K d z = some (some (.ref t))) : KDct K w d z (.ref t) := ⟨es, n, _, D.at_, D.lit, h, rfl⟩
theorem sc_Desk_run : FnScope ["self", "line", "word"] ["self", "line"] (defScope s_Desk_run) := ⟨rfl, rfl, rfl, by decide +kernel, rfl, by decide +kernel, by decide +kernel⟩
theorem ok_Desk_run (T : Top w K mg) : HasM w K mg base 8 "Desk" "run" ["self", "line"] (spRun K) := by
  obtain ⟨ed, nd, KD⟩ := T.kd
  obtain ⟨eq, nq, KQ⟩ := T.kq
  obtain ⟨eb, nb, KB⟩ := T.kb
  refine .of T (has_ex (k := 7) T 42 (d := dD ("Desk", some "run") "run" "Desk.run" s_Desk_run) rfl sc_Desk_run (fun _ => rfl) (fun _ _ _ _ _ _ us hl => match us, hl with | [_, _], _ => rfl) (fun vs H Q E h => ?_) (fun cdv A outer s H vs Q E hr h => ?_))
  · obtain ⟨b, dl, ul, D, line, w0, ws, rfl, _⟩ := h
    rfl
  · obtain ⟨b, dl, ul, D, line, w0, ws, rfl, hD, z1, z2, z3, z4, L, h⟩ := h
    refine ⟨_, (pss_cons (ps_set (i := 2) sc_Desk_run.nd rfl (Or.inl rfl) (pe_ix ix_list (pe_split (pv 1) pe_str) pe_int (fun _ _ => rfl)))
      (pss_cons (ps_if (pt_cmpR (op_in_kd KD) (pv 2) (pe_gr T) rfl) (pss_one (ps_ret (pe_meX (ok_Desk_deed T) T.clD rfl hr (by omega) (takes_of rfl rfl rfl rfl) (pv 0) (pa_cons (pv 1) (pa_cons (pv 2) (pa_cons (pe_fnX (ok_values_told T) rfl hr (by omega) (takes_of rfl rfl rfl rfl) (pa_cons (pv 1) (pa_cons (pe_ix ix_kdict (pe_gr T) (pv 2) (fun _ _ => rfl)) pa_nil))) pa_nil)))))) pss_nil)
      (pss_cons (ps_if (pt_cmpR (op_in_kd KQ) (pv 2) (pe_gr T) rfl) (pss_one (ps_ret (pe_meX (ok_Desk_answer T) T.clD rfl hr (by omega) (takes_of rfl rfl rfl rfl) (pv 0) (pa_cons (pv 2) (pa_cons (pe_fnX (ok_values_told T) rfl hr (by omega) (takes_of rfl rfl rfl rfl) (pa_cons (pv 1) (pa_cons (pe_ix ix_kdict (pe_gr T) (pv 2) (fun _ _ => rfl)) pa_nil))) pa_nil))))) pss_nil)
      (pss_cons (ps_if (pt_cmpR (op_notIn_kd KB) (pv 2) (pe_gr T) rfl) (pss_one (ps_err1 (k := 0) rfl (err_UnknownWord T) rfl (hr.mono (by omega)) (takes_of rfl rfl rfl rfl) (pv 2))) pss_nil)
      (pss_cons (ps_expr (pe_fnX (ok_values_told T) rfl hr (by omega) (takes_of rfl rfl rfl rfl) (pa_cons (pv 1) (pa_cons (pe_ix ix_kdict (pe_gr T) (pv 2) (fun _ _ => rfl)) pa_nil))))
      (pss_one (ps_ret (pe_ifExp (pt_cmpR op_eq (pv 2) pe_str (nomark _)) (pe_meX0 (ok_Desk_undo T) T.clD rfl hr (by omega) (takes_of rfl rfl rfl rfl) (pv 0)) (pe_meX0 (ok_Desk_redo T) T.clD rfl hr (by omega) (takes_of rfl rfl rfl rfl) (pv 0)))))))))), ?_⟩
    obtain ⟨c, wi, pl, hR, dx, li, hb⟩ := hD.r
    refine ⟨_, rfl, ⟨line, rfl⟩, line, _, rfl, rfl, rfl, sl_small (by have := L.l; omega), fun W hW => ?_⟩
    rw [L.sp]
    have s1 : Same H (upd H W (.lst ((w0 :: ws).map V.str))) := Same.upd_new hW
    refine ⟨W, _, 0, _, rfl, rfl, .of upd_same, atI_eq (i := 0) rfl rfl, ?_⟩
    have vt : ∀ {ks : List Str} {t : Addr} {Q' : VK} {tb : Str}, (∀ H, SqT K H t (ks.map V.str)) → ks.length < 900 → OkWords ks ws → VTEnd K H Q' E line (toldGo ks ws (w0.length + 1)) → spVT K ([V.str line, .ref t] ++ []) (upd H W (.lst ((w0 :: ws).map V.str))) Q' E := fun {ks t Q' tb} ht hk ho q => by
      refine ⟨line, w0, ws, ks, t, rfl, L.sp, L.l, L.l0, L.n, L.ls, hk, ht, ho, ?_⟩
      cases e : toldGo ks ws (w0.length + 1) with
      | ok xs =>
        rw [e] at q
        exact fun F vs H' s n h1 h2 => q F vs H' (s1.trans s) (s1.free n) h1 h2
      | error o =>
        rw [e] at q
        exact ErrW.same q s1
    rcases h with ⟨d, rfl, ho, ht, hn, q⟩ | ⟨ks, o, hk, ho, ht, q⟩ | ⟨hu, q⟩ | ⟨p, rfl, ho, ht, hp, q⟩ | ⟨rfl, rfl, q1, q2⟩ | ⟨rfl, rfl, q1, q2⟩
    · obtain ⟨t, e1, e2⟩ := T.tab _ d.kn
      refine ⟨_, rfl, _, _, rfl, rfl, e1, _, rfl, ?_⟩
      refine iteB rfl ?_
      refine ⟨_, rfl, b, dx, _, rfl, s1 _ _ hb, rfl, _, rfl, _, rfl, _, rfl, _, rfl, _, _, _, rfl, rfl, kdct KD e1, vt (tb := "") e2 (k_len _ d.kn) ho ?_⟩
      rw [ht]
      intro F vs H2 s2 hF eF hv
      exact ⟨b, dl, ul, F, D, line, d, vs, rfl, hD.same s2, z1, eF, hv, hn, z3, z4, q.same s2⟩
    · rcases hk with hk | hk | hk
      · obtain ⟨t, e1, e2⟩ := T.tab _ hk
        refine ⟨_, rfl, _, _, rfl, rfl, e1, _, rfl, ?_⟩
        refine iteB rfl ?_
        refine ⟨_, rfl, b, dx, _, rfl, s1 _ _ hb, rfl, _, rfl, _, rfl, _, rfl, _, rfl, _, _, _, rfl, rfl, kdct KD e1, vt (tb := "") e2 (k_len _ hk) ho ?_⟩
        rw [ht]
        exact q
      · obtain ⟨t, e1, e2⟩ := T.tab _ hk
        refine ⟨_, rfl, _, _, rfl, rfl, T.abs _ (q_abs _ hk rfl), _, rfl, ?_⟩
        refine iteC rfl ⟨_, rfl, _, _, rfl, rfl, e1, _, rfl, ?_⟩
        refine iteB rfl ?_
        refine ⟨_, rfl, b, dx, _, rfl, s1 _ _ hb, rfl, _, rfl, _, rfl, _, rfl, _, _, _, rfl, rfl, kdct KQ e1, vt (tb := "") e2 (k_len _ hk) ho ?_⟩
        rw [ht]
        exact q
      · obtain ⟨t, e1, e2⟩ := T.tab _ hk
        refine ⟨_, rfl, _, _, rfl, rfl, T.abs _ (b_abs _ hk rfl).1, _, rfl, ?_⟩
        refine iteC rfl ⟨_, rfl, _, _, rfl, rfl, T.abs _ (b_abs _ hk rfl).2, _, rfl, ?_⟩
        refine iteC rfl ⟨_, rfl, _, _, rfl, rfl, e1, _, rfl, ?_⟩
        refine iteC rfl ?_
        refine ⟨_, rfl, _, rfl, _, _, _, rfl, rfl, kdct KB e1, vt (tb := "") e2 (k_len _ hk) ho ?_⟩
        rw [ht]
        exact q
    · refine ⟨_, rfl, _, _, rfl, rfl, T.abs _ hu.1, _, rfl, ?_⟩
      refine iteC rfl ⟨_, rfl, _, _, rfl, rfl, T.abs _ hu.2.1, _, rfl, ?_⟩
      refine iteC rfl ⟨_, rfl, _, _, rfl, rfl, T.abs _ hu.2.2, _, rfl, ?_⟩
      refine iteB rfl ⟨_, rfl, mk1_end fun d hd => ErrW.new (q.same s1) hd⟩
    · obtain ⟨t, e1, e2⟩ := T.tab _ m_where
      refine ⟨_, rfl, _, _, rfl, rfl, T.abs _ (q_abs _ m_where rfl), _, rfl, ?_⟩
      refine iteC rfl ⟨_, rfl, _, _, rfl, rfl, e1, _, rfl, ?_⟩
      refine iteB rfl ?_
      refine ⟨_, rfl, b, dx, _, rfl, s1 _ _ hb, rfl, _, rfl, _, rfl, _, rfl, _, _, _, rfl, rfl, kdct KQ e1, vt (tb := "") e2 (k_len _ m_where) ho ?_⟩
      rw [ht]
      intro F vs H2 s2 hF eF hv
      have hvs : vs = [.int p] := by
        obtain ⟨h1, h2⟩ := hv
        match vs, h1 with
        | [x], _ =>
          have e : x = .int p := h2 0 x (.int p) rfl rfl
          rw [e]
      subst hvs
      exact ⟨b, c, wi, pl, F, D.w, p, rfl, hR.same s2, eF, hp, q.same s2⟩
    · obtain ⟨t, e1, e2⟩ := T.tab _ m_undo
      refine ⟨_, rfl, _, _, rfl, rfl, T.abs _ (b_abs _ m_undo rfl).1, _, rfl, ?_⟩
      refine iteC rfl ⟨_, rfl, _, _, rfl, rfl, T.abs _ (b_abs _ m_undo rfl).2, _, rfl, ?_⟩
      refine iteC rfl ⟨_, rfl, _, _, rfl, rfl, e1, _, rfl, ?_⟩
      refine iteC rfl ?_
      refine ⟨_, rfl, _, rfl, _, _, _, rfl, rfl, kdct KB e1, vt (tb := "") e2 (k_len _ m_undo) trivial ?_⟩
      intro F vs H2 s2 hF eF hv
      refine ⟨_, rfl, rfl, _, rfl, ?_⟩
      refine iteB (strT rfl) ?_
      exact ⟨_, rfl, b, dx, _, rfl, s2 _ _ hb, rfl, b, dl, ul, D, rfl, hD.same s2, z1, z2, fun e => (q1 e).same s2, fun ds d e H' f x => q2 ds d e H' (s2.fr.trans f) x⟩
    · obtain ⟨t, e1, e2⟩ := T.tab _ m_redo
      refine ⟨_, rfl, _, _, rfl, rfl, T.abs _ (b_abs _ m_redo rfl).1, _, rfl, ?_⟩
      refine iteC rfl ⟨_, rfl, _, _, rfl, rfl, T.abs _ (b_abs _ m_redo rfl).2, _, rfl, ?_⟩
      refine iteC rfl ⟨_, rfl, _, _, rfl, rfl, e1, _, rfl, ?_⟩
      refine iteC rfl ?_
      refine ⟨_, rfl, _, rfl, _, _, _, rfl, rfl, kdct KB e1, vt (tb := "") e2 (k_len _ m_redo) trivial ?_⟩
      intro F vs H2 s2 hF eF hv
      refine ⟨_, rfl, rfl, _, rfl, ?_⟩
      refine iteC (strF rfl) ?_
      exact ⟨_, rfl, b, dx, _, rfl, s2 _ _ hb, rfl, b, dl, ul, D, rfl, hD.same s2, z1, z2, fun e => (q1 e).same s2, fun ds d e H' f x => q2 ds d e H' (s2.fr.trans f) x⟩
end
end K5
set_option Elab.async false
set_option linter.all false
set_option maxRecDepth 100000
set_option maxHeartbeats 4000000
namespace K5
open PySem PySem.Spec PyProof.Rows L2
/-! ### _law_refused -/
inductive Ref where
  | word (s : Str)
  | line (l : Str) (a : Nat)
  | er (e : Er)
  | nothing (s : Str)
def RefAt (K : PySem.W.Frag) (H : Hp) (p : Addr) : Ref → Prop
  | .word s => SqT K H p [.str "word", .str s]
  | .line l a => SqT K H p [.str "line", .str l, .int (a : Nat)]
  | .er (.num i) => SqT K H p [.str "number", .int i]
  | .er (.lot l) => ∃ a, SqT K H p [.str "lot", .ref a] ∧ TI K H a l
  | .er (.many s) => SqT K H p [.str "many", .str s]
  | .nothing s => SqT K H p [.str "nothing", .str s]
/-- a line that the desk refuses, and how -/
def RunR (D : Dk) (line : Str) (R : Ref) : Prop := ∃ w0 ws, LineIs line w0 ws ∧
  ((∃ (d : Dd) (e : Er), w0 = d.word ∧ OkWords d.kinds ws ∧ toldGo d.kinds ws (w0.length + 1) = .ok d.vals ∧ d.nn ∧ ledR D.w d = .error e ∧ R = .er e) ∨
   (∃ ks o, Kn w0 ks ∧ OkWords ks ws ∧ toldGo ks ws (w0.length + 1) = .error o ∧ R = .line line (o.getD line.length)) ∨
   (Un w0 ∧ R = .word w0) ∨
   (∃ p : Int, w0 = "where" ∧ OkWords ["integer"] ws ∧ toldGo ["integer"] ws (w0.length + 1) = .ok [.int p] ∧ ¬ p < D.w.wi.length ∧ R = .er (.num p)) ∨
   (w0 = "undo" ∧ ws = [] ∧ D.done = [] ∧ R = .nothing "undo") ∨
   (w0 = "redo" ∧ ws = [] ∧ D.undone = [] ∧ R = .nothing "redo"))
structure DkSz (D : Dk) : Prop where
  d : D.done.length < 800
  u : D.undone.length < 800
  w : D.w.wi.length < 900
  p : D.w.pl.length < 900
def spRef (K : PySem.W.Frag) : Sp := fun vs H Q _ => ∃ (b dl ul : Addr) (D : Dk) (line : Str) (R : Ref), vs = [.ref b, .str line] ∧ DkAt K H b dl ul D ∧ DkSz D ∧ RunR D line R ∧ ∀ p H', Same H H' → RefAt K H' p R → Q (.ref p) H'
section
variable {w : World} {K : PySem.W.Frag} {mg : Str → Option Value} {base : Heap}
section
variable {X : Cx} {pn : List (Addr × Obj)} {xe : Value → Shared → Prop} {W : WX} {x m C : Str} {p pos apos : Pos} {e o c : Expr} {es : List Expr} {ta tc to : TE} {t : TA} {j k : Nat} {ps : List Str} {sp : Sp}
theorem pe_meT {pl : Sem Bool} (G : HasM X.w X.K X.mg X.base k C m ps sp) (cl : Cls X.K (He.ga X.K C)) (hp : X.prog = PG) (hr : Room j X.A) (hk : k ≤ j) (tk : Takes (X.tr pn xe) W) (ho : PE (X.tr pn xe) o to) (ha : PA (X.tr pn xe) (e :: es) t)
    (hst : starEach (e :: es) (X.tr pn xe).env = (false, eval e (X.tr pn xe).env) :: starEach es (X.tr pn xe).env := by rfl) (hpl : (backTo pos (starEach es (X.tr pn xe).env)).any (·.1) = false := by rfl)
    (ht : eval (.Call (.Attribute o m apos) (e :: es) [] pos) (X.tr pn xe).env = (do
      let ov ← eval o (X.tr pn xe).env
      standAt apos.atName
      let (f, first) ← holding [ov] (getMethod ov m pl)
      callWith pos f first (backTo pos (starEach (e :: es) (X.tr pn xe).env)) (backToKw pos (keywordEach [] (X.tr pn xe).env))) := by rfl) : PE (X.tr pn xe) (.Call (.Attribute o m apos) (e :: es) [] pos) (tMethS (He.ga X.K C) m sp (WE W) to t) := pe_meS (X := X.tr pn xe) G cl hp hr hk tk ho ha hst hpl ht
theorem pe_mkT (G : HasI X.w X.K X.mg X.base k C ps sp) (hp : X.prog = PG) (hr : Room j X.A) (hk : k + 1 ≤ j) (tk : Takes (X.tr pn xe) W) (ha : PA (X.tr pn xe) (e :: es) t) (hg : Gl (X.tr pn xe) C := by rfl) (hdb : (C == ("__debug__" : Str)) = false := by decide)
    (he : starEach (e :: es) (X.tr pn xe).env = (false, eval e (X.tr pn xe).env) :: starEach es (X.tr pn xe).env := by rfl) (hpl : (backTo pos (starEach es (X.tr pn xe).env)).any (·.1) = false := by rfl) : PE (X.tr pn xe) (.Call (.Name C p) (e :: es) [] pos) (tMakeS (He.ga X.K C) sp (WE W) t) := pe_mkS (X := X.tr pn xe) G hp hr hk tk ha hg hdb he hpl
end
theorem pe_grS {X : Cx} {a : Addr} {l : List (Addr × Obj)} {x : Str} {pos : Pos} (T : Top X.w X.K X.mg) (h : x ∈ gloN := by decide +kernel) (hg : Gl (X.suite a l) x := by rfl) (hd : (x == ("__debug__" : Str)) = false := by decide) : PE (X.suite a l) (.Name x pos) (tC (.ref (He.ga X.K x))) := pe_gr (X := X.suite a l) T h hg hd
/-- a raised error's wish by its class, cut in one -/
def ErE (K : PySem.W.Frag) (E : XK) (H : Hp) (R : Ref) : Prop := match R with
  | .word s => ErrW K H E "UnknownWord" [("word", .str s)]
  | .line l a => LineEr K H E l a
  | .er e => ErW K H E e
  | .nothing s => ErrW K H E "NothingToUndo" [("word", .str s)]
theorem run_of {b dl ul : Addr} {D : Dk} {line : Str} {R : Ref} {H : Hp} {Q : VK} {E : XK} (hD : DkAt K H b dl ul D) (z : DkSz D) (h : RunR D line R) (q : ErE K E H R) : spRun K [.ref b, .str line] H Q E := by
  obtain ⟨w0, ws, L, h⟩ := h
  refine ⟨b, dl, ul, D, line, w0, ws, rfl, hD, z.d, z.u, z.w, z.p, L, ?_⟩
  rcases h with ⟨d, e, h1, h2, h3, h4, h5, rfl⟩ | ⟨ks, o, h1, h2, h3, rfl⟩ | ⟨h1, rfl⟩ | ⟨p, h1, h2, h3, h4, rfl⟩ | ⟨h1, h2, h3, rfl⟩ | ⟨h1, h2, h3, rfl⟩
  · exact .inl ⟨d, h1, h2, h3, h4, by rw [h5]; exact q⟩
  · exact .inr (.inl ⟨ks, o, h1, h2, h3, q⟩)
  · exact .inr (.inr (.inl ⟨h1, q⟩))
  · exact .inr (.inr (.inr (.inl ⟨p, h1, h2, h3, h4, q⟩)))
  · exact .inr (.inr (.inr (.inr (.inl ⟨h1, h2, fun _ => q, fun ds d e => by rw [h3] at e; simp at e⟩))))
  · exact .inr (.inr (.inr (.inr (.inr ⟨h1, h2, fun _ => q, fun ds d e => by rw [h3] at e; simp at e⟩))))
theorem sc__law_refused : FnScope ["_law_desk", "_law_line_here", "e"] ["_law_desk", "_law_line_here"] (defScope s__law_refused) := ⟨rfl, rfl, rfl, by decide +kernel, rfl, by decide +kernel, by decide +kernel⟩
theorem ok__law_refused (T : Top w K mg) : HasF w K mg base 9 "_law_refused" ["_law_desk", "_law_line_here"] (spRef K) := by
  refine .of T (has_ex (k := 8) T 27 (d := dD ("_law_refused", none) "_law_refused" "_law_refused" s__law_refused) rfl sc__law_refused (fun _ => rfl) (fun _ _ _ _ _ _ us hl => match us, hl with | [_, _], _ => rfl) (fun vs H Q E h => ?_) (fun cdv A outer s H vs Q E hr h => ?_))
  · obtain ⟨b, dl, ul, D, line, R, rfl, _⟩ := h
    rfl
  · obtain ⟨b, dl, ul, D, line, R, rfl, hD, z, hR, q⟩ := h
    refine ⟨_, (pss_cons (ps_try_all (i := 2) rfl rfl sc__law_refused.nd rfl rfl (takes_of rfl rfl rfl rfl) (fun W pn xe tk _ => pss_one (ps_expr (pe_meT (ok_Desk_run T) T.clD rfl hr (by omega) tk (pv 0) (pa_cons (pv 1) pa_nil))))
      (.cons (x := "UnknownWord") ⟨rfl, by decide, .inl (T.glo "UnknownWord" (by decide +kernel))⟩ (fun a oe cls d pn hz hf => pss_one (ps_ret (pe_ifExp (pt_val (pe_isO T (T.excC (T.exc "UnknownWord" (by decide +kernel))) hz hf (pv 2) (pe_grS T))) (pe_tup (pa_cons pe_str (pa_cons (pe_xf (T.exc "UnknownWord" (by decide +kernel)).xf (T.excf ("UnknownWord", "word") (by decide +kernel)) hz hf (pv 2)) pa_nil))) pe_non)))
      (.cons (x := "InvalidLine") ⟨rfl, by decide, .inl (T.glo "InvalidLine" (by decide +kernel))⟩ (fun a oe cls d pn hz hf => pss_one (ps_ret (pe_ifExp (pt_val (pe_isO T (T.excC (T.exc "InvalidLine" (by decide +kernel))) hz hf (pv 2) (pe_grS T))) (pe_tup (pa_cons pe_str (pa_cons (pe_xf (T.exc "InvalidLine" (by decide +kernel)).xf (T.excf ("InvalidLine", "line") (by decide +kernel)) hz hf (pv 2)) (pa_cons (pe_xf (T.exc "InvalidLine" (by decide +kernel)).xf (T.excf ("InvalidLine", "at") (by decide +kernel)) hz hf (pv 2)) pa_nil)))) pe_non)))
      (.cons (x := "InvalidNumber") ⟨rfl, by decide, .inl (T.glo "InvalidNumber" (by decide +kernel))⟩ (fun a oe cls d pn hz hf => pss_one (ps_ret (pe_ifExp (pt_val (pe_isO T (T.excC (T.exc "InvalidNumber" (by decide +kernel))) hz hf (pv 2) (pe_grS T))) (pe_tup (pa_cons pe_str (pa_cons (pe_xf (T.exc "InvalidNumber" (by decide +kernel)).xf (T.excf ("InvalidNumber", "value") (by decide +kernel)) hz hf (pv 2)) pa_nil))) pe_non)))
      (.cons (x := "InvalidLot") ⟨rfl, by decide, .inl (T.glo "InvalidLot" (by decide +kernel))⟩ (fun a oe cls d pn hz hf => pss_one (ps_ret (pe_ifExp (pt_val (pe_isO T (T.excC (T.exc "InvalidLot" (by decide +kernel))) hz hf (pv 2) (pe_grS T))) (pe_tup (pa_cons pe_str (pa_cons (pe_xf (T.exc "InvalidLot" (by decide +kernel)).xf (T.excf ("InvalidLot", "value") (by decide +kernel)) hz hf (pv 2)) pa_nil))) pe_non)))
      (.cons (x := "TooMany") ⟨rfl, by decide, .inl (T.glo "TooMany" (by decide +kernel))⟩ (fun a oe cls d pn hz hf => pss_one (ps_ret (pe_ifExp (pt_val (pe_isO T (T.excC (T.exc "TooMany" (by decide +kernel))) hz hf (pv 2) (pe_grS T))) (pe_tup (pa_cons pe_str (pa_cons (pe_xf (T.exc "TooMany" (by decide +kernel)).xf (T.excf ("TooMany", "what") (by decide +kernel)) hz hf (pv 2)) pa_nil))) pe_non)))
      (.cons (x := "Undefined") ⟨rfl, by decide, .inl (T.glo "Undefined" (by decide +kernel))⟩ (ts := fun _ _ _ => tNever) (fun a oe cls d pn hz hf => pss_never)
      (.cons (x := "NothingToUndo") ⟨rfl, by decide, .inl (T.glo "NothingToUndo" (by decide +kernel))⟩ (fun a oe cls d pn hz hf => pss_one (ps_ret (pe_ifExp (pt_val (pe_isO T (T.excC (T.exc "NothingToUndo" (by decide +kernel))) hz hf (pv 2) (pe_grS T))) (pe_tup (pa_cons pe_str (pa_cons (pe_xf (T.exc "NothingToUndo" (by decide +kernel)).xf (T.excf ("NothingToUndo", "word") (by decide +kernel)) hz hf (pv 2)) pa_nil))) pe_non)))
      .nil)))))))) (pss_one (ps_ret pe_str))), ?_⟩
    obtain ⟨c, wi, pl, _, dx, li, hb⟩ := hD.r
    refine ⟨_, rfl, b, dx, _, rfl, hb, rfl, _, rfl, run_of hD z hR ?_⟩
    have fin : ∀ {H' : Hp} {p : Addr} {xs : List V}, Same H H' → H' p = none → Same H (upd H' p (.tup xs)) := fun s h => s.trans (Same.upd_new h)
    cases R with
    | word s =>
      intro dd H' s1 hx
      refine ⟨true, T.exm ("UnknownWord", "UnknownWord", true) (by decide +kernel), fun _ a ha => ⟨rfl, dd, rfl, _, rfl, _, _, _, _, rfl, hx, fun u h => h, (T.exc "UnknownWord" (by decide +kernel)).kit, _, rfl, iteT ⟨_, rfl, rfl, rfl, dd, _, _, rfl, hx, rfl, by show 2 ≤ sizeLine; decide, fun p hp => ?_⟩⟩, fun z => (nomatch z)⟩
      exact q p _ (fin s1 hp) (.of upd_same)
    | line l a =>
      intro dd H' s1 hx
      refine ⟨false, T.exm ("InvalidLine", "UnknownWord", false) (by decide +kernel), fun z => (nomatch z), fun _ => ⟨true, T.exm ("InvalidLine", "InvalidLine", true) (by decide +kernel), fun _ a ha => ⟨rfl, dd, rfl, _, rfl, _, _, _, _, rfl, hx, fun u h => h, (T.exc "InvalidLine" (by decide +kernel)).kit, _, rfl, iteT ⟨_, rfl, rfl, rfl, dd, _, _, rfl, hx, rfl, _, rfl, rfl, rfl, dd, _, _, rfl, hx, rfl, by show 3 ≤ sizeLine; decide, fun p hp => ?_⟩⟩, fun z => (nomatch z)⟩⟩
      exact q p _ (fin s1 hp) (.of upd_same)
    | nothing s =>
      intro dd H' s1 hx
      refine ⟨false, T.exm ("NothingToUndo", "UnknownWord", false) (by decide +kernel), fun z => (nomatch z), fun _ => ⟨false, T.exm ("NothingToUndo", "InvalidLine", false) (by decide +kernel), fun z => (nomatch z), fun _ => ⟨false, T.exm ("NothingToUndo", "InvalidNumber", false) (by decide +kernel), fun z => (nomatch z), fun _ => ⟨false, T.exm ("NothingToUndo", "InvalidLot", false) (by decide +kernel), fun z => (nomatch z), fun _ => ⟨false, T.exm ("NothingToUndo", "TooMany", false) (by decide +kernel), fun z => (nomatch z), fun _ => ⟨false, T.exm ("NothingToUndo", "Undefined", false) (by decide +kernel), fun z => (nomatch z), fun _ => ⟨true, T.exm ("NothingToUndo", "NothingToUndo", true) (by decide +kernel), fun _ a ha => ⟨rfl, dd, rfl, _, rfl, _, _, _, _, rfl, hx, fun u h => h, (T.exc "NothingToUndo" (by decide +kernel)).kit, _, rfl, iteT ⟨_, rfl, rfl, rfl, dd, _, _, rfl, hx, rfl, by show 2 ≤ sizeLine; decide, fun p hp => ?_⟩⟩, fun z => (nomatch z)⟩⟩⟩⟩⟩⟩⟩
      exact q p _ (fin s1 hp) (.of upd_same)
    | er e =>
      cases e with
      | num i =>
        intro dd H' s1 hx
        refine ⟨false, T.exm ("InvalidNumber", "UnknownWord", false) (by decide +kernel), fun z => (nomatch z), fun _ => ⟨false, T.exm ("InvalidNumber", "InvalidLine", false) (by decide +kernel), fun z => (nomatch z), fun _ => ⟨true, T.exm ("InvalidNumber", "InvalidNumber", true) (by decide +kernel), fun _ a ha => ⟨rfl, dd, rfl, _, rfl, _, _, _, _, rfl, hx, fun u h => h, (T.exc "InvalidNumber" (by decide +kernel)).kit, _, rfl, iteT ⟨_, rfl, rfl, rfl, dd, _, _, rfl, hx, rfl, by show 2 ≤ sizeLine; decide, fun p hp => ?_⟩⟩, fun z => (nomatch z)⟩⟩⟩
        exact q p _ (fin s1 hp) (.of upd_same)
      | many s =>
        intro dd H' s1 hx
        refine ⟨false, T.exm ("TooMany", "UnknownWord", false) (by decide +kernel), fun z => (nomatch z), fun _ => ⟨false, T.exm ("TooMany", "InvalidLine", false) (by decide +kernel), fun z => (nomatch z), fun _ => ⟨false, T.exm ("TooMany", "InvalidNumber", false) (by decide +kernel), fun z => (nomatch z), fun _ => ⟨false, T.exm ("TooMany", "InvalidLot", false) (by decide +kernel), fun z => (nomatch z), fun _ => ⟨true, T.exm ("TooMany", "TooMany", true) (by decide +kernel), fun _ a ha => ⟨rfl, dd, rfl, _, rfl, _, _, _, _, rfl, hx, fun u h => h, (T.exc "TooMany" (by decide +kernel)).kit, _, rfl, iteT ⟨_, rfl, rfl, rfl, dd, _, _, rfl, hx, rfl, by show 2 ≤ sizeLine; decide, fun p hp => ?_⟩⟩, fun z => (nomatch z)⟩⟩⟩⟩⟩
        exact q p _ (fin s1 hp) (.of upd_same)
      | lot l =>
        intro dd H' pa s1 ht hx
        refine ⟨false, T.exm ("InvalidLot", "UnknownWord", false) (by decide +kernel), fun z => (nomatch z), fun _ => ⟨false, T.exm ("InvalidLot", "InvalidLine", false) (by decide +kernel), fun z => (nomatch z), fun _ => ⟨false, T.exm ("InvalidLot", "InvalidNumber", false) (by decide +kernel), fun z => (nomatch z), fun _ => ⟨true, T.exm ("InvalidLot", "InvalidLot", true) (by decide +kernel), fun _ a ha => ⟨rfl, dd, rfl, _, rfl, _, _, _, _, rfl, hx, fun u h => h, (T.exc "InvalidLot" (by decide +kernel)).kit, _, rfl, iteT ⟨_, rfl, rfl, rfl, dd, _, _, rfl, hx, rfl, by show 2 ≤ sizeLine; decide, fun p hp => ?_⟩⟩, fun z => (nomatch z)⟩⟩⟩⟩
        exact q p _ (fin s1 hp) ⟨pa, .of upd_same, (Same.upd_new hp).sqt ht⟩
end
end K5
set_option Elab.async false
set_option linter.all false
set_option maxRecDepth 100000
set_option maxHeartbeats 4000000
namespace K5
open PySem PySem.Spec PyProof.Rows L2
/-! ### _law_no_desk -/
theorem BadW.same {K : PySem.W.Frag} {H H' : Hp} {x : V} (s : Same H H') (h : BadW K H x) : BadW K H' x := by
  rcases h with ⟨a, xs, e, t, r⟩ | ⟨t, ty, kt⟩
  · exact .inl ⟨a, xs, e, s.sqt t, r⟩
  · exact .inr ⟨t, tyx_same s ty, kt⟩
theorem BadP.same {K : PySem.W.Frag} {H H' : Hp} {x : V} {m : Int} (s : Same H H') (h : BadP K H x m) : BadP K H' x m := by
  rcases h with ⟨a, xs, e, t, r⟩ | ⟨t, ty, kt⟩
  · exact .inl ⟨a, xs, e, s.sqt t, r⟩
  · exact .inr ⟨t, tyx_same s ty, kt⟩
def spNoD (K : PySem.W.Frag) : Sp := fun vs H Q _ => ∃ c x y : V, vs = [c, x, y] ∧ ((BadW K H x ∧ ∀ p H', Same H H' → SqT K H' p [.str "wishes", x] → Q (.ref p) H') ∨
  ∃ (wi : Addr) (ws : List Int), x = .ref wi ∧ TI K H wi ws ∧ OkN 1 3 ws ∧ ws.length < 100 ∧ BadP K H y ws.length ∧ ∀ p H', Same H H' → SqT K H' p [.str "placing", y] → Q (.ref p) H')
section
variable {w : World} {K : PySem.W.Frag} {mg : Str → Option Value} {base : Heap}
theorem sc__law_no_desk : FnScope ["_law_cluster_here", "_law_wishes", "_law_placing_here", "e"] ["_law_cluster_here", "_law_wishes", "_law_placing_here"] (defScope s__law_no_desk) := ⟨rfl, rfl, rfl, by decide +kernel, rfl, by decide +kernel, by decide +kernel⟩
theorem ok__law_no_desk (T : Top w K mg) : HasF w K mg base 7 "_law_no_desk" ["_law_cluster_here", "_law_wishes", "_law_placing_here"] (spNoD K) := by
  refine .of T (has_ex (k := 6) T 28 (d := dD ("_law_no_desk", none) "_law_no_desk" "_law_no_desk" s__law_no_desk) rfl sc__law_no_desk (fun _ => rfl) (fun _ _ _ _ _ _ us hl => match us, hl with | [_, _, _], _ => rfl) (fun vs H Q E h => ?_) (fun cdv A outer s H vs Q E hr h => ?_))
  · obtain ⟨c, x, y, rfl, _⟩ := h
    rfl
  · obtain ⟨c, x, y, rfl, h⟩ := h
    refine ⟨_, (pss_cons (ps_try_all (i := 3) rfl rfl sc__law_no_desk.nd rfl rfl (takes_of rfl rfl rfl rfl) (fun W pn xe tk _ => pss_one (ps_expr (pe_mkT (ok_Desk_init T) rfl hr (by omega) tk (pa_cons (pv 0) (pa_cons (pv 1) (pa_cons (pv 2) pa_nil))))))
      (.cons (x := "InvalidWishes") ⟨rfl, by decide, .inl (T.glo "InvalidWishes" (by decide +kernel))⟩ (fun a oe cls d pn hz hf => pss_one (ps_ret (pe_tup (pa_cons pe_str (pa_cons (pe_xf (T.exc "InvalidWishes" (by decide +kernel)).xf (T.excf ("InvalidWishes", "value") (by decide +kernel)) hz hf (pv 3)) pa_nil)))))
      (.cons (x := "InvalidPlacing") ⟨rfl, by decide, .inl (T.glo "InvalidPlacing" (by decide +kernel))⟩ (fun a oe cls d pn hz hf => pss_one (ps_ret (pe_tup (pa_cons pe_str (pa_cons (pe_xf (T.exc "InvalidPlacing" (by decide +kernel)).xf (T.excf ("InvalidPlacing", "value") (by decide +kernel)) hz hf (pv 3)) pa_nil)))))
      .nil))) (pss_one (ps_ret pe_str))), ?_⟩
    refine ⟨_, rfl, _, rfl, _, rfl, fun b dx hb hdx hne => ⟨b, dx, c, x, y, rfl, upd_same, ?_⟩⟩
    have s0 : Same H (upd (upd H dx (.own b)) b (.ins (He.ga K "Desk") dx [])) := mk_pre hb hdx
    rcases h with ⟨bw, q⟩ | ⟨wi, ws, rfl, hw, okn, hz, bp, q⟩
    · refine .inr (.inl ⟨bw.same s0, fun dd H' s1 hx => ?_⟩)
      refine ⟨true, T.exm ("InvalidWishes", "InvalidWishes", true) (by decide +kernel), fun _ a ha => ⟨_, rfl, rfl, rfl, dd, _, _, rfl, hx, rfl, by show 2 ≤ sizeLine; decide, fun p hp => ?_⟩, fun z => (nomatch z)⟩
      exact q p _ ((s0.trans s1).trans (Same.upd_new hp)) (.of upd_same)
    · refine .inr (.inr ⟨wi, ws, rfl, s0.sqt hw, okn, hz, bp.same s0, fun dd H' s1 hx => ?_⟩)
      refine ⟨false, T.exm ("InvalidPlacing", "InvalidWishes", false) (by decide +kernel), fun z => (nomatch z), fun _ => ⟨true, T.exm ("InvalidPlacing", "InvalidPlacing", true) (by decide +kernel), fun _ a ha => ⟨_, rfl, rfl, rfl, dd, _, _, rfl, hx, rfl, by show 2 ≤ sizeLine; decide, fun p hp => ?_⟩, fun z => (nomatch z)⟩⟩
      exact q p _ ((s0.trans s1).trans (Same.upd_new hp)) (.of upd_same)
end
end K5
set_option Elab.async false
set_option linter.all false
set_option maxRecDepth 100000
set_option maxHeartbeats 4000000
namespace K5
open PySem PySem.Spec PyProof.Rows L2
/-! ### the law's tape -/
def sK (s : Str) : Key := Sum.inr s
def tapeD (l : Addr) (a g le s t : Int) : List (Key × V) := [(sK "cells", .ref l), (sK "at", .int a), (sK "great", .int g), (sK "left", .int le), (sK "seed", .int s), (sK "turn", .int t)]
def TapeAt (K : PySem.W.Frag) (H : Hp) (p l : Addr) : Prop := (∃ a g le s t, H p = some (.dK (tapeD l a g le s t)) ∧ 0 ≤ a) ∧ ∃ ns : List Int, H l = some (.lst (ns.map V.int))
theorem TapeAt.md {K : PySem.W.Frag} {H : Hp} {p l : Addr} (h : TapeAt K H p l) : MdX [p] H := fun b hb => by
  obtain ⟨⟨a, g, le, s, t, e, _⟩, _⟩ := h
  rw [List.mem_singleton.mp hb]
  exact ⟨_, e, rfl⟩
theorem TapeAt.ne {K : PySem.W.Frag} {H : Hp} {p l : Addr} (h : TapeAt K H p l) : l ≠ p := by
  obtain ⟨⟨a, g, le, s, t, e, _⟩, ns, e2⟩ := h
  exact ne_of e2 e (by intro z; cases z)
theorem TapeAt.fr {K : PySem.W.Frag} {M : List Addr} {H H' : Hp} {p l : Addr} (f : FrX M H H') (np : p ∉ M) (nl : l ∉ M) (h : TapeAt K H p l) : TapeAt K H' p l := by
  obtain ⟨⟨a, g, le, s, t, e, h0⟩, ns, e2⟩ := h
  exact ⟨⟨a, g, le, s, t, f _ _ np e, h0⟩, ns, f _ _ nl e2⟩
theorem TapeAt.same {K : PySem.W.Frag} {H H' : Hp} {p l : Addr} (s : Same H H') (h : TapeAt K H p l) : TapeAt K H' p l := h.fr (M := []) s.fr (by simp) (by simp)
/-- a reading that asks more -/
theorem pss_by {X : Cx} {st : List Stmt} {t : TS} (P : TS) (h : PSs X st t) (i : ∀ D σ H, P D σ H → t D σ H) : PSs X st P := ⟨fun pins s σ H D I hp => h.run pins s σ H D I (i D σ H hp)⟩
def spMix : Sp := fun vs H Q _ => ∃ n t : Int, vs = [.int n, .int t] ∧ ∀ m : Int, Q (.int m) H
def spTape (K : PySem.W.Frag) : Sp := fun vs H Q _ => ∃ (a : Addr) (ns : List Int), vs = [.ref a] ∧ SqL K H a (ns.map V.int) ∧ ∀ p l H', Same H H' → H p = none → TapeAt K H' p l → H l = none → Q (.ref p) H'
/-- some number below m -/
def spDraw (K : PySem.W.Frag) : Sp := fun vs H Q _ => ∃ (p l : Addr) (m : Int), vs = [.ref p, .int m] ∧ 0 < m ∧ TapeAt K H p l ∧ ∀ (r : Int) H', 0 ≤ r → r < m → FrX [p] H H' → TapeAt K H' p l → Q (.int r) H'
section
variable {w : World} {K : PySem.W.Frag} {mg : Str → Option Value} {base : Heap}
theorem sc__law_mixed : FnScope ["_law_number", "_law_turn", "_law_first", "_law_second"] ["_law_number", "_law_turn"] (defScope s__law_mixed) := ⟨rfl, rfl, rfl, by decide +kernel, rfl, by decide +kernel, by decide +kernel⟩
theorem ok__law_mixed (T : Top w K mg) : HasF w K mg base 1 "_law_mixed" ["_law_number", "_law_turn"] spMix := by
  refine .of T (has_ex (k := 0) T 11 (d := dD ("_law_mixed", none) "_law_mixed" "_law_mixed" s__law_mixed) rfl sc__law_mixed (fun _ => rfl) (fun _ _ _ _ _ _ us hl => match us, hl with | [_, _], _ => rfl) (fun vs H Q E h => ?_) (fun cdv A outer s H vs Q E hr h => ?_))
  · obtain ⟨n, t, rfl, _⟩ := h
    rfl
  · obtain ⟨n, t, rfl, q⟩ := h
    refine ⟨_, (pss_cons (ps_set (i := 2) sc__law_mixed.nd rfl (Or.inl rfl) (pe_op op_mod (pe_intN T (pe_op op_add (pe_op op_add (pe_op op_mul (pv 0) pe_int) (pe_op op_mul (pv 1) pe_int)) pe_int)) pe_int))
      (pss_cons (ps_set (i := 3) sc__law_mixed.nd rfl (Or.inl rfl) (pe_op op_mod (pe_intN T (pe_op op_add (pe_op op_add (pe_op op_mul (pv 2) pe_int) (pe_op op_fdiv (pv 2) pe_int)) (pe_op op_mul (pv 1) pe_int))) pe_int))
      (pss_one (ps_ret (pe_op op_mod (pe_intN T (pe_op op_add (pe_op op_mul (pv 3) (pv 3)) (pe_op op_fdiv (pv 2) pe_int))) pe_int))))), ?_⟩
    have cm : ∀ i j : Int, 0 < j → j < 100000 → CMul i j := fun i j h1 h2 => .inr ⟨by omega, by omega⟩
    refine ⟨_, rfl, _, _, rfl, rfl, cm _ _ (by decide) (by decide), _, rfl, _, _, rfl, rfl, cm _ _ (by decide) (by decide), _, _, rfl, rfl, _, _, rfl, rfl, .inl ⟨_, rfl, _, _, rfl, rfl, (show (0 : Int) < 2147483647 by decide), ?_⟩⟩
    refine ⟨_, rfl, _, _, rfl, rfl, cm _ _ (by decide) (by decide), _, rfl, _, _, rfl, rfl, ⟨by decide, by decide⟩, _, _, rfl, rfl, _, rfl, _, _, rfl, rfl, cm _ _ (by decide) (by decide), _, _, rfl, rfl, .inl ⟨_, rfl, _, _, rfl, rfl, (show (0 : Int) < 1000003 by decide), ?_⟩⟩
    refine ⟨_, rfl, _, rfl, _, _, rfl, rfl, .inl ⟨?_, ?_⟩, _, rfl, _, _, rfl, rfl, ⟨by decide, by decide⟩, _, _, rfl, rfl, .inl ⟨_, rfl, _, _, rfl, rfl, (show (0 : Int) < 999983 by decide), q _⟩⟩
    · have := Int.emod_nonneg (n * 48271 + t * 69621 + 11) (b := 2147483647) (by decide)
      generalize (_ : Int) + _ + t * 271 = z
      have := Int.emod_nonneg z (b := 1000003) (by decide)
      omega
    · generalize (_ : Int) + _ + t * 271 = z
      have := Int.emod_lt_of_pos z (b := 1000003) (by decide)
      omega
theorem sc__law_tape : FnScope ["_law_script"] ["_law_script"] (defScope s__law_tape) := ⟨rfl, rfl, rfl, by decide +kernel, rfl, by decide +kernel, by decide +kernel⟩
theorem ok__law_tape (T : Top w K mg) : HasF w K mg base 1 "_law_tape" ["_law_script"] (spTape K) := by
  refine .of T (has_ex (k := 0) T 12 (d := dD ("_law_tape", none) "_law_tape" "_law_tape" s__law_tape) rfl sc__law_tape (fun _ => rfl) (fun _ _ _ _ _ _ us hl => match us, hl with | [_], _ => rfl) (fun vs H Q E h => ?_) (fun cdv A outer s H vs Q E hr h => ?_))
  · obtain ⟨a, ns, rfl, _⟩ := h
    rfl
  · obtain ⟨a, ns, rfl, ha, q⟩ := h
    refine ⟨_, (pss_one (ps_ret (pe_disp (pps_cons pe_str (pe_list T (pv 0)) (pps_cons pe_str pe_int (pps_cons pe_str pe_int (pps_cons pe_str pe_int (pps_cons pe_str pe_int (pps_cons pe_str pe_int pps_nil)))))) rfl rfl (by simp) (by simp)))), ?_⟩
    intro p hp
    have s1 : Same H (upd H p (.dK [])) := Same.upd_new hp
    refine ⟨_, rfl, a, _, rfl, .inl (s1.seq ha), fun l hl => ?_⟩
    have nlp : l ≠ p := fun e => by rw [e, upd_same] at hl; cases hl
    have hHl : H l = none := s1.free hl
    refine ⟨by rw [upd_ne nlp.symm, upd_same], tapeD l 0 0 0 7 0, rfl, (show (6 : Nat) ≤ 15 by decide), ?_⟩
    refine q p l _ (fun b u e => ?_) hp ⟨⟨0, 0, 0, 7, 0, upd_same, by decide⟩, ns, by rw [upd_ne nlp, upd_same]⟩ hHl
    rw [upd_ne (ne_of_none e hp), upd_ne (ne_of_none e hHl), upd_ne (ne_of_none e hp)]
    exact e
def PD (Q : VK) (p l : Addr) (m : Int) (H : Hp) : TS := fun D σ H1 => D.rt = Q ∧ ∃ (a g le se tu : Int) (u v : Option V), σ = [some (.ref p), some (.int m), u, v] ∧ 0 ≤ a ∧ H1 = upd H p (.dK (tapeD l a g le se tu))
def PE2 (Q : VK) (p l : Addr) (m : Int) (H : Hp) : TS := fun D σ H1 => D.rt = Q ∧ ∃ (a g le se tu dg : Int) (u : Option V), σ = [some (.ref p), some (.int m), u, some (.int dg)] ∧ 0 ≤ a ∧ H1 = upd H p (.dK (tapeD l a g le se tu))
theorem sc__law_draw : FnScope ["_law_tape_here", "_law_many", "_law_cell", "_law_digit"] ["_law_tape_here", "_law_many"] (defScope s__law_draw) := ⟨rfl, rfl, rfl, by decide +kernel, rfl, by decide +kernel, by decide +kernel⟩
theorem ok__law_draw (T : Top w K mg) : HasF w K mg base 2 "_law_draw" ["_law_tape_here", "_law_many"] (spDraw K) := by
  refine .of T (has_ex (k := 1) T 13 (d := dD ("_law_draw", none) "_law_draw" "_law_draw" s__law_draw) rfl sc__law_draw (fun _ => rfl) (fun _ _ _ _ _ _ us hl => match us, hl with | [_, _], _ => rfl) (fun vs H Q E h => ?_) (fun cdv A outer s H vs Q E hr h => ?_))
  · obtain ⟨p, l, m, rfl, _⟩ := h
    rfl
  · obtain ⟨p, l, m, rfl, hm, ⟨⟨a, g, le, se, tu, ht, h0⟩, ns, hl⟩, q⟩ := h
    have hu := hu_of hr
    have nlp : l ≠ p := ne_of hl ht (by intro z; cases z)
    have hl' : ∀ o : HO, (upd H p o) l = some (.lst (ns.map V.int)) := fun o => by rw [upd_ne nlp]; exact hl
    have fin : ∀ (r a g le se tu : Int), 0 ≤ a → 0 ≤ r → r < m → Q (.int r) (upd H p (.dK (tapeD l a g le se tu))) := fun r a g le se tu h0 h1 h2 =>
      q r _ h1 h2 (FrX.upd (Same.refl H).fr (by simp)) ⟨⟨a, g, le, se, tu, upd_same, h0⟩, ns, hl' _⟩
    have sz : ∀ a g le se tu : Int, (tapeD l a g le se tu).length < sizeLine := fun a g le se tu => by show 6 < sizeLine; rw [sizeLine_eq]; decide
    refine ⟨_, (pss_cons (ps_dput hu (pv 0) pe_str (pe_op op_add (pe_dget hu (pv 0) pe_str (fun _ _ => rfl)) pe_int) rfl)
      (pss_by (PD Q p l m H) (pss_cons (ps_if (PW.pt (pw_and (pt_cmpR op_eq (pe_dget hu (pv 0) pe_str (fun _ _ => rfl)) pe_int (nomark _)) (pw_and1 (pt_cmpR op_lt (pe_dget hu (pv 0) pe_str (fun _ _ => rfl)) (pe_len T (pe_dget hu (pv 0) pe_str (fun _ _ => rfl))) (nomark _))))) (pss_cons (ps_set (i := 2) sc__law_draw.nd rfl (Or.inl rfl) (pe_ix ix_list (pe_dget hu (pv 0) pe_str (fun _ _ => rfl)) (pe_dget hu (pv 0) pe_str (fun _ _ => rfl)) (fun _ _ => rfl)))
      (pss_cons (ps_dput hu (pv 0) pe_str (pe_op op_add (pe_dget hu (pv 0) pe_str (fun _ _ => rfl)) pe_int) rfl)
      (pss_cons (ps_dput hu (pv 0) pe_str (pe_fn (ok__law_mixed T) rfl hr (by omega) (pa_cons (pe_op op_add (pe_dget hu (pv 0) pe_str (fun _ _ => rfl)) (pv 2)) (pa_cons (pe_dget hu (pv 0) pe_str (fun _ _ => rfl)) pa_nil))) rfl)
      (pss_cons (ps_dput hu (pv 0) pe_str pe_int rfl)
      (pss_one (ps_if (pt_cmpR op_ge (pv 2) (pe_op op_pow pe_int pe_int) (nomark _)) (pss_cons (ps_dput hu (pv 0) pe_str (pv 2) rfl)
      (pss_one (ps_dput hu (pv 0) pe_str pe_int rfl))) pss_nil)))))) pss_nil)
      (pss_by (PD Q p l m H) (pss_cons (ps_if (pt_cmpR op_gt (pe_dget hu (pv 0) pe_str (fun _ _ => rfl)) pe_int (nomark _)) (pss_one (ps_dput hu (pv 0) pe_str (pe_op op_sub (pe_dget hu (pv 0) pe_str (fun _ _ => rfl)) pe_int) rfl)) pss_nil)
      (pss_by (PD Q p l m H) (pss_cons (ps_if (pt_cmpR op_eq (pe_dget hu (pv 0) pe_str (fun _ _ => rfl)) pe_int (nomark _)) (pss_one (ps_ret (pe_op op_mod (pe_intN T (pe_fn (ok__law_mixed T) rfl hr (by omega) (pa_cons (pe_dget hu (pv 0) pe_str (fun _ _ => rfl)) (pa_cons (pe_dget hu (pv 0) pe_str (fun _ _ => rfl)) pa_nil)))) (pv 1)))) pss_nil)
      (pss_cons (ps_set (i := 3) sc__law_draw.nd rfl (Or.inl rfl) (pe_op op_mod (pe_intN T (pe_dget hu (pv 0) pe_str (fun _ _ => rfl))) pe_int))
      (pss_cons (ps_dput hu (pv 0) pe_str (pe_op op_fdiv (pe_dget hu (pv 0) pe_str (fun _ _ => rfl)) pe_int) rfl)
      (pss_by (PE2 Q p l m H) (pss_cons (ps_if (PW.pt (pw_or (pt_cmpR op_eq (pe_dget hu (pv 0) pe_str (fun _ _ => rfl)) pe_int (nomark _)) (pw_or1 (pt_cmpR op_eq (pe_dget hu (pv 0) pe_str (fun _ _ => rfl)) pe_int (nomark _))))) (pss_cons (ps_dput hu (pv 0) pe_str pe_int rfl)
      (pss_one (ps_dput hu (pv 0) pe_str pe_int rfl))) pss_nil)
      (pss_one (ps_ret (pe_op op_mod (pe_intN T (pv 3)) (pv 1))))) ?p6)))) ?p3)) ?p2)) ?p1)), ?_⟩
    case refine_2 =>
      exact ⟨_, rfl, p, _, rfl, DGet.k (k := sK "turn") ht, _, _, rfl, rfl, _, rfl, p, _, rfl, DPut.k (k := sK "turn") ht (sz _ _ _ _ _), rfl, a, g, le, se, tu + 1, none, none, rfl, h0, rfl⟩
    case p1 =>
      rintro D σ H1 ⟨hD, a, g, le, se, tu, u, v, rfl, h0, rfl⟩
      have self : PD Q p l m H D [some (.ref p), some (.int m), u, v] (upd H p (.dK (tapeD l a g le se tu))) := ⟨hD, a, g, le, se, tu, u, v, rfl, h0, rfl⟩
      refine ⟨_, rfl, p, _, rfl, DGet.k (k := sK "left") upd_same, rfl, _, rfl, ?_⟩
      refine ite2 (fun _ => ?_) (fun _ => iteF self)
      refine ⟨_, rfl, p, _, rfl, DGet.k (k := sK "at") upd_same, _, rfl, p, _, rfl, DGet.k (k := sK "cells") upd_same, _, _, rfl, .inl (.of (hl' _)), _, _, rfl, rfl, _, rfl, ?_⟩
      refine ite2 (fun ca => ?_) (fun _ => self)
      have ca : a < ((ns.map V.int).length : Nat) := of_decide_eq_true ca
      rw [List.length_map] at ca
      have hc : (ns.map V.int)[a.toNat]? = some (V.int (ns[a.toNat]'(by omega))) := by simp
      refine ⟨_, rfl, p, _, rfl, DGet.k (k := sK "cells") upd_same, _, rfl, p, _, rfl, DGet.k (k := sK "at") upd_same, l, _, a, _, rfl, rfl, .of (hl' _), atI_eq (i := a.toNat) (by omega) hc, ?_⟩
      refine ⟨_, rfl, p, _, rfl, DGet.k (k := sK "at") upd_same, _, _, rfl, rfl, _, rfl, p, _, rfl, DPut.k (k := sK "at") upd_same (show (6 : Nat) < sizeLine by rw [sizeLine_eq]; decide), ?_⟩
      refine ⟨_, rfl, p, _, rfl, DGet.k (k := sK "seed") upd_same, _, rfl, _, _, rfl, rfl, _, rfl, p, _, rfl, DGet.k (k := sK "at") upd_same, _, _, rfl, fun mm => ?_⟩
      refine ⟨_, rfl, p, _, rfl, DPut.k (k := sK "seed") upd_same (show (6 : Nat) < sizeLine by rw [sizeLine_eq]; decide), ?_⟩
      refine ⟨_, rfl, p, _, rfl, DPut.k (k := sK "left") upd_same (show (6 : Nat) < sizeLine by rw [sizeLine_eq]; decide), ?_⟩
      refine ⟨_, rfl, _, _, rfl, rfl, ⟨by decide, by decide, by decide⟩, _, _, rfl, rfl, _, rfl, ?_⟩
      refine ite2 (fun _ => ?_) (fun _ => ?_)
      · refine ⟨_, rfl, _, rfl, p, _, rfl, DPut.k (k := sK "great") upd_same (show (6 : Nat) < sizeLine by rw [sizeLine_eq]; decide), ?_⟩
        refine ⟨_, rfl, p, _, rfl, DPut.k (k := sK "left") upd_same (show (6 : Nat) < sizeLine by rw [sizeLine_eq]; decide), ?_⟩
        exact ⟨hD, a + 1, _, 60, mm, tu, _, _, rfl, by omega, by simp only [upd_upd]; rfl⟩
      · exact ⟨hD, a + 1, g, 4, mm, tu, _, _, rfl, by omega, by simp only [upd_upd]; rfl⟩
    case p2 =>
      rintro D σ H1 ⟨hD, a, g, le, se, tu, u, v, rfl, h0, rfl⟩
      refine ⟨_, rfl, p, _, rfl, DGet.k (k := sK "left") upd_same, _, _, rfl, rfl, _, rfl, ?_⟩
      refine ite2 (fun _ => ?_) (fun _ => ⟨hD, a, g, le, se, tu, u, v, rfl, h0, rfl⟩)
      refine ⟨_, rfl, p, _, rfl, DGet.k (k := sK "left") upd_same, _, _, rfl, rfl, _, rfl, p, _, rfl, DPut.k (k := sK "left") upd_same (show (6 : Nat) < sizeLine by rw [sizeLine_eq]; decide), ?_⟩
      exact ⟨hD, a, g, le - 1, se, tu, _, _, rfl, h0, by simp only [upd_upd]; rfl⟩
    case p3 =>
      rintro D σ H1 ⟨hD, a, g, le, se, tu, u, v, rfl, h0, rfl⟩
      refine ⟨_, rfl, p, _, rfl, DGet.k (k := sK "great") upd_same, rfl, _, rfl, ?_⟩
      refine ite2 (fun _ => ?_) (fun _ => ?_)
      · refine ⟨_, rfl, p, _, rfl, DGet.k (k := sK "seed") upd_same, _, rfl, p, _, rfl, DGet.k (k := sK "turn") upd_same, _, _, rfl, fun mm => .inl ⟨_, rfl, _, rfl, _, _, rfl, rfl, hm, ?_⟩⟩
        show D.rt _ _
        rw [hD]
        exact fin _ a g le se tu h0 (Int.emod_nonneg _ (by omega)) (Int.emod_lt_of_pos _ hm)
      refine ⟨_, rfl, p, _, rfl, DGet.k (k := sK "great") upd_same, .inl ⟨_, rfl, _, _, rfl, rfl, (show (0 : Int) < 1009 by decide), ?_⟩⟩
      refine ⟨_, rfl, p, _, rfl, DGet.k (k := sK "great") upd_same, _, _, rfl, rfl, ⟨by decide, by decide⟩, _, rfl, p, _, rfl, DPut.k (k := sK "great") upd_same (show (6 : Nat) < sizeLine by rw [sizeLine_eq]; decide), ?_⟩
      exact ⟨hD, a, g / 1009, le, se, tu, _, _, rfl, h0, by simp only [upd_upd]; rfl⟩
    case p6 =>
      rintro D σ H1 ⟨hD, a, g, le, se, tu, dg, u, rfl, h0, rfl⟩
      have last : ∀ (a g le se tu : Int), 0 ≤ a → Q (.int (dg % m)) (upd H p (.dK (tapeD l a g le se tu))) := fun a g le se tu h0 => fin _ a g le se tu h0 (Int.emod_nonneg _ (by omega)) (Int.emod_lt_of_pos _ hm)
      have put : ∀ (X : HO), X = .dK (tapeD l a 0 0 se tu) → Q (.int (dg % m)) (upd H p X) := fun X e => by rw [e]; exact last a 0 0 se tu h0
      refine ⟨_, rfl, p, _, rfl, DGet.k (k := sK "great") upd_same, rfl, _, rfl, ?_⟩
      refine ite2 (fun _ => ?_) (fun _ => ?_)
      · refine iteT ?_
        refine ⟨_, rfl, p, _, rfl, DPut.k (k := sK "great") upd_same (show (6 : Nat) < sizeLine by rw [sizeLine_eq]; decide), ?_⟩
        refine ⟨_, rfl, p, _, rfl, DPut.k (k := sK "left") upd_same (show (6 : Nat) < sizeLine by rw [sizeLine_eq]; decide), ?_⟩
        refine ⟨_, rfl, .inl ⟨_, rfl, _, rfl, _, _, rfl, rfl, hm, ?_⟩⟩
        show D.rt _ _
        rw [hD]
        simp only [upd_upd]
        exact put _ rfl
      refine ⟨_, rfl, p, _, rfl, DGet.k (k := sK "left") upd_same, rfl, _, rfl, ?_⟩
      refine ite2 (fun _ => ?_) (fun _ => ?_)
      · refine ⟨_, rfl, p, _, rfl, DPut.k (k := sK "great") upd_same (show (6 : Nat) < sizeLine by rw [sizeLine_eq]; decide), ?_⟩
        refine ⟨_, rfl, p, _, rfl, DPut.k (k := sK "left") upd_same (show (6 : Nat) < sizeLine by rw [sizeLine_eq]; decide), ?_⟩
        refine ⟨_, rfl, .inl ⟨_, rfl, _, rfl, _, _, rfl, rfl, hm, ?_⟩⟩
        show D.rt _ _
        rw [hD]
        simp only [upd_upd]
        exact put _ rfl
      · refine ⟨_, rfl, .inl ⟨_, rfl, _, rfl, _, _, rfl, rfl, hm, ?_⟩⟩
        show D.rt _ _
        rw [hD]
        exact last a g le se tu h0
end
end K5
set_option Elab.async false
set_option linter.all false
set_option maxRecDepth 100000
set_option maxHeartbeats 4000000
namespace K5
open PySem PySem.Spec PyProof.Rows L2
/-! ### _law_pick, _law_lot -/
theorem sq_fr {K : PySem.W.Frag} {H H' : Hp} {p l r : Addr} {xs : List V} (t : TapeAt K H p l) (f : FrX [p] H H') (h : SqL K H r xs ∨ SqT K H r xs) : SqL K H' r xs ∨ SqT K H' r xs := by
  rcases h with h | h
  · obtain ⟨⟨a, g, le, s, tu, e, _⟩, _⟩ := t
    refine .inl ?_
    rcases h with (h | ⟨o, h⟩) | h
    · refine .inl (.inl (f _ _ (fun z => ?_) h))
      rw [List.mem_singleton.mp z, e] at h
      cases h
    · refine .inl (.inr ⟨o, f _ _ (fun z => ?_) h⟩)
      rw [List.mem_singleton.mp z, e] at h
      cases h
    · exact .inr h
  · exact .inr (f.sqt t.md.mu h)
def spPick (K : PySem.W.Frag) : Sp := fun vs H Q _ => ∃ (p l r : Addr) (xs : List V), vs = [.ref p, .ref r] ∧ TapeAt K H p l ∧ (SqL K H r xs ∨ SqT K H r xs) ∧ xs ≠ [] ∧ ∀ (i : Nat) x H', xs[i]? = some x → FrX [p] H H' → TapeAt K H' p l → Q x H'
def spLot (K : PySem.W.Frag) : Sp := fun vs H Q _ => ∃ (p l : Addr) (n : Nat), vs = [.ref p, .int (n : Nat)] ∧ TapeAt K H p l ∧ 0 < n ∧ n < 100 ∧ ∀ a ls H', FrX [p] H H' → TapeAt K H' p l → TI K H' a ls → OkLot n ls → ls ≠ [] → Q (.ref a) H'
theorem eqv_ints : ∀ a b : List Int, PyData.eqv (.tuple (a.map .int)) (.tuple (b.map .int)) = decide (a = b) := by
  have key : ∀ a b : List Int, PyData.eqvAll (a.map .int) (b.map .int) = decide (a = b) := by
    intro a
    induction a with
    | nil => intro b; cases b <;> rfl
    | cons x a ih =>
      intro b
      cases b with
      | nil => rfl
      | cons y b =>
        show (PyData.eqv (.int x) (.int y) && PyData.eqvAll (a.map .int) (b.map .int)) = _
        rw [ih b]
        have e : PyData.eqv (.int x) (.int y) = decide (x = y) := by
          show (x == y) = decide (x = y)
          rfl
        rw [e, ← Bool.decide_and]
        simp
  intro a b
  exact key a b
theorem dpAll_ints {K : PySem.W.Frag} {H : Hp} : ∀ ns : List Int, DpAll K H (ns.map V.int) (ns.map .int)
  | [] => .nil
  | n :: ns => .cons (.int n) (dpAll_ints ns)
theorem dp_ti {K : PySem.W.Frag} {H : Hp} {a : Addr} {ns : List Int} (h : TI K H a ns) : Dp K H (.ref a) (.tuple (ns.map .int)) := .tup h (dpAll_ints ns)
theorem sh_ints (ns : List Int) : SeqAt.shaped (.tuple (ns.map .int)) = true := by
  have h1 : ∀ ns : List Int, PyData.canLayAll0 (ns.map .int) = true := fun ns => by
    induction ns with
    | nil => rfl
    | cons n ns ih => exact ih
  have h2 : ∀ ns : List Int, PyData.depthAll (ns.map .int) = 0 := fun ns => by
    induction ns with
    | nil => rfl
    | cons n ns ih => show max 0 (PyData.depthAll (ns.map .int)) = 0; rw [ih]; rfl
  show (PyData.canLayAll0 (ns.map .int) && decide (PyData.depthAll (ns.map .int) + 1 ≤ 64)) = true
  rw [h1, h2]
  rfl
theorem TapeAt.new {K : PySem.W.Frag} {H : Hp} {p l D : Addr} (h : TapeAt K H p l) (hD : H D = none) : D ≠ p ∧ D ≠ l := by
  obtain ⟨⟨a, g, le, s, t, e, _⟩, ns, e2⟩ := h
  exact ⟨fun z => (by rw [z, e] at hD; cases hD), fun z => (by rw [z, e2] at hD; cases hD)⟩
theorem TapeAt.upd {K : PySem.W.Frag} {H : Hp} {p l D : Addr} {o : HO} (h : TapeAt K H p l) (n1 : D ≠ p) (n2 : D ≠ l) : TapeAt K (L2.upd H D o) p l := by
  obtain ⟨⟨a, g, le, s, t, e, h0⟩, ns, e2⟩ := h
  exact ⟨⟨a, g, le, s, t, by rw [upd_ne n1.symm]; exact e, h0⟩, ns, by rw [upd_ne n2.symm]; exact e2⟩
theorem OkLot.up {n : Nat} {l : List Int} (h : OkLot n l) : OkLot (n + 1) l := ⟨fun x hx => ⟨(h.1 x hx).1, by have := (h.1 x hx).2; omega⟩, h.2⟩
theorem OkLot.snoc {n : Nat} {l : List Int} (h : OkLot n l) (hn : n < 500) : OkLot (n + 1) (l ++ [(n : Int)]) := by
  refine ⟨fun x hx => ?_, ?_, ?_⟩
  · rcases List.mem_append.mp hx with hx | hx
    · exact h.up.1 x hx
    · rw [List.mem_singleton.mp hx]; omega
  · rw [List.pairwise_append]
    refine ⟨h.2.1, by simp, fun x hx y hy => ?_⟩
    rw [List.mem_singleton.mp hy]
    have := (h.1 x hx).2
    omega
  · have := h.len
    simp
    omega
section
variable {w : World} {K : PySem.W.Frag} {mg : Str → Option Value} {base : Heap}
theorem sc__law_pick : FnScope ["_law_tape_here", "_law_row"] ["_law_tape_here", "_law_row"] (defScope s__law_pick) := ⟨rfl, rfl, rfl, by decide +kernel, rfl, by decide +kernel, by decide +kernel⟩
theorem ok__law_pick (T : Top w K mg) : HasF w K mg base 3 "_law_pick" ["_law_tape_here", "_law_row"] (spPick K) := by
  refine .of T (has_ex (k := 2) T 14 (d := dD ("_law_pick", none) "_law_pick" "_law_pick" s__law_pick) rfl sc__law_pick (fun _ => rfl) (fun _ _ _ _ _ _ us hl => match us, hl with | [_, _], _ => rfl) (fun vs H Q E h => ?_) (fun cdv A outer s H vs Q E hr h => ?_))
  · obtain ⟨p, l, r, xs, rfl, _⟩ := h
    rfl
  · obtain ⟨p, l, r, xs, rfl, ht, hx, hne, q⟩ := h
    have hpos := List.length_pos_iff.mpr hne
    refine ⟨_, (pss_one (ps_ret (pe_ix ix_seq (pv 1) (pe_fn (ok__law_draw T) rfl hr (by omega) (pa_cons (pv 0) (pa_cons (pe_len T (pv 1)) pa_nil))) (fun _ _ => rfl)))), ?_⟩
    refine ⟨_, rfl, _, rfl, _, rfl, _, _, rfl, hx, p, l, _, rfl, by omega, ht, fun i H1 h0 h1 f t => ?_⟩
    have e : xs[i.toNat]? = some (xs[i.toNat]'(by omega)) := by simp
    rcases sq_fr ht f hx with h | h
    · exact .inl ⟨r, xs, i, _, rfl, rfl, h, atI_eq (i := i.toNat) (by omega) e, q _ _ _ e f t⟩
    · exact .inr (.inl ⟨r, xs, i, _, rfl, rfl, h, atI_eq (i := i.toNat) (by omega) e, q _ _ _ e f t⟩)
theorem sc__law_lot : FnScope ["_law_tape_here", "_law_stores", "_law_lot_here", "_law_store"] ["_law_tape_here", "_law_stores"] (defScope s__law_lot) := ⟨rfl, rfl, rfl, by decide +kernel, rfl, by decide +kernel, by decide +kernel⟩
theorem ok__law_lot (T : Top w K mg) : HasF w K mg base 3 "_law_lot" ["_law_tape_here", "_law_stores"] (spLot K) := by
  refine .of T (has_ex (k := 2) T 16 (d := dD ("_law_lot", none) "_law_lot" "_law_lot" s__law_lot) rfl sc__law_lot (fun _ => rfl) (fun _ _ _ _ _ _ us hl => match us, hl with | [_, _], _ => rfl) (fun vs H Q E h => ?_) (fun cdv A outer s H vs Q E hr h => ?_))
  · obtain ⟨p, l, n, rfl, _⟩ := h
    rfl
  · obtain ⟨p, l, n, rfl, ht, hn, hn2, q⟩ := h
    have hu := hr.units
    refine ⟨_, (pss_cons (ps_set (i := 2) sc__law_lot.nd rfl (Or.inl rfl) (pe_tuple T (pe_lc (own := [("_law_store", 3)]) (g := gName 3)  rfl sc__law_lot.nd (pi_range1 rfl (T.free _ (by decide +kernel)) (pa_cons (pv 1) pa_nil)) (blkOk_by (N := ["_law_tape_here", "_law_stores", "_law_lot_here", "_law_store"]) (sc := defScope s__law_lot) (by decide +kernel)) (fun _ _ _ _ _ => (pg_name (i := 3) sc__law_lot.nd rfl (Or.inl rfl))) (fun _ _ _ _ _ => pts_one (pt_cmpR op_eq (pe_fn (ok__law_draw T) rfl hr (by omega) (pa_cons (pv 0) (pa_cons pe_int pa_nil))) pe_int (nomark _))) (fun _ _ _ _ _ => (pv 3)))))
      (pss_cons (ps_if (pt_cmpR (op_eqD hu) (pv 2) (pe_tup pa_nil) (nomark _)) (pss_one (ps_set (i := 2) sc__law_lot.nd rfl (Or.inl rfl) (pe_tup (pa_cons (pe_fn (ok__law_draw T) rfl hr (by omega) (pa_cons (pv 0) (pa_cons (pv 1) pa_nil))) pa_nil)))) pss_nil)
      (pss_one (ps_ret (pv 2))))), ?_⟩
    refine ⟨_, rfl, _, rfl, by omega, by omega, fun D hD => ?_⟩
    obtain ⟨nDp, nDl⟩ := ht.new hD
    have npD : D ∉ [p] := by simpa using nDp
    refine lc_gen (n := ((n : Nat) : Int).toNat) walk_range [p] (fun H => TapeAt K H p l) (fun i acc _ => ∃ ns : List Int, acc = ns.map V.int ∧ OkLot i ns) hD npD (by omega) (fun H o h => h.upd nDp nDl) (fun _ _ _ _ _ _ h => h) ht ⟨[], rfl, by simp, .nil, by simp⟩ (fun _ _ _ => trivial) ?_ ?_
    · rintro i x H1 H2 acc N1 N0 hi f1 t1 e1 ⟨ns, rfl, ok⟩ ⟨rfl, rfl⟩ k1 k0
      refine ⟨rfl, ?_⟩
      refine ⟨_, rfl, p, l, 2, rfl, by decide, t1, fun r H3 h0 h1 f t => ⟨rfl, _, rfl, ?_⟩⟩
      refine ite2 (fun _ => ?_) (fun _ => k0 _ f t ⟨ns, rfl, ok.up⟩)
      refine ⟨_, rfl, k1 _ _ f t ⟨ns ++ [(i : Int)], ?_, ok.snoc (by omega)⟩⟩
      simp
    · intro H1 acc f1 t1 e1 ⟨ns, e2, ok⟩
      have en : ((n : Nat) : Int).toNat = n := by omega
      rw [en] at ok
      subst e2
      refine ⟨D, _, rfl, .inl ⟨.of e1, fun a ha => ?_⟩⟩
      have sa : Same H1 (upd H1 a (.tup (ns.map V.int))) := Same.upd_new ha
      have hta : TI K (upd H1 a (.tup (ns.map V.int))) a ns := .of upd_same
      have t2 := t1.same sa
      refine ⟨_, rfl, by show 0 ≤ sizeLine; decide, fun b hb => ?_⟩
      have sb := Same.upd_new (o := .tup []) hb
      refine ⟨_, _, dp_ti (sb.sqt hta), dp_ti (ns := []) (.of upd_same), sh_ints _, sh_ints _, _, rfl, ?_⟩
      rw [eqv_ints]
      have fab : FrX [p] H (upd (upd H1 a (.tup (ns.map V.int))) b (.tup [])) := (f1.trans sa.fr).trans sb.fr
      refine ite2 (fun _ => ?_) (fun hne => ?_)
      · refine ⟨_, rfl, _, rfl, p, l, n, rfl, by omega, t2.same sb, fun r H3 h0 h1 f t => ⟨by show 1 ≤ sizeLine; decide, fun c hc => ?_⟩⟩
        refine ⟨_, rfl, q c [r] _ ((fab.trans f).trans (Same.upd_new hc).fr) (t.same (Same.upd_new hc)) (.of upd_same) ⟨by simp; omega, by simp, by simp⟩ (by simp)⟩
      · exact ⟨_, rfl, q a ns _ fab (t2.same sb) (sb.sqt hta) ok (by simpa using hne)⟩
end
end K5
set_option Elab.async false
set_option linter.all false
set_option maxRecDepth 100000
set_option maxHeartbeats 4000000
namespace K5
open PySem PySem.Spec PyProof.Rows L2
/-! ### _law_lots: the plain side -/
def rk (ra : List Int) (j : Int) : Int := ra.getD j.toNat 0
def stepL (ra : List Int) (s : Nat) (ls : List (List Int)) : List (List Int) := (ls.filter fun l => !(l.map (rk ra)).contains (ra.getD s 0)).map (· ++ [(s : Int)])
def lotsF (ra : List Int) : Nat → List (List Int)
  | 0 => [[]]
  | s + 1 => lotsF ra s ++ stepL ra s (lotsF ra s)
/-- how many racks are unlike, of the first so many -/
def unl (ra : List Int) : Nat → Nat
  | 0 => 0
  | s + 1 => unl ra s + if (ra.take s).contains (ra.getD s 0) then 0 else 1
theorem lotsF_len (ra : List Int) : ∀ s, (lotsF ra s).length ≤ 2 ^ s
  | 0 => Nat.le_refl _
  | s + 1 => by
    have := lotsF_len ra s
    show (lotsF ra s ++ stepL ra s (lotsF ra s)).length ≤ 2 ^ (s + 1)
    rw [List.length_append]
    have h2 : (stepL ra s (lotsF ra s)).length ≤ (lotsF ra s).length := by
      unfold stepL
      rw [List.length_map]
      exact List.length_filter_le ..
    rw [Nat.pow_succ]
    omega
theorem lotsF_ok (ra : List Int) : ∀ s, s < 400 → ∀ l ∈ lotsF ra s, OkLot s l
  | 0, _, l, h => by
    have e : l = [] := by simpa [lotsF] using h
    rw [e]
    exact ⟨by simp, .nil, by simp⟩
  | s + 1, hs, l, h => by
    rcases List.mem_append.mp (show l ∈ lotsF ra s ++ stepL ra s (lotsF ra s) from h) with h | h
    · exact (lotsF_ok ra s (by omega) l h).up
    · obtain ⟨m, hm, rfl⟩ := List.mem_map.mp h
      exact (lotsF_ok ra s (by omega) m (List.mem_filter.mp hm).1).snoc (by omega)
theorem lotsF_has (ra : List Int) : ∀ s, s ≤ ra.length → s < 400 → ∀ k, k ≤ unl ra s → ∃ l ∈ lotsF ra s, l.length = k
  | 0, _, _, k, hk => by
    have : k = 0 := by simpa [unl] using hk
    exact ⟨[], by simp [lotsF], this.symm⟩
  | s + 1, hs, h4, k, hk => by
    by_cases h1 : k ≤ unl ra s
    · obtain ⟨l, hl, e⟩ := lotsF_has ra s (by omega) (by omega) k h1
      exact ⟨l, List.mem_append_left _ hl, e⟩
    · have hc : (ra.take s).contains (ra.getD s 0) = false := by
        cases h : (ra.take s).contains (ra.getD s 0) with
        | false => rfl
        | true => unfold unl at hk; rw [if_pos h] at hk; omega
      unfold unl at hk
      rw [if_neg (by rw [hc]; decide)] at hk
      obtain ⟨l, hl, e⟩ := lotsF_has ra s (by omega) (by omega) (unl ra s) (Nat.le_refl _)
      refine ⟨l ++ [(s : Int)], List.mem_append_right _ (List.mem_map.mpr ⟨l, List.mem_filter.mpr ⟨hl, ?_⟩, rfl⟩), by rw [List.length_append, List.length_singleton]; omega⟩
      have ok := lotsF_ok ra s (by omega) l hl
      have hn : ra.getD s 0 ∉ l.map (rk ra) := by
        intro hm
        obtain ⟨j, hj, e2⟩ := List.mem_map.mp hm
        have bj := ok.1 j hj
        have : ra.getD s 0 ∈ ra.take s := by
          rw [← e2]
          have hlt : j.toNat < ra.length := by omega
          have : rk ra j = ra[j.toNat] := by simp [rk, List.getD, hlt]
          rw [this]
          exact List.mem_iff_getElem.mpr ⟨j.toNat, by rw [List.length_take]; omega, by rw [List.getElem_take]⟩
        rw [List.contains_iff_mem.mpr this] at hc
        cases hc
      have hf : (l.map (rk ra)).contains (ra.getD s 0) = false := by
        rw [← Bool.not_eq_true, List.contains_iff_mem]
        exact hn
      rw [hf]
      rfl
/-- values that are tuples of these ints -/
def LsAt (K : PySem.W.Frag) (H : Hp) (vs : List V) (ls : List (List Int)) : Prop := vs.length = ls.length ∧ ∀ (i : Nat) (v : V) (l : List Int), vs[i]? = some v → ls[i]? = some l → TupI K H v l
theorem TupI.fr {K : PySem.W.Frag} {M : List Addr} {H H' : Hp} {v : V} {l : List Int} (f : FrX M H H') (m : MuX M H) (h : TupI K H v l) : TupI K H' v l := let ⟨t, e, q⟩ := h; ⟨t, e, f.sqt m q⟩
theorem LsAt.fr {K : PySem.W.Frag} {M : List Addr} {H H' : Hp} {vs : List V} {ls : List (List Int)} (f : FrX M H H') (m : MuX M H) (h : LsAt K H vs ls) : LsAt K H' vs ls := ⟨h.1, fun i v l e1 e2 => TupI.fr f m (h.2 i v l e1 e2)⟩
theorem LsAt.same {K : PySem.W.Frag} {H H' : Hp} {vs : List V} {ls : List (List Int)} (s : Same H H') (h : LsAt K H vs ls) : LsAt K H' vs ls := h.fr (M := []) s.fr noMu
theorem LsAt.app {K : PySem.W.Frag} {H : Hp} {vs us : List V} {ls ms : List (List Int)} (h : LsAt K H vs ls) (g : LsAt K H us ms) : LsAt K H (vs ++ us) (ls ++ ms) := by
  refine ⟨by simp [h.1, g.1], fun i v l e1 e2 => ?_⟩
  have l1 := h.1
  by_cases hi : i < vs.length
  · rw [List.getElem?_append_left hi] at e1
    rw [List.getElem?_append_left (by omega)] at e2
    exact h.2 i v l e1 e2
  · rw [List.getElem?_append_right (by omega)] at e1
    rw [List.getElem?_append_right (by omega)] at e2
    rw [l1] at e1
    exact g.2 _ v l e1 e2
theorem LsAt.one {K : PySem.W.Frag} {H : Hp} {v : V} {l : List Int} (h : TupI K H v l) : LsAt K H [v] [l] := by
  refine ⟨rfl, fun i u m e1 e2 => ?_⟩
  cases i with
  | zero => cases e1; cases e2; exact h
  | succ i => simp at e1
theorem LsAt.nil {K : PySem.W.Frag} {H : Hp} : LsAt K H [] [] := ⟨rfl, fun i u m e1 e2 => by simp at e1⟩
theorem inV_ints (r : Int) (l : List Int) : inV (.int r) (l.map V.int) = l.contains r := by
  unfold inV
  induction l with
  | nil => rfl
  | cons x l ih =>
    rw [List.map_cons, List.any_cons, ih, List.contains_cons]
    have e : eqV (.int x) (.int r) = (r == x) := by
      show (x == r) = (r == x)
      rw [Bool.eq_iff_iff]; simp; exact eq_comm
    rw [e]
section
variable {X : Cx} {a : Expr} {ta : TE} {p pos : Pos}
theorem pe_sortT (T : Top X.w X.K X.mg) {d : Nat} (hd : 1 ≤ d) {B : Int} (ha : PE X a ta) (hg : Gl X "sorted" := by rfl) (h1 : starEach [a] X.env = (false, eval a X.env) :: starEach [] X.env := by rfl) (hpl : (backTo pos (starEach [] X.env)).any (·.1) = false := by rfl) :
    PE X (.Call (.Name "sorted" p) [a] [] pos) (tCB (rSortU X.K d B) (tCons ta tNil)) := pe_callB (cr_sortT hd) hg (T.free _ (by decide +kernel)) boots.2.2.2.2.2.2.2.2.1 (pa_cons ha pa_nil h1) (by decide) (by decide) h1 hpl
end
section
variable {X : Cx} {s s' : Shared} {H H' : Hp} {sc sc' : Scope} {env env' : Env} {fp fp' : List Addr}
theorem ix_listC : IxR ((X.blk s H sc env fp).blk s' H' sc' env' fp') (rIxL X.K) := ix_list
theorem op_in_seqC : OpR ((X.blk s H sc env fp).blk s' H' sc' env' fp') (compareOp .In) (rIn X.K false) := op_in_seq
end
def spLots (K : PySem.W.Frag) : Sp := fun vs H Q _ => ∃ (r : Addr) (ra : List Int) (k : Nat), vs = [.ref r, .int (k : Nat)] ∧ SqL K H r (ra.map V.int) ∧ ra.length ≤ 5 ∧ 1 ≤ k ∧ k ≤ unl ra ra.length ∧
  ∀ D ys H', Same H H' → H' D = some (.lst ys) → ys ≠ [] → (∀ y ∈ ys, ∃ ns, TupI K H' y ns ∧ OkLot ra.length ns ∧ ns.length = k) → Q (.ref D) H'
section
variable {w : World} {K : PySem.W.Frag} {mg : Str → Option Value} {base : Heap}
theorem sc__law_lots : FnScope ["_law_racks", "_law_wish", "_law_found", "_law_store", "_law_lot_here", "_law_one"] ["_law_racks", "_law_wish"] (defScope s__law_lots) := ⟨rfl, rfl, rfl, by decide +kernel, rfl, by decide +kernel, by decide +kernel⟩
theorem ok__law_lots (T : Top w K mg) : HasF w K mg base 1 "_law_lots" ["_law_racks", "_law_wish"] (spLots K) := by
  refine .of T (has_ex (k := 0) T 15 (d := dD ("_law_lots", none) "_law_lots" "_law_lots" s__law_lots) rfl sc__law_lots (fun _ => rfl) (fun _ _ _ _ _ _ us hl => match us, hl with | [_, _], _ => rfl) (fun vs H Q E h => ?_) (fun cdv A outer s H vs Q E hr h => ?_))
  · obtain ⟨r, ra, k, rfl, _⟩ := h
    rfl
  · obtain ⟨r, ra, k, rfl, hra, h5, hd, hk, q⟩ := h
    refine ⟨_, (pss_cons (ps_set (i := 2) sc__law_lots.nd rfl (Or.inl rfl) (pe_lst (pa_cons (pe_tup pa_nil) pa_nil)))
      (pss_cons (ps_for (passes_of rfl) rfl (pi_range1 rfl (T.free _ (by decide +kernel)) (pa_cons (pe_len T (pv 0)) pa_nil)) (pg_name (i := 3) sc__law_lots.nd rfl (Or.inr rfl)) (pss_one (ps_set (i := 2) sc__law_lots.nd rfl (Or.inl rfl) (pe_op op_cat (pv 2) (pe_lc (own := [("_law_lot_here", 4)]) (g := gName 4)  rfl sc__law_lots.nd (pi_list (pv 2)) (blkOk_by (N := ["_law_racks", "_law_wish", "_law_found", "_law_store", "_law_lot_here", "_law_one"]) (sc := defScope s__law_lots) (by decide +kernel)) (fun _ _ _ _ _ => (pg_name (i := 4) sc__law_lots.nd rfl (Or.inl rfl))) (fun _ _ _ _ _ => pts_one (pt_cmpR op_notIn_seqB (pe_ix ix_listB (pv 0) (pv 3) (fun _ _ => rfl)) (pe_lc (own := [("_law_one", 5)]) (g := gName 5) (tt := tYes) rfl sc__law_lots.nd (pi_tupB (pv 4)) (blkOk_by (by rfl)) (fun _ _ _ _ _ => (pg_name (i := 5) sc__law_lots.nd rfl (Or.inl rfl))) (fun _ _ _ _ _ => pts_nil) (fun _ _ _ _ _ => (pe_ix ix_listC (pv 0) (pv 5) (fun _ _ => rfl)))) rfl)) (fun _ _ _ _ _ => (pe_op op_catAB (pv 4) (pe_tup (pa_cons (pv 3) pa_nil)))))))))
      (pss_one (ps_ret (pe_sortT T hd (B := 100) (pe_lc (own := [("_law_lot_here", 4)]) (g := gName 4)  rfl sc__law_lots.nd (pi_list (pv 2)) (blkOk_by (N := ["_law_racks", "_law_wish", "_law_found", "_law_store", "_law_lot_here", "_law_one"]) (sc := defScope s__law_lots) (by decide +kernel)) (fun _ _ _ _ _ => (pg_name (i := 4) sc__law_lots.nd rfl (Or.inl rfl))) (fun _ _ _ _ _ => pts_one (pt_cmpR op_eq (pe_lenB T (pv 4)) (pv 1) (nomark _))) (fun _ _ _ _ _ => (pv 4)))))))), ?_⟩
    have hn5 := h5
    have p32 : ∀ s, s ≤ 5 → (2 : Nat) ^ s ≤ 32 := fun s hs => Nat.le_trans (Nat.pow_le_pow_right (by decide) hs) (by decide)
    refine ⟨by show 0 ≤ sizeLine; decide, fun t ht => ⟨by show 1 ≤ sizeLine; decide, fun F hF => ?_⟩⟩
    have st := Same.upd_new (o := .tup []) ht
    have sF := Same.upd_new (o := .lst [.ref t]) hF
    refine ⟨_, rfl, _, _, rfl, .inl ((st.trans sF).seq hra), _, rfl, by omega, by rw [List.length_map]; omega, ?_⟩
    have en : ((((ra.map V.int).length : Nat)) : Int).toNat = ra.length := by rw [List.length_map]; omega
    rw [en]
    refine for_range (fun i σ H2 => ∃ (F : Addr) (vs : List V) (u3 u4 u5 : Option V), σ = [some (.ref r), some (.int (k : Nat)), some (.ref F), u3, u4, u5] ∧ Same H H2 ∧ H2 F = some (.lst vs) ∧ LsAt K H2 vs (lotsF ra i))
      ⟨F, [.ref t], none, none, none, rfl, st.trans sF, upd_same, LsAt.one ⟨t, rfl, sF.sqt (.of upd_same)⟩⟩ ?_ ?_
    · rintro i σ H2 hi ⟨F, vs, u3, u4, u5, rfl, s2, eF, hv⟩
      have hl1 := hv.1
      have hl2 := lotsF_len ra i
      have hl3 := p32 i (by omega)
      have e0 : (0 : Int) + ((i : Nat) : Int) = (i : Nat) := by omega
      have hra2 : SqL K H2 r (ra.map V.int) := s2.seq hra
      have eri : (ra.map V.int)[i]? = some (V.int (ra.getD i 0)) := by simp [List.getD, hi]
      refine ⟨_, rfl, _, rfl, F, rfl, ⟨_, .of eF⟩, fun D hD => ?_⟩
      refine lc_gen (walk_list (xs := vs)) [] (fun _ => True) (fun j acc H => LsAt K H acc (stepL ra i ((lotsF ra i).take j))) hD (by simp) (by omega) (fun _ _ _ => trivial) (fun j acc H l o e h => h.fr (M := [D]) (FrX.upd (Same.refl _).fr (by simp)) (MuX.one e rfl)) trivial (by simpa [stepL] using LsAt.nil) (fun H f _ => .of (f _ _ (by simp) eF)) ?_ ?_
      · rintro j x H3 H4 acc N1 N0 hj f3 _ eD hR ⟨rfl, ex⟩ k1 k0
        have s3 : Same H2 H4 := fun b o e => f3 b o (by simp) e
        have hjl : j < (lotsF ra i).length := by omega
        have el : (lotsF ra i)[j]? = some (lotsF ra i)[j] := by simp [hjl]
        obtain ⟨tt, rfl, htt⟩ := TupI.fr (M := []) s3.fr noMu (hv.2 j x _ ex el)
        have okl := lotsF_ok ra i (by omega) _ (List.getElem_mem hjl)
        have lz := okl.len
        have tk : (lotsF ra i).take (j + 1) = (lotsF ra i).take j ++ [(lotsF ra i)[j]] := by rw [List.take_add_one, el]; rfl
        refine ⟨rfl, ?_⟩
        refine ⟨_, rfl, _, rfl, r, _, _, _, rfl, rfl, s3.seq hra2, atI_eq (i := i) e0 eri, _, rfl, tt, rfl, ⟨_, htt⟩, fun D2 hD2 => ?_⟩
        refine lc_vals walk_tup ((lotsF ra i)[j].map fun n => V.int (rk ra n)) (by simp) hD2 (by simp; omega) (fun H s => s.sqt htt) ?_ ?_
        · rintro m y z H5 H6 M1 M0 ey s5 ⟨rfl, ez⟩ kk
          obtain ⟨n, en', rfl⟩ := map_get ez
          obtain ⟨n', en2, rfl⟩ := map_get ey
          rw [en'] at en2; cases en2
          have bn := okl.1 n (List.mem_of_getElem? en')
          have er : (ra.map V.int)[n.toNat]? = some (V.int (rk ra n)) := by
            have hlt : n.toNat < ra.length := by omega
            simp [rk, List.getD, hlt]
          exact ⟨rfl, yesT ⟨_, rfl, _, rfl, r, _, _, _, rfl, rfl, s5.seq (s3.seq hra2), atI_eq (i := n.toNat) (by omega) er, kk _ (Same.refl _)⟩⟩
        · intro H5 s5 e5
          have em : ((lotsF ra i)[j].map fun n => V.int (rk ra n)) = ((lotsF ra i)[j].map (rk ra)).map V.int := by rw [List.map_map]; rfl
          rw [em] at e5
          have s5' : FrX [] H4 H5 := s5.fr
          refine ⟨D2, _, rfl, .inl (.of e5), rfl, by simp [List.all_map, flatV], _, rfl, ?_⟩
          rw [inV_ints]
          cases hc : ((lotsF ra i)[j].map (rk ra)).contains (ra.getD i 0) with
          | true =>
            refine iteF (k0 _ s5' trivial ?_)
            have : stepL ra i ((lotsF ra i).take (j + 1)) = stepL ra i ((lotsF ra i).take j) := by
              rw [tk]
              unfold stepL
              rw [List.filter_append, List.filter_cons, hc]
              simp
            rw [this]
            exact hR.same s5
          | false =>
            refine iteT ⟨_, rfl, _, rfl, by show 1 ≤ sizeLine; decide, fun p hp => ?_⟩
            refine app_of (s5.sqt htt) hp (by omega) fun b H6 s6 h6 => ?_
            have : stepL ra i ((lotsF ra i).take (j + 1)) = stepL ra i ((lotsF ra i).take j) ++ [(lotsF ra i)[j] ++ [(i : Int)]] := by
              rw [tk]
              unfold stepL
              rw [List.filter_append, List.filter_cons, hc]
              simp
            refine k1 _ _ (s5'.trans s6.fr) trivial ?_
            rw [this]
            rw [e0] at h6
            exact (hR.same (s5.trans s6)).app (LsAt.one ⟨b, rfl, h6⟩)
      · intro H3 acc f3 _ eD hR
        have s3 : Same H2 H3 := fun b o e => f3 b o (by simp) e
        rw [List.take_of_length_le (by omega)] at hR
        have hl4 := hR.1
        have hl5 : (stepL ra i (lotsF ra i)).length ≤ (lotsF ra i).length := by
          unfold stepL
          rw [List.length_map]
          exact List.length_filter_le ..
        refine ⟨F, D, vs, acc, rfl, rfl, s3 _ _ eF, eD, sl_small (by omega), fun p hp => ?_⟩
        have sp := Same.upd_new (o := .lst (vs ++ acc)) hp
        exact ⟨p, vs ++ acc, _, _, _, rfl, s2.trans (s3.trans sp), upd_same, ((hv.same s3).app hR).same sp⟩
    · rintro σ H2 ⟨F, vs, u3, u4, u5, rfl, s2, eF, hv⟩
      have hl1 := hv.1
      have hl2 := lotsF_len ra ra.length
      have hl3 := p32 ra.length (by omega)
      refine ⟨_, rfl, F, rfl, ⟨_, .of eF⟩, fun D hD => ?_⟩
      refine lc_gen (walk_list (xs := vs)) [] (fun _ => True) (fun j acc H => LsAt K H acc (((lotsF ra ra.length).take j).filter fun l => l.length == k)) hD (by simp) (by omega) (fun _ _ _ => trivial) (fun j acc H l o e h => h.fr (M := [D]) (FrX.upd (Same.refl _).fr (by simp)) (MuX.one e rfl)) trivial (by simpa using LsAt.nil) (fun H f _ => .of (f _ _ (by simp) eF)) ?_ ?_
      · rintro j x H3 H4 acc N1 N0 hj f3 _ eD hR ⟨rfl, ex⟩ k1 k0
        have s3 : Same H2 H4 := fun b o e => f3 b o (by simp) e
        have hjl : j < (lotsF ra ra.length).length := by omega
        have el : (lotsF ra ra.length)[j]? = some (lotsF ra ra.length)[j] := by simp [hjl]
        obtain ⟨tt, rfl, htt⟩ := TupI.fr (M := []) s3.fr noMu (hv.2 j x _ ex el)
        have tk : (lotsF ra ra.length).take (j + 1) = (lotsF ra ra.length).take j ++ [(lotsF ra ra.length)[j]] := by rw [List.take_add_one, el]; rfl
        refine ⟨rfl, _, rfl, _, _, rfl, .inr htt, _, rfl, rfl, _, rfl, ?_⟩
        rw [dec_int]
        cases hc : ((lotsF ra ra.length)[j].length == k) with
        | true =>
          refine iteB (by rw [beq_iff_eq] at hc ⊢; rw [List.length_map]; omega) ⟨_, rfl, k1 _ _ (Same.refl _).fr trivial ?_⟩
          rw [tk, List.filter_append, List.filter_cons, hc]
          exact hR.app (LsAt.one ⟨tt, rfl, htt⟩)
        | false =>
          refine iteC (by rw [beq_eq_false_iff_ne] at hc ⊢; rw [List.length_map]; omega) (k0 _ (Same.refl _).fr trivial ?_)
          rw [tk, List.filter_append, List.filter_cons, hc]
          simpa using hR
      · intro H3 acc f3 _ eD hR
        have s3 : Same H2 H3 := fun b o e => f3 b o (by simp) e
        rw [List.take_of_length_le (by omega)] at hR
        have hl4 := hR.1
        have hl5 : ((lotsF ra ra.length).filter fun l => l.length == k).length ≤ (lotsF ra ra.length).length := List.length_filter_le ..
        have each : ∀ x ∈ acc, ∃ ns, TupI K H3 x ns ∧ OkLot ra.length ns ∧ ns.length = k := fun x hx => by
          obtain ⟨j, hj, e⟩ := List.mem_iff_getElem.mp hx
          have hj2 : j < ((lotsF ra ra.length).filter fun l => l.length == k).length := by omega
          have mem := List.mem_filter.mp (List.getElem_mem hj2)
          exact ⟨_, hR.2 j x _ (by rw [List.getElem?_eq_getElem hj, e]) (List.getElem?_eq_getElem hj2), lotsF_ok ra _ (by omega) _ mem.1, by simpa using mem.2⟩
        refine ⟨D, acc, rfl, .of eD, by omega, fun x hx => ?_, fun ys p hperm _ hp => ?_⟩
        · obtain ⟨ns, h1, h2, h3⟩ := each x hx
          exact ⟨ns, h1, h3, fun m hm => by have := h2.1 m hm; omega⟩
        · have sp := Same.upd_new (o := .lst ys) hp
          refine q p ys _ (s2.trans (s3.trans sp)) upd_same (fun e => ?_) (fun y hy => ?_)
          · obtain ⟨l, hl, hlk⟩ := lotsF_has ra ra.length (Nat.le_refl _) (by omega) k hk
            have : l ∈ (lotsF ra ra.length).filter fun l => l.length == k := List.mem_filter.mpr ⟨hl, by simpa using hlk⟩
            have h1 := List.length_pos_of_mem this
            have h2 := hperm.length_eq
            rw [e] at h2
            simp at h2
            omega
          · obtain ⟨ns, h1, h2, h3⟩ := each y (hperm.mem_iff.mp hy)
            exact ⟨ns, TupI.fr (M := []) sp.fr noMu h1, h2, h3⟩
end
end K5
set_option Elab.async false
set_option linter.all false
set_option maxRecDepth 100000
set_option maxHeartbeats 4000000
namespace K5
open PySem PySem.Spec PyProof.Rows L2
/-! ### _law_placing, _law_counts, _law_cluster, _law_put -/
theorem LsAt.tp {K : PySem.W.Frag} {H : Hp} {vs : List V} {ls : List (List Int)} {a : Addr} (h : LsAt K H vs ls) (t : SqT K H a vs) : TP K H a ls := by
  obtain ⟨as, rfl, ha⟩ : ∃ as : List Addr, vs = as.map V.ref ∧ as.length = vs.length := by
    refine ⟨vs.map fun v => match v with | .ref a => a | _ => 0, ?_, by simp⟩
    rw [List.map_map]
    apply List.ext_getElem (by simp)
    intro i h1 h2
    have h3 : i < ls.length := by rw [← h.1]; exact h1
    obtain ⟨t, e, _⟩ := h.2 i vs[i] ls[i] (by simp [h1]) (by simp [h3])
    simp [e]
  refine ⟨as, t, by have := h.1; simpa using this, fun i b l e1 e2 => ?_⟩
  obtain ⟨t, e, q⟩ := h.2 i (.ref b) l (by rw [List.getElem?_map, e1]; rfl) e2
  cases e
  exact q
def spPlac (K : PySem.W.Frag) : Sp := fun vs H Q _ => ∃ (p l r wi : Addr) (ra ws : List Int), vs = [.ref p, .ref r, .ref wi] ∧ TapeAt K H p l ∧ H r = some (.lst (ra.map V.int)) ∧ ra.length ≤ 5 ∧ TI K H wi ws ∧ ws.length < 100 ∧ (∀ x ∈ ws, 1 ≤ x ∧ x ≤ (unl ra ra.length : Nat)) ∧
  ∀ a ls H', FrX [p] H H' → TapeAt K H' p l → TP K H' a ls → ls.length = ws.length → (∀ m ∈ ls, OkLot ra.length m ∧ m ≠ []) → Q (.ref a) H'
def spCnt (K : PySem.W.Frag) : Sp := fun vs H Q _ => ∃ (a : Addr) (n : Nat) (ls : List (List Int)), vs = [.ref a, .int (n : Nat)] ∧ TP K H a ls ∧ ls.length < 100 ∧ n < 100 ∧ ∀ D cs H', Same H H' → H' D = some (.lst (cs.map V.int)) → cs.length = n → OkN 0 ls.length cs → Q (.ref D) H'
def worldD (a b c d e : Addr) : List (Key × V) := [(sK "racks", .ref a), (sK "rooms", .ref b), (sK "rates", .ref c), (sK "wishes", .ref d), (sK "placing", .ref e)]
structure WoAt (K : PySem.W.Frag) (H : Hp) (x : Addr) (W : Wd) : Prop where
  ex : ∃ a b c d e, H x = some (.dK (worldD a b c d e)) ∧ TI K H a W.cl.ra ∧ TI K H b W.cl.ro ∧ TI K H c W.cl.rt ∧ TI K H d W.wi ∧ TP K H e W.pl
def spClu (K : PySem.W.Frag) : Sp := fun vs H Q _ => ∃ (x : Addr) (W : Wd), vs = [.ref x] ∧ WoAt K H x W ∧ OkC W.cl.ra W.cl.ro W.cl.rt ∧ ∀ c H', Same H H' → ClA K H' c W.cl → Q (.ref c) H'
theorem WoAt.fr {K : PySem.W.Frag} {M : List Addr} {H H' : Hp} {x : Addr} {W : Wd} (f : FrX M H H') (m : MuX M H) (n : x ∉ M) (h : WoAt K H x W) : WoAt K H' x W := by
  obtain ⟨a, b, c, d, e, h0, h1, h2, h3, h4, h5⟩ := h.ex
  exact ⟨a, b, c, d, e, f _ _ n h0, f.sqt m h1, f.sqt m h2, f.sqt m h3, f.sqt m h4, h5.fr f m⟩
theorem WoAt.same {K : PySem.W.Frag} {H H' : Hp} {x : Addr} {W : Wd} (s : Same H H') (h : WoAt K H x W) : WoAt K H' x W := h.fr (M := []) s.fr noMu (by simp)
section
variable {w : World} {K : PySem.W.Frag} {mg : Str → Option Value} {base : Heap}
theorem sc__law_placing : FnScope ["_law_tape_here", "_law_racks", "_law_wishes", "_law_wish"] ["_law_tape_here", "_law_racks", "_law_wishes"] (defScope s__law_placing) := ⟨rfl, rfl, rfl, by decide +kernel, rfl, by decide +kernel, by decide +kernel⟩
theorem ok__law_placing (T : Top w K mg) : HasF w K mg base 4 "_law_placing" ["_law_tape_here", "_law_racks", "_law_wishes"] (spPlac K) := by
  refine .of T (has_ex (k := 3) T 17 (d := dD ("_law_placing", none) "_law_placing" "_law_placing" s__law_placing) rfl sc__law_placing (fun _ => rfl) (fun _ _ _ _ _ _ us hl => match us, hl with | [_, _, _], _ => rfl) (fun vs H Q E h => ?_) (fun cdv A outer s H vs Q E hr h => ?_))
  · obtain ⟨p, l, r, wi, ra, ws, rfl, _⟩ := h
    rfl
  · obtain ⟨p, l, r, wi, ra, ws, rfl, ht, hra, h5, hw, hz, hwb, q⟩ := h
    refine ⟨_, (pss_one (ps_ret (pe_tuple T (pe_lc (own := [("_law_wish", 3)]) (g := gName 3) (tt := tYes) rfl sc__law_placing.nd (pi_tup (pv 2)) (blkOk_by (N := ["_law_tape_here", "_law_racks", "_law_wishes", "_law_wish"]) (sc := defScope s__law_placing) (by decide +kernel)) (fun _ _ _ _ _ => (pg_name (i := 3) sc__law_placing.nd rfl (Or.inl rfl))) (fun _ _ _ _ _ => pts_nil) (fun _ _ _ _ _ => (pe_fn (ok__law_pick T) rfl hr (by omega) (pa_cons (pv 0) (pa_cons (pe_fn (ok__law_lots T) rfl hr (by omega) (pa_cons (pv 1) (pa_cons (pv 3) pa_nil))) pa_nil)))))))), ?_⟩
    have nrp : r ∉ [p] := by
      obtain ⟨⟨a, g, le, se, tu, e, _⟩, _⟩ := ht
      simp
      exact ne_of hra e (by intro z; cases z)
    refine ⟨_, rfl, wi, rfl, ⟨_, hw⟩, fun D hD => ?_⟩
    obtain ⟨nDp, nDl⟩ := ht.new hD
    refine lc_gen walk_tup [p] (fun H => TapeAt K H p l) (fun j acc H => acc.length = j ∧ ∃ ls, LsAt K H acc ls ∧ ∀ m ∈ ls, OkLot ra.length m ∧ m ≠ []) hD (by simpa using nDp) (by simpa using (by omega : ws.length < 1000)) (fun H o h => h.upd nDp nDl) (fun j acc H l o e h => ⟨h.1, let ⟨ls, h1, h2⟩ := h.2; ⟨ls, h1.fr (M := [D]) (FrX.upd (Same.refl _).fr (by simp)) (MuX.one e rfl), h2⟩⟩) ht ⟨rfl, [], .nil, by simp⟩ (fun H f t => f.sqt ht.md.mu hw) ?_ ?_
    · rintro i x H1 H2 acc N1 N0 hi f1 t1 e1 ⟨hl, ls, hls, hok⟩ ⟨rfl, ex⟩ k1 k0
      obtain ⟨n, en, rfl⟩ := map_get ex
      have bn := hwb n (List.mem_of_getElem? en)
      refine ⟨rfl, yesT ?_⟩
      refine ⟨_, rfl, _, rfl, _, rfl, r, ra, n.toNat, ?_, .of (f1 _ _ nrp hra), h5, by omega, by omega, fun F ys H3 s3 eF yne hys => ?_⟩
      · show [V.ref r, V.int n] = [V.ref r, V.int ((n.toNat : Nat) : Int)]
        rw [Int.toNat_of_nonneg (by omega)]
      refine ⟨p, l, F, ys, rfl, t1.same s3, .inl (.of eF), yne, fun j y H4 ey f4 t4 => ?_⟩
      obtain ⟨ns, h1, h2, h3⟩ := hys y (List.mem_of_getElem? ey)
      have f24 : FrX [p] H2 H4 := s3.fr.trans f4
      refine k1 y H4 f24 t4 ⟨by simp [hl], ls ++ [ns], (hls.fr f24 t1.md.mu).app (LsAt.one (TupI.fr f4 (t1.same s3).md.mu h1)), fun m hm => ?_⟩
      rcases List.mem_append.mp hm with hm | hm
      · exact hok m hm
      · rw [List.mem_singleton.mp hm]
        exact ⟨h2, fun e => by rw [e] at h3; simp at h3; omega⟩
    · rintro H1 acc f1 t1 e1 ⟨hl, ls, hls, hok⟩
      refine ⟨D, acc, rfl, .inl ⟨.of e1, fun a ha => ?_⟩⟩
      have sa := Same.upd_new (o := .tup acc) ha
      have hll := hls.1
      rw [List.length_map] at hl
      exact q a ls _ (f1.trans sa.fr) (t1.same sa) ((hls.same sa).tp (.of upd_same)) (by omega) hok
theorem sc__law_counts : FnScope ["_law_placing_here", "_law_stores", "_law_store", "_law_lot_here"] ["_law_placing_here", "_law_stores"] (defScope s__law_counts) := ⟨rfl, rfl, rfl, by decide +kernel, rfl, by decide +kernel, by decide +kernel⟩
theorem ok__law_counts (T : Top w K mg) : HasF w K mg base 1 "_law_counts" ["_law_placing_here", "_law_stores"] (spCnt K) := by
  refine .of T (has_ex (k := 0) T 18 (d := dD ("_law_counts", none) "_law_counts" "_law_counts" s__law_counts) rfl sc__law_counts (fun _ => rfl) (fun _ _ _ _ _ _ us hl => match us, hl with | [_, _], _ => rfl) (fun vs H Q E h => ?_) (fun cdv A outer s H vs Q E hr h => ?_))
  · obtain ⟨a, n, ls, rfl, _⟩ := h
    rfl
  · obtain ⟨a, n, ls, rfl, hp, hz, hn, q⟩ := h
    obtain ⟨as, ha, hl, hi⟩ := id hp
    refine ⟨_, (pss_one (ps_ret (pe_lc (own := [("_law_store", 2)]) (g := gName 2) (tt := tYes) rfl sc__law_counts.nd (pi_range1 rfl (T.free _ (by decide +kernel)) (pa_cons (pv 1) pa_nil)) (blkOk_by (N := ["_law_placing_here", "_law_stores", "_law_store", "_law_lot_here"]) (sc := defScope s__law_counts) (by decide +kernel)) (fun _ _ _ _ _ => (pg_name (i := 2) sc__law_counts.nd rfl (Or.inr rfl))) (fun _ _ _ _ _ => pts_nil) (fun _ _ _ _ _ => (pe_lenB T (pe_lc (own := [("_law_lot_here", 3)]) (g := gName 3)  rfl sc__law_counts.nd (pi_tupB (pv 0)) (blkOk_by (by rfl)) (fun _ _ _ _ _ => (pg_name (i := 3) sc__law_counts.nd rfl (Or.inl rfl))) (fun _ _ _ _ _ => pts_one (pt_cmpR op_in_seqC (pv 2) (pv 3) rfl)) (fun _ _ _ _ _ => (pv 3)))))))), ?_⟩
    refine ⟨_, rfl, _, rfl, by omega, by omega, fun D hD => ?_⟩
    have en : ((n : Nat) : Int).toNat = n := by omega
    refine lc_gen (n := ((n : Nat) : Int).toNat) walk_range [] (fun _ => True) (fun j acc _ => ∃ cs : List Int, acc = cs.map V.int ∧ cs.length = j ∧ OkN 0 ls.length cs) hD (by simp) (by omega) (fun _ _ _ => trivial) (fun _ _ _ _ _ _ h => h) trivial ⟨[], rfl, rfl, fun x hx => by simp at hx⟩ (fun _ _ _ => trivial) ?_ ?_
    · rintro i x H1 H2 acc N1 N0 hj f1 _ e1 ⟨cs, rfl, hc, hb⟩ ⟨rfl, rfl⟩ k1 k0
      have s1 : Same H H2 := fun b o e => f1 b o (by simp) e
      refine ⟨rfl, yesT ?_⟩
      refine ⟨_, rfl, a, rfl, ⟨_, s1.sqt ha⟩, fun D2 hD2 => ?_⟩
      refine lc_gen (walk_tup (xs := as.map V.ref)) [] (fun _ => True) (fun j acc _ => acc.length ≤ j) hD2 (by simp) (by simp; omega) (fun _ _ _ => trivial) (fun _ _ _ _ _ _ h => h) trivial (Nat.le_refl _) (fun H f _ => f.sqt noMu (s1.sqt ha)) ?_ ?_
      · rintro j y H3 H4 acc2 M1 M0 hj2 f3 _ e3 hacc ⟨rfl, ey⟩ m1 m0
        obtain ⟨b, eb, rfl⟩ := map_get ey
        have hi2 : j < ls.length := by rw [← hl]; exact (List.getElem?_eq_some_iff.mp eb).1
        have hb := hi j b _ eb (show ls[j]? = some ls[j] by simp [hi2])
        have hb2 : TI K H4 b ls[j] := f3.sqt noMu (s1.sqt hb)
        refine ⟨rfl, _, rfl, _, rfl, b, _, rfl, .inr hb2, rfl, by simp [List.all_map, flatV], _, rfl, ?_⟩
        refine ite2 (fun _ => ?_) (fun _ => ?_)
        · exact ⟨_, rfl, m1 _ _ (Same.refl _).fr trivial (by simp; omega)⟩
        · exact m0 _ (Same.refl _).fr trivial (by omega)
      · intro H3 acc2 f3 _ e3 hacc
        have hacc : acc2.length ≤ as.length := by simpa using hacc
        refine ⟨_, _, rfl, .inl (.of e3), k1 _ _ f3 trivial ⟨cs ++ [(acc2.length : Int)], by simp, by simp [hc], fun x hx => ?_⟩⟩
        rcases List.mem_append.mp hx with hx | hx
        · exact hb x hx
        · rw [List.mem_singleton.mp hx]; omega
    · rintro H1 acc f1 _ e1 ⟨cs, rfl, hc, hb⟩
      exact q D cs _ (fun b o e => f1 b o (by simp) e) e1 (by omega) hb
theorem sc__law_cluster : FnScope ["_law_world_here"] ["_law_world_here"] (defScope s__law_cluster) := ⟨rfl, rfl, rfl, by decide +kernel, rfl, by decide +kernel, by decide +kernel⟩
theorem ok__law_cluster (T : Top w K mg) : HasF w K mg base 5 "_law_cluster" ["_law_world_here"] (spClu K) := by
  refine .of T (has_ex (k := 4) T 20 (d := dD ("_law_cluster", none) "_law_cluster" "_law_cluster" s__law_cluster) rfl sc__law_cluster (fun _ => rfl) (fun _ _ _ _ _ _ us hl => match us, hl with | [_], _ => rfl) (fun vs H Q E h => ?_) (fun cdv A outer s H vs Q E hr h => ?_))
  · obtain ⟨x, W, rfl, _⟩ := h
    rfl
  · obtain ⟨x, W, rfl, hx, ok, q⟩ := h
    obtain ⟨a, b, c, d, e, h0, h1, h2, h3, h4, h5⟩ := hx.ex
    have hu := hu_of hr
    refine ⟨_, (pss_one (ps_ret (pe_mkX (ok_Cluster_init T) rfl hr (by omega) (takes_of rfl rfl rfl rfl) (pa_cons (pe_dget hu (pv 0) pe_str (fun _ _ => rfl)) (pa_cons (pe_dget hu (pv 0) pe_str (fun _ _ => rfl)) (pa_cons (pe_dget hu (pv 0) pe_str (fun _ _ => rfl)) pa_nil)))))), ?_⟩
    refine ⟨_, rfl, x, _, rfl, DGet.k (k := sK "racks") h0, _, rfl, x, _, rfl, DGet.k (k := sK "rooms") h0, _, rfl, x, _, rfl, DGet.k (k := sK "rates") h0, ?_⟩
    exact cl_make (k := W.cl) h1 h2 h3 ok fun p H' s h => q p H' s h
theorem sc__law_put : FnScope ["_law_row", "_law_at", "_law_value"] ["_law_row", "_law_at", "_law_value"] (defScope s__law_put) := ⟨rfl, rfl, rfl, by decide +kernel, rfl, by decide +kernel, by decide +kernel⟩
theorem ok__law_put (T : Top w K mg) : HasF w K mg base 1 "_law_put" ["_law_row", "_law_at", "_law_value"] (spPut K) := by
  refine .of T (has_ex (k := 0) T 21 (d := dD ("_law_put", none) "_law_put" "_law_put" s__law_put) rfl sc__law_put (fun _ => rfl) (fun _ _ _ _ _ _ us hl => match us, hl with | [_, _, _], _ => rfl) (fun vs H Q E h => ?_) (fun cdv A outer s H vs Q E hr h => ?_))
  · obtain ⟨a, i, v, xs, rfl, _⟩ := h
    rfl
  · obtain ⟨a, i, v, xs, rfl, ha, hz, hi, q⟩ := h
    refine ⟨_, pss_one (ps_ret (pe_op op_catA (pe_op op_catA (pe_slice sl_tupA (pv 0) po_none (po_some (pv 1))) (pe_tup (pa_cons (pv 2) pa_nil))) (pe_slice sl_tupA (pv 0) (po_some (pe_op op_add (pv 1) pe_int)) po_none))), ?_⟩
    refine ⟨_, rfl, _, rfl, _, rfl, ?_⟩
    refine sl_of ha fun p1 H1 s1 h1 => ⟨_, rfl, by show 1 ≤ sizeLine; decide, fun p hp => ?_⟩
    refine cat_of ((Same.upd_new hp).sqt h1) (.of upd_same) (put_z1 hz) fun p2 H2 s3 h2 => ?_
    refine ⟨_, rfl, _, rfl, _, _, rfl, rfl, _, rfl, ?_⟩
    refine nopart ?_
    refine sl_of ((s1.trans ((Same.upd_new hp).trans s3)).sqt ha) fun p3 H3 s4 h3 => ?_
    refine cat_of (s4.sqt h2) h3 (put_z2 hz) fun p4 H4 s5 h4 => ?_
    exact q p4 H4 (s1.trans ((Same.upd_new hp).trans (s3.trans (s4.trans s5)))) (put_e h4)
end
end K5
set_option Elab.async false
set_option linter.all false
set_option maxRecDepth 100000
set_option maxHeartbeats 4000000
namespace K5
open PySem PySem.Spec PyProof.Rows L2
/-! ### comprehensions of drawn numbers; the world -/
section
variable {J : It} {n : Nat} {G : Hp → Prop} {Y : Nat → Hp → V → Hp → Prop}
theorem lc_draws {K : PySem.W.Frag} (w : Walk J n G Y) {g : TG} {tt : TT} {te : TE} {vs : List Nat} {σ : L2.St} {H1 : Hp} {D p l : Addr} {Qd : Hp → Prop} (lo hi : Int) (hD : H1 D = none) (ht : TapeAt K H1 p l) (hn : n < 1000)
    (hG : ∀ H, FrX [p] H1 H → TapeAt K H p l → G H)
    (hs : ∀ i x H H' (N1 : VK) (N0 : Hp → Prop), i < n → FrX [p] H1 H → TapeAt K H p l → Y i H x H' → (∀ (v : Int) H4, lo ≤ v → v ≤ hi → FrX [p] H H4 → TapeAt K H4 p l → N1 (.int v) H4) →
      g x (wipe σ vs) H' fun σ2 H2 => wipe σ2 vs = wipe σ vs ∧ tt σ2 H2 fun b H3 => if b = true then te σ2 H3 N1 else N0 H3)
    (hd : ∀ H (ns : List Int), FrX [p] H1 H → TapeAt K H p l → H D = some (.lst (ns.map V.int)) → ns.length = n → OkN lo hi ns → Qd H) :
    ∃ W : Nat → Nat → Hp → Prop, (∃ m, W 0 m (upd H1 D (.lst []))) ∧ ∀ i m H, W i m H →
      (J.stop i H ∧ Qd H) ∨ (J.go i H ∧ ∃ Nx : Hp → Prop, (∀ H', Nx H' → ∃ m', m' < m ∧ W (i + 1) m' H') ∧ ∀ x H', J.yld i H x H' → g x (wipe σ vs) H' fun σ2 H2 => wipe σ2 vs = wipe σ vs ∧ tt σ2 H2 fun b H3 =>
        if b = true then te σ2 H3 fun y H4 => ∃ acc, H4 D = some (.lst acc) ∧ acc.length < sizeLine ∧ Nx (upd H4 D (.lst (acc ++ [y]))) else Nx H3) := by
  obtain ⟨nDp, nDl⟩ := ht.new hD
  refine lc_gen w [p] (fun H => TapeAt K H p l) (fun i acc _ => ∃ ns : List Int, acc = ns.map V.int ∧ ns.length = i ∧ OkN lo hi ns) hD (by simpa using nDp) hn (fun H o h => h.upd nDp nDl) (fun _ _ _ _ _ _ h => h) ht ⟨[], rfl, rfl, fun x hx => by simp at hx⟩ hG ?_ ?_
  · rintro i x H H' acc N1 N0 hi f t _ ⟨ns, rfl, hl, hb⟩ y k1 _
    refine hs i x H H' N1 N0 hi f t y (fun v H4 h1 h2 f4 t4 => k1 _ _ f4 t4 ⟨ns ++ [v], by simp, by simp [hl], fun z hz => ?_⟩)
    rcases List.mem_append.mp hz with hz | hz
    · exact hb z hz
    · rw [List.mem_singleton.mp hz]; exact ⟨h1, h2⟩
  · rintro H acc f t e ⟨ns, rfl, hl, hb⟩
    exact hd H ns f t e hl hb
end
section
variable {X : Cx} {a b : Expr} {ta tb : TE} {p pos : Pos}
theorem pe_min2 (T : Top X.w X.K X.mg) (ha : PE X a ta) (hb : PE X b tb) (hc : X.calm = true := by rfl) (hg : Gl X "min" := by rfl) (h2 : starEach [b] X.env = (false, eval b X.env) :: starEach [] X.env := by rfl)
    (he : starEach [a, b] X.env = (false, eval a X.env) :: starEach [b] X.env := by rfl) (hpl : (backTo pos (starEach [b] X.env)).any (·.1) = false := by rfl) :
    PE X (.Call (.Name "min" p) [a, b] [] pos) (tCB (fun xs H Q => ∃ i j, xs = [.int i, .int j] ∧ Q (.int (if j < i then j else i)) H) (tCons ta (tCons tb tNil))) := pe_callB (call_min2 hc) hg (T.free _ (by decide +kernel)) boots.2.2.2.2.2.2.2.2.2.1 (pa_cons ha (pa_cons hb pa_nil h2) he) (by decide) (by decide) he hpl
variable {s : Shared} {H : Hp} {sc : Scope} {env : Env} {fp : List Addr}
theorem sl_listB : L2.SlR (X.blk s H sc env fp) (rSlL X.K) := sl_list
theorem pe_min2B (T : Top X.w X.K X.mg) (ha : PE (X.blk s H sc env fp) a ta) (hb : PE (X.blk s H sc env fp) b tb) (hc : (X.blk s H sc env fp).calm = true := by rfl) (hg : Gl (X.blk s H sc env fp) "min" := by rfl) (h2 : starEach [b] (X.blk s H sc env fp).env = (false, eval b (X.blk s H sc env fp).env) :: starEach [] (X.blk s H sc env fp).env := by rfl)
    (he : starEach [a, b] (X.blk s H sc env fp).env = (false, eval a (X.blk s H sc env fp).env) :: starEach [b] (X.blk s H sc env fp).env := by rfl) (hpl : (backTo pos (starEach [b] (X.blk s H sc env fp).env)).any (·.1) = false := by rfl) :
    PE (X.blk s H sc env fp) (.Call (.Name "min" p) [a, b] [] pos) (tCB (fun xs H Q => ∃ i j, xs = [.int i, .int j] ∧ Q (.int (if j < i then j else i)) H) (tCons ta (tCons tb tNil))) := pe_min2 (X := X.blk s H sc env fp) T ha hb hc hg h2 he hpl
end
theorem FrX.free {M : List Addr} {H H' : Hp} {x : Addr} (f : FrX M H H') (m : MdX M H') (h : H' x = none) : H x = none := by
  cases e : H x with
  | none => rfl
  | some o =>
    by_cases hm : x ∈ M
    · obtain ⟨o', e', _⟩ := m x hm
      rw [h] at e'; cases e'
    · have := f x o hm e
      rw [h] at this; cases this
theorem unl_pos {ra : List Int} : ∀ {n : Nat}, 1 ≤ n → 1 ≤ unl ra n
  | 1, _ => by show 1 ≤ unl ra 0 + (if (ra.take 0).contains (ra.getD 0 0) then 0 else 1); simp [unl]
  | n + 2, _ => by
    have := unl_pos (ra := ra) (n := n + 1) (by omega)
    show 1 ≤ unl ra (n + 1) + (if (ra.take (n + 1)).contains (ra.getD (n + 1) 0) then 0 else 1)
    omega
theorem flat_ints (l : List Int) : (l.map V.int).all flatV = true := by
  rw [List.all_map, List.all_eq_true]
  exact fun _ _ => rfl
structure WW (W : Wd) : Prop where
  ok : OkC W.cl.ra W.cl.ro W.cl.rt
  n2 : 2 ≤ W.cl.ra.length
  n4 : W.cl.ra.length ≤ 4
  p : OkW W.cl.ra.length W.wi W.pl
  m : W.wi.length ≤ 10
def spWo (K : PySem.W.Frag) : Sp := fun vs H Q _ => ∃ (p l : Addr) (ev : Bool) (most : Int), vs = [.ref p, .bl ev, .int most] ∧ TapeAt K H p l ∧ 0 < most ∧ most ≤ 10 ∧ ∀ x W H', FrX [p] H H' → TapeAt K H' p l → H x = none → WoAt K H' x W → WW W → (W.wi.length : Int) ≤ most → Q (.ref x) H'
def W3 (K : PySem.W.Frag) (Q : VK) (p l : Addr) (ev : Bool) (most : Int) (H : Hp) : TS := fun D σ H1 => D.rt = Q ∧ ∃ (n : Nat) (r : Addr) (ra : List Int) (u5 u6 u7 u8 u9 u10 u11 u12 u13 u14 : Option V),
  σ = [some (.ref p), some (.bl ev), some (.int most), some (.int (n : Nat)), some (.ref r), u5, u6, u7, u8, u9, u10, u11, u12, u13, u14] ∧ 2 ≤ n ∧ n ≤ 4 ∧ FrX [p] H H1 ∧ TapeAt K H1 p l ∧ H1 r = some (.lst (ra.map V.int)) ∧ ra.length = n ∧ OkN 0 4 ra
def W7 (K : PySem.W.Frag) (Q : VK) (p l : Addr) (ev : Bool) (most : Int) (H : Hp) : TS := fun D σ H1 => D.rt = Q ∧ ∃ (n : Nat) (r wi pl : Addr) (ra ws : List Int) (ls : List (List Int)) (u5 u8 u9 u10 u11 u12 u13 u14 : Option V),
  σ = [some (.ref p), some (.bl ev), some (.int most), some (.int (n : Nat)), some (.ref r), u5, some (.ref wi), some (.ref pl), u8, u9, u10, u11, u12, u13, u14] ∧ 2 ≤ n ∧ n ≤ 4 ∧ FrX [p] H H1 ∧ TapeAt K H1 p l ∧ H1 r = some (.lst (ra.map V.int)) ∧ ra.length = n ∧ OkN 0 4 ra ∧
  TI K H1 wi ws ∧ (ws.length : Int) ≤ most ∧ (∀ x ∈ ws, 1 ≤ x ∧ x ≤ 3 ∧ x ≤ (unl ra ra.length : Nat)) ∧ TP K H1 pl ls ∧ ls.length = ws.length ∧ ∀ m ∈ ls, OkLot n m ∧ m ≠ []
def W10 (K : PySem.W.Frag) (Q : VK) (p l : Addr) (ev : Bool) (most : Int) (H : Hp) : TS := fun D σ H1 => D.rt = Q ∧ ∃ (n : Nat) (r wi pl ro : Addr) (ra ws ros : List Int) (ls : List (List Int)) (u5 u8 u10 u11 u12 u13 u14 : Option V),
  σ = [some (.ref p), some (.bl ev), some (.int most), some (.int (n : Nat)), some (.ref r), u5, some (.ref wi), some (.ref pl), u8, some (.ref ro), u10, u11, u12, u13, u14] ∧ 2 ≤ n ∧ n ≤ 4 ∧ FrX [p] H H1 ∧ TapeAt K H1 p l ∧ H1 r = some (.lst (ra.map V.int)) ∧ ra.length = n ∧ OkN 0 4 ra ∧
  TI K H1 wi ws ∧ (ws.length : Int) ≤ most ∧ (∀ x ∈ ws, 1 ≤ x ∧ x ≤ 3 ∧ x ≤ (unl ra ra.length : Nat)) ∧ TP K H1 pl ls ∧ ls.length = ws.length ∧ (∀ m ∈ ls, OkLot n m ∧ m ≠ []) ∧ H1 ro = some (.lst (ros.map V.int)) ∧ ros.length = n ∧ OkN 0 99 ros
def W12 (K : PySem.W.Frag) (Q : VK) (p l : Addr) (ev : Bool) (most : Int) (H : Hp) : TS := fun D σ H1 => D.rt = Q ∧ ∃ (n : Nat) (r wi pl ro rt : Addr) (ra ws ros rts : List Int) (ls : List (List Int)) (u5 u8 u11 u12 u13 u14 : Option V),
  σ = [some (.ref p), some (.bl ev), some (.int most), some (.int (n : Nat)), some (.ref r), u5, some (.ref wi), some (.ref pl), u8, some (.ref ro), some (.ref rt), u11, u12, u13, u14] ∧ 2 ≤ n ∧ n ≤ 4 ∧ FrX [p] H H1 ∧ TapeAt K H1 p l ∧ H1 r = some (.lst (ra.map V.int)) ∧ ra.length = n ∧ OkN 0 4 ra ∧
  TI K H1 wi ws ∧ (ws.length : Int) ≤ most ∧ (∀ x ∈ ws, 1 ≤ x ∧ x ≤ 3 ∧ x ≤ (unl ra ra.length : Nat)) ∧ TP K H1 pl ls ∧ ls.length = ws.length ∧ (∀ m ∈ ls, OkLot n m ∧ m ≠ []) ∧ H1 ro = some (.lst (ros.map V.int)) ∧ ros.length = n ∧ OkN 0 99 ros ∧ H1 rt = some (.lst (rts.map V.int)) ∧ rts.length = n ∧ OkN 1 8 rts
section
variable {w : World} {K : PySem.W.Frag} {mg : Str → Option Value} {base : Heap}
theorem sc__law_world : FnScope ["_law_tape_here", "_law_even", "_law_most", "_law_stores", "_law_racks", "_law_unlike", "_law_wishes", "_law_before", "_law_slack", "_law_rooms", "_law_rates", "_law_store", "_law_k", "_law_wish", "_law_one"] ["_law_tape_here", "_law_even", "_law_most"] (defScope s__law_world) := ⟨rfl, rfl, rfl, by decide +kernel, rfl, by decide +kernel, by decide +kernel⟩
theorem ok__law_world (T : Top w K mg) : HasF w K mg base 5 "_law_world" ["_law_tape_here", "_law_even", "_law_most"] (spWo K) := by
  refine .of T (has_ex (k := 4) T 19 (d := dD ("_law_world", none) "_law_world" "_law_world" s__law_world) rfl sc__law_world (fun _ => rfl) (fun _ _ _ _ _ _ us hl => match us, hl with | [_, _, _], _ => rfl) (fun vs H Q E h => ?_) (fun cdv A outer s H vs Q E hr h => ?_))
  · obtain ⟨p, l, ev, most, rfl, _⟩ := h
    rfl
  · obtain ⟨p, l, ev, most, rfl, ht, hm0, hm1, q⟩ := h
    refine ⟨_, (pss_cons (ps_set (i := 3) sc__law_world.nd rfl (Or.inr rfl) (pe_op op_add pe_int (pe_fn (ok__law_draw T) rfl hr (by omega) (pa_cons (pv 0) (pa_cons pe_int pa_nil)))))
      (pss_cons (ps_set (i := 4) sc__law_world.nd rfl (Or.inr rfl) (pe_lc (own := [("_law_store", 11)]) (g := gName 11) (tt := tYes) rfl sc__law_world.nd (pi_range1 rfl (T.free _ (by decide +kernel)) (pa_cons (pv 3) pa_nil)) (blkOk_by (N := ["_law_tape_here", "_law_even", "_law_most", "_law_stores", "_law_racks", "_law_unlike", "_law_wishes", "_law_before", "_law_slack", "_law_rooms", "_law_rates", "_law_store", "_law_k", "_law_wish", "_law_one"]) (sc := defScope s__law_world) (by decide +kernel)) (fun _ _ _ _ _ => (pg_name (i := 11) sc__law_world.nd rfl (Or.inl rfl))) (fun _ _ _ _ _ => pts_nil) (fun _ _ _ _ _ => (pe_fn (ok__law_draw T) rfl hr (by omega) (pa_cons (pv 0) (pa_cons (pe_op op_add (pv 3) pe_int) pa_nil))))))
      (pss_cons (ps_if (pt_cmpR op_eq (pe_fn (ok__law_draw T) rfl hr (by omega) (pa_cons (pv 0) (pa_cons pe_int pa_nil))) pe_int (nomark _)) (pss_one (ps_set (i := 4) sc__law_world.nd rfl (Or.inr rfl) (pe_listRg rfl rfl (T.free _ (by decide +kernel)) (prg_1 rfl (T.free _ (by decide +kernel)) (pv 3))))) pss_nil)
      (pss_by (W3 K Q p l ev most H) (pss_cons (ps_set (i := 5) sc__law_world.nd rfl (Or.inr rfl) (pe_len T (pe_lc (own := [("_law_k", 12)]) (g := gName 12)  rfl sc__law_world.nd (pi_range1 rfl (T.free _ (by decide +kernel)) (pa_cons (pv 3) pa_nil)) (blkOk_by (N := ["_law_tape_here", "_law_even", "_law_most", "_law_stores", "_law_racks", "_law_unlike", "_law_wishes", "_law_before", "_law_slack", "_law_rooms", "_law_rates", "_law_store", "_law_k", "_law_wish", "_law_one"]) (sc := defScope s__law_world) (by decide +kernel)) (fun _ _ _ _ _ => (pg_name (i := 12) sc__law_world.nd rfl (Or.inl rfl))) (fun _ _ _ _ _ => pts_one (pt_cmpR op_notIn_seqB (pe_ix ix_listB (pv 4) (pv 12) (fun _ _ => rfl)) (pe_slice sl_listB (pv 4) po_none (po_some (pv 12))) rfl)) (fun _ _ _ _ _ => (pv 12)))))
      (pss_cons (ps_set (i := 6) sc__law_world.nd rfl (Or.inl rfl) (pe_tuple T (pe_lc (own := [("_law_k", 12)]) (g := gName 12) (tt := tYes) rfl sc__law_world.nd (pi_range1 rfl (T.free _ (by decide +kernel)) (pa_cons (pe_op op_add pe_int (pe_fn (ok__law_draw T) rfl hr (by omega) (pa_cons (pv 0) (pa_cons (pv 2) pa_nil)))) pa_nil)) (blkOk_by (N := ["_law_tape_here", "_law_even", "_law_most", "_law_stores", "_law_racks", "_law_unlike", "_law_wishes", "_law_before", "_law_slack", "_law_rooms", "_law_rates", "_law_store", "_law_k", "_law_wish", "_law_one"]) (sc := defScope s__law_world) (by decide +kernel)) (fun _ _ _ _ _ => (pg_name (i := 12) sc__law_world.nd rfl (Or.inl rfl))) (fun _ _ _ _ _ => pts_nil) (fun _ _ _ _ _ => (pe_op op_add pe_int (pe_fn (ok__law_draw T) rfl hr (by omega) (pa_cons (pv 0) (pa_cons (pe_min2B T pe_int (pv 5)) pa_nil))))))))
      (pss_cons (ps_set (i := 7) sc__law_world.nd rfl (Or.inl rfl) (pe_tuple T (pe_lc (own := [("_law_wish", 13)]) (g := gName 13) (tt := tYes) rfl sc__law_world.nd (pi_tup (pv 6)) (blkOk_by (N := ["_law_tape_here", "_law_even", "_law_most", "_law_stores", "_law_racks", "_law_unlike", "_law_wishes", "_law_before", "_law_slack", "_law_rooms", "_law_rates", "_law_store", "_law_k", "_law_wish", "_law_one"]) (sc := defScope s__law_world) (by decide +kernel)) (fun _ _ _ _ _ => (pg_name (i := 13) sc__law_world.nd rfl (Or.inl rfl))) (fun _ _ _ _ _ => pts_nil) (fun _ _ _ _ _ => (pe_fn (ok__law_lot T) rfl hr (by omega) (pa_cons (pv 0) (pa_cons (pv 3) pa_nil)))))))
      (pss_cons (ps_if (pt_cmpR op_eq (pe_fn (ok__law_draw T) rfl hr (by omega) (pa_cons (pv 0) (pa_cons pe_int pa_nil))) pe_int (nomark _)) (pss_one (ps_set (i := 7) sc__law_world.nd rfl (Or.inl rfl) (pe_fn (ok__law_placing T) rfl hr (by omega) (pa_cons (pv 0) (pa_cons (pv 4) (pa_cons (pv 6) pa_nil)))))) pss_nil)
      (pss_by (W7 K Q p l ev most H) (pss_cons (ps_set (i := 8) sc__law_world.nd rfl (Or.inr rfl) (pe_fn (ok__law_pick T) rfl hr (by omega) (pa_cons (pv 0) (pa_cons (pe_lst (pa_cons pe_int (pa_cons pe_int (pa_cons pe_int (pa_cons pe_int pa_nil))))) pa_nil))))
      (pss_cons (ps_setLc (i := 9) (own := [("_law_one", 14)]) (g := gName 14) (tt := tYes) rfl sc__law_world.nd rfl rfl (sw_true rfl rfl rfl (by decide +kernel)) (pi_list (pe_fn (ok__law_counts T) rfl hr (by omega) (pa_cons (pe_fn (ok__law_placing T) rfl hr (by omega) (pa_cons (pv 0) (pa_cons (pv 4) (pa_cons (pv 6) pa_nil)))) (pa_cons (pv 3) pa_nil)))) (blkOk_by (N := ["_law_tape_here", "_law_even", "_law_most", "_law_stores", "_law_racks", "_law_unlike", "_law_wishes", "_law_before", "_law_slack", "_law_rooms", "_law_rates", "_law_store", "_law_k", "_law_wish", "_law_one"]) (sc := defScope s__law_world) (by decide +kernel)) (fun _ _ _ _ _ => (pg_name (i := 14) sc__law_world.nd rfl (Or.inl rfl))) (fun _ _ _ _ _ => pts_nil) (fun _ _ _ _ _ => (pe_op op_add (pv 14) (pe_fn (ok__law_draw T) rfl hr (by omega) (pa_cons (pv 0) (pa_cons (pe_op op_add (pv 8) pe_int) pa_nil))))))
      (pss_cons (ps_if (pt_cmpR op_eq (pe_fn (ok__law_draw T) rfl hr (by omega) (pa_cons (pv 0) (pa_cons pe_int pa_nil))) pe_int (nomark _)) (pss_one (ps_setLc (i := 9) (own := [("_law_store", 11)]) (g := gName 11) (tt := tYes) rfl sc__law_world.nd rfl rfl (sw_true rfl rfl rfl (by decide +kernel)) (pi_range1 rfl (T.free _ (by decide +kernel)) (pa_cons (pv 3) pa_nil)) (blkOk_by (N := ["_law_tape_here", "_law_even", "_law_most", "_law_stores", "_law_racks", "_law_unlike", "_law_wishes", "_law_before", "_law_slack", "_law_rooms", "_law_rates", "_law_store", "_law_k", "_law_wish", "_law_one"]) (sc := defScope s__law_world) (by decide +kernel)) (fun _ _ _ _ _ => (pg_name (i := 11) sc__law_world.nd rfl (Or.inl rfl))) (fun _ _ _ _ _ => pts_nil) (fun _ _ _ _ _ => (pe_fn (ok__law_draw T) rfl hr (by omega) (pa_cons (pv 0) (pa_cons pe_int pa_nil)))))) pss_nil)
      (pss_by (W10 K Q p l ev most H) (pss_cons (ps_setLc (i := 10) (own := [("_law_store", 11)]) (g := gName 11) (tt := tYes) rfl sc__law_world.nd rfl rfl (sw_true rfl rfl rfl (by decide +kernel)) (pi_range1 rfl (T.free _ (by decide +kernel)) (pa_cons (pv 3) pa_nil)) (blkOk_by (N := ["_law_tape_here", "_law_even", "_law_most", "_law_stores", "_law_racks", "_law_unlike", "_law_wishes", "_law_before", "_law_slack", "_law_rooms", "_law_rates", "_law_store", "_law_k", "_law_wish", "_law_one"]) (sc := defScope s__law_world) (by decide +kernel)) (fun _ _ _ _ _ => (pg_name (i := 11) sc__law_world.nd rfl (Or.inl rfl))) (fun _ _ _ _ _ => pts_nil) (fun _ _ _ _ _ => (pe_op op_mul pe_int (pe_op op_add pe_int (pe_fn (ok__law_draw T) rfl hr (by omega) (pa_cons (pv 0) (pa_cons pe_int pa_nil)))))))
      (pss_cons (ps_if (pt_not (pt_val (pv 1))) (pss_one (ps_setLc (i := 10) (own := [("_law_store", 11)]) (g := gName 11) (tt := tYes) rfl sc__law_world.nd rfl rfl (sw_true rfl rfl rfl (by decide +kernel)) (pi_range1 rfl (T.free _ (by decide +kernel)) (pa_cons (pv 3) pa_nil)) (blkOk_by (N := ["_law_tape_here", "_law_even", "_law_most", "_law_stores", "_law_racks", "_law_unlike", "_law_wishes", "_law_before", "_law_slack", "_law_rooms", "_law_rates", "_law_store", "_law_k", "_law_wish", "_law_one"]) (sc := defScope s__law_world) (by decide +kernel)) (fun _ _ _ _ _ => (pg_name (i := 11) sc__law_world.nd rfl (Or.inl rfl))) (fun _ _ _ _ _ => pts_nil) (fun _ _ _ _ _ => (pe_op op_add pe_int (pe_fn (ok__law_draw T) rfl hr (by omega) (pa_cons (pv 0) (pa_cons pe_int pa_nil))))))) pss_nil)
      (pss_by (W12 K Q p l ev most H) (pss_one (ps_ret (pe_disp (pps_cons pe_str (pe_tuple T (pv 4)) (pps_cons pe_str (pe_tuple T (pv 9)) (pps_cons pe_str (pe_tuple T (pv 10)) (pps_cons pe_str (pv 6) (pps_cons pe_str (pv 7) pps_nil))))) rfl rfl (by simp) (by simp)))) ?p12))) ?p10)))) ?p7))))) ?p3)))), ?_⟩
    case refine_2 =>
      refine ⟨_, rfl, p, l, 3, rfl, by decide, ht, fun d H1 d0 d1 f1 t1 => ⟨_, _, rfl, rfl, ?_⟩⟩
      refine ⟨_, rfl, _, rfl, by omega, by omega, fun D hD => ?_⟩
      refine lc_draws (n := (2 + d).toNat) walk_range 0 4 hD t1 (by omega) (fun _ _ _ => trivial) ?_ ?_
      · rintro i x H2 H3 N1 N0 hi f2 t2 ⟨rfl, rfl⟩ kk
        exact ⟨rfl, yesT ⟨_, rfl, _, rfl, _, _, rfl, rfl, p, l, _, rfl, by omega, t2, fun v H4 h0 h1 f4 t4 => kk v H4 h0 (by omega) f4 t4⟩⟩
      · intro H2 ns f2 t2 e2 hl hb
        refine ⟨_, rfl, p, l, 2, rfl, by decide, t2, fun e H3 e0 e1 f3 t3 => ⟨rfl, _, rfl, ?_⟩⟩
        have nDp : D ∉ [p] := by simpa using (t1.new hD).1
        have st : ∀ {H4 : Hp}, ((2 : Int) + d) = (((2 + d).toNat : Nat) : Int) := fun {_} => by omega
        refine ite2 (fun _ => ?_) (fun _ => ?_)
        · refine ⟨_, rfl, _, rfl, ⟨by omega, by omega, by omega, by omega, by omega⟩, fun z hz => ?_⟩
          have sz := Same.upd_new (o := .lst (rgV 0 (2 + d))) hz
          refine ⟨rfl, (2 + d).toNat, z, (List.range (2 + d - 0).toNat).map (fun i => (0 : Int) + (i : Nat)), _, _, _, _, _, _, _, _, _, _, by rw [← st (H4 := H3)]; rfl, by omega, by omega, ((f1.trans f2).trans f3).trans sz.fr, t3.same sz, by rw [upd_same]; unfold rgV; rw [List.map_map]; rfl, by simp, fun x hx => ?_⟩
          obtain ⟨i, hi, rfl⟩ := List.mem_map.mp hx
          rw [List.mem_range] at hi
          omega
        · exact ⟨rfl, (2 + d).toNat, D, ns, _, _, _, _, _, _, _, _, _, _, by rw [← st (H4 := H3)]; rfl, by omega, by omega, (f1.trans f2).trans f3, t3, f3 _ _ nDp e2, hl, hb⟩
    case p3 =>
      rintro D σ H1 ⟨hD, n, r, ra, u5, u6, u7, u8, u9, u10, u11, u12, u13, u14, rfl, n2, n4, f1, t1, er, rl, rb⟩
      have nrp : r ∉ [p] := by
        obtain ⟨⟨a, g, le, se, tu, e, _⟩, _⟩ := t1
        simp
        exact ne_of er e (by intro z; cases z)
      -- unlike
      refine ⟨_, rfl, _, rfl, by omega, by omega, fun F hF => ?_⟩
      refine lc_gen (n := ((n : Nat) : Int).toNat) walk_range [] (fun _ => True) (fun j acc _ => acc.length = unl ra j) hF (by simp) (by omega) (fun _ _ _ => trivial) (fun _ _ _ _ _ _ h => h) trivial rfl (fun _ _ _ => trivial) ?_ ?_
      · rintro i x H2 H3 acc N1 N0 hi f2 _ e2 hacc ⟨rfl, rfl⟩ k1 k0
        have s2 : Same H1 H3 := fun b o e => f2 b o (by simp) e
        have e0 : (0 : Int) + ((i : Nat) : Int) = (i : Nat) := by omega
        have hil : i < ra.length := by omega
        have eri : (ra.map V.int)[i]? = some (V.int (ra.getD i 0)) := by simp [List.getD, hil]
        refine ⟨rfl, _, rfl, _, rfl, r, _, _, _, rfl, rfl, .of (s2 _ _ er), atI_eq (i := i) e0 eri, _, rfl, _, rfl, _, rfl, r, _, rfl, .of (s2 _ _ er), fun z hz => ?_⟩
        have ec : cutV (ra.map V.int) none (some ((0 : Int) + (i : Nat))) = (ra.take i).map V.int := by rw [e0, cut_to, List.map_take]
        refine ⟨z, (ra.take i).map V.int, rfl, .inl (.of (by rw [upd_same, ec])), rfl, flat_ints _, _, rfl, ?_⟩
        rw [inV_ints]
        have sz := Same.upd_new (o := .lst (cutV (ra.map V.int) none (some ((0 : Int) + (i : Nat))))) hz
        cases hc : (ra.take i).contains (ra.getD i 0) with
        | true => exact iteF (k0 _ sz.fr trivial (by show acc.length = unl ra i + _; rw [if_pos hc, hacc, Nat.add_zero]))
        | false => exact iteT ⟨_, rfl, k1 _ _ sz.fr trivial (by show _ = unl ra i + _; rw [if_neg (by rw [hc]; decide)]; simp [hacc])⟩
      intro H2 acc f2 _ e2 hacc
      have s2 : Same H1 H2 := fun b o e => f2 b o (by simp) e
      have t2 := t1.same s2
      have en : ((n : Nat) : Int).toNat = ra.length := by omega
      rw [en] at hacc
      have up := unl_pos (ra := ra) (n := ra.length) (by omega)
      refine ⟨F, _, rfl, .inl (.of e2), ?_⟩
      -- wishes
      refine ⟨_, rfl, _, rfl, p, l, most, rfl, hm0, t2, fun e H3 e0 e1 f3 t3 => ⟨_, _, rfl, rfl, _, rfl, by omega, by omega, fun G hG => ?_⟩⟩
      refine lc_draws (n := ((1 : Int) + e).toNat) walk_range 1 (if (acc.length : Int) < 3 then (acc.length : Int) else 3) hG t3 (by omega) (fun _ _ _ => trivial) ?_ ?_
      · rintro i x H4 H5 N1 N0 hi f4 t4 ⟨rfl, rfl⟩ kk
        refine ⟨rfl, yesT ⟨_, rfl, _, rfl, _, _, rfl, p, l, _, rfl, ?_, t4, fun v H6 h0 h1 f6 t6 => ⟨_, _, rfl, rfl, kk _ H6 (by omega) (by omega) f6 t6⟩⟩⟩
        split <;> omega
      intro H4 ws f4 t4 e4 wl wb
      refine ⟨G, _, rfl, .inl ⟨.of e4, fun wi hwi => ?_⟩⟩
      have s4 := Same.upd_new (o := .tup (ws.map V.int)) hwi
      have t5 := t4.same s4
      have hw5 : TI K (upd H4 wi (.tup (ws.map V.int))) wi ws := .of upd_same
      have f5 : FrX [p] H1 (upd H4 wi (.tup (ws.map V.int))) := ((s2.fr.trans f3).trans f4).trans s4.fr
      have wz : ws.length ≤ 10 := by omega
      have wb3 : ∀ x ∈ ws, 1 ≤ x ∧ x ≤ 3 ∧ x ≤ (unl ra ra.length : Nat) := fun x hx => by
        have := wb x hx
        rw [hacc] at this
        split at this <;> omega
      -- before
      refine ⟨_, rfl, wi, rfl, ⟨_, hw5⟩, fun B hB => ?_⟩
      obtain ⟨nBp, nBl⟩ := t5.new hB
      refine lc_gen (walk_tup (xs := ws.map V.int)) [p] (fun H => TapeAt K H p l) (fun j acc H => acc.length = j ∧ ∃ ls, LsAt K H acc ls ∧ ∀ m ∈ ls, OkLot n m ∧ m ≠ []) hB (by simpa using nBp) (by simp; omega) (fun H o h => h.upd nBp nBl) (fun j acc H l o e h => ⟨h.1, let ⟨ls, h1, h2⟩ := h.2; ⟨ls, h1.fr (M := [B]) (FrX.upd (Same.refl _).fr (by simp)) (MuX.one e rfl), h2⟩⟩) t5 ⟨rfl, [], .nil, by simp⟩ (fun H f t => f.sqt t5.md.mu hw5) ?_ ?_
      · rintro i x H6 H7 acc2 N1 N0 hi f6 t6 e6 ⟨hl, ls, hls, hok⟩ ⟨rfl, ex⟩ k1 k0
        refine ⟨rfl, yesT ⟨_, rfl, _, rfl, p, l, n, rfl, t6, by omega, by omega, fun a m H8 f8 t8 hm ok8 ne8 => ?_⟩⟩
        refine k1 _ H8 f8 t8 ⟨by simp [hl], ls ++ [m], (hls.fr f8 t6.md.mu).app (LsAt.one ⟨a, rfl, hm⟩), fun y hy => ?_⟩
        rcases List.mem_append.mp hy with hy | hy
        · exact hok y hy
        · rw [List.mem_singleton.mp hy]; exact ⟨ok8, ne8⟩
      rintro H6 acc2 f6 t6 e6 ⟨hl, ls, hls, hok⟩
      rw [List.length_map] at hl
      have hll := hls.1
      refine ⟨B, acc2, rfl, .inl ⟨.of e6, fun pl hpl => ?_⟩⟩
      have s6 := Same.upd_new (o := .tup acc2) hpl
      have t7 := t6.same s6
      have hp7 : TP K (upd H6 pl (.tup acc2)) pl ls := (hls.same s6).tp (.of upd_same)
      have f7 := (f5.trans f6).trans s6.fr
      have hw7 : TI K (upd H6 pl (.tup acc2)) wi ws := s6.sqt (f6.sqt t5.md.mu hw5)
      have er7 := f7 _ _ nrp er
      -- if _law_draw(tape, 3) == 0
      refine ⟨_, rfl, p, l, 3, rfl, by decide, t7, fun z H8 z0 z1 f8 t8 => ⟨rfl, _, rfl, ?_⟩⟩
      have hw8 : TI K H8 wi ws := f8.sqt t7.md.mu hw7
      refine ite2 (fun _ => ?_) (fun _ => ?_)
      · refine ⟨_, rfl, _, rfl, _, rfl, p, l, r, wi, ra, ws, rfl, t8, f8 _ _ nrp er7, by omega, hw8, by omega, fun x hx => ⟨(wb3 x hx).1, (wb3 x hx).2.2⟩, fun a ls2 H9 f9 t9 hp9 l9 ok9 => ?_⟩
        exact ⟨hD, n, r, wi, a, ra, ws, ls2, _, _, _, _, _, _, _, _, rfl, n2, n4, ((f1.trans f7).trans f8).trans f9, t9, f9 _ _ nrp (f8 _ _ nrp er7), rl, rb, f9.sqt t8.md.mu hw8, by omega, wb3, hp9, l9, fun m hm => by rw [← rl]; exact ok9 m hm⟩
      · exact ⟨hD, n, r, wi, pl, ra, ws, ls, _, _, _, _, _, _, _, _, rfl, n2, n4, (f1.trans f7).trans f8, t8, f8 _ _ nrp er7, rl, rb, hw8, by omega, wb3, hp7.fr f8 t7.md.mu, by omega, hok⟩
    case p7 =>
      rintro D σ H1 ⟨hD, n, r, wi, pl, ra, ws, ls, u5, u8, u9, u10, u11, u12, u13, u14, rfl, n2, n4, f1, t1, er, rl, rb, hw, wm, wb3, hp, pll, pok⟩
      have nrp : r ∉ [p] := by
        obtain ⟨⟨a, g, le, se, tu, e, _⟩, _⟩ := t1
        simp
        exact ne_of er e (by intro z; cases z)
      refine ⟨_, rfl, by show 4 ≤ sizeLine; decide, fun F hF => ?_⟩
      have s2 := Same.upd_new (o := .lst [.int 0, .int 0, .int 1, .int 2]) hF
      refine ⟨p, l, F, [.int 0, .int 0, .int 1, .int 2], rfl, t1.same s2, .inl (.of upd_same), by simp, fun i x H2 ex f2 t2 => ?_⟩
      obtain ⟨s, rfl, s0, s2'⟩ : ∃ s : Int, x = .int s ∧ 0 ≤ s ∧ s ≤ 2 := by
        have hm := List.mem_of_getElem? ex
        simp only [List.mem_cons, List.not_mem_nil, or_false] at hm
        rcases hm with rfl | rfl | rfl | rfl
        · exact ⟨0, rfl, by decide, by decide⟩
        · exact ⟨0, rfl, by decide, by decide⟩
        · exact ⟨1, rfl, by decide, by decide⟩
        · exact ⟨2, rfl, by decide, by decide⟩
      have f12 : FrX [p] H1 H2 := s2.fr.trans f2
      refine ⟨_, rfl, _, rfl, _, rfl, p, l, r, wi, ra, ws, rfl, t2, f12 _ _ nrp er, by omega, f12.sqt t1.md.mu hw, by omega, fun x hx => ⟨(wb3 x hx).1, (wb3 x hx).2.2⟩, fun a ls2 H3 f3 t3 hp3 l3 ok3 => ?_⟩
      refine ⟨_, rfl, a, n, ls2, rfl, hp3, by omega, by omega, fun G cs H4 s4 e4 cl cb => ⟨G, rfl, ⟨_, .of e4⟩, fun B hB => ?_⟩⟩
      have t4 := t3.same s4
      have nGp : G ∉ [p] := by
        obtain ⟨⟨a, g, le, se, tu, e, _⟩, _⟩ := t4
        simp
        exact ne_of e4 e (by intro z; cases z)
      refine lc_draws (walk_list (xs := cs.map V.int)) 0 99 hB t4 (by simp; omega) (fun H f t => .of (f _ _ nGp e4)) ?_ ?_
      · rintro i x H5 H6 N1 N0 hi f5 t5 ⟨rfl, ex⟩ kk
        obtain ⟨c, ec, rfl⟩ := map_get ex
        have bc := cb c (List.mem_of_getElem? ec)
        refine ⟨rfl, yesT ⟨_, rfl, _, rfl, _, rfl, _, _, rfl, rfl, p, l, _, rfl, by omega, t5, fun v H7 h0 h1 f7 t7 => ⟨_, _, rfl, rfl, kk _ H7 (by omega) (by omega) f7 t7⟩⟩⟩
      intro H5 ros f5 t5 e5 rol rob
      have nBp : B ∉ [p] := by simpa using (t4.new hB).1
      have f15 : FrX [p] H1 H5 := ((f12.trans f3).trans s4.fr).trans f5
      rw [List.length_map] at rol
      refine ⟨_, rfl, p, l, 8, rfl, by decide, t5, fun z H6 z0 z1 f6 t6 => ⟨rfl, _, rfl, ?_⟩⟩
      have f16 := f15.trans f6
      refine ite2 (fun _ => ?_) (fun _ => ?_)
      · refine ⟨_, rfl, _, rfl, by omega, by omega, fun C hC => ?_⟩
        refine lc_draws (n := ((n : Nat) : Int).toNat) walk_range 0 99 hC t6 (by omega) (fun _ _ _ => trivial) ?_ ?_
        · rintro i x H7 H8 N1 N0 hi f7 t7 ⟨rfl, rfl⟩ kk
          exact ⟨rfl, yesT ⟨_, rfl, p, l, 4, rfl, by decide, t7, fun v H9 h0 h1 f9 t9 => kk v H9 h0 (by omega) f9 t9⟩⟩
        · intro H7 ros2 f7 t7 e7 rol2 rob2
          have f17 := f16.trans f7
          exact ⟨hD, n, r, wi, pl, C, ra, ws, ros2, ls, _, _, _, _, _, _, _, rfl, n2, n4, f1.trans f17, t7, f17 _ _ nrp er, rl, rb, f17.sqt t1.md.mu hw, wm, wb3, hp.fr f17 t1.md.mu, pll, pok, e7, by omega, rob2⟩
      · exact ⟨hD, n, r, wi, pl, B, ra, ws, ros, ls, _, _, _, _, _, _, _, rfl, n2, n4, f1.trans f16, t6, f16 _ _ nrp er, rl, rb, f16.sqt t1.md.mu hw, wm, wb3, hp.fr f16 t1.md.mu, pll, pok, f6 _ _ nBp e5, by omega, rob⟩
    case p10 =>
      rintro D σ H1 ⟨hD, n, r, wi, pl, ro, ra, ws, ros, ls, u5, u8, u10, u11, u12, u13, u14, rfl, n2, n4, f1, t1, er, rl, rb, hw, wm, wb3, hp, pll, pok, ero, rol, rob⟩
      have nrp : ∀ {b : Addr} {xs : List V}, H1 b = some (.lst xs) → b ∉ [p] := fun {b xs} eb => by
        obtain ⟨⟨a, g, le, se, tu, e, _⟩, _⟩ := t1
        simp
        exact ne_of eb e (by intro z; cases z)
      have nr := nrp er
      have nro := nrp ero
      refine ⟨_, rfl, _, rfl, by omega, by omega, fun C hC => ?_⟩
      refine lc_draws (n := ((n : Nat) : Int).toNat) walk_range 1 8 hC t1 (by omega) (fun _ _ _ => trivial) ?_ ?_
      · rintro i x H7 H8 N1 N0 hi f7 t7 ⟨rfl, rfl⟩ kk
        exact ⟨rfl, yesT ⟨_, rfl, p, l, 2, rfl, by decide, t7, fun v H9 h0 h1 f9 t9 => ⟨_, _, rfl, rfl, _, _, rfl, rfl, .inl ⟨by decide, by decide⟩, kk _ H9 (by omega) (by omega) f9 t9⟩⟩⟩
      intro H2 rts f2 t2 e2 rtl rtb
      refine ⟨_, rfl, _, rfl, ?_⟩
      cases ev with
      | true =>
        refine iteF ?_
        exact ⟨hD, n, r, wi, pl, ro, C, ra, ws, ros, rts, ls, _, _, _, _, _, _, rfl, n2, n4, f1.trans f2, t2, f2 _ _ nr er, rl, rb, f2.sqt t1.md.mu hw, wm, wb3, hp.fr f2 t1.md.mu, pll, pok, f2 _ _ nro ero, rol, rob, e2, by omega, rtb⟩
      | false =>
        refine iteT ?_
        refine ⟨_, rfl, _, rfl, by omega, by omega, fun B hB => ?_⟩
        refine lc_draws (n := ((n : Nat) : Int).toNat) walk_range 1 8 hB t2 (by omega) (fun _ _ _ => trivial) ?_ ?_
        · rintro i x H7 H8 N1 N0 hi f7 t7 ⟨rfl, rfl⟩ kk
          exact ⟨rfl, yesT ⟨_, rfl, p, l, 4, rfl, by decide, t7, fun v H9 h0 h1 f9 t9 => ⟨_, _, rfl, rfl, kk _ H9 (by omega) (by omega) f9 t9⟩⟩⟩
        intro H3 rts2 f3 t3 e3 rtl2 rtb2
        have f13 := f2.trans f3
        exact ⟨hD, n, r, wi, pl, ro, B, ra, ws, ros, rts2, ls, _, _, _, _, _, _, rfl, n2, n4, f1.trans f13, t3, f13 _ _ nr er, rl, rb, f13.sqt t1.md.mu hw, wm, wb3, hp.fr f13 t1.md.mu, pll, pok, f13 _ _ nro ero, rol, rob, e3, by omega, rtb2⟩
    case p12 =>
      rintro D σ H1 ⟨hD, n, r, wi, pl, ro, rt, ra, ws, ros, rts, ls, u5, u8, u11, u12, u13, u14, rfl, n2, n4, f1, t1, er, rl, rb, hw, wm, wb3, hp, pll, pok, ero, rol, rob, ert, rtl, rtb⟩
      intro x hx
      have sx := Same.upd_new (o := .dK []) hx
      refine ⟨_, rfl, r, _, rfl, .inl ⟨.of (sx _ _ er), fun a ha => ?_⟩⟩
      have sa := Same.upd_new (o := .tup (ra.map V.int)) ha
      refine ⟨_, rfl, ro, _, rfl, .inl ⟨.of (sa _ _ (sx _ _ ero)), fun b hb => ?_⟩⟩
      have sb := Same.upd_new (o := .tup (ros.map V.int)) hb
      refine ⟨_, rfl, rt, _, rfl, .inl ⟨.of (sb _ _ (sa _ _ (sx _ _ ert))), fun c hc => ?_⟩⟩
      have sc := Same.upd_new (o := .tup (rts.map V.int)) hc
      refine ⟨_, rfl, _, rfl, ?_⟩
      have sall := (sa.trans sb).trans sc
      refine ⟨sall _ _ upd_same, worldD a b c wi pl, rfl, (show (5 : Nat) ≤ 15 by decide), ?_⟩
      have fx : FrX [x] (upd (upd (upd (upd H1 x (.dK [])) a (.tup (ra.map V.int))) b (.tup (ros.map V.int))) c (.tup (rts.map V.int))) (upd (upd (upd (upd (upd H1 x (.dK [])) a (.tup (ra.map V.int))) b (.tup (ros.map V.int))) c (.tup (rts.map V.int))) x (.dK (worldD a b c wi pl))) := FrX.upd (Same.refl _).fr (by simp)
      have mx : MuX [x] (upd (upd (upd (upd H1 x (.dK [])) a (.tup (ra.map V.int))) b (.tup (ros.map V.int))) c (.tup (rts.map V.int))) := MuX.one (sall _ _ upd_same) rfl
      have sH : Same H1 (upd (upd (upd (upd (upd H1 x (.dK [])) a (.tup (ra.map V.int))) b (.tup (ros.map V.int))) c (.tup (rts.map V.int))) x (.dK (worldD a b c wi pl))) := fun y o e => fx y o (by simpa using ne_of_none e hx) (sall _ _ (sx _ _ e))
      have hHx : H x = none := f1.free t1.md hx
      show D.rt _ _
      rw [hD]
      refine q x ⟨⟨ra, ros, rts⟩, ws, ls⟩ _ (f1.trans sH.fr) (t1.same sH) hHx ⟨a, b, c, wi, pl, upd_same, fx.sqt mx (sc.sqt (sb.sqt (.of upd_same))), fx.sqt mx (sc.sqt (.of upd_same)), fx.sqt mx (.of upd_same), sH.sqt hw, hp.fr sH.fr noMu⟩ ⟨⟨by simp only; omega, by simp only; omega, by simp only; omega, by simp only; omega, fun y hy => ⟨(rb y hy).1, by have := (rb y hy).2; omega⟩, rob, rtb⟩, by simp only; omega, by simp only; omega, ⟨fun y hy => ⟨(wb3 y hy).1, (wb3 y hy).2.1⟩, pll, by simp only; omega, by simp only; rw [rl]; exact pok⟩, by simp only; omega⟩ wm
end
end K5
set_option Elab.async false
set_option linter.all false
set_option maxRecDepth 100000
set_option maxHeartbeats 4000000
namespace K5
open PySem PySem.Spec PyProof.Rows L2
/-! ### lines, in plain Lean -/
open TL (tl)
def numW (n : Nat) : Str := Str.ofString (toString ((n : Nat) : Int))
def sL (l : List Nat) : Str := ⟨l.toArray⟩
theorem tl_sL (l : List Nat) : tl (sL l) = l := by simp [sL]
theorem numW_S (n : Nat) : numW n = sL (TL.numL n) := TL.ext_tl (by rw [tl_sL]; exact TL.tl_num n)
theorem num_facts : ∀ n : Nat, n < 200 → intTold (sL (TL.numL n)) = (if n < 100 then some (n : Int) else none) ∧ PySem.intText? (sL (TL.numL n)) = some (n : Int) ∧ (TL.numL n).length ≤ 3 ∧ 32 ∉ TL.numL n ∧ 44 ∉ TL.numL n := by decide +kernel
theorem numW_told {n : Nat} (h : n < 100) : intTold (numW n) = some (n : Int) := by
  rw [numW_S, (num_facts n (by omega)).1, if_pos h]
theorem numW_big {n : Nat} (h : n < 200) (h2 : ¬ n < 100) : intTold (numW n) = none := by
  rw [numW_S, (num_facts n (by omega)).1, if_neg h2]
theorem numW_int {n : Nat} (h : n < 200) : PySem.intText? (numW n) = some (n : Int) := by rw [numW_S]; exact (num_facts n h).2.1
theorem numW_len {n : Nat} (h : n < 200) : (numW n).length ≤ 3 := by rw [numW_S, TL.len_tl, tl_sL]; exact (num_facts n h).2.2.1
theorem numW_sp {n : Nat} (h : n < 200) : 32 ∉ tl (numW n) := by rw [numW_S, tl_sL]; exact (num_facts n h).2.2.2.1
theorem numW_co {n : Nat} (h : n < 200) : 44 ∉ tl (numW n) := by rw [numW_S, tl_sL]; exact (num_facts n h).2.2.2.2
def J (ws : List Str) : Str := Txt.join " " ws
theorem tl_J (ws : List Str) : tl (J ws) = TL.joinL [32] (ws.map tl) := by
  unfold J
  rw [TL.join_eq, TL.tl_join]
  rfl
theorem J_cons (w : Str) (ws : List Str) (h : ws ≠ []) : tl (J (w :: ws)) = tl w ++ 32 :: tl (J ws) := by
  rw [tl_J, tl_J]
  cases ws with
  | nil => exact absurd rfl h
  | cons x ws => rfl
theorem J_one (w : Str) : J [w] = w := TL.ext_tl (by rw [tl_J]; rfl)
/-- the place behind these words -/
def adv (a : Nat) (ws : List Str) : Nat := a + (ws.map fun x => x.length + 1).sum
theorem J_len : ∀ (ws : List Str) (w : Str), (J (w :: ws)).length + 1 = adv (w.length + 1) ws
  | [], w => by rw [J_one]; rfl
  | x :: ws, w => by
    have ih := J_len ws x
    rw [TL.len_tl, J_cons w (x :: ws) (by simp), List.length_append, List.length_cons, ← TL.len_tl, ← TL.len_tl]
    unfold adv at ih ⊢
    simp only [List.map_cons, List.sum_cons] at ih ⊢
    omega
theorem lineIs {w : Str} {ws : List Str} (h0 : 32 ∉ tl w) (hs : ∀ x ∈ ws, 32 ∉ tl x) (l0 : w.length ≤ 30) (ls : ∀ x ∈ ws, x.length ≤ 40) (n : ws.length ≤ 8) : LineIs (J (w :: ws)) w ws := by
  refine ⟨?_, ?_, by omega, by omega, fun x hx => by have := ls x hx; omega⟩
  · refine TL.split_join (s := 32) (S := []) rfl (by decide +kernel) (by simp) fun p hp => ?_
    rcases List.mem_cons.mp hp with rfl | hp
    · exact h0
    · exact hs p hp
  · have := J_len ws w
    have h2 : (ws.map fun x => x.length + 1).sum ≤ 41 * ws.length := by
      clear this hs h0 n
      induction ws with
      | nil => simp
      | cons x ws ih =>
        have := ls x (by simp)
        have := ih fun y hy => ls y (List.mem_cons_of_mem _ hy)
        simp only [List.map_cons, List.sum_cons, List.length_cons]
        omega
    unfold adv at this
    omega
/-- good words pass -/
def Good : List Str → List Str → List VV → Prop
  | k :: ks, x :: xs, y :: ys => valTold k x = some y ∧ OkWord k x ∧ Good ks xs ys
  | [], [], [] => True
  | _, _, _ => False
theorem Good.len : ∀ {ks xs : List Str} {ys : List VV}, Good ks xs ys → ks.length = xs.length ∧ xs.length = ys.length
  | [], [], [], _ => ⟨rfl, rfl⟩
  | _ :: _, _ :: _, _ :: _, h => by
    have := Good.len h.2.2
    simp only [List.length_cons]
    omega
theorem told_pre : ∀ {ks xs : List Str} {ys : List VV} {ks2 rest : List Str} {a : Nat}, Good ks xs ys → toldGo (ks ++ ks2) (xs ++ rest) a = app ys (toldGo ks2 rest (adv a xs))
  | [], [], [], ks2, rest, a, _ => by
    show toldGo ks2 rest a = app [] (toldGo ks2 rest a)
    cases toldGo ks2 rest a <;> rfl
  | k :: ks, x :: xs, y :: ys, ks2, rest, a, h => by
    have ih := told_pre (ks2 := ks2) (rest := rest) (a := a + x.length + 1) h.2.2
    have ea : adv a (x :: xs) = adv (a + x.length + 1) xs := by unfold adv; simp only [List.map_cons, List.sum_cons]; omega
    simp only [List.cons_append, toldGo, h.1]
    rw [ih, ea]
    cases toldGo ks2 rest (adv (a + x.length + 1) xs) <;> rfl
theorem okWords_pre : ∀ {ks xs : List Str} {ys : List VV} {ks2 rest : List Str}, Good ks xs ys → OkWords ks2 rest → OkWords (ks ++ ks2) (xs ++ rest)
  | [], [], [], _, _, _, h => h
  | _ :: _, _ :: _, _ :: _, _, _, g, h => ⟨g.2.1, okWords_pre g.2.2 h⟩
theorem told_ok {ks xs : List Str} {ys : List VV} {a : Nat} (g : Good ks xs ys) : toldGo ks xs a = .ok ys := by
  have := told_pre (ks2 := []) (rest := []) (a := a) g
  rw [List.append_nil, List.append_nil] at this
  rw [this]
  show app ys (.ok []) = _
  simp [app]
theorem okWords_ok {ks xs : List Str} {ys : List VV} (g : Good ks xs ys) : OkWords ks xs := by
  have := okWords_pre (ks2 := []) (rest := []) g trivial
  rwa [List.append_nil, List.append_nil] at this
/-- words lack -/
theorem told_lack {ks xs : List Str} {ys : List VV} {k : Str} {ks2 : List Str} {a : Nat} (g : Good ks xs ys) : toldGo (ks ++ k :: ks2) xs a = .error none := by
  have := told_pre (ks2 := k :: ks2) (rest := []) (a := a) g
  rw [List.append_nil] at this
  rw [this]
  rfl
/-- a wrong word -/
theorem told_bad {ks xs : List Str} {ys : List VV} {k x : Str} {ks2 rest : List Str} {a : Nat} (g : Good ks xs ys) (h : valTold k x = none) : toldGo (ks ++ k :: ks2) (xs ++ x :: rest) a = .error (some (adv a xs)) := by
  rw [told_pre g]
  show app ys (match valTold k x with | none => _ | some y => _) = _
  rw [h]
  rfl
/-- a word too many -/
theorem told_more {ks xs : List Str} {ys : List VV} {x : Str} {rest : List Str} {a : Nat} (g : Good ks xs ys) : toldGo ks (xs ++ x :: rest) a = .error (some (adv a xs)) := by
  have := told_pre (ks2 := []) (rest := x :: rest) (a := a) g
  rw [List.append_nil] at this
  rw [this]
  rfl
theorem good_int {n : Nat} (h : n < 100) : valTold "integer" (numW n) = some (.int n) ∧ OkWord "integer" (numW n) := by
  refine ⟨?_, by have := numW_len (n := n) (by omega); omega, .inl rfl⟩
  show (intTold (numW n)).map VV.int = _
  rw [numW_told h]
  rfl
/-- the lot's text -/
def lotW (l : List Nat) : Str := Txt.join "," (l.map numW)
theorem lotW_split {l : List Nat} (h : ∀ n ∈ l, n < 200) (hne : l ≠ []) : Txt.split (lotW l) "," = l.map numW := by
  refine TL.split_join (s := 44) (S := []) rfl (by decide +kernel) (by simpa using hne) fun p hp => ?_
  obtain ⟨n, hn, rfl⟩ := List.mem_map.mp hp
  exact numW_co (h n hn)
theorem tl_lotW (l : List Nat) : tl (lotW l) = TL.joinL [44] (l.map fun n => tl (numW n)) := by
  unfold lotW
  rw [TL.join_eq, TL.tl_join, List.map_map]
  rfl
theorem lotW_sp {l : List Nat} (h : ∀ n ∈ l, n < 200) : 32 ∉ tl (lotW l) := by
  rw [tl_lotW]
  induction l with
  | nil => simp [TL.joinL]
  | cons n l ih =>
    have h1 := numW_sp (h n (by simp))
    have h2 := ih fun m hm => h m (List.mem_cons_of_mem _ hm)
    cases l with
    | nil => simpa [TL.joinL] using h1
    | cons m l =>
      show 32 ∉ tl (numW n) ++ ([44] ++ TL.joinL [44] ((m :: l).map fun n => tl (numW n)))
      simp only [List.mem_append, not_or]
      exact ⟨h1, by simp, h2⟩
theorem lotW_len {l : List Nat} (h : ∀ n ∈ l, n < 200) : (lotW l).length ≤ 4 * l.length := by
  rw [TL.len_tl, tl_lotW]
  induction l with
  | nil => simp [TL.joinL]
  | cons n l ih =>
    have h1 := numW_len (h n (by simp))
    rw [TL.len_tl] at h1
    have h2 := ih fun m hm => h m (List.mem_cons_of_mem _ hm)
    cases l with
    | nil => simp only [List.map_cons, List.map_nil, TL.joinL, List.length_singleton]; omega
    | cons m l =>
      show (tl (numW n) ++ ([44] ++ TL.joinL [44] ((m :: l).map fun n => tl (numW n)))).length ≤ _
      simp only [List.length_append, List.length_cons, List.length_nil] at h2 ⊢
      omega
def toI (l : List Nat) : List Int := l.map fun n : Nat => (n : Int)
theorem mapM_nums {l : List Nat} (h : ∀ n ∈ l, n < 100) : (l.map numW).mapM intTold = some (toI l) := by
  induction l with
  | nil => rfl
  | cons n l ih =>
    rw [List.map_cons, List.mapM_cons, numW_told (h n (by simp)), ih fun m hm => h m (List.mem_cons_of_mem _ hm)]
    rfl
theorem good_lot {l : List Nat} (h : ∀ n ∈ l, n < 100) (hne : l ≠ []) (hz : l.length ≤ 9) : valTold "list" (lotW l) = some (.lst (toI l)) ∧ OkWord "list" (lotW l) := by
  have h2 : ∀ n ∈ l, n < 200 := fun n hn => by have := h n hn; omega
  refine ⟨?_, by have := lotW_len h2; omega, .inr ⟨rfl, by rw [lotW_split h2 hne, List.length_map]; omega, fun p hp => ?_⟩⟩
  · show ((Txt.split (lotW l) ",").mapM intTold).map VV.lst = _
    rw [lotW_split h2 hne, mapM_nums h]
    rfl
  · rw [lotW_split h2 hne] at hp
    obtain ⟨n, hn, rfl⟩ := List.mem_map.mp hp
    have := numW_len (h2 n hn)
    omega
end K5
set_option Elab.async false
set_option linter.all false
set_option maxRecDepth 100000
set_option maxHeartbeats 4000000
namespace K5
open PySem PySem.Spec PyProof.Rows L2
open TL (tl)
/-! ### the line of a deed -/
def VV.text : VV → Str
  | .int i => numW i.toNat
  | .lst l => lotW (l.map Int.toNat)
def VV.bd : VV → Prop
  | .int i => 0 ≤ i ∧ i < 100
  | .lst l => l ≠ [] ∧ l.length ≤ 9 ∧ ∀ x ∈ l, 0 ≤ x ∧ x < 100
def Dd.bd (d : Dd) : Prop := ∀ v ∈ d.vals, v.bd
def Dd.ws (d : Dd) : List Str := d.vals.map VV.text
structure LnOk (W : Wd) (d : Dd) (line : Str) (W' : Wd) : Prop where
  e : line = J (d.word :: d.ws)
  b : d.bd
  r : ledR W d = .ok W'
theorem toI_toNat {l : List Int} (h : ∀ x ∈ l, 0 ≤ x) : toI (l.map Int.toNat) = l := by
  unfold toI
  rw [List.map_map]
  conv => rhs; rw [← List.map_id l]
  refine List.map_congr_left fun x hx => ?_
  have := h x hx
  simp; omega
theorem VV.good_int {i : Int} (h : VV.bd (.int i)) : valTold "integer" (VV.text (.int i)) = some (.int i) ∧ OkWord "integer" (VV.text (.int i)) := by
  have := K5.good_int (n := i.toNat) (by have := h.2; omega)
  refine ⟨?_, this.2⟩
  show valTold "integer" (numW i.toNat) = _
  rw [this.1, Int.toNat_of_nonneg h.1]
theorem VV.good_lst {l : List Int} (h : VV.bd (.lst l)) : valTold "list" (VV.text (.lst l)) = some (.lst l) ∧ OkWord "list" (VV.text (.lst l)) := by
  obtain ⟨h1, h2, h3⟩ := h
  have := K5.good_lot (l := l.map Int.toNat) (fun n hn => by obtain ⟨x, hx, rfl⟩ := List.mem_map.mp hn; have := h3 x hx; omega) (by simpa using h1) (by simpa using h2)
  refine ⟨?_, this.2⟩
  show valTold "list" (lotW (l.map Int.toNat)) = _
  rw [this.1, toI_toNat fun x hx => (h3 x hx).1]
theorem Dd.good {d : Dd} (h : d.bd) : Good d.kinds d.ws d.vals := by
  cases d with
  | store a b c => exact ⟨(VV.good_int (h (.int a) (by simp [Dd.vals]))).1, (VV.good_int (h (.int a) (by simp [Dd.vals]))).2, (VV.good_int (h (.int b) (by simp [Dd.vals]))).1, (VV.good_int (h (.int b) (by simp [Dd.vals]))).2, (VV.good_int (h (.int c) (by simp [Dd.vals]))).1, (VV.good_int (h (.int c) (by simp [Dd.vals]))).2, trivial⟩
  | room a b => exact ⟨(VV.good_int (h (.int a) (by simp [Dd.vals]))).1, (VV.good_int (h (.int a) (by simp [Dd.vals]))).2, (VV.good_int (h (.int b) (by simp [Dd.vals]))).1, (VV.good_int (h (.int b) (by simp [Dd.vals]))).2, trivial⟩
  | rack a b => exact ⟨(VV.good_int (h (.int a) (by simp [Dd.vals]))).1, (VV.good_int (h (.int a) (by simp [Dd.vals]))).2, (VV.good_int (h (.int b) (by simp [Dd.vals]))).1, (VV.good_int (h (.int b) (by simp [Dd.vals]))).2, trivial⟩
  | rate a b => exact ⟨(VV.good_int (h (.int a) (by simp [Dd.vals]))).1, (VV.good_int (h (.int a) (by simp [Dd.vals]))).2, (VV.good_int (h (.int b) (by simp [Dd.vals]))).1, (VV.good_int (h (.int b) (by simp [Dd.vals]))).2, trivial⟩
  | wish a b => exact ⟨(VV.good_int (h (.int a) (by simp [Dd.vals]))).1, (VV.good_int (h (.int a) (by simp [Dd.vals]))).2, (VV.good_int (h (.int b) (by simp [Dd.vals]))).1, (VV.good_int (h (.int b) (by simp [Dd.vals]))).2, trivial⟩
  | piece a l => exact ⟨(VV.good_int (h (.int a) (by simp [Dd.vals]))).1, (VV.good_int (h (.int a) (by simp [Dd.vals]))).2, (VV.good_lst (h (.lst l) (by simp [Dd.vals]))).1, (VV.good_lst (h (.lst l) (by simp [Dd.vals]))).2, trivial⟩
theorem Dd.nn_of {d : Dd} (h : d.bd) : d.nn := by
  cases d with
  | wish p v => exact (h (.int p) (by simp [Dd.vals])).1
  | _ => trivial
theorem VV.sp {v : VV} (h : v.bd) : 32 ∉ tl v.text ∧ v.text.length ≤ 40 := by
  cases v with
  | int i => exact ⟨numW_sp (by have := h.2; omega), by have := numW_len (n := i.toNat) (by have := h.2; omega); show (numW i.toNat).length ≤ 40; omega⟩
  | lst l =>
    obtain ⟨h1, h2, h3⟩ := h
    have hb : ∀ n ∈ l.map Int.toNat, n < 200 := fun n hn => by obtain ⟨x, hx, rfl⟩ := List.mem_map.mp hn; have := h3 x hx; omega
    refine ⟨lotW_sp hb, ?_⟩
    have := lotW_len hb
    rw [List.length_map] at this
    show (lotW (l.map Int.toNat)).length ≤ 40
    omega
theorem word_sp (d : Dd) : 32 ∉ tl d.word ∧ d.word.length ≤ 30 := by
  have h : ∀ w ∈ (["store", "room", "rack", "rate", "wish", "piece"] : List Str), 32 ∉ tl w ∧ w.length ≤ 30 := by decide +kernel
  cases d <;> exact h _ (by simp [Dd.word])
theorem Dd.lineIs {d : Dd} (h : d.bd) : LineIs (J (d.word :: d.ws)) d.word d.ws := by
  refine K5.lineIs (word_sp d).1 (fun x hx => ?_) (word_sp d).2 (fun x hx => ?_) ?_
  · obtain ⟨v, hv, rfl⟩ := List.mem_map.mp hx
    exact (VV.sp (h v hv)).1
  · obtain ⟨v, hv, rfl⟩ := List.mem_map.mp hx
    exact (VV.sp (h v hv)).2
  · cases d <;> simp [Dd.ws, Dd.vals]
def spJoin (K : PySem.W.Frag) : Sp := fun vs H Q _ => ∃ (a : Addr) (l : List Nat), vs = [.ref a] ∧ TI K H a (toI l) ∧ (∀ n ∈ l, n < 200) ∧ l.length < 100 ∧ ∀ H', Same H H' → Q (.str (lotW l)) H'
section
variable {w : World} {K : PySem.W.Frag} {mg : Str → Option Value} {base : Heap}
theorem num_cast {i : Int} (h : 0 ≤ i) : Str.ofString (toString i) = numW i.toNat := by
  unfold numW
  rw [Int.toNat_of_nonneg h]
theorem log_ok {i : Int} (h0 : 0 ≤ i) (h : i < 1000) : i.natAbs.log2 < 1920 := by
  have : i.natAbs < 2 ^ 10 := by omega
  by_cases hz : i.natAbs = 0
  · rw [hz]; decide
  · have := (Nat.log2_lt hz).mpr this
    omega
theorem sc__law_joined : FnScope ["_law_lot_here", "_law_store"] ["_law_lot_here"] (defScope s__law_joined) := ⟨rfl, rfl, rfl, by decide +kernel, rfl, by decide +kernel, by decide +kernel⟩
theorem ok__law_joined (T : Top w K mg) : HasF w K mg base 1 "_law_joined" ["_law_lot_here"] (spJoin K) := by
  refine .of T (has_ex (k := 0) T 23 (d := dD ("_law_joined", none) "_law_joined" "_law_joined" s__law_joined) rfl sc__law_joined (fun _ => rfl) (fun _ _ _ _ _ _ us hl => match us, hl with | [_], _ => rfl) (fun vs H Q E h => ?_) (fun cdv A outer s H vs Q E hr h => ?_))
  · obtain ⟨a, l, rfl, _⟩ := h
    rfl
  · obtain ⟨a, l, rfl, ha, hb, hz, q⟩ := h
    refine ⟨_, (pss_one (ps_ret (pe_join pe_str (pe_lc (own := [("_law_store", 1)]) (g := gName 1) (tt := tYes) rfl sc__law_joined.nd (pi_tup (pv 0)) (blkOk_by (N := ["_law_lot_here", "_law_store"]) (sc := defScope s__law_joined) (by decide +kernel)) (fun _ _ _ _ _ => (pg_name (i := 1) sc__law_joined.nd rfl (Or.inl rfl))) (fun _ _ _ _ _ => pts_nil) (fun _ _ _ _ _ => (pe_strN T (pv 1))))))), ?_⟩
    refine ⟨⟨_, rfl⟩, _, rfl, a, rfl, ⟨_, ha⟩, fun D hD => lc_vals walk_tup ((l.map numW).map V.str) (by simp [toI]) hD (by simp [toI]; omega) (fun H1 s1 => s1.sqt ha) ?_ ?_⟩
    · rintro i x y H1 H2 N1 N0 ey s1 ⟨rfl, ex⟩ kk
      obtain ⟨z, ez, rfl⟩ := map_get ey
      obtain ⟨n, en, rfl⟩ := map_get ez
      obtain ⟨z2, ez2, rfl⟩ := map_get ex
      obtain ⟨n2, en2, rfl⟩ := map_get ez2
      rw [en] at en2
      cases en2
      have bn := hb n (List.mem_of_getElem? en)
      exact ⟨rfl, yesT ⟨_, rfl, _, rfl, log_ok (by omega) (by omega), kk _ (Same.refl _)⟩⟩
    · intro H1 s1 e
      refine ⟨_, D, l.map numW, rfl, rfl, .inl (.of e), ?_, q H1 s1⟩
      have : ((l.map numW).map (·.length)).sum ≤ 3 * l.length := by
        clear q ha hz e hD s1
        induction l with
        | nil => simp
        | cons n l ih =>
          have h1 := numW_len (hb n (by simp))
          have h2 := ih fun m hm => hb m (List.mem_cons_of_mem _ hm)
          simp only [List.map_cons, List.sum_cons, List.length_cons]
          omega
      rw [List.length_map]
      show _ + l.length * 1 ≤ 16777216
      omega
end
end K5
set_option Elab.async false
set_option linter.all false
set_option maxRecDepth 100000
set_option maxHeartbeats 4000000
namespace K5
open PySem PySem.Spec PyProof.Rows L2
open TL (tl)
/-! ### _law_line -/
def spLine (K : PySem.W.Frag) : Sp := fun vs H Q _ => ∃ (p l x : Addr) (W : Wd), vs = [.ref p, .ref x] ∧ TapeAt K H p l ∧ x ≠ p ∧ WoAt K H x W ∧ WW W ∧ W.wi.length ≤ 4 ∧ ∀ line d W' H', FrX [p] H H' → TapeAt K H' p l → LnOk W d line W' → Q (.str line) H'
theorem OkLot.go {n : Nat} : ∀ {l : List Int} (p : Option Int), (∀ x ∈ l, 0 ≤ x ∧ x ≤ (n : Int) - 1) → l.Pairwise (· < ·) → (∀ y, p = some y → ∀ x ∈ l, y < x) → lotGo n p l = true
  | [], _, _, _, _ => rfl
  | x :: l, p, h, pw, hp => by
    obtain ⟨p1, p2⟩ := List.pairwise_cons.mp pw
    have ih := OkLot.go (l := l) (some x) (fun y hy => h y (List.mem_cons_of_mem _ hy)) p2 (fun y e z hz => by cases e; exact p1 z hz)
    have hx := h x List.mem_cons_self
    unfold lotGo
    rw [ih, decide_eq_true (by omega : 0 ≤ x ∧ x < (n : Int))]
    cases p with
    | none => rfl
    | some y =>
      have := hp y rfl x List.mem_cons_self
      simp [this]
theorem slot_ok {n : Nat} {lo hi : Int} {set : Nat → Cl} {s v : Int} (h1 : 0 ≤ s) (h2 : s < n) (h3 : lo ≤ v) (h4 : v ≤ hi) : slotR n lo hi set s v = .ok (set s.toNat) := by
  unfold slotR
  rw [if_pos (by omega), if_pos ⟨h3, h4⟩]
theorem J3 (w a b : Str) : J [w, a, b] = w ++ " " ++ a ++ " " ++ b := by
  refine TL.ext_tl ?_
  rw [J_cons w _ (by simp), J_cons a _ (by simp), J_one]
  simp only [TL.tl_append]
  have : tl (" " : Str) = [32] := rfl
  rw [this]
  simp
theorem J4 (w a b c : Str) : J [w, a, b, c] = w ++ " " ++ J [a, b, c] := by
  refine TL.ext_tl ?_
  rw [J_cons w _ (by simp)]
  simp only [TL.tl_append]
  have : tl (" " : Str) = [32] := rfl
  rw [this]
  simp
theorem two_str (w : Str) (a b : Int) (ha : 0 ≤ a) (hb : 0 ≤ b) (h : w ++ " " = w') : w' ++ Str.ofString (toString a) ++ " " ++ Str.ofString (toString b) = J [w, numW a.toNat, numW b.toNat] := by
  rw [J3, ← h, num_cast ha, num_cast hb]
theorem sp_word : ("store" : Str) ++ " " = "store " ∧ ("rack" : Str) ++ " " = "rack " ∧ ("rate" : Str) ++ " " = "rate " ∧ ("wish" : Str) ++ " " = "wish " ∧ ("room" : Str) ++ " " = "room " ∧ ("piece" : Str) ++ " " = "piece " := by decide +kernel
def PL (K : PySem.W.Frag) (Q : VK) (p l x : Addr) (n : Nat) (H : Hp) : TS := fun D σ H1 => D.rt = Q ∧ ∃ kd : Int, σ = [some (.ref p), some (.ref x), some (.int (n : Nat)), some (.int kd)] ∧ FrX [p] H H1 ∧ TapeAt K H1 p l
section
variable {w : World} {K : PySem.W.Frag} {mg : Str → Option Value} {base : Heap}
theorem sc__law_line : FnScope ["_law_tape_here", "_law_world_here", "_law_stores", "_law_kind"] ["_law_tape_here", "_law_world_here"] (defScope s__law_line) := ⟨rfl, rfl, rfl, by decide +kernel, rfl, by decide +kernel, by decide +kernel⟩
theorem ok__law_line (T : Top w K mg) : HasF w K mg base 4 "_law_line" ["_law_tape_here", "_law_world_here"] (spLine K) := by
  refine .of T (has_ex (k := 3) T 24 (d := dD ("_law_line", none) "_law_line" "_law_line" s__law_line) rfl sc__law_line (fun _ => rfl) (fun _ _ _ _ _ _ us hl => match us, hl with | [_, _], _ => rfl) (fun vs H Q E h => ?_) (fun cdv A outer s H vs Q E hr h => ?_))
  · obtain ⟨p, l, x, W, rfl, _⟩ := h
    rfl
  · obtain ⟨p, l, x, W, rfl, ht, nxp, hx, ww, wz, q⟩ := h
    obtain ⟨a, b, c, d, e, h0, h1, h2, h3, h4, h5⟩ := hx.ex
    have hu := hu_of hr
    have n2 := ww.n2
    have n4 := ww.n4
    have md := ht.md
    have nx : x ∉ [p] := by simpa using nxp
    have hW : ∀ {H1 : Hp}, FrX [p] H H1 → H1 x = some (.dK (worldD a b c d e)) := fun f => f _ _ nx h0
    have hwl : ∀ {H1 : Hp}, FrX [p] H H1 → TI K H1 d W.wi := fun f => f.sqt md.mu h4
    have fin : ∀ (dd : Dd) (W' : Wd) (line : Str) (H' : Hp), FrX [p] H H' → TapeAt K H' p l → line = J (dd.word :: dd.ws) → dd.bd → ledR W dd = .ok W' → Q (.str line) H' := fun dd W' line H' f t e b r => q line dd W' H' f t ⟨e, b, r⟩
    have okc := ww.ok
    refine ⟨_, (pss_cons (ps_set (i := 2) sc__law_line.nd rfl (Or.inl rfl) (pe_len T (pe_dget hu (pv 1) pe_str (fun _ _ => rfl))))
      (pss_cons (ps_set (i := 3) sc__law_line.nd rfl (Or.inl rfl) (pe_fn (ok__law_draw T) rfl hr (by omega) (pa_cons (pv 0) (pa_cons pe_int pa_nil))))
      (pss_cons (ps_if (PW.pt (pw_and (pt_cmpR op_eq (pv 3) pe_int (nomark _)) (pw_and (pt_cmpR op_lt (pv 2) pe_int (nomark _)) (pw_and1 (PW.pt (pw_or (pt_cmpR op_lt (pv 2) pe_int (nomark _)) (pw_or1 (pt_cmpR op_lt (pe_len T (pe_dget hu (pv 1) pe_str (fun _ _ => rfl))) pe_int (nomark _))))))))) (pss_one (ps_ret (pe_op op_add_str pe_str (pe_join pe_str (pe_lst (pa_cons (pe_strN T (pe_fn (ok__law_draw T) rfl hr (by omega) (pa_cons (pv 0) (pa_cons pe_int pa_nil)))) (pa_cons (pe_strN T (pe_fn (ok__law_draw T) rfl hr (by omega) (pa_cons (pv 0) (pa_cons pe_int pa_nil)))) (pa_cons (pe_strN T (pe_op op_add pe_int (pe_fn (ok__law_draw T) rfl hr (by omega) (pa_cons (pv 0) (pa_cons pe_int pa_nil))))) pa_nil)))))))) pss_nil)
      (pss_by (PL K Q p l x W.cl.ra.length H) (pss_cons (ps_if (PW.pt (pw_and (pt_cmpR op_eq (pv 3) pe_int (nomark _)) (pw_and1 (pt_cmpR op_lt (pe_len T (pe_dget hu (pv 1) pe_str (fun _ _ => rfl))) (pe_op op_sub pe_int (pe_intN T (pe_cmpR op_gt (pv 2) pe_int (nomark _)))) (nomark _))))) (pss_one (ps_ret (pe_op op_add_str (pe_op op_add_str (pe_op op_add_str pe_str (pe_strN T (pe_op op_add pe_int (pe_fn (ok__law_draw T) rfl hr (by omega) (pa_cons (pv 0) (pa_cons pe_int pa_nil)))))) pe_str) (pe_fn (ok__law_joined T) rfl hr (by omega) (pa_cons (pe_fn (ok__law_lot T) rfl hr (by omega) (pa_cons (pv 0) (pa_cons (pv 2) pa_nil))) pa_nil))))) pss_nil)
      (pss_by (PL K Q p l x W.cl.ra.length H) (pss_cons (ps_if (pt_cmpR op_eq (pv 3) pe_int (nomark _)) (pss_one (ps_ret (pe_op op_add_str (pe_op op_add_str (pe_op op_add_str pe_str (pe_strN T (pe_fn (ok__law_draw T) rfl hr (by omega) (pa_cons (pv 0) (pa_cons (pv 2) pa_nil))))) pe_str) (pe_strN T (pe_fn (ok__law_pick T) rfl hr (by omega) (pa_cons (pv 0) (pa_cons (pe_lst (pa_cons (pe_fn (ok__law_draw T) rfl hr (by omega) (pa_cons (pv 0) (pa_cons pe_int pa_nil))) (pa_cons (pe_fn (ok__law_draw T) rfl hr (by omega) (pa_cons (pv 0) (pa_cons pe_int pa_nil))) pa_nil))) pa_nil))))))) pss_nil)
      (pss_cons (ps_if (pt_cmpR op_eq (pv 3) pe_int (nomark _)) (pss_one (ps_ret (pe_op op_add_str (pe_op op_add_str (pe_op op_add_str pe_str (pe_strN T (pe_fn (ok__law_draw T) rfl hr (by omega) (pa_cons (pv 0) (pa_cons (pv 2) pa_nil))))) pe_str) (pe_strN T (pe_op op_add pe_int (pe_fn (ok__law_draw T) rfl hr (by omega) (pa_cons (pv 0) (pa_cons pe_int pa_nil)))))))) pss_nil)
      (pss_by (PL K Q p l x W.cl.ra.length H) (pss_cons (ps_if (PW.pt (pw_and (pt_cmpR op_eq (pv 3) pe_int (nomark _)) (pw_and1 (pt_cmpR op_gt (pe_len T (pe_dget hu (pv 1) pe_str (fun _ _ => rfl))) pe_int (nomark _))))) (pss_one (ps_ret (pe_op op_add_str (pe_op op_add_str (pe_op op_add_str pe_str (pe_strN T (pe_fn (ok__law_draw T) rfl hr (by omega) (pa_cons (pv 0) (pa_cons (pe_len T (pe_dget hu (pv 1) pe_str (fun _ _ => rfl))) pa_nil))))) pe_str) (pe_strN T (pe_op op_add pe_int (pe_fn (ok__law_draw T) rfl hr (by omega) (pa_cons (pv 0) (pa_cons pe_int pa_nil)))))))) pss_nil)
      (pss_by (PL K Q p l x W.cl.ra.length H) (pss_one (ps_ret (pe_op op_add_str (pe_op op_add_str (pe_op op_add_str pe_str (pe_strN T (pe_fn (ok__law_draw T) rfl hr (by omega) (pa_cons (pv 0) (pa_cons (pv 2) pa_nil))))) pe_str) (pe_strN T (pe_fn (ok__law_pick T) rfl hr (by omega) (pa_cons (pv 0) (pa_cons (pe_lst (pa_cons (pe_fn (ok__law_draw T) rfl hr (by omega) (pa_cons (pv 0) (pa_cons pe_int pa_nil))) (pa_cons (pe_fn (ok__law_draw T) rfl hr (by omega) (pa_cons (pv 0) (pa_cons pe_int pa_nil))) pa_nil))) pa_nil))))))) ?p7)) ?p6))) ?p4)) ?p3)))), ?_⟩
    case refine_2 =>
      refine ⟨_, rfl, x, _, rfl, DGet.k (k := sK "racks") h0, _, _, rfl, .inr h1, ?_⟩
      rw [List.length_map]
      refine ⟨_, rfl, p, l, 6, rfl, by decide, ht, fun kd H1 k0 k1 f1 t1 => ?_⟩
      have nxt : PL K Q p l x W.cl.ra.length H { nx := fun x H' => Q V.non H', rt := Q } [some (.ref p), some (.ref x), some (.int (W.cl.ra.length : Nat)), some (.int kd)] H1 := ⟨rfl, kd, rfl, f1, t1⟩
      refine ⟨_, rfl, rfl, _, rfl, ?_⟩
      refine ite2 (fun _ => ?_) (fun _ => iteF ⟨rfl, kd, rfl, f1, t1⟩)
      refine ⟨_, rfl, _, _, rfl, rfl, _, rfl, ?_⟩
      refine iteB (decide_eq_true (by omega)) ?_
      refine ⟨_, rfl, _, _, rfl, rfl, _, rfl, ?_⟩
      refine ite2 (fun _ => ?_) (fun _ => ?_)
      rotate_left 1
      refine ⟨_, rfl, x, _, rfl, DGet.k (k := sK "wishes") (hW f1), _, _, rfl, .inr (hwl f1), _, _, rfl, rfl, _, rfl, ?_⟩
      refine iteB (decide_eq_true (by rw [List.length_map]; omega)) ?_
      all_goals
        refine ⟨⟨_, rfl⟩, _, rfl, p, l, 4, rfl, by decide, t1, fun r1 H2 a0 a1 f2 t2 => ⟨_, rfl, log_ok a0 (by omega), _, rfl, p, l, 5, rfl, by decide, t2, fun r2 H3 b0 b1 f3 t3 => ⟨_, rfl, log_ok b0 (by omega), _, rfl, p, l, 8, rfl, by decide, t3, fun r3 H4 c0 c1 f4 t4 => ⟨_, _, rfl, rfl, _, rfl, log_ok (by omega) (by omega), by show 3 ≤ sizeLine; decide, fun D hD => ?_⟩⟩⟩⟩
        have bdd : Dd.bd (.store r1 r2 (1 + r3)) := fun v hv => by
          simp only [Dd.vals, List.mem_cons, List.not_mem_nil, or_false] at hv
          rcases hv with rfl | rfl | rfl
          · exact ⟨a0, by omega⟩
          · exact ⟨b0, by omega⟩
          · exact ⟨by omega, by omega⟩
        have g1 := numW_len (n := r1.toNat) (by omega)
        have g2 := numW_len (n := r2.toNat) (by omega)
        have g3 := numW_len (n := (1 + r3).toNat) (by omega)
        have sD := Same.upd_new (o := .lst [.str (Str.ofString (toString r1)), .str (Str.ofString (toString r2)), .str (Str.ofString (toString (1 + r3)))]) hD
        have jl := J_len [numW r2.toNat, numW (1 + r3).toNat] (numW r1.toNat)
        unfold adv at jl
        simp only [List.map_cons, List.map_nil, List.sum_cons, List.sum_nil] at jl
        refine ⟨_, D, [numW r1.toNat, numW r2.toNat, numW (1 + r3).toNat], rfl, rfl, .inl (.of (by rw [upd_same, num_cast a0, num_cast b0, num_cast (by omega : 0 ≤ 1 + r3)]; rfl)), ?_, _, _, rfl, rfl, ?_, ?_⟩
        · show (numW r1.toNat).length + ((numW r2.toNat).length + ((numW (1 + r3).toNat).length + 0)) + 3 * 1 ≤ 16777216
          omega
        · have e6 : ("store " : Str).length = 6 := by decide +kernel
          show ("store " : Str).length + (J [numW r1.toNat, numW r2.toNat, numW (1 + r3).toNat]).length ≤ sizeLine
          exact sl_small (by omega)
        · refine fin (.store r1 r2 (1 + r3)) ⟨⟨W.cl.ra ++ [r1], W.cl.ro ++ [r2], W.cl.rt ++ [1 + r3]⟩, W.wi, W.pl⟩ _ _ ((((f1.trans f2).trans f3).trans f4).trans sD.fr) (t4.same sD) ?_ bdd ?_
          · show ("store " : Str) ++ J [numW r1.toNat, numW r2.toNat, numW (1 + r3).toNat] = J [("store" : Str), numW r1.toNat, numW r2.toNat, numW (1 + r3).toNat]
            rw [J4, sp_word.1]
          · show toW W (storeR W.cl r1 r2 (1 + r3)) = _
            unfold storeR
            rw [if_neg (by omega), if_pos (by omega), if_pos (by omega), if_pos (by omega)]
            rfl
    case p3 =>
      rintro D σ H1 ⟨hD, kd, rfl, f1, t1⟩
      have self : PL K Q p l x W.cl.ra.length H D [some (.ref p), some (.ref x), some (.int (W.cl.ra.length : Nat)), some (.int kd)] H1 := ⟨hD, kd, rfl, f1, t1⟩
      refine ⟨_, rfl, rfl, _, rfl, ?_⟩
      refine ite2 (fun _ => ?_) (fun _ => iteF self)
      refine ⟨_, rfl, x, _, rfl, DGet.k (k := sK "wishes") (hW f1), _, _, rfl, .inr (hwl f1), _, rfl, _, _, rfl, rfl, .inr ⟨_, rfl, _, _, rfl, rfl, _, _, rfl, rfl, _, rfl, ?_⟩⟩
      refine ite2 (fun _ => ?_) (fun _ => self)
      refine ⟨_, rfl, p, l, 3, rfl, by decide, t1, fun r1 H2 a0 a1 f2 t2 => ⟨_, _, rfl, rfl, _, rfl, log_ok (by omega) (by omega), _, _, rfl, rfl, ?_, _, _, rfl, rfl, ?_, _, rfl, _, rfl, p, l, W.cl.ra.length, rfl, t2, by omega, by omega, fun a ns H3 f3 t3 ha okl nel => ?_⟩⟩
      · rw [num_cast (by omega : 0 ≤ 1 + r1)]
        have := numW_len (n := (1 + r1).toNat) (by omega)
        have e6 : ("piece " : Str).length = 6 := by decide +kernel
        exact sl_small (by omega)
      · rw [num_cast (by omega : 0 ≤ 1 + r1), Str.length_append]
        have := numW_len (n := (1 + r1).toNat) (by omega)
        have e6 : ("piece " : Str).length = 6 := by decide +kernel
        have e1 : (" " : Str).length = 1 := by decide +kernel
        exact sl_small (by omega)
      have lle := okl.len
      have e1 : toI (ns.map Int.toNat) = ns := toI_toNat fun y hy => (okl.1 y hy).1
      have bl : ∀ n ∈ ns.map Int.toNat, n < 200 := fun n hn => by obtain ⟨y, hy, rfl⟩ := List.mem_map.mp hn; have := okl.1 y hy; omega
      refine ⟨a, ns.map Int.toNat, rfl, by rw [e1]; exact ha, bl, by rw [List.length_map]; omega, fun H4 s4 => ⟨_, _, rfl, rfl, ?_, ?_⟩⟩
      · have g := lotW_len bl
        rw [List.length_map] at g
        rw [num_cast (by omega : 0 ≤ 1 + r1), Str.length_append, Str.length_append]
        have := numW_len (n := (1 + r1).toNat) (by omega)
        have e6 : ("piece " : Str).length = 6 := by decide +kernel
        have e1 : (" " : Str).length = 1 := by decide +kernel
        exact sl_small (by omega)
      show D.rt _ _
      rw [hD]
      refine fin (.piece (1 + r1) ns) ⟨W.cl, W.wi ++ [1 + r1], W.pl ++ [ns]⟩ _ _ (((f1.trans f2).trans f3).trans s4.fr) (t3.same s4) ?_ (fun v hv => ?_) ?_
      · show _ = J [("piece" : Str), numW (1 + r1).toNat, lotW (ns.map Int.toNat)]
        rw [J3, sp_word.2.2.2.2.2, num_cast (by omega : 0 ≤ 1 + r1)]
      · simp only [Dd.vals, List.mem_cons, List.not_mem_nil, or_false] at hv
        rcases hv with rfl | rfl
        · exact ⟨by omega, by omega⟩
        · exact ⟨nel, by omega, fun y hy => ⟨(okl.1 y hy).1, by have := (okl.1 y hy).2; omega⟩⟩
      · show pieceR W (1 + r1) ns = _
        unfold pieceR
        rw [if_pos (by omega), if_pos ⟨OkLot.go none okl.1 okl.2.1 (fun y e => nomatch e), nel⟩, if_neg (by omega)]
    case p4 =>
      rintro D σ H1 ⟨hD, kd, rfl, f1, t1⟩
      have self : PL K Q p l x W.cl.ra.length H D [some (.ref p), some (.ref x), some (.int (W.cl.ra.length : Nat)), some (.int kd)] H1 := ⟨hD, kd, rfl, f1, t1⟩
      refine ⟨_, rfl, rfl, _, rfl, ?_⟩
      refine ite2 (fun _ => ?_) (fun _ => ?_)
      rotate_left 1
      refine ⟨_, rfl, rfl, _, rfl, ?_⟩
      refine ite2 (fun _ => ?_) (fun _ => self)
      · refine ⟨_, rfl, _, rfl, p, l, _, rfl, by omega, t1, fun s H2 s0 s1 f2 t2 => ⟨_, rfl, log_ok s0 (by omega), _, _, rfl, rfl, ?_, _, _, rfl, rfl, ?_, _, rfl, p, l, 8, rfl, by decide, t2, fun r1 H3 a0 a1 f3 t3 => ⟨_, _, rfl, rfl, _, rfl, log_ok (by omega) (by omega), _, _, rfl, rfl, ?_, ?_⟩⟩⟩
        · rw [num_cast s0]
          have := numW_len (n := s.toNat) (by omega)
          have e6 : ("rate " : Str).length = 5 := by decide +kernel
          exact sl_small (by omega)
        · rw [num_cast s0, Str.length_append]
          have := numW_len (n := s.toNat) (by omega)
          have e6 : ("rate " : Str).length = 5 := by decide +kernel
          have e1 : (" " : Str).length = 1 := by decide +kernel
          exact sl_small (by omega)
        · rw [num_cast s0, num_cast (i := 1 + r1) (by omega), Str.length_append, Str.length_append]
          have := numW_len (n := s.toNat) (by omega)
          have := numW_len (n := (1 + r1).toNat) (by omega)
          have e6 : ("rate " : Str).length = 5 := by decide +kernel
          have e1 : (" " : Str).length = 1 := by decide +kernel
          exact sl_small (by omega)
        show D.rt _ _
        rw [hD]
        refine fin (.rate s (1 + r1)) ⟨⟨W.cl.ra, W.cl.ro, putL W.cl.rt s.toNat (1 + r1)⟩, W.wi, W.pl⟩ _ _ ((f1.trans f2).trans f3) t3 ?_ (fun v hv => ?_) ?_
        · show _ = J [("rate" : Str), numW s.toNat, numW (1 + r1).toNat]
          rw [J3, sp_word.2.2.1, num_cast s0, num_cast (i := 1 + r1) (by omega)]
        · simp only [Dd.vals, List.mem_cons, List.not_mem_nil, or_false] at hv
          rcases hv with rfl | rfl
          · exact ⟨s0, by omega⟩
          · exact ⟨by omega, by omega⟩
        · show toW W (rateR W.cl s (1 + r1)) = _
          unfold rateR
          rw [slot_ok s0 s1 (by omega) (by omega)]
          rfl
      · refine ⟨_, rfl, _, rfl, p, l, W.cl.ra.length, rfl, by omega, t1, fun s H2 s0 s1 f2 t2 => ⟨_, rfl, log_ok s0 (by omega), _, _, rfl, rfl, ?_, _, _, rfl, rfl, ?_, _, rfl, _, rfl, p, l, 4, rfl, by decide, t2, fun r1 H3 a0 a1 f3 t3 => ⟨_, rfl, p, l, 100, rfl, by decide, t3, fun r2 H4 b0 b1 f4 t4 => ⟨by show 2 ≤ sizeLine; decide, fun F hF => ?_⟩⟩⟩⟩
        · rw [num_cast s0]
          have := numW_len (n := s.toNat) (by omega)
          have e6 : ("rack " : Str).length = 5 := by decide +kernel
          exact sl_small (by omega)
        · rw [num_cast s0, Str.length_append]
          have := numW_len (n := s.toNat) (by omega)
          have e6 : ("rack " : Str).length = 5 := by decide +kernel
          have e1 : (" " : Str).length = 1 := by decide +kernel
          exact sl_small (by omega)
        have sF := Same.upd_new (o := .lst [.int r1, .int r2]) hF
        refine ⟨p, l, F, [.int r1, .int r2], rfl, t4.same sF, .inl (.of upd_same), by simp, fun i y H5 ey f5 t5 => ?_⟩
        obtain ⟨v, rfl, v0, v1⟩ : ∃ v : Int, y = .int v ∧ 0 ≤ v ∧ v < 100 := by
          have hm := List.mem_of_getElem? ey
          simp only [List.mem_cons, List.not_mem_nil, or_false] at hm
          rcases hm with rfl | rfl
          · exact ⟨r1, rfl, a0, by omega⟩
          · exact ⟨r2, rfl, b0, by omega⟩
        refine ⟨_, rfl, log_ok v0 (by omega), _, _, rfl, rfl, ?_, ?_⟩
        · rw [num_cast s0, num_cast v0, Str.length_append, Str.length_append]
          have := numW_len (n := s.toNat) (by omega)
          have := numW_len (n := (v).toNat) (by omega)
          have e6 : ("rack " : Str).length = 5 := by decide +kernel
          have e1 : (" " : Str).length = 1 := by decide +kernel
          exact sl_small (by omega)
        show D.rt _ _
        rw [hD]
        refine fin (.rack s v) ⟨⟨putL W.cl.ra s.toNat v, W.cl.ro, W.cl.rt⟩, W.wi, W.pl⟩ _ _ (((((f1.trans f2).trans f3).trans f4).trans sF.fr).trans f5) t5 ?_ (fun v hv => ?_) ?_
        · show _ = J [("rack" : Str), numW s.toNat, numW (v).toNat]
          rw [J3, sp_word.2.1, num_cast s0, num_cast v0]
        · simp only [Dd.vals, List.mem_cons, List.not_mem_nil, or_false] at hv
          rcases hv with rfl | rfl
          · exact ⟨s0, by omega⟩
          · exact ⟨v0, by omega⟩
        · show toW W (rackR W.cl s v) = _
          unfold rackR
          rw [slot_ok s0 s1 (by omega) (by omega)]
          rfl
    case p6 =>
      rintro D σ H1 ⟨hD, kd, rfl, f1, t1⟩
      have self : PL K Q p l x W.cl.ra.length H D [some (.ref p), some (.ref x), some (.int (W.cl.ra.length : Nat)), some (.int kd)] H1 := ⟨hD, kd, rfl, f1, t1⟩
      refine ⟨_, rfl, rfl, _, rfl, ?_⟩
      refine ite2 (fun _ => ?_) (fun _ => iteF self)
      refine ⟨_, rfl, x, _, rfl, DGet.k (k := sK "wishes") (hW f1), _, _, rfl, .inr (hwl f1), _, _, rfl, rfl, _, rfl, ?_⟩
      refine ite2 (fun cw => ?_) (fun _ => self)
      have cw : (0 : Int) < (((W.wi.map V.int).length : Nat) : Int) := of_decide_eq_true cw
      rw [List.length_map] at cw
      refine ⟨_, rfl, _, rfl, x, _, rfl, DGet.k (k := sK "wishes") (hW f1), _, _, rfl, .inr (hwl f1), p, l, (W.wi.length : Nat), (by rw [List.length_map]; rfl), by omega, t1, fun s H2 s0 s1 f2 t2 => ⟨_, rfl, log_ok s0 (by omega), _, _, rfl, rfl, ?_, _, _, rfl, rfl, ?_, _, rfl, p, l, 3, rfl, by decide, t2, fun r1 H3 a0 a1 f3 t3 => ⟨_, _, rfl, rfl, _, rfl, log_ok (by omega) (by omega), _, _, rfl, rfl, ?_, ?_⟩⟩⟩
      · rw [num_cast s0]
        have := numW_len (n := s.toNat) (by omega)
        have e6 : ("wish " : Str).length = 5 := by decide +kernel
        exact sl_small (by omega)
      · rw [num_cast s0, Str.length_append]
        have := numW_len (n := s.toNat) (by omega)
        have e6 : ("wish " : Str).length = 5 := by decide +kernel
        have e1 : (" " : Str).length = 1 := by decide +kernel
        exact sl_small (by omega)
      · rw [num_cast s0, num_cast (i := 1 + r1) (by omega), Str.length_append, Str.length_append]
        have := numW_len (n := s.toNat) (by omega)
        have := numW_len (n := (1 + r1).toNat) (by omega)
        have e6 : ("wish " : Str).length = 5 := by decide +kernel
        have e1 : (" " : Str).length = 1 := by decide +kernel
        exact sl_small (by omega)
      show D.rt _ _
      rw [hD]
      refine fin (.wish s (1 + r1)) ⟨W.cl, putL W.wi s.toNat (1 + r1), W.pl⟩ _ _ ((f1.trans f2).trans f3) t3 ?_ (fun v hv => ?_) ?_
      · show _ = J [("wish" : Str), numW s.toNat, numW (1 + r1).toNat]
        rw [J3, sp_word.2.2.2.1, num_cast s0, num_cast (i := 1 + r1) (by omega)]
      · simp only [Dd.vals, List.mem_cons, List.not_mem_nil, or_false] at hv
        rcases hv with rfl | rfl
        · exact ⟨s0, by omega⟩
        · exact ⟨by omega, by omega⟩
      · have e : wishR W s (1 + r1) = Except.ok (putL W.wi s.toNat (1 + r1)) := by
          unfold wishR
          rw [if_pos (by omega), if_pos (by omega)]
        show (match wishR W s (1 + r1) with | .ok l => (Except.ok ⟨W.cl, l, W.pl⟩ : Except Er Wd) | .error e => .error e) = _
        rw [e]
    case p7 =>
      rintro D σ H1 ⟨hD, kd, rfl, f1, t1⟩
      refine ⟨_, rfl, _, rfl, p, l, W.cl.ra.length, rfl, by omega, t1, fun s H2 s0 s1 f2 t2 => ⟨_, rfl, log_ok s0 (by omega), _, _, rfl, rfl, ?_, _, _, rfl, rfl, ?_, _, rfl, _, rfl, p, l, 6, rfl, by decide, t2, fun r1 H3 a0 a1 f3 t3 => ⟨_, rfl, p, l, 100, rfl, by decide, t3, fun r2 H4 b0 b1 f4 t4 => ⟨by show 2 ≤ sizeLine; decide, fun F hF => ?_⟩⟩⟩⟩
      · rw [num_cast s0]
        have := numW_len (n := s.toNat) (by omega)
        have e6 : ("room " : Str).length = 5 := by decide +kernel
        exact sl_small (by omega)
      · rw [num_cast s0, Str.length_append]
        have := numW_len (n := s.toNat) (by omega)
        have e6 : ("room " : Str).length = 5 := by decide +kernel
        have e1 : (" " : Str).length = 1 := by decide +kernel
        exact sl_small (by omega)
      have sF := Same.upd_new (o := .lst [.int r1, .int r2]) hF
      refine ⟨p, l, F, [.int r1, .int r2], rfl, t4.same sF, .inl (.of upd_same), by simp, fun i y H5 ey f5 t5 => ?_⟩
      obtain ⟨v, rfl, v0, v1⟩ : ∃ v : Int, y = .int v ∧ 0 ≤ v ∧ v < 100 := by
        have hm := List.mem_of_getElem? ey
        simp only [List.mem_cons, List.not_mem_nil, or_false] at hm
        rcases hm with rfl | rfl
        · exact ⟨r1, rfl, a0, by omega⟩
        · exact ⟨r2, rfl, b0, by omega⟩
      refine ⟨_, rfl, log_ok v0 (by omega), _, _, rfl, rfl, ?_, ?_⟩
      · rw [num_cast s0, num_cast v0, Str.length_append, Str.length_append]
        have := numW_len (n := s.toNat) (by omega)
        have := numW_len (n := (v).toNat) (by omega)
        have e6 : ("room " : Str).length = 5 := by decide +kernel
        have e1 : (" " : Str).length = 1 := by decide +kernel
        exact sl_small (by omega)
      show D.rt _ _
      rw [hD]
      refine fin (.room s v) ⟨⟨W.cl.ra, putL W.cl.ro s.toNat v, W.cl.rt⟩, W.wi, W.pl⟩ _ _ (((((f1.trans f2).trans f3).trans f4).trans sF.fr).trans f5) t5 ?_ (fun v hv => ?_) ?_
      · show _ = J [("room" : Str), numW s.toNat, numW (v).toNat]
        rw [J3, sp_word.2.2.2.2.1, num_cast s0, num_cast v0]
      · simp only [Dd.vals, List.mem_cons, List.not_mem_nil, or_false] at hv
        rcases hv with rfl | rfl
        · exact ⟨s0, by omega⟩
        · exact ⟨v0, by omega⟩
      · show toW W (roomR W.cl s v) = _
        unfold roomR
        rw [slot_ok s0 s1 (by omega) (by omega)]
        rfl
end
end K5
set_option Elab.async false
set_option linter.all false
set_option maxRecDepth 100000
set_option maxHeartbeats 4000000
namespace K5
open PySem PySem.Spec PyProof.Rows L2
/-! ### _law_unknown, _law_desk_world -/
def unkL : List Str := ["", " ", " room 0 1", "Room 0 1", "rooms", "settle,", "x 1", "-", "undo\t", "new;", "room\n0 1"]
def unkB (line : Str) : Bool := match Txt.split line " " with
  | [] => false
  | w0 :: ws => decide (line.length < 100) && decide (w0.length < 100) && decide (ws.length < 100) && ws.all (fun x => decide (x.length < 100)) && absN.contains ("DEEDS", w0) && absN.contains ("QUESTIONS", w0) && absN.contains ("BACKWARD", w0)
theorem unk_ok : ∀ line ∈ unkL, unkB line = true := by decide +kernel
theorem unkB_ok {line : Str} (h : unkB line = true) : ∃ w0 ws, LineIs line w0 ws ∧ Un w0 := by
  unfold unkB at h
  split at h
  · cases h
  · rename_i w0 ws e
    simp only [Bool.and_eq_true, decide_eq_true_eq, List.all_eq_true, List.contains_iff_mem] at h
    obtain ⟨⟨⟨⟨⟨⟨h1, h2⟩, h3⟩, h4⟩, h5⟩, h6⟩, h7⟩ := h
    exact ⟨w0, ws, ⟨e, by omega, by omega, by omega, fun x hx => by have := h4 x hx; omega⟩, h5, h6, h7⟩
def spUnk (K : PySem.W.Frag) : Sp := fun vs H Q _ => ∃ p l : Addr, vs = [.ref p] ∧ TapeAt K H p l ∧ ∀ a b line w0 ws H', FrX [p] H H' → TapeAt K H' p l → SqT K H' a [.str line, .ref b] → SqT K H' b [.str "word", .str w0] → LineIs line w0 ws → Un w0 → Q (.ref a) H'
def spDW (K : PySem.W.Frag) : Sp := fun vs H Q _ => ∃ p l : Addr, vs = [.ref p] ∧ TapeAt K H p l ∧ ∀ x W H', FrX [p] H H' → TapeAt K H' p l → H x = none → WoAt K H' x W → WW W → W.wi.length ≤ 4 → Q (.ref x) H'
section
variable {w : World} {K : PySem.W.Frag} {mg : Str → Option Value} {base : Heap}
theorem sc__law_unknown : FnScope ["_law_tape_here", "_law_line_here"] ["_law_tape_here"] (defScope s__law_unknown) := ⟨rfl, rfl, rfl, by decide +kernel, rfl, by decide +kernel, by decide +kernel⟩
theorem ok__law_unknown (T : Top w K mg) : HasF w K mg base 4 "_law_unknown" ["_law_tape_here"] (spUnk K) := by
  refine .of T (has_ex (k := 3) T 31 (d := dD ("_law_unknown", none) "_law_unknown" "_law_unknown" s__law_unknown) rfl sc__law_unknown (fun _ => rfl) (fun _ _ _ _ _ _ us hl => match us, hl with | [_], _ => rfl) (fun vs H Q E h => ?_) (fun cdv A outer s H vs Q E hr h => ?_))
  · obtain ⟨p, l, rfl, _⟩ := h
    rfl
  · obtain ⟨p, l, rfl, ht, q⟩ := h
    refine ⟨_, (pss_cons (ps_set (i := 1) sc__law_unknown.nd rfl (Or.inl rfl) (pe_fn (ok__law_pick T) rfl hr (by omega) (pa_cons (pv 0) (pa_cons (pe_lst (pa_cons pe_str (pa_cons pe_str (pa_cons pe_str (pa_cons pe_str (pa_cons pe_str (pa_cons pe_str (pa_cons pe_str (pa_cons pe_str (pa_cons pe_str (pa_cons pe_str (pa_cons pe_str pa_nil)))))))))))) pa_nil))))
      (pss_one (ps_ret (pe_tup (pa_cons (pv 1) (pa_cons (pe_tup (pa_cons pe_str (pa_cons (pe_ix ix_list (pe_split (pv 1) pe_str) pe_int (fun _ _ => rfl)) pa_nil))) pa_nil)))))), ?_⟩
    refine ⟨_, rfl, by show 11 ≤ sizeLine; decide, fun F hF => ?_⟩
    have sF := Same.upd_new (o := .lst (unkL.map V.str)) hF
    refine ⟨p, l, F, unkL.map V.str, rfl, ht.same sF, .inl (.of upd_same), by simp [unkL], fun i y H1 ey f1 t1 => ?_⟩
    obtain ⟨line, el, rfl⟩ := map_get ey
    obtain ⟨w0, ws, L, un⟩ := unkB_ok (unk_ok line (List.mem_of_getElem? el))
    have s1 := sF.fr.trans f1
    refine ⟨_, rfl, ⟨_, rfl, ⟨line, rfl⟩, line, _, rfl, rfl, rfl, sl_small (by have := L.l; omega), fun Z hZ => ?_⟩⟩
    rw [L.sp]
    have sZ := Same.upd_new (o := .lst ((w0 :: ws).map V.str)) hZ
    refine ⟨Z, _, 0, _, rfl, rfl, .of upd_same, atI_eq (i := 0) rfl rfl, by show 2 ≤ sizeLine; decide, fun b hb => ⟨by show 2 ≤ sizeLine; decide, fun a ha => ?_⟩⟩
    have sb := Same.upd_new (o := .tup [.str "word", .str w0]) hb
    have sa := Same.upd_new (o := .tup [.str line, .ref b]) ha
    exact q a b line w0 ws _ (s1.trans ((sZ.trans sb).trans sa).fr) (((t1.same sZ).same sb).same sa) (.of upd_same) (sa.sqt (.of upd_same)) L un
theorem sc__law_desk_world : FnScope ["_law_tape_here", "_law_world_here", "_law_many"] ["_law_tape_here"] (defScope s__law_desk_world) := ⟨rfl, rfl, rfl, by decide +kernel, rfl, by decide +kernel, by decide +kernel⟩
theorem ok__law_desk_world (T : Top w K mg) : HasF w K mg base 6 "_law_desk_world" ["_law_tape_here"] (spDW K) := by
  refine .of T (has_ex (k := 5) T 26 (d := dD ("_law_desk_world", none) "_law_desk_world" "_law_desk_world" s__law_desk_world) rfl sc__law_desk_world (fun _ => rfl) (fun _ _ _ _ _ _ us hl => match us, hl with | [_], _ => rfl) (fun vs H Q E h => ?_) (fun cdv A outer s H vs Q E hr h => ?_))
  · obtain ⟨p, l, rfl, _⟩ := h
    rfl
  · obtain ⟨p, l, rfl, ht, q⟩ := h
    have hu := hu_of hr
    refine ⟨_, (pss_cons (ps_set (i := 1) sc__law_desk_world.nd rfl (Or.inl rfl) (pe_fn (ok__law_world T) rfl hr (by omega) (pa_cons (pv 0) (pa_cons (pe_cmpR op_eq (pe_fn (ok__law_draw T) rfl hr (by omega) (pa_cons (pv 0) (pa_cons pe_int pa_nil))) pe_int (nomark _)) (pa_cons pe_int pa_nil)))))
      (pss_cons (ps_set (i := 2) sc__law_desk_world.nd rfl (Or.inl rfl) (pe_op op_add (pe_fn (ok__law_draw T) rfl hr (by omega) (pa_cons (pv 0) (pa_cons (pe_op op_add (pe_len T (pe_dget hu (pv 1) pe_str (fun _ _ => rfl))) pe_int) pa_nil))) (pe_intN T (pe_cmpR op_gt (pe_fn (ok__law_draw T) rfl hr (by omega) (pa_cons (pv 0) (pa_cons pe_int pa_nil))) pe_int (nomark _)))))
      (pss_cons (ps_dput hu (pv 1) pe_str (pe_slice sl_tupA (pe_dget hu (pv 1) pe_str (fun _ _ => rfl)) po_none (po_some (pv 2))) rfl)
      (pss_cons (ps_dput hu (pv 1) pe_str (pe_slice sl_tupA (pe_dget hu (pv 1) pe_str (fun _ _ => rfl)) po_none (po_some (pv 2))) rfl)
      (pss_one (ps_ret (pv 1))))))), ?_⟩
    refine ⟨_, rfl, _, rfl, p, l, 2, rfl, by decide, ht, fun r0 H1 a0 a1 f1 t1 => ⟨rfl, p, l, _, 4, rfl, t1, by decide, by decide, fun x W H2 f2 t2 hx wo ww wz => ?_⟩⟩
    obtain ⟨a, b, c, d, e, h0, h1, h2, h3, h4, h5⟩ := wo.ex
    have nxp : x ∉ [p] := by
      obtain ⟨⟨_, _, _, _, _, e, _⟩, _⟩ := t1
      simp
      intro z
      rw [z, e] at hx
      cases hx
    have f02 := f1.trans f2
    refine ⟨_, rfl, _, rfl, x, _, rfl, DGet.k (k := sK "wishes") h0, _, _, rfl, .inr h4, _, _, rfl, rfl, p, l, _, rfl, by omega, t2, fun m H3 m0 m1 f3 t3 => ⟨_, rfl, p, l, 4, rfl, by decide, t3, fun r H4 r0 r1 f4 t4 => ⟨_, _, rfl, rfl, .inr ⟨_, rfl, _, _, rfl, rfl, ?_⟩⟩⟩⟩
    obtain ⟨k, hk⟩ : ∃ k : Nat, m + (if decide (0 < r) = true then (1 : Int) else 0) = (k : Nat) := ⟨(m + (if decide (0 < r) = true then (1 : Int) else 0)).toNat, by split <;> omega⟩
    show gName 2 (.int (m + (if decide (0 < r) = true then (1 : Int) else 0))) _ _ _
    rw [hk]
    have f24 := f3.trans f4
    have h0' := f24 _ _ nxp h0
    have m2 := t2.md.mu
    obtain ⟨as, hp, hl, hi⟩ := id (h5.fr f24 m2)
    have hw4 : TI K H4 d W.wi := f24.sqt m2 h4
    refine ⟨_, rfl, x, _, rfl, DGet.k (k := sK "wishes") h0', ?_⟩
    refine nopart ?_
    refine ⟨_, rfl, _, rfl, ?_⟩
    refine sl_of hw4 fun d2 H5 s5 h5' => ?_
    rw [cut_to, ← List.map_take] at h5'
    refine ⟨_, rfl, x, _, rfl, DPut.k (k := sK "wishes") (s5 _ _ h0') (show (5 : Nat) < sizeLine by rw [sizeLine_eq]; decide), ?_⟩
    have e6 : upd H5 x (.dK (putK (worldD a b c d e) (sK "wishes") (.ref d2))) = upd H5 x (.dK (worldD a b c d2 e)) := rfl
    rw [e6]
    have fx : FrX [x] H5 (upd H5 x (.dK (worldD a b c d2 e))) := FrX.upd (Same.refl _).fr (by simp)
    have mx : MuX [x] H5 := MuX.one (s5 _ _ h0') rfl
    refine ⟨_, rfl, x, _, rfl, DGet.k (k := sK "placing") upd_same, ?_⟩
    refine nopart ?_
    refine ⟨_, rfl, _, rfl, ?_⟩
    refine sl_of (fx.sqt mx (s5.sqt hp)) fun e2 H7 s7 h7 => ?_
    rw [cut_to, ← List.map_take] at h7
    have hx7 : H7 x = some (.dK (worldD a b c d2 e)) := s7 _ _ upd_same
    refine ⟨_, rfl, x, _, rfl, DPut.k (k := sK "placing") hx7 (show (5 : Nat) < sizeLine by rw [sizeLine_eq]; decide), ?_⟩
    have e8 : upd H7 x (.dK (putK (worldD a b c d2 e) (sK "placing") (.ref e2))) = upd H7 x (.dK (worldD a b c d2 e2)) := rfl
    rw [e8]
    have fy : FrX [x] H7 (upd H7 x (.dK (worldD a b c d2 e2))) := FrX.upd (Same.refl _).fr (by simp)
    have my : MuX [x] H7 := MuX.one hx7 rfl
    have hHx : H x = none := f1.free t1.md hx
    have f48 : FrX [x] H4 (upd H7 x (.dK (worldD a b c d2 e2))) := ((s5.fr.trans fx).trans s7.fr).trans fy
    have mx4 : MuX [x] H4 := MuX.one h0' rfl
    have fin : FrX [p] H (upd H7 x (.dK (worldD a b c d2 e2))) := fun y o ny ey => f48 y o (by simpa using ne_of_none ey hHx) (f24 y o ny (f02 y o ny ey))
    have nlx : l ∉ [x] := by
      obtain ⟨⟨_, _, _, _, _, e, _⟩, ns, e2⟩ := t4
      simp
      exact ne_of e2 h0' (by intro z; cases z)
    have tp : ∀ z : Addr, TapeAt K H4 p l := fun _ => t4
    refine ⟨_, rfl, q x ⟨W.cl, W.wi.take k, W.pl.take k⟩ _ fin (t4.fr f48 (by simpa using fun z => nxp (by simp [z])) nlx) hHx ⟨a, b, c, d2, e2, upd_same, f48.sqt mx4 (f24.sqt m2 h1), f48.sqt mx4 (f24.sqt m2 h2), f48.sqt mx4 (f24.sqt m2 h3), fy.sqt my (s7.sqt (fx.sqt mx h5')), ⟨as.take k, fy.sqt my h7, by simp [hl], fun i y z e1 e2 => ?_⟩⟩ ⟨ww.ok, ww.n2, ww.n4, ⟨fun y hy => ww.p.w y (List.mem_of_mem_take hy), by simp [ww.p.l], ?_, fun y hy => ww.p.p y (List.mem_of_mem_take hy)⟩, ?_⟩ ?_⟩
    · rw [List.getElem?_take] at e1 e2
      split at e1
      · rename_i hik
        rw [if_pos hik] at e2
        exact f48.sqt mx4 (hi i y z e1 e2)
      · cases e1
    · have := ww.p.z
      simp only [List.length_take]
      omega
    · have := ww.m
      simp only [List.length_take]
      omega
    · simp only [List.length_take]
      omega
end
end K5
set_option Elab.async false
set_option linter.all false
set_option maxRecDepth 100000
set_option maxHeartbeats 4000000
namespace K5
open PySem PySem.Spec PyProof.Rows L2
open TL (tl)
/-! ### _law_deed -/
def isN (x : Str) : Bool := !decide (44 ∈ tl x)
def numsOf (ws : List Str) : List Int := (ws.filter isN).map fun x => (PySem.intText? x).getD 0
theorem numsOf_snoc (ws : List Str) (x : Str) : numsOf (ws ++ [x]) = if isN x = true then numsOf ws ++ [(PySem.intText? x).getD 0] else numsOf ws := by
  unfold numsOf
  rw [List.filter_append, List.filter_cons]
  split <;> simp
theorem numsOf_num {n : Nat} (h : n < 200) (ws : List Str) : numsOf (numW n :: ws) = (n : Int) :: numsOf ws := by
  unfold numsOf
  have : isN (numW n) = true := by
    unfold isN
    rw [decide_eq_false (numW_co h)]
    rfl
  rw [List.filter_cons, if_pos this, List.map_cons, numW_int h]
  rfl
/-- a word that may be cut as a number, or holds a comma -/
def IntW (x : Str) : Prop := isN x = true → (PySem.intText? x).isSome = true ∧ x.length ≤ 640
theorem intW_num {n : Nat} (h : n < 200) : IntW (numW n) := fun _ => ⟨by rw [numW_int h]; rfl, by have := numW_len h; omega⟩
theorem intW_lot {l : List Nat} (h : ∀ n ∈ l, n < 200) (hne : l ≠ []) : IntW (lotW l) := by
  intro hn
  match l, hne with
  | [n], _ =>
    have e : lotW [n] = numW n := TL.ext_tl (by rw [tl_lotW]; rfl)
    rw [e] at hn ⊢
    exact intW_num (h n (by simp)) hn
  | n :: m :: l, _ =>
    exfalso
    unfold isN at hn
    have : 44 ∈ tl (lotW (n :: m :: l)) := by
      rw [tl_lotW]
      show 44 ∈ tl (numW n) ++ ([44] ++ TL.joinL [44] ((m :: l).map fun n => tl (numW n)))
      simp
    rw [decide_eq_true this] at hn
    cases hn
def spLDeed (K : PySem.W.Frag) : Sp := fun vs H Q _ => ∃ (x : Addr) (W W' : Wd) (d : Dd) (line : Str), vs = [.ref x, .str line] ∧ WoAt K H x W ∧ W.cl.ra.length ≤ 10 ∧ OkC W.cl.ra W.cl.ro W.cl.rt ∧ W.wi.length ≤ 10 ∧ W.pl.length ≤ 10 ∧ LnOk W d line W' ∧ ∀ y H', Same H H' → WoAt K H' y W' → Q (.ref y) H'
theorem intW_ws {d : Dd} (h : d.bd) : ∀ x ∈ d.ws, IntW x := fun x hx => by
  obtain ⟨v, hv, rfl⟩ := List.mem_map.mp hx
  have hb := h v hv
  cases v with
  | int i => exact intW_num (by have := hb.2; omega)
  | lst l =>
    obtain ⟨h1, h2, h3⟩ := hb
    exact intW_lot (fun n hn => by obtain ⟨y, hy, rfl⟩ := List.mem_map.mp hn; have := h3 y hy; omega) (by simpa using h1)
section
variable {X : Cx} {a : Expr} {ta : TE} {p pos : Pos}
theorem pe_dictC (T : Top X.w X.K X.mg) (ha : PE X a ta) (hc : X.calm = true := by rfl) (hg : Gl X "dict" := by rfl) (h1 : starEach [a] X.env = (false, eval a X.env) :: starEach [] X.env := by rfl) (hpl : (backTo pos (starEach [] X.env)).any (·.1) = false := by rfl) :
    PE X (.Call (.Name "dict" p) [a] [] pos) (tCB (fun xs H Q => ∃ (a : Addr) (kvs : List (Key × V)), xs = [.ref a] ∧ Rd H a (.dK kvs) ∧ ∀ p, H p = none → Q (.ref p) (upd H p (.dK kvs))) (tCons ta tNil)) := pe_callTy call_dictD hg (T.free _ (by decide +kernel)) boots.2.2.2.2.2.2.2.2.2.2.1 (pa_cons ha pa_nil h1) (by decide) (by decide) h1 hpl
end
section
variable {w : World} {K : PySem.W.Frag} {mg : Str → Option Value} {base : Heap}
theorem sc__law_deed : FnScope ["_law_world_here", "_law_line_here", "_law_words", "_law_numbers", "_law_other", "_law_name", "_law_word", "_law_one"] ["_law_world_here", "_law_line_here"] (defScope s__law_deed) := ⟨rfl, rfl, rfl, by decide +kernel, rfl, by decide +kernel, by decide +kernel⟩
theorem ok__law_deed (T : Top w K mg) : HasF w K mg base 2 "_law_deed" ["_law_world_here", "_law_line_here"] (spLDeed K) := by
  refine .of T (has_ex (k := 1) T 22 (d := dD ("_law_deed", none) "_law_deed" "_law_deed" s__law_deed) rfl sc__law_deed (fun _ => rfl) (fun _ _ _ _ _ _ us hl => match us, hl with | [_, _], _ => rfl) (fun vs H Q E h => ?_) (fun cdv A outer s H vs Q E hr h => ?_))
  · obtain ⟨x, W, W', d, line, rfl, _⟩ := h
    rfl
  · obtain ⟨x, W, W', d, line, rfl, hx, hn, okc, hw9, hp9, ln, q⟩ := h
    have hu := hu_of hr
    obtain ⟨a, b, c, wi, pl, h0, h1, h2, h3, h4, h5⟩ := hx.ex
    refine ⟨_, (pss_cons (ps_set (i := 2) sc__law_deed.nd rfl (Or.inl rfl) (pe_split (pv 1) pe_str))
      (pss_cons (ps_setLc (i := 3) (own := [("_law_word", 6)]) (g := gName 6)  rfl sc__law_deed.nd rfl rfl (sw_true rfl rfl rfl (by decide +kernel)) (pi_list (pe_slice sl_list (pv 2) (po_some pe_int) (po_some pe_int))) (blkOk_by (N := ["_law_world_here", "_law_line_here", "_law_words", "_law_numbers", "_law_other", "_law_name", "_law_word", "_law_one"]) (sc := defScope s__law_deed) (by decide +kernel)) (fun _ _ _ _ _ => (pg_name (i := 6) sc__law_deed.nd rfl (Or.inl rfl))) (fun _ _ _ _ _ => pts_one (pt_cmpR op_notIn_sign pe_str (pv 6) rfl)) (fun _ _ _ _ _ => (pe_intS T (pv 6))))
      (pss_cons (ps_set (i := 4) sc__law_deed.nd rfl (Or.inl rfl) (pe_dictC T (pv 0)))
      (pss_cons (ps_if (pt_cmpR op_eq (pe_ix ix_list (pv 2) pe_int (fun _ _ => rfl)) pe_str (nomark _)) (pss_cons (ps_dput hu (pv 4) pe_str (pe_op op_catA (pe_dget hu (pv 0) pe_str (fun _ _ => rfl)) (pe_tup (pa_cons (pe_ix ix_list (pv 3) pe_int (fun _ _ => rfl)) pa_nil))) rfl)
      (pss_cons (ps_dput hu (pv 4) pe_str (pe_op op_catA (pe_dget hu (pv 0) pe_str (fun _ _ => rfl)) (pe_tup (pa_cons (pe_ix ix_list (pv 3) pe_int (fun _ _ => rfl)) pa_nil))) rfl)
      (pss_one (ps_dput hu (pv 4) pe_str (pe_op op_catA (pe_dget hu (pv 0) pe_str (fun _ _ => rfl)) (pe_tup (pa_cons (pe_intS T (pe_ix ix_list (pv 2) pe_int (fun _ _ => rfl))) pa_nil))) rfl)))) (pss_one (ps_if (pt_cmpR op_eq (pe_ix ix_list (pv 2) pe_int (fun _ _ => rfl)) pe_str (nomark _)) (pss_cons (ps_dput hu (pv 4) pe_str (pe_op op_catA (pe_dget hu (pv 0) pe_str (fun _ _ => rfl)) (pe_tup (pa_cons (pe_ix ix_list (pv 3) pe_int (fun _ _ => rfl)) pa_nil))) rfl)
      (pss_one (ps_dput hu (pv 4) pe_str (pe_op op_catA (pe_dget hu (pv 0) pe_str (fun _ _ => rfl)) (pe_tup (pa_cons (pe_tuple T (pe_lc (own := [("_law_one", 7)]) (g := gName 7) (tt := tYes) rfl sc__law_deed.nd (pi_list (pe_split (pe_ix ix_list (pv 2) pe_int (fun _ _ => rfl)) pe_str)) (blkOk_by (N := ["_law_world_here", "_law_line_here", "_law_words", "_law_numbers", "_law_other", "_law_name", "_law_word", "_law_one"]) (sc := defScope s__law_deed) (by decide +kernel)) (fun _ _ _ _ _ => (pg_name (i := 7) sc__law_deed.nd rfl (Or.inl rfl))) (fun _ _ _ _ _ => pts_nil) (fun _ _ _ _ _ => (pe_intS T (pv 7))))) pa_nil))) rfl))) (pss_cons (ps_set (i := 5) sc__law_deed.nd rfl (Or.inl rfl) (pe_dget hu (pe_disp (pps_cons pe_str pe_str (pps_cons pe_str pe_str (pps_cons pe_str pe_str (pps_cons pe_str pe_str pps_nil)))) rfl rfl (by simp) (by simp)) (pe_ix ix_list (pv 2) pe_int (fun _ _ => rfl)) (fun _ _ => rfl)))
      (pss_one (ps_dput hu (pv 4) (pv 5) (pe_fn (ok__law_put T) rfl hr (by omega) (pa_cons (pe_dget hu (pv 0) (pv 5) (fun _ _ => rfl)) (pa_cons (pe_ix ix_list (pv 3) pe_int (fun _ _ => rfl)) (pa_cons (pe_ix ix_list (pv 3) pe_int (fun _ _ => rfl)) pa_nil)))) rfl))))))
      (pss_one (ps_ret (pv 4))))))), ?_⟩
    have L := d.lineIs ln.b
    have bd := ln.b
    have eln := ln.e
    subst eln
    have iw := intW_ws bd
    have g := Good.len (Dd.good bd)
    refine ⟨_, rfl, ⟨_, rfl⟩, _, _, rfl, rfl, rfl, sl_small (by have := L.l; omega), fun Z hZ => ?_⟩
    rw [L.sp]
    have sZ := Same.upd_new (o := .lst ((d.word :: d.ws).map V.str)) hZ
    have dl : d.ws.length ≤ 3 := by cases d <;> simp [Dd.ws, Dd.vals]
    -- numbers
    refine ⟨_, rfl, _, rfl, _, rfl, Z, _, rfl, .of upd_same, fun F hF => ?_⟩
    have ec : cutV ((d.word :: d.ws).map V.str) (some (1 : Int)) (some (3 : Int)) = (d.ws.take 2).map V.str := by
      unfold cutV
      rw [show (1 : Int) = ((1 : Nat) : Int) from rfl, show (3 : Int) = ((3 : Nat) : Int) from rfl, HT.sIx_nat, HT.sIx_nat]
      cases d <;> rfl
    rw [ec]
    have sF := Same.upd_new (o := .lst ((d.ws.take 2).map V.str)) hF
    refine ⟨F, rfl, ⟨_, .of upd_same⟩, fun N hN => ?_⟩
    have hl2 : ((d.ws.take 2).map V.str).length ≤ 2 := by simp; omega
    refine lc_gen (walk_list (xs := (d.ws.take 2).map V.str)) [] (fun _ => True) (fun j acc _ => acc = (numsOf ((d.ws.take 2).take j)).map V.int) hN (by simp) (by omega) (fun _ _ _ => trivial) (fun _ _ _ _ _ _ h => h) trivial rfl (fun H f _ => .of (f _ _ (by simp) upd_same)) ?_ ?_
    · rintro i y H1 H2 acc N1 N0 hi f1 _ e1 hacc ⟨rfl, ey⟩ k1 k0
      obtain ⟨z, ez, rfl⟩ := map_get ey
      have hz : z ∈ d.ws := List.mem_of_mem_take (List.mem_of_getElem? ez)
      have tk : (d.ws.take 2).take (i + 1) = (d.ws.take 2).take i ++ [z] := by rw [List.take_add_one, ez]; rfl
      have ns := numsOf_snoc ((d.ws.take 2).take i) z
      refine ⟨rfl, _, rfl, 44, z, rfl, rfl, _, rfl, ?_⟩
      cases hc : isN z with
      | true =>
        refine iteB hc ?_
        rw [if_pos hc] at ns
        obtain ⟨h5, h6⟩ := iw z hz hc
        obtain ⟨n, en⟩ := Option.isSome_iff_exists.mp h5
        exact ⟨_, rfl, z, n, rfl, en, h6, k1 _ _ (Same.refl _).fr trivial (by rw [tk, ns, hacc, en]; simp)⟩
      | false =>
        refine iteC hc ?_
        rw [if_neg (by rw [hc]; decide)] at ns
        exact k0 _ (Same.refl _).fr trivial (by rw [tk, ns, hacc])
    intro H1 acc f1 _ eN hacc
    rw [List.take_of_length_le (by simpa using hl2)] at hacc
    subst hacc
    have s1 : Same H H1 := (sZ.trans sF).trans fun b o e => f1 b o (by simp) e
    have eZ : H1 Z = some (.lst ((d.word :: d.ws).map V.str)) := f1 _ _ (by simp) (sF _ _ upd_same)
    -- other
    refine ⟨_, rfl, x, _, rfl, .inl (s1 _ _ h0), fun y hy => ?_⟩
    have sy := Same.upd_new (o := .dK (worldD a b c wi pl)) hy
    have s2 := s1.trans sy
    have hHy : H y = none := s1.free hy
    have eZ2 := sy _ _ eZ
    have eN2 := sy _ _ eN
    have h02 := s2 _ _ h0
    have q' : ∀ H', Same H H' → WoAt K H' y W' → Q (.ref y) H' := fun H' s h => q y H' s h
    have fU : ∀ {H2 : Hp} {o : HO}, Same H H2 → Same H (upd H2 y o) := fun {H2 o} s b u e => by
      rw [upd_ne (ne_of_none e hHy)]
      exact s b u e
    have fxU : ∀ {H2 : Hp} {o : HO}, FrX [y] H2 (upd H2 y o) := fun {H2 o} => FrX.upd (Same.refl _).fr (by simp)
    have nN : N ∉ [y] := by simpa using ne_of_none eN hy
    have nZ : Z ∉ [y] := by simpa using ne_of_none eZ hy
    have nz : ∀ {i : Int}, 0 ≤ i → i < 100 → i.toNat < 200 := fun {i} h1 h2 => by omega
    have cast : ∀ {i : Int}, 0 ≤ i → ((i.toNat : Nat) : Int) = i := fun {i} h => by omega
    have fr0 : FrX [y] (upd H1 y (.dK (worldD a b c wi pl))) (upd H1 y (.dK (worldD a b c wi pl))) := (Same.refl _).fr
    cases d with
    | store i j k =>
      obtain ⟨bi0, bi1⟩ := bd (.int i) (by simp [Dd.vals])
      obtain ⟨bj0, bj1⟩ := bd (.int j) (by simp [Dd.vals])
      obtain ⟨bk0, bk1⟩ := bd (.int k) (by simp [Dd.vals])
      have en : numsOf ((Dd.store i j k).ws.take 2) = [i, j] := by
        show numsOf [numW i.toNat, numW j.toNat] = _
        rw [numsOf_num (nz bi0 bi1), numsOf_num (nz bj0 bj1), cast bi0, cast bj0]
        rfl
      rw [en] at eN2
      have hr' : toW W (storeR W.cl i j k) = .ok W' := ln.r
      have hs : storeR W.cl i j k = .ok ⟨W.cl.ra ++ [i], W.cl.ro ++ [j], W.cl.rt ++ [k]⟩ := by
        unfold storeR at hr' ⊢
        split at hr'
        · cases hr'
        · rename_i c8
          rw [if_neg c8]
          split at hr'
          · rename_i c1
            rw [if_pos c1]
            split at hr'
            · rename_i c2
              rw [if_pos c2]
              split at hr'
              · rename_i c3
                rw [if_pos c3]
              · cases hr'
            · cases hr'
          · cases hr'
      rw [hs] at hr'
      have eW : W' = ⟨⟨W.cl.ra ++ [i], W.cl.ro ++ [j], W.cl.rt ++ [k]⟩, W.wi, W.pl⟩ := (Except.ok.inj hr').symm
      subst eW
      have e1 := okc.lo
      have e2 := okc.lt
      refine ⟨_, rfl, Z, _, 0, _, rfl, rfl, .of eZ2, atI_eq (i := 0) rfl rfl, rfl, _, rfl, ?_⟩
      refine iteB (strT rfl) ?_
      refine ⟨_, rfl, x, _, rfl, DGet.k (k := sK "racks") h02, _, rfl, N, _, 0, _, rfl, rfl, .of eN2, atI_eq (i := 0) rfl rfl, by show 1 ≤ sizeLine; decide, fun p1 hp1 => ?_⟩
      refine app_of (s2.sqt h1) hp1 (by omega) fun r1 H3 s3 t3 => ?_
      have s23 := s2.trans s3
      refine ⟨_, rfl, y, _, rfl, DPut.k (k := sK "racks") (s3 _ _ upd_same) (show (5 : Nat) < sizeLine by rw [sizeLine_eq]; decide), ?_⟩
      have q3 : upd H3 y (.dK (putK (worldD a b c wi pl) (sK "racks") (.ref r1))) = upd H3 y (.dK (worldD r1 b c wi pl)) := rfl
      rw [q3]
      have S3 := fU (o := .dK (worldD r1 b c wi pl)) s23
      have F3 : FrX [y] _ (upd H3 y (.dK (worldD r1 b c wi pl))) := s3.fr.trans fxU
      have m3 : MuX [y] H3 := MuX.one (s3 _ _ upd_same) rfl
      refine ⟨_, rfl, x, _, rfl, DGet.k (k := sK "rooms") (S3 _ _ h0), _, rfl, N, _, 1, _, rfl, rfl, .of (F3 _ _ nN eN2), atI_eq (i := 1) rfl rfl, by show 1 ≤ sizeLine; decide, fun p2 hp2 => ?_⟩
      refine app_of (S3.sqt h2) hp2 (by omega) fun r2 H4 s4 t4 => ?_
      refine ⟨_, rfl, y, _, rfl, DPut.k (k := sK "rooms") (s4 _ _ upd_same) (show (5 : Nat) < sizeLine by rw [sizeLine_eq]; decide), ?_⟩
      have q4 : upd H4 y (.dK (putK (worldD r1 b c wi pl) (sK "rooms") (.ref r2))) = upd H4 y (.dK (worldD r1 r2 c wi pl)) := rfl
      rw [q4]
      have S4 := fU (o := .dK (worldD r1 r2 c wi pl)) (S3.trans s4)
      have F4 : FrX [y] _ (upd H4 y (.dK (worldD r1 r2 c wi pl))) := (F3.trans s4.fr).trans fxU
      have m4 : MuX [y] H4 := MuX.one (s4 _ _ upd_same) rfl
      refine ⟨_, rfl, x, _, rfl, DGet.k (k := sK "rates") (S4 _ _ h0), _, rfl, Z, _, 3, _, rfl, rfl, .of (F4 _ _ nZ eZ2), atI_eq (i := 3) rfl rfl, numW k.toNat, _, rfl, numW_int (nz bk0 bk1), by have := numW_len (nz bk0 bk1); omega, ?_⟩
      rw [cast bk0]
      refine ⟨by show 1 ≤ sizeLine; decide, fun p3 hp3 => ?_⟩
      refine app_of (S4.sqt h3) hp3 (by omega) fun r3 H5 s5 t5 => ?_
      refine ⟨_, rfl, y, _, rfl, DPut.k (k := sK "rates") (s5 _ _ upd_same) (show (5 : Nat) < sizeLine by rw [sizeLine_eq]; decide), ?_⟩
      have q5 : upd H5 y (.dK (putK (worldD r1 r2 c wi pl) (sK "rates") (.ref r3))) = upd H5 y (.dK (worldD r1 r2 r3 wi pl)) := rfl
      rw [q5]
      have S5 := fU (o := .dK (worldD r1 r2 r3 wi pl)) (S4.trans s5)
      have m5 : MuX [y] H5 := MuX.one (s5 _ _ upd_same) rfl
      refine ⟨_, rfl, q' _ S5 ⟨r1, r2, r3, wi, pl, upd_same, fxU.sqt m5 (s5.sqt (fxU.sqt m4 (s4.sqt (fxU.sqt m3 t3)))), fxU.sqt m5 (s5.sqt (fxU.sqt m4 t4)), fxU.sqt m5 t5, S5.sqt h4, S5.tp h5⟩⟩
    | piece v l =>
      obtain ⟨bv0, bv1⟩ := bd (.int v) (by simp [Dd.vals])
      obtain ⟨bl1, bl2, bl3⟩ := bd (.lst l) (by simp [Dd.vals])
      have bn : ∀ n ∈ l.map Int.toNat, n < 200 := fun n hn => by obtain ⟨z, hz, rfl⟩ := List.mem_map.mp hn; have := bl3 z hz; omega
      obtain ⟨ns, en⟩ : ∃ ns, numsOf ((Dd.piece v l).ws.take 2) = v :: ns := ⟨_, by
        show numsOf [numW v.toNat, lotW (l.map Int.toNat)] = _
        rw [numsOf_num (nz bv0 bv1), cast bv0]⟩
      rw [en] at eN2
      have hr' : pieceR W v l = .ok W' := ln.r
      have eW : W' = ⟨W.cl, W.wi ++ [v], W.pl ++ [l]⟩ := by
        unfold pieceR at hr'
        split at hr'
        · split at hr'
          · split at hr'
            · cases hr'
            · exact (Except.ok.inj hr').symm
          · cases hr'
        · cases hr'
      subst eW
      refine ⟨_, rfl, Z, _, 0, _, rfl, rfl, .of eZ2, atI_eq (i := 0) rfl rfl, rfl, _, rfl, ?_⟩
      refine iteC (strF rfl) ?_
      refine ⟨_, rfl, Z, _, 0, _, rfl, rfl, .of eZ2, atI_eq (i := 0) rfl rfl, rfl, _, rfl, ?_⟩
      refine iteB (strT rfl) ?_
      refine ⟨_, rfl, x, _, rfl, DGet.k (k := sK "wishes") h02, _, rfl, N, _, 0, _, rfl, rfl, .of eN2, atI_eq (i := 0) rfl rfl, by show 1 ≤ sizeLine; decide, fun p1 hp1 => ?_⟩
      refine app_of (s2.sqt h4) hp1 (by omega) fun r1 H3 s3 t3 => ?_
      have s23 := s2.trans s3
      refine ⟨_, rfl, y, _, rfl, DPut.k (k := sK "wishes") (s3 _ _ upd_same) (show (5 : Nat) < sizeLine by rw [sizeLine_eq]; decide), ?_⟩
      have q3 : upd H3 y (.dK (putK (worldD a b c wi pl) (sK "wishes") (.ref r1))) = upd H3 y (.dK (worldD a b c r1 pl)) := rfl
      rw [q3]
      have S3 := fU (o := .dK (worldD a b c r1 pl)) s23
      have F3 : FrX [y] _ (upd H3 y (.dK (worldD a b c r1 pl))) := s3.fr.trans fxU
      have m3 : MuX [y] H3 := MuX.one (s3 _ _ upd_same) rfl
      have lsp := lotW_split bn (by simpa using bl1)
      have lln := lotW_len bn
      rw [List.length_map] at lln
      refine ⟨_, rfl, x, _, rfl, DGet.k (k := sK "placing") (S3 _ _ h0), _, rfl, Z, _, 2, _, rfl, rfl, .of (F3 _ _ nZ eZ2), atI_eq (i := 2) rfl rfl, ⟨_, rfl⟩, lotW (l.map Int.toNat), _, rfl, rfl, rfl, sl_small (by omega), fun G hG => ?_⟩
      rw [lsp]
      have sG := Same.upd_new (o := .lst ((l.map Int.toNat).map numW |>.map V.str)) hG
      refine ⟨G, rfl, ⟨_, .of upd_same⟩, fun E1 hE => ?_⟩
      refine lc_vals (walk_list (xs := ((l.map Int.toNat).map numW).map V.str)) (l.map V.int) (by simp) hE (by simp; omega) (fun H s => .of (s _ _ upd_same)) ?_ ?_
      · rintro i u z H4 H5 N1 N0 ez s4 ⟨rfl, eu⟩ kk
        obtain ⟨m, em, rfl⟩ := map_get ez
        obtain ⟨s, es, rfl⟩ := map_get eu
        obtain ⟨n, en', rfl⟩ := map_get es
        obtain ⟨m2, em2, rfl⟩ := map_get en'
        rw [em] at em2
        cases em2
        have bm := bl3 m (List.mem_of_getElem? em)
        refine ⟨rfl, yesT ⟨_, rfl, numW m.toNat, _, rfl, numW_int (by omega), by have := numW_len (n := m.toNat) (by omega); omega, ?_⟩⟩
        rw [cast bm.1]
        exact kk _ (Same.refl _)
      · intro H6 s6 e6
        have s36 := sG.trans s6
        refine ⟨E1, _, rfl, .inl ⟨.of e6, fun t ht => ⟨by show 1 ≤ sizeLine; decide, fun p3 hp3 => ?_⟩⟩⟩
        have stt := Same.upd_new (o := .tup (l.map V.int)) ht
        obtain ⟨as, hpl, hl, hi⟩ := id h5
        have sp3 := Same.upd_new (o := .tup [.ref t]) hp3
        have S6 := ((S3.trans s36).trans stt).trans sp3
        refine cat_of (S6.sqt hpl) (.of upd_same) (sl_small (by simp; omega)) fun r2 H7 s7 t7 => ?_
        have S7 := S6.trans s7
        have y7 : H7 y = some (.dK (worldD a b c r1 pl)) := s7 _ _ (sp3 _ _ (stt _ _ (s36 _ _ upd_same)))
        refine ⟨_, rfl, y, _, rfl, DPut.k (k := sK "placing") y7 (show (5 : Nat) < sizeLine by rw [sizeLine_eq]; decide), ?_⟩
        have q7 : upd H7 y (.dK (putK (worldD a b c r1 pl) (sK "placing") (.ref r2))) = upd H7 y (.dK (worldD a b c r1 r2)) := rfl
        rw [q7]
        have S8 := fU (o := .dK (worldD a b c r1 r2)) S7
        have m7 : MuX [y] H7 := MuX.one y7 rfl
        have t3' : TI K H7 r1 (W.wi ++ [v]) := s7.sqt (sp3.sqt (stt.sqt (s36.sqt (fxU.sqt m3 t3))))
        have tp7 : TP K H7 r2 (W.pl ++ [l]) := TP.snoc t7 hl (fun i b m e1 e2 => S7.sqt (hi i b m e1 e2)) (s7.sqt (sp3.sqt (.of upd_same)))
        exact ⟨_, rfl, q' _ S8 ⟨a, b, c, r1, r2, upd_same, S8.sqt h1, S8.sqt h2, S8.sqt h3, fxU.sqt m7 t3', tp7.fr fxU m7⟩⟩
    | room s v =>
      obtain ⟨bs0, bs1⟩ := bd (.int s) (by simp [Dd.vals])
      obtain ⟨bv0, bv1⟩ := bd (.int v) (by simp [Dd.vals])
      have en : numsOf ((Dd.room s v).ws.take 2) = [s, v] := by
        show numsOf [numW s.toNat, numW v.toNat] = _
        rw [numsOf_num (nz bs0 bs1), numsOf_num (nz bv0 bv1), cast bs0, cast bv0]
        rfl
      rw [en] at eN2
      have hr' : toW W (roomR W.cl s v) = .ok W' := ln.r
      have hs : s < (W.cl.ra.length : Nat) ∧ W' = ⟨⟨W.cl.ra, putL W.cl.ro s.toNat v, W.cl.rt⟩, W.wi, W.pl⟩ := by
        unfold roomR slotR at hr'
        split at hr'
        · rename_i c1
          split at hr'
          · exact ⟨by omega, (Except.ok.inj hr').symm⟩
          · cases hr'
        · cases hr'
      obtain ⟨hs, rfl⟩ := hs
      have e1 := okc.lo
      have e2 := okc.lt
      refine ⟨_, rfl, Z, _, 0, _, rfl, rfl, .of eZ2, atI_eq (i := 0) rfl rfl, rfl, _, rfl, ?_⟩
      refine iteC (strF rfl) ?_
      refine ⟨_, rfl, Z, _, 0, _, rfl, rfl, .of eZ2, atI_eq (i := 0) rfl rfl, rfl, _, rfl, ?_⟩
      refine iteC (strF rfl) ?_
      intro M hM
      have sM1 := Same.upd_new (o := .dK []) hM
      refine ⟨upd_same, [(sK "room", .str "rooms"), (sK "rack", .str "racks"), (sK "rate", .str "rates"), (sK "wish", .str "wishes")], rfl, (show (4 : Nat) ≤ 15 by decide), ?_⟩
      have sM : Same (upd H1 y (.dK (worldD a b c wi pl))) (upd (upd (upd H1 y (.dK (worldD a b c wi pl))) M (.dK [])) M (.dK (mergeK [] [(sK "room", .str "rooms"), (sK "rack", .str "racks"), (sK "rate", .str "rates"), (sK "wish", .str "wishes")]))) := fun u o e => by
        rw [upd_ne (ne_of_none e hM)]
        exact sM1 u o e
      have sHM := s2.trans sM
      refine ⟨_, rfl, Z, _, 0, _, rfl, rfl, .of (sM _ _ eZ2), atI_eq (i := 0) rfl rfl, M, _, rfl, DGet.k (k := sK "room") upd_same, ?_⟩
      refine ⟨_, rfl, _, rfl, x, _, rfl, DGet.k (k := sK "rooms") (sHM _ _ h0), _, rfl, N, _, 0, _, rfl, rfl, .of (sM _ _ eN2), atI_eq (i := 0) rfl rfl, _, rfl, N, _, 1, _, rfl, rfl, .of (sM _ _ eN2), atI_eq (i := 1) rfl rfl, ?_⟩
      refine nilOf ?_
      refine putT (sHM.sqt h2) bs0 (by omega) (by omega) fun r1 H3 s3 t3 => ?_
      have y3 : H3 y = some (.dK (worldD a b c wi pl)) := s3 _ _ (sM _ _ upd_same)
      refine ⟨_, rfl, _, rfl, y, _, rfl, DPut.k (k := sK "rooms") y3 (show (5 : Nat) < sizeLine by rw [sizeLine_eq]; decide), ?_⟩
      have q3 : upd H3 y (.dK (putK (worldD a b c wi pl) (sK "rooms") (.ref r1))) = upd H3 y (.dK (worldD a r1 c wi pl)) := rfl
      rw [q3]
      have S3 := fU (o := .dK (worldD a r1 c wi pl)) (sHM.trans s3)
      have m3 : MuX [y] H3 := MuX.one y3 rfl
      exact ⟨_, rfl, q' _ S3 ⟨a, r1, c, wi, pl, upd_same, S3.sqt h1, fxU.sqt m3 t3, S3.sqt h3, S3.sqt h4, S3.tp h5⟩⟩
    | rack s v =>
      obtain ⟨bs0, bs1⟩ := bd (.int s) (by simp [Dd.vals])
      obtain ⟨bv0, bv1⟩ := bd (.int v) (by simp [Dd.vals])
      have en : numsOf ((Dd.rack s v).ws.take 2) = [s, v] := by
        show numsOf [numW s.toNat, numW v.toNat] = _
        rw [numsOf_num (nz bs0 bs1), numsOf_num (nz bv0 bv1), cast bs0, cast bv0]
        rfl
      rw [en] at eN2
      have hr' : toW W (rackR W.cl s v) = .ok W' := ln.r
      have hs : s < (W.cl.ra.length : Nat) ∧ W' = ⟨⟨putL W.cl.ra s.toNat v, W.cl.ro, W.cl.rt⟩, W.wi, W.pl⟩ := by
        unfold rackR slotR at hr'
        split at hr'
        · rename_i c1
          split at hr'
          · exact ⟨by omega, (Except.ok.inj hr').symm⟩
          · cases hr'
        · cases hr'
      obtain ⟨hs, rfl⟩ := hs
      have e1 := okc.lo
      have e2 := okc.lt
      refine ⟨_, rfl, Z, _, 0, _, rfl, rfl, .of eZ2, atI_eq (i := 0) rfl rfl, rfl, _, rfl, ?_⟩
      refine iteC (strF rfl) ?_
      refine ⟨_, rfl, Z, _, 0, _, rfl, rfl, .of eZ2, atI_eq (i := 0) rfl rfl, rfl, _, rfl, ?_⟩
      refine iteC (strF rfl) ?_
      intro M hM
      have sM1 := Same.upd_new (o := .dK []) hM
      refine ⟨upd_same, [(sK "room", .str "rooms"), (sK "rack", .str "racks"), (sK "rate", .str "rates"), (sK "wish", .str "wishes")], rfl, (show (4 : Nat) ≤ 15 by decide), ?_⟩
      have sM : Same (upd H1 y (.dK (worldD a b c wi pl))) (upd (upd (upd H1 y (.dK (worldD a b c wi pl))) M (.dK [])) M (.dK (mergeK [] [(sK "room", .str "rooms"), (sK "rack", .str "racks"), (sK "rate", .str "rates"), (sK "wish", .str "wishes")]))) := fun u o e => by
        rw [upd_ne (ne_of_none e hM)]
        exact sM1 u o e
      have sHM := s2.trans sM
      refine ⟨_, rfl, Z, _, 0, _, rfl, rfl, .of (sM _ _ eZ2), atI_eq (i := 0) rfl rfl, M, _, rfl, DGet.k (k := sK "rack") upd_same, ?_⟩
      refine ⟨_, rfl, _, rfl, x, _, rfl, DGet.k (k := sK "racks") (sHM _ _ h0), _, rfl, N, _, 0, _, rfl, rfl, .of (sM _ _ eN2), atI_eq (i := 0) rfl rfl, _, rfl, N, _, 1, _, rfl, rfl, .of (sM _ _ eN2), atI_eq (i := 1) rfl rfl, ?_⟩
      refine nilOf ?_
      refine putT (sHM.sqt h1) bs0 (by omega) (by omega) fun r1 H3 s3 t3 => ?_
      have y3 : H3 y = some (.dK (worldD a b c wi pl)) := s3 _ _ (sM _ _ upd_same)
      refine ⟨_, rfl, _, rfl, y, _, rfl, DPut.k (k := sK "racks") y3 (show (5 : Nat) < sizeLine by rw [sizeLine_eq]; decide), ?_⟩
      have q3 : upd H3 y (.dK (putK (worldD a b c wi pl) (sK "racks") (.ref r1))) = upd H3 y (.dK (worldD r1 b c wi pl)) := rfl
      rw [q3]
      have S3 := fU (o := .dK (worldD r1 b c wi pl)) (sHM.trans s3)
      have m3 : MuX [y] H3 := MuX.one y3 rfl
      exact ⟨_, rfl, q' _ S3 ⟨r1, b, c, wi, pl, upd_same, fxU.sqt m3 t3, S3.sqt h2, S3.sqt h3, S3.sqt h4, S3.tp h5⟩⟩
    | rate s v =>
      obtain ⟨bs0, bs1⟩ := bd (.int s) (by simp [Dd.vals])
      obtain ⟨bv0, bv1⟩ := bd (.int v) (by simp [Dd.vals])
      have en : numsOf ((Dd.rate s v).ws.take 2) = [s, v] := by
        show numsOf [numW s.toNat, numW v.toNat] = _
        rw [numsOf_num (nz bs0 bs1), numsOf_num (nz bv0 bv1), cast bs0, cast bv0]
        rfl
      rw [en] at eN2
      have hr' : toW W (rateR W.cl s v) = .ok W' := ln.r
      have hs : s < (W.cl.ra.length : Nat) ∧ W' = ⟨⟨W.cl.ra, W.cl.ro, putL W.cl.rt s.toNat v⟩, W.wi, W.pl⟩ := by
        unfold rateR slotR at hr'
        split at hr'
        · rename_i c1
          split at hr'
          · exact ⟨by omega, (Except.ok.inj hr').symm⟩
          · cases hr'
        · cases hr'
      obtain ⟨hs, rfl⟩ := hs
      have e1 := okc.lo
      have e2 := okc.lt
      refine ⟨_, rfl, Z, _, 0, _, rfl, rfl, .of eZ2, atI_eq (i := 0) rfl rfl, rfl, _, rfl, ?_⟩
      refine iteC (strF rfl) ?_
      refine ⟨_, rfl, Z, _, 0, _, rfl, rfl, .of eZ2, atI_eq (i := 0) rfl rfl, rfl, _, rfl, ?_⟩
      refine iteC (strF rfl) ?_
      intro M hM
      have sM1 := Same.upd_new (o := .dK []) hM
      refine ⟨upd_same, [(sK "room", .str "rooms"), (sK "rack", .str "racks"), (sK "rate", .str "rates"), (sK "wish", .str "wishes")], rfl, (show (4 : Nat) ≤ 15 by decide), ?_⟩
      have sM : Same (upd H1 y (.dK (worldD a b c wi pl))) (upd (upd (upd H1 y (.dK (worldD a b c wi pl))) M (.dK [])) M (.dK (mergeK [] [(sK "room", .str "rooms"), (sK "rack", .str "racks"), (sK "rate", .str "rates"), (sK "wish", .str "wishes")]))) := fun u o e => by
        rw [upd_ne (ne_of_none e hM)]
        exact sM1 u o e
      have sHM := s2.trans sM
      refine ⟨_, rfl, Z, _, 0, _, rfl, rfl, .of (sM _ _ eZ2), atI_eq (i := 0) rfl rfl, M, _, rfl, DGet.k (k := sK "rate") upd_same, ?_⟩
      refine ⟨_, rfl, _, rfl, x, _, rfl, DGet.k (k := sK "rates") (sHM _ _ h0), _, rfl, N, _, 0, _, rfl, rfl, .of (sM _ _ eN2), atI_eq (i := 0) rfl rfl, _, rfl, N, _, 1, _, rfl, rfl, .of (sM _ _ eN2), atI_eq (i := 1) rfl rfl, ?_⟩
      refine nilOf ?_
      refine putT (sHM.sqt h3) bs0 (by omega) (by omega) fun r1 H3 s3 t3 => ?_
      have y3 : H3 y = some (.dK (worldD a b c wi pl)) := s3 _ _ (sM _ _ upd_same)
      refine ⟨_, rfl, _, rfl, y, _, rfl, DPut.k (k := sK "rates") y3 (show (5 : Nat) < sizeLine by rw [sizeLine_eq]; decide), ?_⟩
      have q3 : upd H3 y (.dK (putK (worldD a b c wi pl) (sK "rates") (.ref r1))) = upd H3 y (.dK (worldD a b r1 wi pl)) := rfl
      rw [q3]
      have S3 := fU (o := .dK (worldD a b r1 wi pl)) (sHM.trans s3)
      have m3 : MuX [y] H3 := MuX.one y3 rfl
      exact ⟨_, rfl, q' _ S3 ⟨a, b, r1, wi, pl, upd_same, S3.sqt h1, S3.sqt h2, fxU.sqt m3 t3, S3.sqt h4, S3.tp h5⟩⟩
    | wish s v =>
      obtain ⟨bs0, bs1⟩ := bd (.int s) (by simp [Dd.vals])
      obtain ⟨bv0, bv1⟩ := bd (.int v) (by simp [Dd.vals])
      have en : numsOf ((Dd.wish s v).ws.take 2) = [s, v] := by
        show numsOf [numW s.toNat, numW v.toNat] = _
        rw [numsOf_num (nz bs0 bs1), numsOf_num (nz bv0 bv1), cast bs0, cast bv0]
        rfl
      rw [en] at eN2
      have hr' : (match wishR W s v with | .ok l => (Except.ok ⟨W.cl, l, W.pl⟩ : Except Er Wd) | .error e => .error e) = .ok W' := ln.r
      have hs : s < (W.wi.length : Nat) ∧ W' = ⟨W.cl, putL W.wi s.toNat v, W.pl⟩ := by
        unfold wishR at hr'
        split at hr'
        · rename_i z e
          split at e
          · rename_i c1
            split at e
            · cases e
              exact ⟨c1, (Except.ok.inj hr').symm⟩
            · cases e
          · cases e
        · cases hr'
      obtain ⟨hs, rfl⟩ := hs
      have e1 := okc.lo
      have e2 := okc.lt
      refine ⟨_, rfl, Z, _, 0, _, rfl, rfl, .of eZ2, atI_eq (i := 0) rfl rfl, rfl, _, rfl, ?_⟩
      refine iteC (strF rfl) ?_
      refine ⟨_, rfl, Z, _, 0, _, rfl, rfl, .of eZ2, atI_eq (i := 0) rfl rfl, rfl, _, rfl, ?_⟩
      refine iteC (strF rfl) ?_
      intro M hM
      have sM1 := Same.upd_new (o := .dK []) hM
      refine ⟨upd_same, [(sK "room", .str "rooms"), (sK "rack", .str "racks"), (sK "rate", .str "rates"), (sK "wish", .str "wishes")], rfl, (show (4 : Nat) ≤ 15 by decide), ?_⟩
      have sM : Same (upd H1 y (.dK (worldD a b c wi pl))) (upd (upd (upd H1 y (.dK (worldD a b c wi pl))) M (.dK [])) M (.dK (mergeK [] [(sK "room", .str "rooms"), (sK "rack", .str "racks"), (sK "rate", .str "rates"), (sK "wish", .str "wishes")]))) := fun u o e => by
        rw [upd_ne (ne_of_none e hM)]
        exact sM1 u o e
      have sHM := s2.trans sM
      refine ⟨_, rfl, Z, _, 0, _, rfl, rfl, .of (sM _ _ eZ2), atI_eq (i := 0) rfl rfl, M, _, rfl, DGet.k (k := sK "wish") upd_same, ?_⟩
      refine ⟨_, rfl, _, rfl, x, _, rfl, DGet.k (k := sK "wishes") (sHM _ _ h0), _, rfl, N, _, 0, _, rfl, rfl, .of (sM _ _ eN2), atI_eq (i := 0) rfl rfl, _, rfl, N, _, 1, _, rfl, rfl, .of (sM _ _ eN2), atI_eq (i := 1) rfl rfl, ?_⟩
      refine nilOf ?_
      refine putT (sHM.sqt h4) bs0 (by omega) (by omega) fun r1 H3 s3 t3 => ?_
      have y3 : H3 y = some (.dK (worldD a b c wi pl)) := s3 _ _ (sM _ _ upd_same)
      refine ⟨_, rfl, _, rfl, y, _, rfl, DPut.k (k := sK "wishes") y3 (show (5 : Nat) < sizeLine by rw [sizeLine_eq]; decide), ?_⟩
      have q3 : upd H3 y (.dK (putK (worldD a b c wi pl) (sK "wishes") (.ref r1))) = upd H3 y (.dK (worldD a b c r1 pl)) := rfl
      rw [q3]
      have S3 := fU (o := .dK (worldD a b c r1 pl)) (sHM.trans s3)
      have m3 : MuX [y] H3 := MuX.one y3 rfl
      exact ⟨_, rfl, q' _ S3 ⟨a, b, c, r1, pl, upd_same, S3.sqt h1, S3.sqt h2, S3.sqt h3, fxU.sqt m3 t3, S3.tp h5⟩⟩
end
end K5
set_option Elab.async false
set_option linter.all false
set_option maxRecDepth 100000
set_option maxHeartbeats 4000000
namespace K5
open PySem PySem.Spec PyProof.Rows L2
/-! ### promises where no repr is under way -/
structure FnG (P : Program) (w : World) (K : PySem.W.Frag) (mg : Str → Option Value) (base : Heap) (k : Nat) (f : Addr) (fd : FuncData) (ps : List Str) (sp : Sp) : Prop where
  len : ∀ vs H Q E, sp vs H Q E → vs.length = ps.length
  run : ∀ (A : Around) (outer : List Env) (s : Shared) (H : Hp) (args : Args) (us : List Value) (vs : List V) (Q : VK) (E : XK), A.guards = some [] → Room k A → Env0 P w K mg base A outer s H → BindsTo s fd args (ps.zip us) → Vals vs us → sp vs H Q E →
    codeAny (model P w) A (.call (.ref f) args) (CR (L2.CX P w) outer P w H s Q E) s
theorem g_deeper {A : Around} {qual : Str} {scope : Scope} {n : Nat} {f : Addr} {cd : Value} (h : A.guards = some []) : (A.deeper (envOfC qual scope n f cd)).guards = some [] := by
  first | exact h | (simp [Around.deeper, h]) 
theorem fnG_of {P : Program} {w : World} {K : PySem.W.Frag} {mg : Str → Option Value} {base : Heap} {k : Nat} {x qual : Str} {params : Arguments} {body : List Stmt} {scope : Scope} {f : Addr} {fd : FuncData} {N ps : List Str} {sp : Sp} {dvs : List V} {kw : List (Str × V)}
    (F : FunD K x qual params body scope dvs kw f fd) (S : FnScope N ps scope) (len : ∀ vs H Q E, sp vs H Q E → vs.length = ps.length)
    (hbody : ∀ (cdv : Value) (A : Around) (outer : List Env) (s : Shared) (H : Hp) (vs : List V) (Q : VK) (E : XK), A.guards = some [] → Room k (A.deeper (envOfC qual scope s.heap.objs.size f cdv)) → sp vs H Q E →
      ∃ t, PSs (cxOf (L2.CX P w) P w K mg base N qual scope f cdv A outer s H E) body t ∧ t { nx := fun _ H' => Q .non H', rt := Q } (start N vs) H) : FnG P w K mg base (k + 1) f fd ps sp := by
  obtain ⟨oc, od, dV, kV, doc, pm, an, cdv, ct, osl, rfl, lk, hcd, _, _⟩ := F.ex
  refine ⟨len, fun A outer s H args us vs Q E hG hr e0 hb r hsp => ?_⟩
  have hl := len _ _ _ _ hsp
  have kin : K.In s.heap := e0.mod.kin.keeps fun b o e => (e0.bs b o e).1
  refine codeAny_call_function hr.depth (kin _ _ lk) rfl S.co S.gen rfl (PySem.W.codeRec_of kin hcd) (hb _ _ _ _ ?_)
  refine wpAny_newFunctionEnv_cells S.kind (fun y hy => (S.par y.1 (List.of_mem_zip (show (y.1, y.2) ∈ ps.zip us from hy)).1).imp id fun q => ⟨q, PySem.W.cellsFrom_some _ _ _ (.inl q)⟩) fun env he s1 x => ?_
  subst he
  refine ⟨(e0.mod.nolimit.keeps fun b o e => (e0.bs b o e).1).keeps x.toInCall.keep, codeAny_func ?_⟩
  obtain ⟨t, ht, hq⟩ := hbody cdv A outer s H vs Q E hG (hr.deeper _) hsp
  refine wpAny_mono (ht.run [] s1 (start N vs) H _ (inv_start S hr.hd e0 hl r x) hq) (fun fl s' hs => ?_) fun e s' hs => hs
  cases fl with
  | ret u =>
    obtain ⟨v, σ', H', J, rv, q⟩ := hs
    exact ⟨v, H', J.os, J.bare, J.base, J.hok, rv, q⟩
  | next =>
    obtain ⟨σ', H', J, q⟩ := hs
    exact ⟨.non, H', J.os, J.bare, J.base, J.hok, rfl, q⟩
  | brk => obtain ⟨_, _, _, q⟩ := hs; exact q.elim
  | cont => obtain ⟨_, _, _, q⟩ := hs; exact q.elim
/-! ### repr -/
def rRep (K : PySem.W.Frag) : List V → Hp → VK → Prop := fun xs H Q => ∃ (a : Addr) (d : PyData), xs = [.ref a] ∧ Dp K H (.ref a) d ∧ d.showable = true ∧ d.hasDict = false ∧ d.depth ≤ 20 ∧ d.shown.length ≤ sizeLine ∧ Q (.str d.shown) H
theorem cr_rep {X : Cx} (hg : X.A.guards = some []) (hu : X.A.units + 64 < cLine) : CallR X (.builtin "repr") (rRep X.K) := by
  intro pins s σ H xs us Q I r h
  obtain ⟨a, d, rfl, hd, h1, h2, h3, h4, q⟩ := h
  cases r with
  | cons ru rr =>
    cases rr
    cases ru
    obtain ⟨as, rd⟩ := Dp.reads I d _ _ hd rfl
    exact repr_of_reads' rd h1 (fun z => by rw [h2] at z; cases z) hg (by omega) (fun _ _ e => e) (fun h' u tk hk => ⟨.str d.shown, H, I.kept (t' := tk) hk, ⟨u, rfl⟩, q⟩) h4
theorem pe_rep {X : Cx} {a : Expr} {ta : TE} {p pos : Pos} (T : Top X.w X.K X.mg) (hg0 : X.A.guards = some [] ∧ X.A.units + 64 < cLine) (ha : PE X a ta) (hg : Gl X "repr" := by rfl) (h1 : starEach [a] X.env = (false, eval a X.env) :: starEach [] X.env := by rfl) (hpl : (backTo pos (starEach [] X.env)).any (·.1) = false := by rfl) :
    PE X (.Call (.Name "repr" p) [a] [] pos) (tCB (rRep X.K) (tCons ta tNil)) := pe_callB (cr_rep hg0.1 hg0.2) hg (T.free _ (by decide +kernel)) boots.2.2.2.2.2.2.2.2.2.2.2 (pa_cons ha pa_nil h1) (by decide) (by decide) h1 hpl
/-! ### a world's data -/
def tupD (l : List Int) : PyData := .tuple (l.map .int)
def wDat (W : Wd) : PyData := .tuple [tupD W.cl.ra, tupD W.cl.ro, tupD W.cl.rt, tupD W.wi, .tuple (W.pl.map tupD)]
structure Small (W : Wd) : Prop where
  a : OkN 0 99 W.cl.ra ∧ W.cl.ra.length ≤ 20
  b : OkN 0 99 W.cl.ro ∧ W.cl.ro.length ≤ 20
  c : OkN 0 99 W.cl.rt ∧ W.cl.rt.length ≤ 20
  d : OkN 0 99 W.wi ∧ W.wi.length ≤ 20
  e : W.pl.length ≤ 20 ∧ ∀ l ∈ W.pl, OkN 0 99 l ∧ l.length ≤ 20
theorem tupD_ok {l : List Int} (h : OkN 0 99 l ∧ l.length ≤ 20) : (tupD l).showable = true ∧ (tupD l).hasDict = false ∧ (tupD l).depth = 1 ∧ (tupD l).shown.length ≤ 303 := by
  obtain ⟨h1, h2⟩ := h
  have s1 : ∀ l : List Int, OkN 0 99 l → PyData.showableAll (l.map .int) = true := by
    intro l h
    induction l with
    | nil => rfl
    | cons n l ih =>
      have hn := h n (by simp)
      show (decide (n.natAbs.log2 < 1920) && PyData.showableAll (l.map .int)) = true
      rw [ih fun x hx => h x (List.mem_cons_of_mem _ hx), decide_eq_true (log_ok hn.1 (by omega))]
      rfl
  have s2 : ∀ l : List Int, PyData.hasDictAll (l.map .int) = false := by
    intro l
    induction l with
    | nil => rfl
    | cons n l ih => exact ih
  have s3 : ∀ l : List Int, PyData.depthAll (l.map .int) = 0 := by
    intro l
    induction l with
    | nil => rfl
    | cons n l ih => show max 0 (PyData.depthAll (l.map .int)) = 0; rw [ih]; rfl
  have s4 : ∀ l : List Int, OkN 0 99 l → ((PyData.shownAll (l.map .int)).map (·.length)).sum ≤ 13 * l.length ∧ (PyData.shownAll (l.map .int)).length = l.length := by
    intro l h
    induction l with
    | nil => exact ⟨Nat.le_refl _, rfl⟩
    | cons n l ih =>
      have hn := h n (by simp)
      have i1 := ih fun x hx => h x (List.mem_cons_of_mem _ hx)
      have i2 : (PyData.shown (.int n)).length ≤ 13 := PyData.shown_int_le (by omega)
      refine ⟨?_, by show _ + 1 = _; rw [i1.2]; rfl⟩
      show (PyData.shown (.int n)).length + ((PyData.shownAll (l.map .int)).map (·.length)).sum ≤ 13 * (l.length + 1)
      omega
  refine ⟨s1 l h1, s2 l, ?_, ?_⟩
  · show PyData.depthAll (l.map .int) + 1 = 1
    rw [s3]
  · have t := tupleText_len_le (PyData.shownAll (l.map .int))
    have := s4 l h1
    show (tupleText (PyData.shownAll (l.map .int))).length ≤ 303
    omega
theorem wDat_ok {W : Wd} (h : Small W) : (wDat W).showable = true ∧ (wDat W).hasDict = false ∧ (wDat W).depth ≤ 20 ∧ (wDat W).shown.length ≤ sizeLine := by
  have ha := tupD_ok h.a
  have hb := tupD_ok h.b
  have hc := tupD_ok h.c
  have hd := tupD_ok h.d
  have s : ∀ ls : List (List Int), (∀ l ∈ ls, OkN 0 99 l ∧ l.length ≤ 20) → PyData.showableAll (ls.map tupD) = true ∧ PyData.hasDictAll (ls.map tupD) = false ∧ PyData.depthAll (ls.map tupD) ≤ 1 ∧ ((PyData.shownAll (ls.map tupD)).map (·.length)).sum ≤ 303 * ls.length ∧ (PyData.shownAll (ls.map tupD)).length = ls.length := by
    intro ls h
    induction ls with
    | nil => exact ⟨rfl, rfl, by decide, Nat.le_refl _, rfl⟩
    | cons l ls ih =>
      obtain ⟨i1, i2, i3, i4, i5⟩ := ih fun x hx => h x (List.mem_cons_of_mem _ hx)
      obtain ⟨j1, j2, j3, j4⟩ := tupD_ok (h l (by simp))
      refine ⟨?_, ?_, ?_, ?_, ?_⟩
      · show ((tupD l).showable && PyData.showableAll (ls.map tupD)) = true
        rw [j1, i1]; rfl
      · show ((tupD l).hasDict || PyData.hasDictAll (ls.map tupD)) = false
        rw [j2, i2]; rfl
      · show max (tupD l).depth (PyData.depthAll (ls.map tupD)) ≤ 1
        omega
      · show (tupD l).shown.length + ((PyData.shownAll (ls.map tupD)).map (·.length)).sum ≤ 303 * (ls.length + 1)
        omega
      · show _ + 1 = _
        rw [i5]; rfl
  obtain ⟨e1, e2, e3, e4, e5⟩ := s W.pl h.e.2
  have lp := h.e.1
  refine ⟨?_, ?_, ?_, ?_⟩
  · show ((tupD W.cl.ra).showable && ((tupD W.cl.ro).showable && ((tupD W.cl.rt).showable && ((tupD W.wi).showable && (PyData.showableAll (W.pl.map tupD) && true))))) = true
    rw [ha.1, hb.1, hc.1, hd.1, e1]; rfl
  · show ((tupD W.cl.ra).hasDict || ((tupD W.cl.ro).hasDict || ((tupD W.cl.rt).hasDict || ((tupD W.wi).hasDict || (PyData.hasDictAll (W.pl.map tupD) || false))))) = false
    rw [ha.2.1, hb.2.1, hc.2.1, hd.2.1, e2]; rfl
  · show max (tupD W.cl.ra).depth (max (tupD W.cl.ro).depth (max (tupD W.cl.rt).depth (max (tupD W.wi).depth (max (PyData.depthAll (W.pl.map tupD) + 1) 0)))) + 1 ≤ 20
    have := ha.2.2.1
    have := hb.2.2.1
    have := hc.2.2.1
    have := hd.2.2.1
    omega
  · have t := tupleText_len_le [(tupD W.cl.ra).shown, (tupD W.cl.ro).shown, (tupD W.cl.rt).shown, (tupD W.wi).shown, tupleText (PyData.shownAll (W.pl.map tupD))]
    have t2 := tupleText_len_le (PyData.shownAll (W.pl.map tupD))
    have := ha.2.2.2
    have := hb.2.2.2
    have := hc.2.2.2
    have := hd.2.2.2
    simp only [List.map_cons, List.map_nil, List.sum_cons, List.sum_nil, List.length_cons, List.length_nil] at t
    have hl : (10000 : Nat) ≤ sizeLine := by rw [sizeLine_eq]; decide
    show (tupleText [(tupD W.cl.ra).shown, (tupD W.cl.ro).shown, (tupD W.cl.rt).shown, (tupD W.wi).shown, tupleText (PyData.shownAll (W.pl.map tupD))]).length ≤ sizeLine
    omega
theorem dp_tp {K : PySem.W.Frag} {H : Hp} {a : Addr} {ls : List (List Int)} (h : TP K H a ls) : Dp K H (.ref a) (.tuple (ls.map tupD)) := by
  obtain ⟨as, t, hl, hi⟩ := h.ex
  refine .tup t ?_
  have key : ∀ (as : List Addr) (ls : List (List Int)), as.length = ls.length → (∀ (i : Nat) (b : Addr) (l : List Int), as[i]? = some b → ls[i]? = some l → TI K H b l) → DpAll K H (as.map V.ref) (ls.map tupD) := by
    intro as
    induction as with
    | nil => intro ls hl _; cases ls with | nil => exact .nil | cons x l => simp at hl
    | cons b as ih =>
      intro ls hl hi
      cases ls with
      | nil => simp at hl
      | cons l ls => exact .cons (dp_ti (hi 0 b l rfl rfl)) (ih ls (by simpa using hl) fun i b l e1 e2 => hi (i + 1) b l (by simpa using e1) (by simpa using e2))
  exact key as ls hl hi
theorem dp_w {K : PySem.W.Frag} {H : Hp} {t a b c d e : Addr} {W : Wd} (ht : SqT K H t [.ref a, .ref b, .ref c, .ref d, .ref e]) (h1 : TI K H a W.cl.ra) (h2 : TI K H b W.cl.ro) (h3 : TI K H c W.cl.rt) (h4 : TI K H d W.wi) (h5 : TP K H e W.pl) : Dp K H (.ref t) (wDat W) :=
  .tup ht (.cons (dp_ti h1) (.cons (dp_ti h2) (.cons (dp_ti h3) (.cons (dp_ti h4) (.cons (dp_tp h5) .nil)))))
end K5
set_option Elab.async false
set_option linter.all false
set_option maxRecDepth 100000
set_option maxHeartbeats 4000000
namespace K5
open PySem PySem.Spec PyProof.Rows L2
/-! ### _law_is_world -/
structure HasG (w : World) (K : PySem.W.Frag) (mg : Str → Option Value) (base : Heap) (k : Nat) (x : Str) (ps : List Str) (sp : Sp) : Prop where
  ex : ∃ fd, FnG PG w K mg base k (He.fAd K (x, none)) fd ps sp ∧ Binds K fd ps []
  kp : PySem.W.keepIn K (.ref (He.fAd K (x, none))) = true
  g : mg x = some (.ref (He.ga K x))
  eq : He.ga K x = He.fAd K (x, none)
def spIW (K : PySem.W.Frag) : Sp := fun vs H Q _ => ∃ (b dl ul x : Addr) (D : Dk), vs = [.ref b, .ref x] ∧ DkAt K H b dl ul D ∧ WoAt K H x D.w ∧ Small D.w ∧ ∀ H', Same H H' → Q (.bl true) H'
section
variable {X : Cx} {x : Str} {p pos : Pos} {e : Expr} {es : List Expr} {t : TA} {j k : Nat} {ps : List Str} {sp : Sp}
theorem pe_fnG (G : HasG X.w X.K X.mg X.base k x ps sp) (hp : X.prog = PG) (hG : X.A.guards = some []) (hr : Room j X.A) (hk : k ≤ j) (ha : PA X (e :: es) t) (hg : Gl X x := by rfl) (hdb : (x == ("__debug__" : Str)) = false := by decide)
    (he : starEach (e :: es) X.env = (false, eval e X.env) :: starEach es X.env := by rfl) (hpl : (backTo pos (starEach es X.env)).any (·.1) = false := by rfl) : PE X (.Call (.Name x p) (e :: es) [] pos) (tCall sp [] E0 t) := by
  obtain ⟨fd, F, B⟩ := G.ex
  rw [← hp] at F
  refine ⟨fun pins s σ H Q I h => ?_⟩
  refine wpAny_Call_Name_kw (ld_glob I hg (G.g.trans (by rw [G.eq])) ?_ hdb)
  refine PySem.W.callWith_K (h₀ := X.base) I.ok.mod.kin G.kp (thn (ha.run pos pins s σ H _ I h) fun us s1 ⟨vs, H1, I1, r, q⟩ => ⟨I1.kIn, ?_⟩) he hpl
  have q : sp vs H1 Q E0 := by
    have q' : sp (vs ++ []) H1 Q E0 := q
    rwa [List.append_nil] at q'
  have hl : us.length = ps.length := by rw [← r.length]; exact F.len _ _ _ _ q
  have hb := B s1 us I1.kIn (by rw [List.append_nil]; exact hl)
  rw [List.append_nil] at hb
  refine wpAny_call (codeAny_mono (F.run X.A X.stack s1 H1 ⟨us, []⟩ us vs Q E0 hG (hr.mono hk) I1.env0 hb r q) fun r s' hq => ?_)
  cases r with
  | error e => exact passL pins σ H1 s1 e s' I1 hq
  | ok fl =>
    cases fl with
    | ret u => exact I1.after hq
    | next => exact False.elim hq
    | brk => exact False.elim hq
    | cont => exact False.elim hq
end
section
variable {w : World} {K : PySem.W.Frag} {mg : Str → Option Value} {base : Heap}
theorem hasG {N ps : List Str} {k : Nat} {sp : Sp} {x : Str} (T : Top w K mg) (i : Nat) {d : He.DefD} (hd : fn[i]? = some d) (hx : d.at_ = (x, none)) (S : FnScope N ps d.scope) (hdv : ∀ K, d.dvs K = [])
    (bnd : ∀ (kV doc pm : Value) (an : Option Addr) (cdv ct : Value) (us : List Value), us.length = ps.length → bindArgs (PySem.W.fnOf d.name d.qual d.params d.body d.scope .none kV doc pm an cdv ct) ⟨us, []⟩ = pure (ps.zip us))
    (len : ∀ vs H Q E, sp vs H Q E → vs.length = ps.length)
    (hbody : ∀ (cdv : Value) (A : Around) (outer : List Env) (s : Shared) (H : Hp) (vs : List V) (Q : VK) (E : XK), A.guards = some [] → Room k (A.deeper (envOfC d.qual d.scope s.heap.objs.size (He.fAd K d.at_) cdv)) → sp vs H Q E →
      ∃ t, PSs (cxOf (L2.CX PG w) PG w K mg base N d.qual d.scope (He.fAd K d.at_) cdv A outer s H E) d.body t ∧ t { nx := fun _ H' => Q .non H', rt := Q } (start N vs) H)
    (hg : x ∈ gloN := by decide +kernel) (he : He.ga K x = He.fAd K (x, none) := by rfl) : HasG w K mg base (k + 1) x ps sp := by
  obtain ⟨fd, F⟩ := T.fns d (List.mem_of_getElem? hd)
  rw [hdv K] at F
  rw [hx] at F hbody
  have kp := F.kp
  exact ⟨⟨fd, fnG_of F S len hbody, FunD.bindsN F bnd⟩, kp, T.glo x hg, he⟩
theorem sc__law_is_world : FnScope ["_law_desk", "_law_world_here", "_law_cluster_here", "_law_told", "_law_name"] ["_law_desk", "_law_world_here"] (defScope s__law_is_world) := ⟨rfl, rfl, rfl, by decide +kernel, rfl, by decide +kernel, by decide +kernel⟩
theorem ok__law_is_world (T : Top w K mg) : HasG w K mg base 1 "_law_is_world" ["_law_desk", "_law_world_here"] (spIW K) := by
  refine hasG (k := 0) T 25 (d := dD ("_law_is_world", none) "_law_is_world" "_law_is_world" s__law_is_world) rfl rfl sc__law_is_world (fun _ => rfl) (fun _ _ _ _ _ _ us hl => match us, hl with | [_, _], _ => rfl) (fun vs H Q E h => ?_) (fun cdv A outer s H vs Q E hG hr h => ?_)
  · obtain ⟨b, dl, ul, x, D, rfl, _⟩ := h
    rfl
  · obtain ⟨b, dl, ul, x, D, rfl, hD, hx, sm, q⟩ := h
    have hu := hu_of hr
    have hgd : (A.deeper (envOfC (dD ("_law_is_world", none) "_law_is_world" "_law_is_world" s__law_is_world).qual (dD ("_law_is_world", none) "_law_is_world" "_law_is_world" s__law_is_world).scope s.heap.objs.size (He.fAd K (dD ("_law_is_world", none) "_law_is_world" "_law_is_world" s__law_is_world).at_) cdv)).guards = some [] ∧ _ := ⟨g_deeper hG, hr.units⟩
    obtain ⟨dx, c, wi, pl, li, xs, ys, hb, hdl, hul, _, _, hw, _⟩ := hD.ex
    obtain ⟨⟨dxc, ra, ro, rt, hc, c1, c2, c3⟩, okc⟩ := hw.c
    obtain ⟨a1, a2, a3, a4, a5, h0, h1, h2, h3, h4, h5⟩ := hx.ex
    refine ⟨_, (pss_cons (ps_set (i := 2) sc__law_is_world.nd rfl (Or.inl rfl) (pe_fld (pv 0) rfl))
      (pss_cons (ps_set (i := 3) sc__law_is_world.nd rfl (Or.inl rfl) (pe_tup (pa_cons (pe_fld (pv 2) rfl) (pa_cons (pe_fld (pv 2) rfl) (pa_cons (pe_fld (pv 2) rfl) (pa_cons (pe_fld (pv 0) rfl) (pa_cons (pe_fld (pv 0) rfl) pa_nil)))))))
      (pss_one (ps_ret (pe_cmpR op_eq (pe_rep T hgd (pv 3)) (pe_rep T hgd (pe_tuple T (pe_lc (own := [("_law_name", 4)]) (g := gName 4) (tt := tYes) rfl sc__law_is_world.nd (pi_list (pe_lst (pa_cons pe_str (pa_cons pe_str (pa_cons pe_str (pa_cons pe_str (pa_cons pe_str pa_nil))))))) (blkOk_by (N := ["_law_desk", "_law_world_here", "_law_cluster_here", "_law_told", "_law_name"]) (sc := defScope s__law_is_world) (by decide +kernel)) (fun _ _ _ _ _ => (pg_name (i := 4) sc__law_is_world.nd rfl (Or.inl rfl))) (fun _ _ _ _ _ => pts_nil) (fun _ _ _ _ _ => (pe_dget hu (pv 1) (pv 4) (fun _ _ => rfl)))))) (nomark _)))))), ?_⟩
    refine ⟨_, rfl, _, _, _, _, _, rfl, hb, T.clD, T.dCl, rfl, ?_⟩
    refine ⟨_, rfl, _, _, _, _, _, rfl, hc, T.clC, T.nRa, rfl, _, rfl, _, _, _, _, _, rfl, hc, T.clC, T.nRo, rfl, _, rfl, _, _, _, _, _, rfl, hc, T.clC, T.nRt, rfl, _, rfl, _, _, _, _, _, rfl, hb, T.clD, T.dWi, rfl, _, rfl, _, _, _, _, _, rfl, hb, T.clD, T.dPl, rfl, by show 5 ≤ sizeLine; decide, fun t ht => ?_⟩
    have st := Same.upd_new (o := .tup [.ref ra, .ref ro, .ref rt, .ref wi, .ref pl]) ht
    have dok := wDat_ok sm
    refine ⟨_, rfl, t, wDat D.w, rfl, dp_w (.of upd_same) (st.sqt c1) (st.sqt c2) (st.sqt c3) (st.sqt hw.w) (st.tp hw.p), dok.1, dok.2.1, dok.2.2.1, dok.2.2.2, ?_⟩
    refine ⟨by show 5 ≤ sizeLine; decide, fun F hF => ⟨F, rfl, ⟨_, .of upd_same⟩, fun E1 hE => ?_⟩⟩
    have sF := Same.upd_new (o := .lst [.str "racks", .str "rooms", .str "rates", .str "wishes", .str "placing"]) hF
    have s2 := st.trans sF
    refine lc_vals (walk_list (xs := [.str "racks", .str "rooms", .str "rates", .str "wishes", .str "placing"])) [.ref a1, .ref a2, .ref a3, .ref a4, .ref a5] rfl hE (by simp) (fun H s => .of (s _ _ upd_same)) ?_ ?_
    · rintro i u z H1 H2 N1 N0 ez s1 ⟨rfl, eu⟩ kk
      have hx2 := s1 _ _ (s2 _ _ h0)
      refine ⟨rfl, yesT ⟨_, rfl, _, rfl, x, ?_⟩⟩
      match i, eu, ez with
      | 0, rfl, rfl => exact ⟨_, rfl, DGet.k (k := sK "racks") hx2, kk _ (Same.refl _)⟩
      | 1, rfl, rfl => exact ⟨_, rfl, DGet.k (k := sK "rooms") hx2, kk _ (Same.refl _)⟩
      | 2, rfl, rfl => exact ⟨_, rfl, DGet.k (k := sK "rates") hx2, kk _ (Same.refl _)⟩
      | 3, rfl, rfl => exact ⟨_, rfl, DGet.k (k := sK "wishes") hx2, kk _ (Same.refl _)⟩
      | 4, rfl, rfl => exact ⟨_, rfl, DGet.k (k := sK "placing") hx2, kk _ (Same.refl _)⟩
    · intro H1 s1 e1
      have s3 := s2.trans s1
      refine ⟨E1, _, rfl, .inl ⟨.of e1, fun t2 ht2 => ?_⟩⟩
      have s4 := s3.trans (Same.upd_new (o := .tup [.ref a1, .ref a2, .ref a3, .ref a4, .ref a5]) ht2)
      refine ⟨t2, wDat D.w, rfl, dp_w (.of upd_same) (s4.sqt h1) (s4.sqt h2) (s4.sqt h3) (s4.sqt h4) (s4.tp h5), dok.1, dok.2.1, dok.2.2.1, dok.2.2.2, rfl, ?_⟩
      rw [dec_str, beq_self_eq_true]
      exact q _ s4
end
end K5
set_option Elab.async false
set_option linter.all false
set_option maxRecDepth 100000
set_option maxHeartbeats 4000000
namespace K5
open PySem PySem.Spec PyProof.Rows L2
/-! ### the law's own call, with nothing under way -/
/-- the script and nothing else is tracked (nothing at all where it stands in the module) -/
def scH (K : PySem.W.Frag) (a : Addr) (vs : List Value) (ns : List Int) : Hp := fun b => if b = a then (if (K.lookup a).isNone then some (.frz { cls := .type "list", data := .seq vs.toArray } (.lst (ns.map V.int))) else none) else none
theorem scH_some {K : PySem.W.Frag} {a b : Addr} {vs : List Value} {ns : List Int} {u : HO} (h : scH K a vs ns b = some u) : b = a ∧ K.lookup a = none ∧ u = .frz { cls := .type "list", data := .seq vs.toArray } (.lst (ns.map V.int)) := by
  unfold scH at h
  split at h
  · rename_i e
    split at h
    · rename_i e2
      exact ⟨e, Option.isNone_iff_eq_none.mp e2, (Option.some.inj h).symm⟩
    · cases h
  · cases h
theorem law_callG {w : World} {K : PySem.W.Frag} {mg mb : Str → Option Value} {k : Nat} {fa a : Addr} {fd : FuncData} {x : Str} {sp : Sp} {s : Shared} {vs : List Value} {ns : List Int}
    (KX : K.In s.heap) (hns : s.heap.Ns mainGlobals mg) (hb : s.heap.Ns builtinsNs mb) (hbb : ∀ x : Str, x ≠ "__name__" → mb x = bootBuiltins x) (hlim : s.heap.NoLimit) (hg : s.gens = #[])
    (ha : s.heap.get? a = some { cls := .type "list", data := .seq vs.toArray }) (hi : IntsAre vs ns) (hl : ns.length ≤ sizeLine) (hr : Room k callerA)
    (F : ∀ base : Heap, K.In base → base.Ns mainGlobals mg → FnG PG w K mg base k fa fd [x] sp) (hbind : ∀ (s : Shared) (u : Value), BindsTo s fd ⟨[u], []⟩ [(x, u)])
    (hsp : ∀ H : Hp, SqL K H a (ns.map V.int) → sp [.ref a] H (fun v _ => v = .bl true) fun _ _ _ => False) :
    codeAny (model PG w) callerA (.call (.ref fa) ⟨[.ref a], []⟩) (fun r s' => r = .ok (.ret (.bool true)) ∧ OldK s.heap s'.heap ∧ s'.os = s.os ∧ AllBare s'.gens) s := by
  have rv := vals_ints hi
  have lenV := hi.length
  have lh : (ns.map V.int).length ≤ sizeLine := by rw [List.length_map]; exact hl
  -- what the base keeps
  have keep : ∀ {b : Addr} {o : Obj}, s.heap.get? b = some o → (b = a → K.lookup a ≠ none ∨ False) → (hidT s.heap (scH K a vs ns)).get? b = some o := fun {b o} e hne => hidT_get e (by
    cases q : scH K a vs ns b with
    | none => rfl
    | some u =>
      obtain ⟨h1, h2, _⟩ := scH_some q
      rcases hne h1 with z | z
      · exact absurd h2 z
      · exact z.elim)
  have dictKeep : ∀ {b : Addr} {m : Str → Option Value}, s.heap.Ns b m → (hidT s.heap (scH K a vs ns)).Ns b m := fun {b m} ⟨o, es, ep, e, d, r⟩ => ⟨o, es, ep, keep e (fun z => by
    subst z
    rw [ha] at e
    cases e
    cases d), d, r⟩
  have kin : K.In (hidT s.heap (scH K a vs ns)) := fun b o e => keep (KX b o e) fun z => by
    subst z
    exact .inl (by rw [e]; simp)
  have md : Mod K mg (hidT s.heap (scH K a vs ns)) := ⟨kin, dictKeep hns, ⟨mb, dictKeep hb, hbb⟩, let ⟨mc, h1, h2⟩ := hlim; ⟨mc, dictKeep h1, h2⟩⟩
  have hok : HOk PG w (scH K a vs ns) s.heap := fun b u e => by
    obtain ⟨rfl, _, rfl⟩ := scH_some e
    exact ⟨ha, lh, vs, _, rv, ha⟩
  have e0 : Env0 PG w K mg (hidT s.heap (scH K a vs ns)) callerA [] s (scH K a vs ns) := ⟨rfl, md, fun b o e => of_hidT e, Nat.le_of_eq (hidT_size _ _), trivial, fun b hb => absurd (show b ∈ ([] : List Addr) from hb) (by simp), hok, .of_eq hg⟩
  have sq : SqL K (scH K a vs ns) a (ns.map V.int) := by
    cases hk : K.lookup a with
    | some o =>
      have e := KX a o hk
      rw [ha] at e
      cases e
      exact .inr ⟨_, vs.toArray, _, hk, rfl, rfl, rfl, by rw [List.size_toArray, lenV]; exact hl, by simpa using rv⟩
    | none => exact .inl (.inr ⟨{ cls := .type "list", data := .seq vs.toArray }, by unfold scH; rw [if_pos rfl, hk]; rfl⟩)
  refine codeAny_mono ((F _ kin (dictKeep hns)).run callerA [] s _ ⟨[.ref a], []⟩ [.ref a] [.ref a] _ _ rfl hr e0 (hbind s (.ref a)) (.cons rfl .nil) (hsp _ sq)) fun r s' h => ?_
  cases r with
  | error e =>
    obtain ⟨_, _, _, _, _, _, _, _, _, _, _, _, z⟩ := (show L2.CX PG w [] (scH K a vs ns) s (fun _ _ _ => False) e s' from h)
    exact z.elim
  | ok fl =>
    cases fl with
    | next => exact False.elim h
    | brk => exact False.elim h
    | cont => exact False.elim h
    | ret u =>
      obtain ⟨v, H', os, bare, un, hok', r', q⟩ := h
      have q' : v = .bl true := q
      subst q'
      obtain rfl : u = Value.bool true := r'
      refine ⟨rfl, OldK.of_keep fun b o e => ?_, os, bare⟩
      cases q : scH K a vs ns b with
      | none => exact un.keep b o e q (by intro z; exact absurd (show b ∈ ([] : List Addr) from z) (by simp)) (by simp)
      | some u =>
        obtain ⟨_, _, rfl⟩ := scH_some q
        have h1 := (hok b _ q).1
        have h2 := (hok' b _ (un.frzs b _ _ q)).1
        rw [e] at h1
        cases h1
        exact h2
end K5
set_option Elab.async false
set_option linter.all false
set_option maxRecDepth 100000
set_option maxHeartbeats 4000000
namespace K5
open PySem PySem.Spec PyProof.Rows L2
open TL (tl)
/-! ### _law_forms -/
def formsA : List Str := ["store", "room", "rack", "rate", "wish", "piece", "where"]
def formsB : List Str := ["settle", "breach", "lacking", "new", "rounds", "lot", "undo", "redo"]
def formsW : List Str := formsA ++ formsB
def formOf (w : Str) : Int × Int :=
  if w = "store" then (3, 0) else if w = "room" ∨ w = "rack" ∨ w = "rate" ∨ w = "wish" then (2, 0) else if w = "piece" then (1, 1) else if w = "where" then (1, 0) else (0, 0)
def Entry (K : PySem.W.Frag) (H : Hp) (kv : Key × V) : Prop := ∃ s t, kv.1 = sK s ∧ kv.2 = .ref t ∧ SqT K H t [.int (formOf s).1, .int (formOf s).2]
structure FormsAt (K : PySem.W.Frag) (H : Hp) (D : Addr) (ws : List Str) : Prop where
  ex : ∃ kvs, H D = some (.dK kvs) ∧ kvs.map (·.1) = ws.map sK ∧ ∀ kv ∈ kvs, Entry K H kv
theorem valV_none {kvs : List (Key × V)} {k : Key} (h : k ∉ kvs.map (·.1)) : valV kvs k = none := by
  unfold valV
  rw [Option.map_eq_none_iff, List.find?_eq_none]
  intro kv hkv hd
  exact h (List.mem_map.mpr ⟨kv, hkv, by simpa using hd⟩)
theorem valV_some {kvs : List (Key × V)} {k : Key} (h : k ∈ kvs.map (·.1)) : ∃ kv ∈ kvs, kv.1 = k ∧ valV kvs k = some kv.2 := by
  unfold valV
  cases e : kvs.find? fun kv => decide (kv.1 = k) with
  | none =>
    obtain ⟨kv, hkv, ek⟩ := List.mem_map.mp h
    have := List.find?_eq_none.mp e kv hkv
    simp [ek] at this
  | some kv =>
    have h1 := List.mem_of_find?_eq_some e
    have h2 := List.find?_some e
    exact ⟨kv, h1, by simpa using h2, rfl⟩
theorem forms_nd : formsW.Nodup := by decide +kernel
theorem sK_inj {a b : Str} (h : sK a = sK b) : a = b := Sum.inr.inj h
def spForms (K : PySem.W.Frag) : Sp := fun vs H Q _ => vs = [] ∧ ∀ D H', Same H H' → FormsAt K H' D formsW → Q (.ref D) H'
theorem form_vals : formOf "store" = (3, 0) ∧ formOf "room" = (2, 0) ∧ formOf "rack" = (2, 0) ∧ formOf "rate" = (2, 0) ∧ formOf "wish" = (2, 0) ∧ formOf "piece" = (1, 1) ∧ formOf "where" = (1, 0) := by decide +kernel
theorem form_b : ∀ w ∈ formsB, formOf w = (0, 0) := by decide +kernel
section
variable {w : World} {K : PySem.W.Frag} {mg : Str → Option Value} {base : Heap}
theorem sc__law_forms : FnScope ["_law_forms_here", "_law_word"] [] (defScope s__law_forms) := ⟨rfl, rfl, rfl, by decide +kernel, rfl, by decide +kernel, by decide +kernel⟩
theorem ok__law_forms (T : Top w K mg) : HasF w K mg base 1 "_law_forms" [] (spForms K) := by
  refine .of T (has_ex (k := 0) T 29 (d := dD ("_law_forms", none) "_law_forms" "_law_forms" s__law_forms) rfl sc__law_forms (fun _ => rfl) (fun _ _ _ _ _ _ us hl => match us, hl with | [], _ => rfl) (fun vs H Q E h => ?_) (fun cdv A outer s H vs Q E hr h => ?_))
  · rw [h.1]
    rfl
  · obtain ⟨rfl, q⟩ := h
    have hu := hu_of hr
    refine ⟨_, (pss_cons (ps_set (i := 0) sc__law_forms.nd rfl (Or.inl rfl) (pe_disp (pps_cons pe_str (pe_tup (pa_cons pe_int (pa_cons pe_int pa_nil))) (pps_cons pe_str (pe_tup (pa_cons pe_int (pa_cons pe_int pa_nil))) (pps_cons pe_str (pe_tup (pa_cons pe_int (pa_cons pe_int pa_nil))) (pps_cons pe_str (pe_tup (pa_cons pe_int (pa_cons pe_int pa_nil))) (pps_cons pe_str (pe_tup (pa_cons pe_int (pa_cons pe_int pa_nil))) (pps_cons pe_str (pe_tup (pa_cons pe_int (pa_cons pe_int pa_nil))) (pps_cons pe_str (pe_tup (pa_cons pe_int (pa_cons pe_int pa_nil))) pps_nil))))))) rfl rfl (by simp) (by simp)))
      (pss_cons (ps_for (passes_of rfl) rfl (pi_list (pe_lst (pa_cons pe_str (pa_cons pe_str (pa_cons pe_str (pa_cons pe_str (pa_cons pe_str (pa_cons pe_str (pa_cons pe_str (pa_cons pe_str pa_nil)))))))))) (pg_name (i := 1) sc__law_forms.nd rfl (Or.inl rfl)) (pss_one (ps_dput hu (pv 0) (pv 1) (pe_tup (pa_cons pe_int (pa_cons pe_int pa_nil))) rfl)))
      (pss_one (ps_ret (pv 0))))), ?_⟩
    intro D hD
    refine ⟨by show 2 ≤ sizeLine; decide, fun t1 h1 => ⟨by show 2 ≤ sizeLine; decide, fun t2 h2 => ⟨by show 2 ≤ sizeLine; decide, fun t3 h3 => ⟨by show 2 ≤ sizeLine; decide, fun t4 h4 => ⟨by show 2 ≤ sizeLine; decide, fun t5 h5 => ⟨by show 2 ≤ sizeLine; decide, fun t6 h6 => ⟨by show 2 ≤ sizeLine; decide, fun t7 h7 => ?_⟩⟩⟩⟩⟩⟩⟩
    have s1 := Same.upd_new (o := .tup [.int 3, .int 0]) h1
    have s2 := Same.upd_new (o := .tup [.int 2, .int 0]) h2
    have s3 := Same.upd_new (o := .tup [.int 2, .int 0]) h3
    have s4 := Same.upd_new (o := .tup [.int 2, .int 0]) h4
    have s5 := Same.upd_new (o := .tup [.int 2, .int 0]) h5
    have s6 := Same.upd_new (o := .tup [.int 1, .int 1]) h6
    have s7 := Same.upd_new (o := .tup [.int 1, .int 0]) h7
    have sD := Same.upd_new (o := .dK []) hD
    have s17 := (((((s1.trans s2).trans s3).trans s4).trans s5).trans s6).trans s7
    refine ⟨s17 _ _ upd_same, [(sK "store", .ref t1), (sK "room", .ref t2), (sK "rack", .ref t3), (sK "rate", .ref t4), (sK "wish", .ref t5), (sK "piece", .ref t6), (sK "where", .ref t7)], rfl, (show (7 : Nat) ≤ 15 by decide), ?_⟩
    have eD := s17 D _ (upd_same (H := H) (a := D) (o := .dK []))
    have fr8 : ∀ {H7 : Hp} {o : HO}, FrX [D] H7 (upd H7 D o) := fun {H7 o} => FrX.upd (Same.refl _).fr (by simp)
    have m7 : MuX [D] (upd (upd (upd (upd (upd (upd (upd (upd H D (.dK [])) t1 (.tup [.int 3, .int 0])) t2 (.tup [.int 2, .int 0])) t3 (.tup [.int 2, .int 0])) t4 (.tup [.int 2, .int 0])) t5 (.tup [.int 2, .int 0])) t6 (.tup [.int 1, .int 1])) t7 (.tup [.int 1, .int 0])) := MuX.one eD rfl
    have g1 := fr8 (H7 := (upd (upd (upd (upd (upd (upd (upd (upd H D (.dK [])) t1 (.tup [.int 3, .int 0])) t2 (.tup [.int 2, .int 0])) t3 (.tup [.int 2, .int 0])) t4 (.tup [.int 2, .int 0])) t5 (.tup [.int 2, .int 0])) t6 (.tup [.int 1, .int 1])) t7 (.tup [.int 1, .int 0]))) (o := .dK [(sK "store", .ref t1), (sK "room", .ref t2), (sK "rack", .ref t3), (sK "rate", .ref t4), (sK "wish", .ref t5), (sK "piece", .ref t6), (sK "where", .ref t7)])
    obtain ⟨fs, fr, fk, fe, fw, fp, fh⟩ := form_vals
    have H8 : FormsAt K (upd (upd (upd (upd (upd (upd (upd (upd (upd H D (.dK [])) t1 (.tup [.int 3, .int 0])) t2 (.tup [.int 2, .int 0])) t3 (.tup [.int 2, .int 0])) t4 (.tup [.int 2, .int 0])) t5 (.tup [.int 2, .int 0])) t6 (.tup [.int 1, .int 1])) t7 (.tup [.int 1, .int 0])) D (.dK [(sK "store", .ref t1), (sK "room", .ref t2), (sK "rack", .ref t3), (sK "rate", .ref t4), (sK "wish", .ref t5), (sK "piece", .ref t6), (sK "where", .ref t7)])) D formsA := ⟨_, upd_same (H := upd (upd (upd (upd (upd (upd (upd (upd H D (.dK [])) t1 (.tup [.int 3, .int 0])) t2 (.tup [.int 2, .int 0])) t3 (.tup [.int 2, .int 0])) t4 (.tup [.int 2, .int 0])) t5 (.tup [.int 2, .int 0])) t6 (.tup [.int 1, .int 1])) t7 (.tup [.int 1, .int 0])) (a := D) (o := .dK [(sK "store", .ref t1), (sK "room", .ref t2), (sK "rack", .ref t3), (sK "rate", .ref t4), (sK "wish", .ref t5), (sK "piece", .ref t6), (sK "where", .ref t7)]), rfl, fun kv hkv => by
      simp only [List.mem_cons, List.not_mem_nil, or_false] at hkv
      rcases hkv with rfl | rfl | rfl | rfl | rfl | rfl | rfl
      · exact ⟨"store", t1, rfl, rfl, by rw [fs]; exact g1.sqt m7 (((((((s2.trans s3).trans s4).trans s5).trans s6).trans s7)).sqt (.of upd_same))⟩
      · exact ⟨"room", t2, rfl, rfl, by rw [fr]; exact g1.sqt m7 ((((((s3.trans s4).trans s5).trans s6).trans s7)).sqt (.of upd_same))⟩
      · exact ⟨"rack", t3, rfl, rfl, by rw [fk]; exact g1.sqt m7 (((((s4.trans s5).trans s6).trans s7)).sqt (.of upd_same))⟩
      · exact ⟨"rate", t4, rfl, rfl, by rw [fe]; exact g1.sqt m7 ((((s5.trans s6).trans s7)).sqt (.of upd_same))⟩
      · exact ⟨"wish", t5, rfl, rfl, by rw [fw]; exact g1.sqt m7 (((s6.trans s7)).sqt (.of upd_same))⟩
      · exact ⟨"piece", t6, rfl, rfl, by rw [fp]; exact g1.sqt m7 (s7.sqt (.of upd_same))⟩
      · exact ⟨"where", t7, rfl, rfl, by rw [fh]; exact g1.sqt m7 (.of upd_same)⟩⟩
    have toS : ∀ {H1 : Hp} {o : HO}, Same H H1 → Same H (upd H1 D o) := fun {H1 o} s b u e => by
      rw [upd_ne (ne_of_none e hD)]
      exact s b u e
    have S8 := toS (o := .dK [(sK "store", .ref t1), (sK "room", .ref t2), (sK "rack", .ref t3), (sK "rate", .ref t4), (sK "wish", .ref t5), (sK "piece", .ref t6), (sK "where", .ref t7)]) (sD.trans s17)
    refine ⟨by show 8 ≤ sizeLine; decide, fun F hF => ⟨F, rfl, ⟨_, .of upd_same⟩, ?_⟩⟩
    have sF := Same.upd_new (o := .lst (formsB.map V.str)) hF
    have nFD : F ≠ D := fun e => by rw [e, upd_same] at hF; cases hF
    refine for_list (K := K) (a := F) (xs := formsB.map V.str) (fun i σ H2 => ∃ u1, σ = [some (.ref D), u1] ∧ Same H H2 ∧ H2 F = some (.lst (formsB.map V.str)) ∧ FormsAt K H2 D (formsA ++ formsB.take i)) ⟨none, rfl, S8.trans sF, upd_same, ?_⟩ (fun i σ H2 _ ⟨_, _, _, e, _⟩ => .of e) ?_ ?_
    · obtain ⟨kvs, e, ek, en⟩ := H8.ex
      exact ⟨kvs, sF _ _ e, by simpa using ek, fun kv hkv => let ⟨s, t, h1, h2, h3⟩ := en kv hkv; ⟨s, t, h1, h2, sF.sqt h3⟩⟩
    · rintro i y σ H2 ey ⟨u1, rfl, s2, eF, fo⟩
      obtain ⟨wd, ew, rfl⟩ := map_get ey
      obtain ⟨kvs, e, ek, en⟩ := fo.ex
      have hlen : kvs.length ≤ 15 := by
        have := congrArg List.length ek
        simp [formsA] at this
        have hl : formsB.length = 8 := rfl
        omega
      have nw : sK wd ∉ kvs.map (·.1) := by
        rw [ek]
        intro hm
        obtain ⟨z, hz, ez⟩ := List.mem_map.mp hm
        have ez := sK_inj ez
        subst ez
        have hil : i < formsB.length := (List.getElem?_eq_some_iff.mp ew).1
        have nd := forms_nd
        have e3 : formsW = (formsA ++ formsB.take i) ++ formsB.drop i := by rw [List.append_assoc, List.take_append_drop]; rfl
        rw [e3, List.nodup_append] at nd
        have : z ∈ formsB.drop i := by
          rw [List.drop_eq_getElem_cons hil]
          have := (List.getElem?_eq_some_iff.mp ew).2
          rw [this]
          exact List.mem_cons_self
        exact nd.2.2 z hz z this rfl
      refine ⟨by show 2 ≤ sizeLine; decide, fun t ht => ?_⟩
      have stt := Same.upd_new (o := .tup [.int 0, .int 0]) ht
      refine ⟨_, rfl, _, rfl, D, _, rfl, DPut.k (k := sK wd) (stt _ _ e) (Nat.lt_of_le_of_lt hlen (by rw [sizeLine_eq]; decide)), ?_⟩
      rw [putK_new _ (valV_none nw)]
      have mD : MuX [D] (upd H2 t (.tup [.int 0, .int 0])) := MuX.one (stt _ _ e) rfl
      refine ⟨_, rfl, toS (s2.trans stt), by rw [upd_ne nFD]; exact stt _ _ eF, _, upd_same, ?_, fun kv hkv => ?_⟩
      · rw [List.map_append, ek, List.take_add_one, ew]
        simp
      · rcases List.mem_append.mp hkv with hkv | hkv
        · obtain ⟨s, t', h1, h2, h3⟩ := en kv hkv
          exact ⟨s, t', h1, h2, fr8.sqt mD (stt.sqt h3)⟩
        · rw [List.mem_singleton.mp hkv]
          refine ⟨wd, t, rfl, rfl, ?_⟩
          rw [form_b wd (List.mem_of_getElem? ew)]
          exact fr8.sqt mD (.of upd_same)
    · rintro σ H2 ⟨u1, rfl, s2, eF, fo⟩
      rw [List.length_map, List.take_length] at fo
      exact ⟨_, rfl, q D H2 s2 fo⟩
end
end K5
set_option Elab.async false
set_option linter.all false
set_option maxRecDepth 100000
set_option maxHeartbeats 4000000
namespace K5
open PySem PySem.Spec PyProof.Rows L2
open TL (tl)
/-! ### misformed lines, in plain Lean -/
def BadLine (line : Str) (at_ : Nat) : Prop := ∃ w0 ws ks o, LineIs line w0 ws ∧ Kn w0 ks ∧ OkWords ks ws ∧ toldGo ks ws (w0.length + 1) = .error o ∧ at_ = o.getD line.length
def kindsN (n1 n2 : Nat) : List Str := List.replicate n1 ("integer" : Str) ++ List.replicate n2 ("list" : Str)
def formB (w : Str) : Bool := decide (32 ∉ tl w) && decide (w.length ≤ 30) && decide (0 ≤ (formOf w).1 ∧ (formOf w).1 ≤ 3 ∧ 0 ≤ (formOf w).2 ∧ (formOf w).2 ≤ 1) &&
  (tabN.contains ("DEEDS", w, kindsN (formOf w).1.toNat (formOf w).2.toNat) || (tabN.contains ("QUESTIONS", w, kindsN (formOf w).1.toNat (formOf w).2.toNat) || tabN.contains ("BACKWARD", w, kindsN (formOf w).1.toNat (formOf w).2.toNat)))
theorem form_ok : ∀ w ∈ formsW, formB w = true := by decide +kernel
theorem form_facts {w : Str} (h : w ∈ formsW) : 32 ∉ tl w ∧ w.length ≤ 30 ∧ (0 ≤ (formOf w).1 ∧ (formOf w).1 ≤ 3 ∧ 0 ≤ (formOf w).2 ∧ (formOf w).2 ≤ 1) ∧ Kn w (kindsN (formOf w).1.toNat (formOf w).2.toNat) := by
  have h := form_ok w h
  unfold formB at h
  simp only [Bool.and_eq_true, Bool.or_eq_true, decide_eq_true_eq, List.contains_iff_mem] at h
  obtain ⟨⟨⟨h1, h2⟩, h3⟩, h4⟩ := h
  exact ⟨h1, h2, h3, h4⟩
structure PartsOk (n1 n2 : Nat) (P : List Str) : Prop where
  ex : ∃ P1 : List Str, P = P1 ++ List.replicate n2 ("0,1" : Str) ∧ P1.length = n1 ∧ ∀ x ∈ P1, ∃ n < 4, x = numW n
  b1 : n1 ≤ 3
  b2 : n2 ≤ 1
theorem list01 : valTold "list" "0,1" = some (.lst [0, 1]) ∧ (Txt.split ("0,1" : Str) ",").length < 900 ∧ (∀ p ∈ Txt.split ("0,1" : Str) ",", p.length < 1000) ∧ ("0,1" : Str).length = 3 ∧ 32 ∉ tl ("0,1" : Str) := by decide +kernel
theorem ok01 : OkWord "list" "0,1" := ⟨by rw [list01.2.2.2.1]; decide, .inr ⟨rfl, list01.2.1, list01.2.2.1⟩⟩
theorem Good.app : ∀ {ks xs : List Str} {ys : List VV} {ks2 xs2 : List Str} {ys2 : List VV}, Good ks xs ys → Good ks2 xs2 ys2 → Good (ks ++ ks2) (xs ++ xs2) (ys ++ ys2)
  | [], [], [], _, _, _, _, h => h
  | _ :: _, _ :: _, _ :: _, _, _, _, g, h => ⟨g.1, g.2.1, Good.app g.2.2 h⟩
theorem PartsOk.good {n1 n2 : Nat} {P : List Str} (h : PartsOk n1 n2 P) : ∃ ys, Good (kindsN n1 n2) P ys := by
  obtain ⟨P1, rfl, rfl, hp⟩ := h.ex
  have g1 : ∃ ys, Good (List.replicate P1.length ("integer" : Str)) P1 ys := by
    clear h
    induction P1 with
    | nil => exact ⟨[], trivial⟩
    | cons x P1 ih =>
      obtain ⟨ys, g⟩ := ih fun y hy => hp y (List.mem_cons_of_mem _ hy)
      obtain ⟨n, hn, rfl⟩ := hp x (by simp)
      have := good_int (n := n) (by omega)
      exact ⟨.int n :: ys, this.1, this.2, g⟩
  have g2 : ∀ m, ∃ ys, Good (List.replicate m ("list" : Str)) (List.replicate m ("0,1" : Str)) ys := by
    intro m
    induction m with
    | zero => exact ⟨[], trivial⟩
    | succ m ih =>
      obtain ⟨ys, g⟩ := ih
      exact ⟨.lst [0, 1] :: ys, list01.1, ok01, g⟩
  obtain ⟨ys, g⟩ := g1
  obtain ⟨zs, g'⟩ := g2 n2
  exact ⟨ys ++ zs, g.app g'⟩
theorem PartsOk.each {n1 n2 : Nat} {P : List Str} (h : PartsOk n1 n2 P) : (∀ x ∈ P, 32 ∉ tl x ∧ x.length ≤ 3) ∧ P.length = n1 + n2 := by
  obtain ⟨P1, rfl, rfl, hp⟩ := h.ex
  refine ⟨fun x hx => ?_, by simp⟩
  rcases List.mem_append.mp hx with hx | hx
  · obtain ⟨n, hn, rfl⟩ := hp x hx
    exact ⟨numW_sp (by omega), numW_len (by omega)⟩
  · rw [(List.mem_replicate.mp hx).2]
    exact ⟨list01.2.2.2.2, by rw [list01.2.2.2.1]; decide⟩
theorem Good.split : ∀ {ks xs : List Str} {ys : List VV} (c : Nat), Good ks xs ys → Good (ks.take c) (xs.take c) (ys.take c)
  | [], [], [], c, _ => by simp [Good]
  | k :: ks, x :: xs, y :: ys, 0, _ => trivial
  | k :: ks, x :: xs, y :: ys, c + 1, g => ⟨g.1, g.2.1, Good.split c g.2.2⟩
theorem mis_lack {w : Str} {n1 n2 c : Nat} {P : List Str} (hw : w ∈ formsW) (hn : formOf w = ((n1 : Int), (n2 : Int))) (hp : PartsOk n1 n2 P) (hc : c < P.length) : BadLine (J (w :: P.take c)) (J (w :: P.take c)).length := by
  obtain ⟨f1, f2, f3, f4⟩ := form_facts hw
  rw [hn] at f4
  obtain ⟨ys, g⟩ := hp.good
  obtain ⟨e1, e2⟩ := hp.each
  have gl := g.len
  have h1 : n1 ≤ 3 := hp.b1
  have h2 : n2 ≤ 1 := hp.b2
  have L := lineIs (ws := P.take c) f1 (fun x hx => (e1 x (List.mem_of_mem_take hx)).1) f2 (fun x hx => by have := (e1 x (List.mem_of_mem_take hx)).2; omega) (by rw [List.length_take]; omega)
  have ek : kindsN n1 n2 = (kindsN n1 n2).take c ++ (kindsN n1 n2)[c]'(by omega) :: (kindsN n1 n2).drop (c + 1) := by rw [← List.drop_eq_getElem_cons, List.take_append_drop]
  refine ⟨w, P.take c, kindsN n1 n2, none, L, f4, ?_, ?_, rfl⟩
  · rw [ek]
    have := okWords_pre (ks2 := (kindsN n1 n2)[c]'(by omega) :: (kindsN n1 n2).drop (c + 1)) (rest := []) (g.split c) trivial
    rwa [List.append_nil] at this
  · rw [ek]
    exact told_lack (g.split c)
theorem mis_wrong {w x : Str} {n1 n2 c : Nat} {P : List Str} (hw : w ∈ formsW) (hn : formOf w = ((n1 : Int), (n2 : Int))) (hp : PartsOk n1 n2 P) (hc : c < P.length) (hx : ∀ k, (kindsN n1 n2)[c]? = some k → valTold k x = none ∧ OkWord k x) (xs : 32 ∉ tl x) (xl : x.length ≤ 10) :
    BadLine (J (w :: P.set c x)) ((J (w :: P.take c)).length + 1) := by
  obtain ⟨f1, f2, f3, f4⟩ := form_facts hw
  rw [hn] at f4
  obtain ⟨ys, g⟩ := hp.good
  obtain ⟨e1, e2⟩ := hp.each
  have gl := g.len
  have h1 : n1 ≤ 3 := hp.b1
  have h2 : n2 ≤ 1 := hp.b2
  have es : P.set c x = P.take c ++ x :: P.drop (c + 1) := List.set_eq_take_append_cons_drop .. |>.trans (by rw [if_pos hc])
  have L := lineIs (ws := P.set c x) f1 (fun y hy => by rcases List.mem_or_eq_of_mem_set hy with hy | rfl; exact (e1 y hy).1; exact xs) f2 (fun y hy => by rcases List.mem_or_eq_of_mem_set hy with hy | rfl; (have := (e1 y hy).2; omega); omega) (by rw [List.length_set]; omega)
  have ek : kindsN n1 n2 = (kindsN n1 n2).take c ++ (kindsN n1 n2)[c]'(by omega) :: (kindsN n1 n2).drop (c + 1) := by rw [← List.drop_eq_getElem_cons, List.take_append_drop]
  have hk := hx ((kindsN n1 n2)[c]'(by omega)) (by simp)
  refine ⟨w, P.set c x, kindsN n1 n2, some (adv (w.length + 1) (P.take c)), L, f4, ?_, ?_, by rw [J_len]; rfl⟩
  · rw [ek, es]
    refine okWords_pre (g.split c) ⟨hk.2, ?_⟩
    have : ∀ {ks xs : List Str} {ys : List VV} (c : Nat), Good ks xs ys → OkWords (ks.drop c) (xs.drop c) := by
      intro ks
      induction ks with
      | nil => intro xs ys c g; simp [OkWords]
      | cons k ks ih =>
        intro xs ys c g
        cases xs with
        | nil => simp [Good] at g
        | cons x xs =>
          cases ys with
          | nil => simp [Good] at g
          | cons y ys =>
            cases c with
            | zero => exact okWords_ok g
            | succ c => exact ih c g.2.2
    exact this (c + 1) g
  · rw [ek, es]
    exact told_bad (g.split c) hk.1
theorem mis_more {w x : Str} {n1 n2 : Nat} {P rest : List Str} {line : Str} (hw : w ∈ formsW) (hn : formOf w = ((n1 : Int), (n2 : Int))) (hp : PartsOk n1 n2 P) (e : line = J (w :: (P ++ x :: rest))) (hr : ∀ y ∈ x :: rest, 32 ∉ tl y ∧ y.length ≤ 10) (hl : rest.length ≤ 2) :
    BadLine line ((J (w :: P)).length + 1) := by
  subst e
  obtain ⟨f1, f2, f3, f4⟩ := form_facts hw
  rw [hn] at f4
  obtain ⟨ys, g⟩ := hp.good
  obtain ⟨e1, e2⟩ := hp.each
  have h1 : n1 ≤ 3 := hp.b1
  have h2 : n2 ≤ 1 := hp.b2
  have L := lineIs (ws := P ++ x :: rest) f1 (fun y hy => by rcases List.mem_append.mp hy with hy | hy; exact (e1 y hy).1; exact (hr y hy).1) f2 (fun y hy => by rcases List.mem_append.mp hy with hy | hy; (have := (e1 y hy).2; omega); (have := (hr y hy).2; omega)) (by rw [List.length_append, List.length_cons]; omega)
  refine ⟨w, P ++ x :: rest, kindsN n1 n2, some (adv (w.length + 1) P), L, f4, ?_, told_more g, by rw [J_len]; rfl⟩
  have := okWords_pre (ks2 := []) (rest := x :: rest) g trivial
  rwa [List.append_nil] at this
def wrongA : List Str := ["", "x", "+1", "-1", "01", "100", "1.", "0,", ",1", "-"]
theorem wrong_ok : ∀ x ∈ wrongA ++ [("0,1" : Str)], (intTold x).isNone = true ∧ x.length ≤ 10 ∧ 32 ∉ tl x ∧ (Txt.split x ",").length < 900 ∧ (Txt.split x ",").all (fun p => decide (p.length < 1000)) = true := by decide +kernel
theorem wrong_lst : ∀ x ∈ wrongA, (listTold x).isNone = true := by decide +kernel
end K5
set_option Elab.async false
set_option linter.all false
set_option maxRecDepth 100000
set_option maxHeartbeats 4000000
namespace K5
open PySem PySem.Spec PyProof.Rows L2
open TL (tl)
/-! ### _law_misformed -/
def spMis (K : PySem.W.Frag) : Sp := fun vs H Q _ => ∃ p l : Addr, vs = [.ref p] ∧ TapeAt K H p l ∧ ∀ a line at_ H', FrX [p] H H' → TapeAt K H' p l → SqT K H' a [.str line, .int (at_ : Nat)] → BadLine line at_ → Q (.ref a) H'
def PM (K : PySem.W.Frag) (Q : VK) (p l : Addr) (H : Hp) : TS := fun D σ H1 => D.rt = Q ∧ ∃ (n1 n2 : Nat) (wd : Str) (Pa : Addr) (P : List Str) (kd : Int) (u1 u7 u8 u9 u10 u11 : Option V),
  σ = [some (.ref p), u1, some (.str wd), some (.int (n1 : Nat)), some (.int (n2 : Nat)), some (.ref Pa), some (.int kd), u7, u8, u9, u10, u11] ∧ wd ∈ formsW ∧ formOf wd = ((n1 : Int), (n2 : Int)) ∧ FrX [p] H H1 ∧ TapeAt K H1 p l ∧ H1 Pa = some (.lst (P.map V.str)) ∧ PartsOk n1 n2 P ∧ H Pa = none
section
variable {X : Cx} {a : Expr} {ta : TE} {p pos : Pos}
theorem pe_listD (T : Top X.w X.K X.mg) (ha : PE X a ta) (hc : X.calm = true := by rfl) (hg : Gl X "list" := by rfl) (h1 : starEach [a] X.env = (false, eval a X.env) :: starEach [] X.env := by rfl) (hpl : (backTo pos (starEach [] X.env)).any (·.1) = false := by rfl) :
    PE X (.Call (.Name "list" p) [a] [] pos) (tCB rListD (tCons ta tNil)) := pe_callTy (call_list_dK hc) hg (T.free _ (by decide +kernel)) boots.2.2.2.2.2.2.1 (pa_cons ha pa_nil h1) (by decide) (by decide) h1 hpl
theorem pe_sortS (T : Top X.w X.K X.mg) (ha : PE X a ta) (hg : Gl X "sorted" := by rfl) (h1 : starEach [a] X.env = (false, eval a X.env) :: starEach [] X.env := by rfl) (hpl : (backTo pos (starEach [] X.env)).any (·.1) = false := by rfl) :
    PE X (.Call (.Name "sorted" p) [a] [] pos) (tCB (rSortedS X.K) (tCons ta tNil)) := pe_callB cr_sortedS hg (T.free _ (by decide +kernel)) boots.2.2.2.2.2.2.2.2.1 (pa_cons ha pa_nil h1) (by decide) (by decide) h1 hpl
end
def strOkB (x : Str) : Bool := x.cps.all (· < 0x110000)
theorem sh_strs {ds : List Str} (h : ∀ x ∈ ds, strOkB x = true) : SeqAt.shaped (.list (ds.map .str)) = true := by
  have h1 : PyData.canLayAll0 (ds.map .str) = true := by
    induction ds with
    | nil => rfl
    | cons d ds ih =>
      show (strOkB d && PyData.canLayAll0 (ds.map .str)) = true
      rw [h d (by simp), ih fun x hx => h x (List.mem_cons_of_mem _ hx)]; rfl
  have h2 : ∀ ds : List Str, PyData.depthAll (ds.map .str) = 0 := by
    intro ds
    induction ds with
    | nil => rfl
    | cons d ds ih => show max 0 (PyData.depthAll (ds.map .str)) = 0; rw [ih]; rfl
  show (PyData.canLayAll0 (ds.map .str) && decide (PyData.depthAll (ds.map .str) + 1 ≤ 64)) = true
  rw [h1, h2]; rfl
theorem dp_strs {K : PySem.W.Frag} {H : Hp} : ∀ ds : List Str, DpAll K H (ds.map V.str) (ds.map .str)
  | [] => .nil
  | d :: ds => .cons (.str d) (dp_strs ds)
theorem num_strOk : ∀ n : Nat, n < 200 → strOkB (sL (TL.numL n)) = true := by decide +kernel
theorem PartsOk.sok {n1 n2 : Nat} {P : List Str} (h : PartsOk n1 n2 P) : ∀ x ∈ P, strOkB x = true := by
  obtain ⟨P1, rfl, rfl, hp⟩ := h.ex
  intro x hx
  rcases List.mem_append.mp hx with hx | hx
  · obtain ⟨n, hn, rfl⟩ := hp x hx
    rw [numW_S]
    exact num_strOk n (by omega)
  · rw [(List.mem_replicate.mp hx).2]
    decide +kernel
theorem eqv_nil (ds : List Str) : PyData.eqv (.list (ds.map .str)) (.list []) = ds.isEmpty := by cases ds <;> rfl
theorem J_sum {ws : List Str} (h : ∀ x ∈ ws, x.length ≤ 40) : (ws.map (·.length)).sum ≤ 40 * ws.length := by
  induction ws with
  | nil => simp
  | cons x ws ih =>
    have h1 := h x (by simp)
    have h2 := ih fun y hy => h y (List.mem_cons_of_mem _ hy)
    simp only [List.map_cons, List.sum_cons, List.length_cons]
    omega
theorem ixc {n : Nat} {c : Int} (h : 0 ≤ c ∧ c < n ∨ c.toNat < n ∧ 0 ≤ c) : ixN n c = some c.toNat := by
  unfold ixN
  rw [if_pos (by omega), if_pos (by omega)]
theorem J_sp2 (ws : List Str) : J (ws ++ ([" "] : List Str)) = J (ws ++ (["", ""] : List Str)) := by
  refine TL.ext_tl ?_
  rw [tl_J, tl_J, List.map_append, List.map_append]
  generalize ws.map tl = l
  have e1 : ([" "] : List Str).map tl = [[32]] := rfl
  have e2 : (["", ""] : List Str).map tl = [[], []] := rfl
  rw [e1, e2]
  induction l with
  | nil => rfl
  | cons x l ih =>
    cases l with
    | nil => rfl
    | cons y l =>
      show x ++ ([32] ++ TL.joinL [32] (y :: l ++ [[32]])) = x ++ ([32] ++ TL.joinL [32] (y :: l ++ [[], []]))
      rw [ih]
section
variable {w : World} {K : PySem.W.Frag} {mg : Str → Option Value} {base : Heap}
theorem sc__law_misformed : FnScope ["_law_tape_here", "_law_forms_here", "_law_word", "_law_integers", "_law_lists", "_law_parts", "_law_kind", "_law_line_here", "_law_at", "_law_wrong", "_law_more", "_law_k"] ["_law_tape_here"] (defScope s__law_misformed) := ⟨rfl, rfl, rfl, by decide +kernel, rfl, by decide +kernel, by decide +kernel⟩
theorem ok__law_misformed (T : Top w K mg) : HasF w K mg base 4 "_law_misformed" ["_law_tape_here"] (spMis K) := by
  refine .of T (has_ex (k := 3) T 30 (d := dD ("_law_misformed", none) "_law_misformed" "_law_misformed" s__law_misformed) rfl sc__law_misformed (fun _ => rfl) (fun _ _ _ _ _ _ us hl => match us, hl with | [_], _ => rfl) (fun vs H Q E h => ?_) (fun cdv A outer s H vs Q E hr h => ?_))
  · obtain ⟨p, l, rfl, _⟩ := h
    rfl
  · obtain ⟨p, l, rfl, ht, q⟩ := h
    have hu := hu_of hr
    have hv := hr.units
    have nmp : ∀ {H1 : Hp} {b : Addr} {xs : List V}, TapeAt K H1 p l → H1 b = some (.lst xs) → b ∉ [p] := fun {H1 b xs} t e => by
      obtain ⟨⟨_, _, _, _, _, e2, _⟩, _⟩ := t
      simp
      exact ne_of e e2 (by intro z; cases z)
    refine ⟨_, (pss_cons (ps_set (i := 1) sc__law_misformed.nd rfl (Or.inl rfl) (pe_fn_0 (ok__law_forms T) rfl hr (by omega)))
      (pss_cons (ps_set (i := 2) sc__law_misformed.nd rfl (Or.inl rfl) (pe_fn (ok__law_pick T) rfl hr (by omega) (pa_cons (pv 0) (pa_cons (pe_sortS T (pe_listD T (pv 1))) pa_nil))))
      (pss_cons (ps_asg (pe_dget hu (pv 1) (pv 2) (fun _ _ => rfl)) (pg_tup rfl (pgs_cons (pg_name (i := 3) sc__law_misformed.nd rfl (Or.inl rfl)) (pgs_cons (pg_name (i := 4) sc__law_misformed.nd rfl (Or.inl rfl)) pgs_nil))))
      (pss_cons (ps_set (i := 5) sc__law_misformed.nd rfl (Or.inl rfl) (pe_op op_cat (pe_lc (own := [("_law_k", 11)]) (g := gName 11) (tt := tYes) rfl sc__law_misformed.nd (pi_range1 rfl (T.free _ (by decide +kernel)) (pa_cons (pv 3) pa_nil)) (blkOk_by (N := ["_law_tape_here", "_law_forms_here", "_law_word", "_law_integers", "_law_lists", "_law_parts", "_law_kind", "_law_line_here", "_law_at", "_law_wrong", "_law_more", "_law_k"]) (sc := defScope s__law_misformed) (by decide +kernel)) (fun _ _ _ _ _ => (pg_name (i := 11) sc__law_misformed.nd rfl (Or.inl rfl))) (fun _ _ _ _ _ => pts_nil) (fun _ _ _ _ _ => (pe_strN T (pe_fn (ok__law_draw T) rfl hr (by omega) (pa_cons (pv 0) (pa_cons pe_int pa_nil)))))) (pe_lc (own := [("_law_k", 11)]) (g := gName 11) (tt := tYes) rfl sc__law_misformed.nd (pi_range1 rfl (T.free _ (by decide +kernel)) (pa_cons (pv 4) pa_nil)) (blkOk_by (N := ["_law_tape_here", "_law_forms_here", "_law_word", "_law_integers", "_law_lists", "_law_parts", "_law_kind", "_law_line_here", "_law_at", "_law_wrong", "_law_more", "_law_k"]) (sc := defScope s__law_misformed) (by decide +kernel)) (fun _ _ _ _ _ => (pg_name (i := 11) sc__law_misformed.nd rfl (Or.inl rfl))) (fun _ _ _ _ _ => pts_nil) (fun _ _ _ _ _ => pe_str))))
      (pss_cons (ps_set (i := 6) sc__law_misformed.nd rfl (Or.inl rfl) (pe_fn (ok__law_draw T) rfl hr (by omega) (pa_cons (pv 0) (pa_cons pe_int pa_nil))))
      (pss_by (PM K Q p l H) (pss_cons (ps_if (PW.pt (pw_and (pt_cmpR op_eq (pv 6) pe_int (nomark _)) (pw_and1 (pt_cmpR (op_neD hv) (pv 5) (pe_lst pa_nil) (nomark _))))) (pss_cons (ps_set (i := 7) sc__law_misformed.nd rfl (Or.inl rfl) (pe_join pe_str (pe_op op_cat (pe_lst (pa_cons (pv 2) pa_nil)) (pe_slice sl_list (pv 5) po_none (po_some (pe_fn (ok__law_draw T) rfl hr (by omega) (pa_cons (pv 0) (pa_cons (pe_len T (pv 5)) pa_nil))))))))
      (pss_one (ps_ret (pe_tup (pa_cons (pv 7) (pa_cons (pe_lenS T (pv 7)) pa_nil)))))) pss_nil)
      (pss_by (PM K Q p l H) (pss_cons (ps_if (PW.pt (pw_and (pt_cmpR op_eq (pv 6) pe_int (nomark _)) (pw_and1 (pt_cmpR (op_neD hv) (pv 5) (pe_lst pa_nil) (nomark _))))) (pss_cons (ps_set (i := 8) sc__law_misformed.nd rfl (Or.inl rfl) (pe_fn (ok__law_draw T) rfl hr (by omega) (pa_cons (pv 0) (pa_cons (pe_len T (pv 5)) pa_nil))))
      (pss_cons (ps_set (i := 9) sc__law_misformed.nd rfl (Or.inl rfl) (pe_lst (pa_cons pe_str (pa_cons pe_str (pa_cons pe_str (pa_cons pe_str (pa_cons pe_str (pa_cons pe_str (pa_cons pe_str (pa_cons pe_str (pa_cons pe_str (pa_cons pe_str pa_nil))))))))))))
      (pss_cons (ps_if (pt_cmpR op_lt (pv 8) (pv 3) (nomark _)) (pss_one (ps_set (i := 9) sc__law_misformed.nd rfl (Or.inl rfl) (pe_op op_cat (pv 9) (pe_lst (pa_cons pe_str pa_nil))))) pss_nil)
      (pss_cons (ps_asg (pe_fn (ok__law_pick T) rfl hr (by omega) (pa_cons (pv 0) (pa_cons (pv 9) pa_nil))) (pg_sub (pv 5) (pv 8) set_list))
      (pss_one (ps_ret (pe_tup (pa_cons (pe_join pe_str (pe_op op_cat (pe_lst (pa_cons (pv 2) pa_nil)) (pv 5))) (pa_cons (pe_op op_add (pe_lenS T (pe_join pe_str (pe_op op_cat (pe_lst (pa_cons (pv 2) pa_nil)) (pe_slice sl_list (pv 5) po_none (po_some (pv 8)))))) pe_int) pa_nil))))))))) pss_nil)
      (pss_by (PM K Q p l H) (pss_cons (ps_set (i := 10) sc__law_misformed.nd rfl (Or.inl rfl) (pe_fn (ok__law_pick T) rfl hr (by omega) (pa_cons (pv 0) (pa_cons (pe_lst (pa_cons pe_str (pa_cons pe_str (pa_cons pe_str (pa_cons pe_str pa_nil))))) pa_nil))))
      (pss_one (ps_ret (pe_tup (pa_cons (pe_join pe_str (pe_op op_cat (pe_op op_cat (pe_lst (pa_cons (pv 2) pa_nil)) (pv 5)) (pe_lst (pa_cons (pv 10) pa_nil)))) (pa_cons (pe_op op_add (pe_lenS T (pe_join pe_str (pe_op op_cat (pe_lst (pa_cons (pv 2) pa_nil)) (pv 5)))) pe_int) pa_nil)))))) ?p7)) ?p6)) ?p5)))))), ?_⟩
    case refine_2 =>
      refine ⟨rfl, fun D H1 s1 fo => ?_⟩
      obtain ⟨kvs, eD, ek, en⟩ := fo.ex
      have t1 := ht.same s1
      have nDp : D ∉ [p] := by
        obtain ⟨⟨_, _, _, _, _, e2, _⟩, _⟩ := t1
        simp
        intro z
        rw [z, e2] at eD
        have ek' := ek
        cases eD
        have hh : some (sK "cells") = some (sK "store") := congrArg List.head? ek'
        exact absurd (sK_inj (Option.some.inj hh)) (by decide +kernel)
      have e3 : kvs.map (fun kv => kV kv.1) = formsW.map V.str := by
        have : kvs.map (fun kv => kV kv.1) = (kvs.map (·.1)).map kV := by rw [List.map_map]; rfl
        rw [this, ek, List.map_map]
        rfl
      refine ⟨_, rfl, _, rfl, D, kvs, rfl, eD, fun L hL => ?_⟩
      rw [e3]
      have sL := Same.upd_new (o := .lst (formsW.map V.str)) hL
      refine ⟨L, formsW, rfl, .of upd_same, (show (15 : Nat) < 64 by decide), fun ys S1 perm _ hS => ?_⟩
      have sS := Same.upd_new (o := .lst (ys.map V.str)) hS
      have yne : ys.map V.str ≠ [] := fun e => by
        have := perm.length_eq
        have h0 : ys = [] := by simpa using e
        rw [h0] at this
        cases this
      refine ⟨p, l, S1, ys.map V.str, rfl, (t1.same sL).same sS, .inl (.of upd_same), yne, fun i x H2 ex f2 t2 => ?_⟩
      obtain ⟨wd, ew, rfl⟩ := map_get ex
      have hwd : wd ∈ formsW := perm.mem_iff.mp (List.mem_of_getElem? ew)
      obtain ⟨f1, f2', f3, f4⟩ := form_facts hwd
      have f02 : FrX [p] H H2 := ((s1.trans sL).trans sS).fr.trans f2
      have g12 : FrX [p] H1 H2 := (sL.trans sS).fr.trans f2
      have m1 := t1.md.mu
      obtain ⟨kv, hkv, e5, e6⟩ := valV_some (kvs := kvs) (k := sK wd) (by rw [ek]; exact List.mem_map.mpr ⟨wd, hwd, rfl⟩)
      obtain ⟨s, tt, h1, h2, h3⟩ := en kv hkv
      have es : s = wd := sK_inj (h1.symm.trans e5)
      subst es
      have hn : formOf s = (((formOf s).1.toNat : Int), ((formOf s).2.toNat : Int)) := by
        refine Prod.ext ?_ ?_ <;> simp <;> omega
      have c1 : (((formOf s).1.toNat : Nat) : Int) = (formOf s).1 := by omega
      have c2 : (((formOf s).2.toNat : Nat) : Int) = (formOf s).2 := by omega
      rw [← c1, ← c2] at h3
      have dg : DGet H2 D (.str s) (some (.ref tt)) := by
        have := DGet.k (k := sK s) (g12 _ _ nDp eD)
        rw [e6, h2] at this
        exact this
      refine ⟨_, rfl, _, rfl, D, _, rfl, dg, tt, _, rfl, g12.sqt m1 h3, rfl, _, _, rfl, _, _, rfl, rfl, ?_⟩
      -- parts
      refine ⟨_, rfl, _, rfl, by omega, by omega, fun D1 hD1 => ?_⟩
      obtain ⟨nd1, nd2⟩ := t2.new hD1
      have cn : (((formOf s).1.toNat : Nat) : Int).toNat = (formOf s).1.toNat := by omega
      refine lc_gen (n := (((formOf s).1.toNat : Nat) : Int).toNat) walk_range [p] (fun H => TapeAt K H p l) (fun j acc _ => ∃ P1 : List Str, acc = P1.map V.str ∧ P1.length = j ∧ ∀ x ∈ P1, ∃ n < 4, x = numW n) hD1 (by simpa using nd1) (by omega) (fun H o h => h.upd nd1 nd2) (fun _ _ _ _ _ _ h => h) t2 ⟨[], rfl, rfl, fun x hx => by simp at hx⟩ (fun _ _ _ => trivial) ?_ ?_
      · rintro j x H3 H4 acc N1 N0 hj f3' t3 _ ⟨P1, rfl, hl, hp⟩ ⟨rfl, rfl⟩ k1 k0
        refine ⟨rfl, yesT ⟨_, rfl, p, l, 4, rfl, by decide, t3, fun v H5 v0 v1 f5 t5 => ⟨_, rfl, log_ok v0 (by omega), ?_⟩⟩⟩
        rw [num_cast v0]
        refine k1 _ H5 f5 t5 ⟨P1 ++ [numW v.toNat], by simp, by simp [hl], fun x hx => ?_⟩
        rcases List.mem_append.mp hx with hx | hx
        · exact hp x hx
        · exact ⟨v.toNat, by omega, List.mem_singleton.mp hx⟩
      rintro H3 acc f3' t3 e3' ⟨P1, rfl, hl, hp⟩
      rw [cn] at hl
      refine ⟨_, rfl, _, rfl, by omega, by omega, fun D2 hD2 => ?_⟩
      have cm : (((formOf s).2.toNat : Nat) : Int).toNat = (formOf s).2.toNat := by omega
      refine lc_vals (n := (((formOf s).2.toNat : Nat) : Int).toNat) walk_range ((List.replicate (formOf s).2.toNat ("0,1" : Str)).map V.str) (by rw [List.length_map, List.length_replicate, cm]) hD2 (by omega) (fun _ _ => trivial) ?_ ?_
      · rintro j x z H4 H5 N1 N0 ez s4 ⟨rfl, rfl⟩ kk
        obtain ⟨zz, e7, rfl⟩ := map_get ez
        have : zz = "0,1" := (List.mem_replicate.mp (List.mem_of_getElem? e7)).2
        subst this
        exact ⟨rfl, yesT (kk _ (Same.refl _))⟩
      intro H4 s4 e4
      refine ⟨D1, D2, _, _, rfl, rfl, s4 _ _ e3', e4, sl_small (by simp; omega), fun Pa hPa => ?_⟩
      have sP := Same.upd_new (o := .lst (P1.map V.str ++ (List.replicate (formOf s).2.toNat ("0,1" : Str)).map V.str)) hPa
      have t4 := (t3.same s4).same sP
      refine ⟨_, rfl, p, l, 3, rfl, by decide, t4, fun kd H5 k0 k1 f5 t5 => ?_⟩
      refine ⟨rfl, (formOf s).1.toNat, (formOf s).2.toNat, s, Pa, P1 ++ List.replicate (formOf s).2.toNat ("0,1" : Str), kd, _, _, _, _, _, _, rfl, hwd, hn, ((f02.trans f3').trans (s4.trans sP).fr).trans f5, t5, f5 _ _ (nmp t4 upd_same) (by rw [upd_same, List.map_append]), ⟨⟨P1, rfl, hl, hp⟩, by omega, by omega⟩, (f02.trans f3').free t3.md (s4.free hPa)⟩
    case p5 =>
      rintro D σ H1 ⟨hD, n1, n2, wd, Pa, P, kd, u1, u7, u8, u9, u10, u11, rfl, hwd, hn, f1, t1, eP, hp, hPn⟩
      have self : PM K Q p l H D [some (.ref p), u1, some (.str wd), some (.int (n1 : Nat)), some (.int (n2 : Nat)), some (.ref Pa), some (.int kd), u7, u8, u9, u10, u11] H1 := ⟨hD, n1, n2, wd, Pa, P, kd, u1, u7, u8, u9, u10, u11, rfl, hwd, hn, f1, t1, eP, hp, hPn⟩
      have each := hp.each
      have b1 := hp.b1
      have b2 := hp.b2
      obtain ⟨fw1, fw2, _, _⟩ := form_facts hwd
      refine ⟨_, rfl, rfl, _, rfl, ?_⟩
      refine ite2 (fun _ => ?_) (fun _ => iteF self)
      refine ⟨_, rfl, by show 0 ≤ sizeLine; decide, fun e0 he0 => ?_⟩
      have s0 := Same.upd_new (o := .lst []) he0
      refine ⟨.list (P.map .str), .list [], .lst (.of (s0 _ _ eP)) (dp_strs P), .lst (.of upd_same) .nil, sh_strs hp.sok, rfl, _, rfl, ?_⟩
      rw [eqv_nil]
      have t0 := t1.same s0
      have selfE : PM K Q p l H D [some (.ref p), u1, some (.str wd), some (.int (n1 : Nat)), some (.int (n2 : Nat)), some (.ref Pa), some (.int kd), u7, u8, u9, u10, u11] (upd H1 e0 (.lst [])) := ⟨hD, n1, n2, wd, Pa, P, kd, u1, u7, u8, u9, u10, u11, rfl, hwd, hn, f1.trans s0.fr, t0, s0 _ _ eP, hp, hPn⟩
      cases hne : P.isEmpty with
      | true => exact iteF selfE
      | false =>
        refine iteT ?_
        have hpos : 0 < P.length := by
          cases P with
          | nil => cases hne
          | cons x P => simp
        refine ⟨⟨_, rfl⟩, _, rfl, by show 1 ≤ sizeLine; decide, fun w0 hw0 => ?_⟩
        have sw := Same.upd_new (o := .lst [.str wd]) hw0
        have tw := t0.same sw
        have ePw := sw _ _ (s0 _ _ eP)
        refine ⟨_, rfl, ?_⟩
        refine nopart ?_
        refine ⟨_, rfl, _, rfl, _, _, rfl, .inl (.of ePw), p, l, _, rfl, by rw [List.length_map]; omega, tw, fun c H2 c0 c1 f2 t2 => ?_⟩
        rw [List.length_map] at c1
        have eP2 := f2 _ _ (nmp tw ePw) ePw
        have ew2 := f2 _ _ (nmp tw upd_same) (upd_same (H := upd H1 e0 (.lst [])) (a := w0) (o := .lst [.str wd]))
        have hc : c = ((c.toNat : Nat) : Int) := by omega
        refine ⟨c, rfl, Pa, _, rfl, .of eP2, fun z hz => ?_⟩
        have ez : cutV (P.map V.str) none (some c) = (P.take c.toNat).map V.str := by
          conv => lhs; rw [hc]
          rw [cut_to, List.map_take]
        rw [ez]
        have sz := Same.upd_new (o := .lst ((P.take c.toNat).map V.str)) hz
        refine ⟨w0, z, [.str wd], _, rfl, rfl, sz _ _ ew2, upd_same, sl_small (by simp; omega), fun y hy => ?_⟩
        have sy := Same.upd_new (o := .lst ([.str wd] ++ (P.take c.toNat).map V.str)) hy
        have hs : ∀ x ∈ wd :: P.take c.toNat, x.length ≤ 40 := fun x hx => by
          rcases List.mem_cons.mp hx with rfl | hx
          · omega
          · have := (each.1 x (List.mem_of_mem_take hx)).2; omega
        have hsum := J_sum hs
        have hlen : (wd :: P.take c.toNat).length ≤ 5 := by rw [List.length_cons, List.length_take]; omega
        refine ⟨_, y, wd :: P.take c.toNat, rfl, rfl, .inl (.of upd_same), ?_, ?_⟩
        · show _ + (wd :: P.take c.toNat).length * 1 ≤ 16777216
          omega
        have bad := mis_lack hwd hn hp (c := c.toNat) (by omega)
        have hJ : (J (wd :: P.take c.toNat)).length ≤ sizeLine := by
          obtain ⟨_, _, _, _, L, _⟩ := bad
          exact sl_small (by have := L.l; omega)
        refine ⟨_, rfl, _, rfl, J (wd :: P.take c.toNat), rfl, hJ, by show 2 ≤ sizeLine; decide, fun a ha => ?_⟩
        show D.rt _ _
        rw [hD]
        have sa := Same.upd_new (o := .tup [.str (J (wd :: P.take c.toNat)), .int ((J (wd :: P.take c.toNat)).length : Nat)]) ha
        exact q a _ _ _ ((((f1.trans s0.fr).trans sw.fr).trans f2).trans ((sz.trans sy).trans sa).fr) (((t2.same sz).same sy).same sa) (.of upd_same) bad
    case p6 =>
      rintro D σ H1 ⟨hD, n1, n2, wd, Pa, P, kd, u1, u7, u8, u9, u10, u11, rfl, hwd, hn, f1, t1, eP, hp, hPn⟩
      have self : PM K Q p l H D [some (.ref p), u1, some (.str wd), some (.int (n1 : Nat)), some (.int (n2 : Nat)), some (.ref Pa), some (.int kd), u7, u8, u9, u10, u11] H1 := ⟨hD, n1, n2, wd, Pa, P, kd, u1, u7, u8, u9, u10, u11, rfl, hwd, hn, f1, t1, eP, hp, hPn⟩
      have each := hp.each
      have b1 := hp.b1
      have b2 := hp.b2
      obtain ⟨fw1, fw2, _, _⟩ := form_facts hwd
      refine ⟨_, rfl, rfl, _, rfl, ?_⟩
      refine ite2 (fun _ => ?_) (fun _ => iteF self)
      refine ⟨_, rfl, by show 0 ≤ sizeLine; decide, fun e0 he0 => ?_⟩
      have s0 := Same.upd_new (o := .lst []) he0
      refine ⟨.list (P.map .str), .list [], .lst (.of (s0 _ _ eP)) (dp_strs P), .lst (.of upd_same) .nil, sh_strs hp.sok, rfl, _, rfl, ?_⟩
      rw [eqv_nil]
      have t0 := t1.same s0
      have selfE : PM K Q p l H D [some (.ref p), u1, some (.str wd), some (.int (n1 : Nat)), some (.int (n2 : Nat)), some (.ref Pa), some (.int kd), u7, u8, u9, u10, u11] (upd H1 e0 (.lst [])) := ⟨hD, n1, n2, wd, Pa, P, kd, u1, u7, u8, u9, u10, u11, rfl, hwd, hn, f1.trans s0.fr, t0, s0 _ _ eP, hp, hPn⟩
      cases hne : P.isEmpty with
      | true => exact iteF selfE
      | false =>
        refine iteT ?_
        have hpos : 0 < P.length := by
          cases P with
          | nil => cases hne
          | cons x P => simp
        refine ⟨_, rfl, _, rfl, _, _, rfl, .inl (.of (s0 _ _ eP)), p, l, _, rfl, by rw [List.length_map]; omega, t0, fun c H2 c0 c1 f2 t2 => ?_⟩
        rw [List.length_map] at c1
        have eP2 := f2 _ _ (nmp t0 (s0 _ _ eP)) (s0 _ _ eP)
        have f02 := (f1.trans s0.fr).trans f2
        refine ⟨by show 10 ≤ sizeLine; decide, fun W hW => ?_⟩
        have sW := Same.upd_new (o := .lst (wrongA.map V.str)) hW
        have tW := t2.same sW
        refine ⟨_, rfl, _, rfl, _, _, rfl, rfl, _, rfl, ?_⟩
        refine ite2 (fun hlt => ?_) (fun hge => ?_)
        · refine ⟨_, rfl, by show 1 ≤ sizeLine; decide, fun V1 hV1 => ?_⟩
          have sV := Same.upd_new (o := .lst [.str "0,1"]) hV1
          refine ⟨W, V1, _, _, rfl, rfl, sV _ _ upd_same, upd_same, sl_small (by decide), fun W2 hW2 => ?_⟩
          have sW2 := Same.upd_new (o := .lst (wrongA.map V.str ++ [.str "0,1"])) hW2
          have t4 := (tW.same sV).same sW2
          have f4 := f02.trans ((sW.trans sV).trans sW2).fr
          have eP4 := sW2 _ _ (sV _ _ (sW _ _ eP2))
          have eW2 := upd_same (H := upd (upd H2 W (.lst (wrongA.map V.str))) V1 (.lst [.str "0,1"])) (a := W2) (o := .lst ((wrongA ++ [("0,1" : Str)]).map V.str))
          refine ⟨_, rfl, _, rfl, p, l, W2, (wrongA ++ [("0,1" : Str)]).map V.str, rfl, t4, .inl (.of eW2), by simp [wrongA], fun i y H6 ey f6 t6 => ?_⟩
          obtain ⟨x, ex, rfl⟩ := map_get ey
          obtain ⟨x1, x2, x3, x4, x5⟩ := wrong_ok x ((List.mem_of_getElem? ex))
          have eP6 := f6 _ _ (nmp t4 eP4) eP4
          have hc : c = ((c.toNat : Nat) : Int) := by omega
          refine ⟨_, rfl, _, rfl, Pa, _, c, c.toNat, rfl, rfl, eP6, ixc (.inr ⟨by rw [List.length_map]; omega, c0⟩), ?_⟩
          have es : (P.map V.str).set c.toNat (.str x) = (P.set c.toNat x).map V.str := by rw [List.map_set]
          rw [es]
          have fP : FrX [p] H (upd H6 Pa (.lst ((P.set c.toNat x).map V.str))) := fun b o nb e => by
            rw [upd_ne (ne_of_none e hPn)]
            exact (f4.trans f6) b o nb e
          have tP : TapeAt K (upd H6 Pa (.lst ((P.set c.toNat x).map V.str))) p l := by
            have nPl : Pa ≠ l := fun z => by
              obtain ⟨_, ns, e2⟩ := ht
              rw [z, e2] at hPn
              cases hPn
            exact t6.upd (by simpa using nmp t6 eP6) nPl
          have bad : BadLine (J (wd :: P.set c.toNat x)) ((J (wd :: P.take c.toNat)).length + 1) := mis_wrong hwd hn hp (by omega) (fun k hk => ?_) x3 x2
          rotate_left 1
          · have ow : x.length < 1000 := by omega
            have lw : (Txt.split x ",").length < 900 ∧ ∀ p ∈ Txt.split x ",", p.length < 1000 := ⟨x4, fun p hp => by simpa using List.all_eq_true.mp x5 p hp⟩
            have hk2 : k = "integer" := by
              have hlt := of_decide_eq_true hlt
              unfold kindsN at hk
              rw [List.getElem?_append_left (by rw [List.length_replicate]; omega)] at hk
              exact (List.mem_replicate.mp (List.mem_of_getElem? hk)).2
            subst hk2
            refine ⟨?_, ow, .inl rfl⟩
            show (intTold x).map VV.int = none
            rw [Option.isNone_iff_eq_none.mp x1]
            rfl
          refine ⟨⟨_, rfl⟩, _, rfl, by show 1 ≤ sizeLine; decide, fun w0 hw0 => ?_⟩
          have sw := Same.upd_new (o := .lst [.str wd]) hw0
          have ePw := sw _ _ (upd_same (H := H6) (a := Pa) (o := .lst ((P.set c.toNat x).map V.str)))
          refine ⟨_, rfl, w0, Pa, [.str wd], _, rfl, rfl, upd_same, ePw, sl_small (by simp; omega), fun z hz => ?_⟩
          have sz := Same.upd_new (o := .lst ([.str wd] ++ (P.set c.toNat x).map V.str)) hz
          have hs : ∀ y ∈ wd :: P.set c.toNat x, y.length ≤ 40 := fun y hy => by
            rcases List.mem_cons.mp hy with rfl | hy
            · omega
            · rcases List.mem_or_eq_of_mem_set hy with hy | rfl
              · have := (each.1 y hy).2; omega
              · omega
          have hsum := J_sum hs
          have hlen : (wd :: P.set c.toNat x).length ≤ 5 := by rw [List.length_cons, List.length_set]; omega
          refine ⟨_, z, wd :: P.set c.toNat x, rfl, rfl, .inl (.of upd_same), ?_, ?_⟩
          · show _ + (wd :: P.set c.toNat x).length * 1 ≤ 16777216
            omega
          refine ⟨⟨_, rfl⟩, _, rfl, by show 1 ≤ sizeLine; decide, fun w1 hw1 => ?_⟩
          have sw1 := Same.upd_new (o := .lst [.str wd]) hw1
          have ePw1 := sw1 _ _ (sz _ _ ePw)
          refine ⟨_, rfl, ?_⟩
          refine nopart ?_
          refine ⟨_, rfl, _, rfl, Pa, _, rfl, .of ePw1, fun v hv0 => ?_⟩
          have ez : cutV ((P.set c.toNat x).map V.str) none (some c) = (P.take c.toNat).map V.str := by
            rw [show (some c : Option Int) = some ((c.toNat : Nat) : Int) by rw [← hc], cut_to, ← List.map_take, List.take_set_of_le (Nat.le_refl _)]
          rw [ez]
          have sv := Same.upd_new (o := .lst ((P.take c.toNat).map V.str)) hv0
          refine ⟨w1, v, [.str wd], _, rfl, rfl, sv _ _ upd_same, upd_same, sl_small (by simp; omega), fun u hu0 => ?_⟩
          have su := Same.upd_new (o := .lst ([.str wd] ++ (P.take c.toNat).map V.str)) hu0
          have hs2 : ∀ y ∈ wd :: P.take c.toNat, y.length ≤ 40 := fun y hy => by
            rcases List.mem_cons.mp hy with rfl | hy
            · omega
            · have := (each.1 y (List.mem_of_mem_take hy)).2; omega
          have hsum2 := J_sum hs2
          have hlen2 : (wd :: P.take c.toNat).length ≤ 5 := by rw [List.length_cons, List.length_take]; omega
          refine ⟨_, u, wd :: P.take c.toNat, rfl, rfl, .inl (.of upd_same), ?_, ?_⟩
          · show _ + (wd :: P.take c.toNat).length * 1 ≤ 16777216
            omega
          have hJ : (J (wd :: P.take c.toNat)).length ≤ sizeLine := by
            obtain ⟨_, _, _, _, L, _⟩ := mis_lack hwd hn hp (c := c.toNat) (by omega)
            exact sl_small (by have := L.l; omega)
          refine ⟨J (wd :: P.take c.toNat), rfl, hJ, _, _, rfl, rfl, by show 2 ≤ sizeLine; decide, fun a ha => ?_⟩
          show D.rt _ _
          rw [hD]
          have sa := Same.upd_new (o := .tup [.str (J (wd :: P.set c.toNat x)), .int (((J (wd :: P.take c.toNat)).length : Int) + 1)]) ha
          have sall := ((((sw.trans sz).trans sw1).trans sv).trans su).trans sa
          exact q a _ _ _ (fP.trans sall.fr) (tP.same sall) (.of upd_same) bad
        · refine ⟨_, rfl, _, rfl, p, l, W, (wrongA).map V.str, rfl, tW, .inl (.of upd_same), by simp [wrongA], fun i y H6 ey f6 t6 => ?_⟩
          obtain ⟨x, ex, rfl⟩ := map_get ey
          obtain ⟨x1, x2, x3, x4, x5⟩ := wrong_ok x (List.mem_append_left _ (List.mem_of_getElem? ex))
          have eP6 := f6 _ _ (nmp tW (sW _ _ eP2)) (sW _ _ eP2)
          have hc : c = ((c.toNat : Nat) : Int) := by omega
          refine ⟨_, rfl, _, rfl, Pa, _, c, c.toNat, rfl, rfl, eP6, ixc (.inr ⟨by rw [List.length_map]; omega, c0⟩), ?_⟩
          have es : (P.map V.str).set c.toNat (.str x) = (P.set c.toNat x).map V.str := by rw [List.map_set]
          rw [es]
          have fP : FrX [p] H (upd H6 Pa (.lst ((P.set c.toNat x).map V.str))) := fun b o nb e => by
            rw [upd_ne (ne_of_none e hPn)]
            exact ((f02.trans sW.fr).trans f6) b o nb e
          have tP : TapeAt K (upd H6 Pa (.lst ((P.set c.toNat x).map V.str))) p l := by
            have nPl : Pa ≠ l := fun z => by
              obtain ⟨_, ns, e2⟩ := ht
              rw [z, e2] at hPn
              cases hPn
            exact t6.upd (by simpa using nmp t6 eP6) nPl
          have bad : BadLine (J (wd :: P.set c.toNat x)) ((J (wd :: P.take c.toNat)).length + 1) := mis_wrong hwd hn hp (by omega) (fun k hk => ?_) x3 x2
          rotate_left 1
          · have ow : x.length < 1000 := by omega
            have lw : (Txt.split x ",").length < 900 ∧ ∀ p ∈ Txt.split x ",", p.length < 1000 := ⟨x4, fun p hp => by simpa using List.all_eq_true.mp x5 p hp⟩
            have hxA : x ∈ wrongA := List.mem_of_getElem? ex
            have hk2 : k = "integer" ∨ k = "list" := by
              rcases List.mem_append.mp (List.mem_of_getElem? hk) with h | h
              · exact .inl (List.mem_replicate.mp h).2
              · exact .inr (List.mem_replicate.mp h).2
            rcases hk2 with rfl | rfl
            · refine ⟨?_, ow, .inl rfl⟩
              show (intTold x).map VV.int = none
              rw [Option.isNone_iff_eq_none.mp x1]
              rfl
            · refine ⟨?_, ow, .inr ⟨rfl, lw.1, lw.2⟩⟩
              show (listTold x).map VV.lst = none
              rw [Option.isNone_iff_eq_none.mp (wrong_lst x hxA)]
              rfl
          refine ⟨⟨_, rfl⟩, _, rfl, by show 1 ≤ sizeLine; decide, fun w0 hw0 => ?_⟩
          have sw := Same.upd_new (o := .lst [.str wd]) hw0
          have ePw := sw _ _ (upd_same (H := H6) (a := Pa) (o := .lst ((P.set c.toNat x).map V.str)))
          refine ⟨_, rfl, w0, Pa, [.str wd], _, rfl, rfl, upd_same, ePw, sl_small (by simp; omega), fun z hz => ?_⟩
          have sz := Same.upd_new (o := .lst ([.str wd] ++ (P.set c.toNat x).map V.str)) hz
          have hs : ∀ y ∈ wd :: P.set c.toNat x, y.length ≤ 40 := fun y hy => by
            rcases List.mem_cons.mp hy with rfl | hy
            · omega
            · rcases List.mem_or_eq_of_mem_set hy with hy | rfl
              · have := (each.1 y hy).2; omega
              · omega
          have hsum := J_sum hs
          have hlen : (wd :: P.set c.toNat x).length ≤ 5 := by rw [List.length_cons, List.length_set]; omega
          refine ⟨_, z, wd :: P.set c.toNat x, rfl, rfl, .inl (.of upd_same), ?_, ?_⟩
          · show _ + (wd :: P.set c.toNat x).length * 1 ≤ 16777216
            omega
          refine ⟨⟨_, rfl⟩, _, rfl, by show 1 ≤ sizeLine; decide, fun w1 hw1 => ?_⟩
          have sw1 := Same.upd_new (o := .lst [.str wd]) hw1
          have ePw1 := sw1 _ _ (sz _ _ ePw)
          refine ⟨_, rfl, ?_⟩
          refine nopart ?_
          refine ⟨_, rfl, _, rfl, Pa, _, rfl, .of ePw1, fun v hv0 => ?_⟩
          have ez : cutV ((P.set c.toNat x).map V.str) none (some c) = (P.take c.toNat).map V.str := by
            rw [show (some c : Option Int) = some ((c.toNat : Nat) : Int) by rw [← hc], cut_to, ← List.map_take, List.take_set_of_le (Nat.le_refl _)]
          rw [ez]
          have sv := Same.upd_new (o := .lst ((P.take c.toNat).map V.str)) hv0
          refine ⟨w1, v, [.str wd], _, rfl, rfl, sv _ _ upd_same, upd_same, sl_small (by simp; omega), fun u hu0 => ?_⟩
          have su := Same.upd_new (o := .lst ([.str wd] ++ (P.take c.toNat).map V.str)) hu0
          have hs2 : ∀ y ∈ wd :: P.take c.toNat, y.length ≤ 40 := fun y hy => by
            rcases List.mem_cons.mp hy with rfl | hy
            · omega
            · have := (each.1 y (List.mem_of_mem_take hy)).2; omega
          have hsum2 := J_sum hs2
          have hlen2 : (wd :: P.take c.toNat).length ≤ 5 := by rw [List.length_cons, List.length_take]; omega
          refine ⟨_, u, wd :: P.take c.toNat, rfl, rfl, .inl (.of upd_same), ?_, ?_⟩
          · show _ + (wd :: P.take c.toNat).length * 1 ≤ 16777216
            omega
          have hJ : (J (wd :: P.take c.toNat)).length ≤ sizeLine := by
            obtain ⟨_, _, _, _, L, _⟩ := mis_lack hwd hn hp (c := c.toNat) (by omega)
            exact sl_small (by have := L.l; omega)
          refine ⟨J (wd :: P.take c.toNat), rfl, hJ, _, _, rfl, rfl, by show 2 ≤ sizeLine; decide, fun a ha => ?_⟩
          show D.rt _ _
          rw [hD]
          have sa := Same.upd_new (o := .tup [.str (J (wd :: P.set c.toNat x)), .int (((J (wd :: P.take c.toNat)).length : Int) + 1)]) ha
          have sall := ((((sw.trans sz).trans sw1).trans sv).trans su).trans sa
          exact q a _ _ _ (fP.trans sall.fr) (tP.same sall) (.of upd_same) bad
    case p7 =>
      rintro D σ H1 ⟨hD, n1, n2, wd, Pa, P, kd, u1, u7, u8, u9, u10, u11, rfl, hwd, hn, f1, t1, eP, hp, hPn⟩
      have each := hp.each
      have b1 := hp.b1
      have b2 := hp.b2
      obtain ⟨fw1, fw2, _, _⟩ := form_facts hwd
      refine ⟨_, rfl, by show 4 ≤ sizeLine; decide, fun F hF => ?_⟩
      have sF := Same.upd_new (o := .lst (([("" : Str), "0", "x", " "] : List Str).map V.str)) hF
      have tF := t1.same sF
      refine ⟨p, l, F, ([("" : Str), "0", "x", " "] : List Str).map V.str, rfl, tF, .inl (.of upd_same), by simp, fun i y H2 ey f2 t2 => ?_⟩
      obtain ⟨x, ex, rfl⟩ := map_get ey
      have ePF := sF _ _ eP
      have eP2 := f2 _ _ (nmp tF ePF) ePF
      have hxm := List.mem_of_getElem? ex
      have bad : BadLine (J (wd :: (P ++ [x]))) ((J (wd :: P)).length + 1) := by
        simp only [List.mem_cons, List.not_mem_nil, or_false] at hxm
        have z0 : 32 ∉ tl ("" : Str) ∧ ("" : Str).length ≤ 10 ∧ 32 ∉ tl ("0" : Str) ∧ ("0" : Str).length ≤ 10 ∧ 32 ∉ tl ("x" : Str) ∧ ("x" : Str).length ≤ 10 := by decide +kernel
        rcases hxm with rfl | rfl | rfl | rfl
        · exact mis_more hwd hn hp rfl (fun y hy => by rw [List.mem_singleton.mp hy]; exact ⟨z0.1, z0.2.1⟩) (by simp)
        · exact mis_more hwd hn hp rfl (fun y hy => by rw [List.mem_singleton.mp hy]; exact ⟨z0.2.2.1, z0.2.2.2.1⟩) (by simp)
        · exact mis_more hwd hn hp rfl (fun y hy => by rw [List.mem_singleton.mp hy]; exact z0.2.2.2.2) (by simp)
        · refine mis_more (x := "") (rest := [""]) hwd hn hp ?_ (fun y hy => ?_) (by simp)
          · exact J_sp2 (wd :: P)
          · have : y = "" := by simpa using hy
            rw [this]
            exact ⟨z0.1, z0.2.1⟩
      have xl : x.length ≤ 1 := by
        have z1 : ∀ y ∈ ([("" : Str), "0", "x", " "] : List Str), y.length ≤ 1 := by decide +kernel
        exact z1 x hxm
      refine ⟨⟨_, rfl⟩, _, rfl, by show 1 ≤ sizeLine; decide, fun w0 hw0 => ?_⟩
      have sw := Same.upd_new (o := .lst [.str wd]) hw0
      have ePw := sw _ _ eP2
      refine ⟨_, rfl, w0, Pa, [.str wd], _, rfl, rfl, upd_same, ePw, sl_small (by simp; omega), fun z hz => ?_⟩
      have sz := Same.upd_new (o := .lst ([.str wd] ++ P.map V.str)) hz
      refine ⟨_, rfl, by show 1 ≤ sizeLine; decide, fun x0 hx0 => ?_⟩
      have sx := Same.upd_new (o := .lst [.str x]) hx0
      refine ⟨z, x0, _, [.str x], rfl, rfl, sx _ _ upd_same, upd_same, sl_small (by simp; omega), fun z2 hz2 => ?_⟩
      have sz2 := Same.upd_new (o := .lst ([.str wd] ++ P.map V.str ++ [.str x])) hz2
      have hs : ∀ y ∈ wd :: (P ++ [x]), y.length ≤ 40 := fun y hy => by
        rcases List.mem_cons.mp hy with rfl | hy
        · omega
        · rcases List.mem_append.mp hy with hy | hy
          · have := (each.1 y hy).2; omega
          · rw [List.mem_singleton.mp hy]; omega
      have hsum := J_sum hs
      have hlen : (wd :: (P ++ [x])).length ≤ 6 := by rw [List.length_cons, List.length_append, List.length_singleton]; omega
      refine ⟨_, z2, wd :: (P ++ [x]), rfl, rfl, .inl (.of (by rw [upd_same]; simp)), ?_, ?_⟩
      · show _ + (wd :: (P ++ [x])).length * 1 ≤ 16777216
        omega
      refine ⟨⟨_, rfl⟩, _, rfl, by show 1 ≤ sizeLine; decide, fun w1 hw1 => ?_⟩
      have sw1 := Same.upd_new (o := .lst [.str wd]) hw1
      have ePw1 := sw1 _ _ (sz2 _ _ (sx _ _ (sz _ _ ePw)))
      refine ⟨_, rfl, w1, Pa, [.str wd], _, rfl, rfl, upd_same, ePw1, sl_small (by simp; omega), fun u hu0 => ?_⟩
      have su := Same.upd_new (o := .lst ([.str wd] ++ P.map V.str)) hu0
      have hs2 : ∀ y ∈ wd :: P, y.length ≤ 40 := fun y hy => hs y (by
        rcases List.mem_cons.mp hy with rfl | hy
        · simp
        · simp [hy])
      have hsum2 := J_sum hs2
      have hlen2 : (wd :: P).length ≤ 5 := by rw [List.length_cons]; omega
      refine ⟨_, u, wd :: P, rfl, rfl, .inl (.of upd_same), ?_, ?_⟩
      · show _ + (wd :: P).length * 1 ≤ 16777216
        omega
      have hJ : (J (wd :: P)).length ≤ sizeLine := by
        have h1 := J_len P wd
        have h2 : (P.map fun x => x.length + 1).sum ≤ 4 * P.length := by
          have e1 := each.1
          clear hsum hsum2 hs hs2 h1
          generalize P = P at e1
          induction P with
          | nil => simp
          | cons y P ih =>
            have := (e1 y (by simp)).2
            have := ih fun z hz => e1 z (List.mem_cons_of_mem _ hz)
            simp only [List.map_cons, List.sum_cons, List.length_cons]
            omega
        unfold adv at h1
        exact sl_small (by omega)
      refine ⟨J (wd :: P), rfl, hJ, _, _, rfl, rfl, by show 2 ≤ sizeLine; decide, fun a ha => ?_⟩
      show D.rt _ _
      rw [hD]
      have sa := Same.upd_new (o := .tup [.str (J (wd :: (P ++ [x]))), .int (((J (wd :: P)).length : Int) + 1)]) ha
      have sall := (((((sw.trans sz).trans sx).trans sz2).trans sw1).trans su).trans sa
      exact q a _ _ _ (((f1.trans sF.fr).trans f2).trans sall.fr) (t2.same sall) (.of upd_same) bad
end
end K5
set_option Elab.async false
set_option linter.all false
set_option maxRecDepth 100000
set_option maxHeartbeats 4000000
namespace K5
open PySem PySem.Spec PyProof.Rows L2
open TL (tl)
/-! ### _law_unfit -/
def UF (W : Wd) (line : Str) (R : Ref) : Prop := ∀ D : Dk, D.w = W → RunR D line R
theorem uf_dd {W : Wd} {d : Dd} {e : Er} {line : Str} (hl : line = J (d.word :: d.ws)) (b : d.bd) (h : ledR W d = .error e) : UF W line (.er e) := fun D hw => by
  subst hl
  subst hw
  exact ⟨d.word, d.ws, d.lineIs b, .inl ⟨d, e, rfl, okWords_ok (Dd.good b), told_ok (Dd.good b), Dd.nn_of b, h, rfl⟩⟩
theorem uf_where {W : Wd} {p : Nat} (hp : p < 100) (h : W.wi.length ≤ p) : UF W (J [("where" : Str), numW p]) (.er (.num (p : Nat))) := fun D hw => by
  subst hw
  have g : Good ["integer"] [numW p] [.int (p : Nat)] := ⟨(good_int hp).1, (good_int hp).2, trivial⟩
  have hwh : 32 ∉ tl ("where" : Str) ∧ ("where" : Str).length ≤ 30 := by decide +kernel
  exact ⟨"where", [numW p], lineIs hwh.1 (fun x hx => by rw [List.mem_singleton.mp hx]; exact numW_sp (by omega)) hwh.2 (fun x hx => by rw [List.mem_singleton.mp hx]; have := numW_len (n := p) (by omega); omega) (by simp), .inr (.inr (.inr (.inl ⟨p, rfl, okWords_ok g, told_ok g, by omega, rfl⟩)))⟩
def En (K : PySem.W.Frag) (W : Wd) (H : Hp) (v : V) : Prop := ∃ a b line R, v = .ref a ∧ SqT K H a [.str line, .ref b] ∧ RefAt K H b R ∧ UF W line R ∧ strOkB line = true
theorem RefAt.fr {K : PySem.W.Frag} {M : List Addr} {H H' : Hp} {b : Addr} {R : Ref} (f : FrX M H H') (m : MuX M H) (h : RefAt K H b R) : RefAt K H' b R := by
  cases R with
  | word s => exact f.sqt m h
  | line l a => exact f.sqt m h
  | nothing s => exact f.sqt m h
  | er e =>
    cases e with
    | num i => exact f.sqt m h
    | many s => exact f.sqt m h
    | lot l => obtain ⟨a, h1, h2⟩ := h; exact ⟨a, f.sqt m h1, f.sqt m h2⟩
theorem En.fr {K : PySem.W.Frag} {W : Wd} {M : List Addr} {H H' : Hp} {v : V} (f : FrX M H H') (m : MuX M H) (h : En K W H v) : En K W H' v := let ⟨a, b, l, R, e, h1, h2, h3⟩ := h; ⟨a, b, l, R, e, f.sqt m h1, h2.fr f m, h3⟩
theorem En.same {K : PySem.W.Frag} {W : Wd} {H H' : Hp} {v : V} (s : Same H H') (h : En K W H v) : En K W H' v := h.fr (M := []) s.fr noMu
def spUnfit (K : PySem.W.Frag) : Sp := fun vs H Q _ => ∃ (p l x : Addr) (W : Wd), vs = [.ref p, .ref x] ∧ TapeAt K H p l ∧ x ≠ p ∧ WoAt K H x W ∧ WW W ∧ W.wi.length ≤ 4 ∧ ∀ v H', FrX [p] H H' → TapeAt K H' p l → En K W H' v → Q v H'
theorem sok_app {a b : Str} (h1 : strOkB a = true) (h2 : strOkB b = true) : strOkB (a ++ b) = true := by
  unfold strOkB at *
  rw [Array.all_eq_true_iff_forall_mem] at *
  intro c hc
  have hc : c ∈ tl (a ++ b) := by simpa using hc
  rw [TL.tl_append] at hc
  rcases List.mem_append.mp hc with hc | hc
  · exact h1 c (by simpa using hc)
  · exact h2 c (by simpa using hc)
theorem sok_num {i : Int} (h0 : 0 ≤ i) (h : i < 200) : strOkB (Str.ofString (toString i)) = true := by
  rw [num_cast h0, numW_S]
  exact num_strOk _ (by omega)
theorem szz {a b : Str} (h1 : a.length ≤ 60) (h2 : b.length ≤ 60) : a.length + b.length ≤ sizeLine := sl_small (by omega)
theorem szn {i : Int} (h0 : 0 ≤ i) (h : i < 200) : (Str.ofString (toString i)).length ≤ 20 := by
  rw [num_cast h0]
  have := numW_len (n := i.toNat) (by omega)
  omega
theorem sza {a b : Str} (h1 : a.length ≤ 20) (h2 : b.length ≤ 20) : (a ++ b).length ≤ 60 := by rw [Str.length_append]; omega
theorem lnMid {w k pre suf x : Str} (h1 : tl pre = tl w ++ [32]) (h2 : tl suf = 32 :: tl k) : pre ++ x ++ suf = J [w, x, k] := by
  refine TL.ext_tl ?_
  rw [TL.tl_append, TL.tl_append, J_cons w _ (by simp), J_cons x _ (by simp), J_one, h1, h2]
  simp
theorem lnEnd {w k pre x : Str} (h1 : tl pre = tl w ++ 32 :: (tl k ++ [32])) : pre ++ x = J [w, k, x] := by
  refine TL.ext_tl ?_
  rw [TL.tl_append, J_cons w _ (by simp), J_cons k _ (by simp), J_one, h1]
  simp
theorem lnOne {w pre x : Str} (h1 : tl pre = tl w ++ [32]) : pre ++ x = J [w, x] := by
  refine TL.ext_tl ?_
  rw [TL.tl_append, J_cons w _ (by simp), J_one, h1]
  simp
theorem lnSt {w k m pre x : Str} (h1 : tl pre = tl w ++ 32 :: (tl k ++ 32 :: (tl m ++ [32]))) : pre ++ x = J [w, k, m, x] := by
  refine TL.ext_tl ?_
  rw [TL.tl_append, J_cons w _ (by simp), J_cons k _ (by simp), J_cons m _ (by simp), J_one, h1]
  simp
theorem cl1 : tl (" 1" : Str) = 32 :: tl (numW 1) ∧ tl (" 0" : Str) = 32 :: tl (numW 0) ∧ tl (" 4" : Str) = 32 :: tl (numW 4) ∧ tl (" 9" : Str) = 32 :: tl (lotW [9]) := by decide +kernel
theorem cl2 : tl ("room " : Str) = tl ("room" : Str) ++ [32] ∧ tl ("rack " : Str) = tl ("rack" : Str) ++ [32] ∧ tl ("rate " : Str) = tl ("rate" : Str) ++ [32] ∧ tl ("wish " : Str) = tl ("wish" : Str) ++ [32] ∧ tl ("piece " : Str) = tl ("piece" : Str) ++ [32] ∧ tl ("where " : Str) = tl ("where" : Str) ++ [32] := by decide +kernel
theorem cl3 : tl ("rate 0 " : Str) = tl ("rate" : Str) ++ 32 :: (tl (numW 0) ++ [32]) ∧ tl ("wish 0 " : Str) = tl ("wish" : Str) ++ 32 :: (tl (numW 0) ++ [32]) ∧ tl ("piece 1 " : Str) = tl ("piece" : Str) ++ 32 :: (tl (numW 1) ++ [32]) ∧ tl ("store 1 1 " : Str) = tl ("store" : Str) ++ 32 :: (tl (numW 1) ++ 32 :: (tl (numW 1) ++ [32])) := by decide +kernel
theorem bd2 {d : Dd} {x y : VV} (e : d.vals = [x, y]) (hx : x.bd) (hy : y.bd) : d.bd := fun v hv => by
  rw [e] at hv
  simp only [List.mem_cons, List.not_mem_nil, or_false] at hv
  rcases hv with rfl | rfl
  · exact hx
  · exact hy
theorem uf_slot {W : Wd} {lo hi s v : Int} {set : Nat → Cl} (h : ¬ s ≤ (W.cl.ra.length : Int) - 1) : toW W (slotR W.cl.ra.length lo hi set s v) = .error (.num s) := by
  unfold slotR
  rw [if_neg (by omega)]
  rfl
theorem mkS {H : Hp} {a b : Addr} {xs ys : List V} (hb : H b = none) (ha : (upd H b (.tup xs)) a = none) : Same H (upd (upd H b (.tup xs)) a (.tup ys)) := (Same.upd_new hb).trans (Same.upd_new ha)
theorem mkNum {K : PySem.W.Frag} {W : Wd} {H : Hp} {a b : Addr} {line : Str} {i : Int} (hb : H b = none) (ha : (upd H b (.tup [.str "number", .int i])) a = none) (u : UF W line (.er (.num i))) (s : strOkB line = true) : En K W (upd (upd H b (.tup [.str "number", .int i])) a (.tup [.str line, .ref b])) (.ref a) :=
  ⟨a, b, line, .er (.num i), rfl, .of upd_same, (Same.upd_new ha).sqt (.of upd_same), u, s⟩
theorem mkNum2 {K : PySem.W.Frag} {W : Wd} {H : Hp} {a b : Addr} {line : Str} {i : Int} (hb : H b = none) (ha : (upd H b (.tup [.str "number", .int i])) a = none) (u : UF W line (.er (.num i))) (s : strOkB line = true) : Same H (upd (upd H b (.tup [.str "number", .int i])) a (.tup [.str line, .ref b])) ∧ En K W (upd (upd H b (.tup [.str "number", .int i])) a (.tup [.str line, .ref b])) (.ref a) := ⟨mkS hb ha, mkNum hb ha u s⟩
theorem sokL0 : ∀ n : Nat, n < 5 → strOkB (lotW [n]) = true := by decide +kernel
theorem sokL1 (n : Nat) (h : n < 5) : strOkB (lotW ([(n : Int)].map Int.toNat)) = true := sokL0 n h
theorem mkLot {K : PySem.W.Frag} {W : Wd} {H : Hp} {a b c : Addr} {line : Str} {L : List Int} (hb : H b = none) (ha : (upd H b (.tup [.str "lot", .ref c])) a = none) (hc : TI K H c L) (u : UF W line (.er (.lot L))) (s : strOkB line = true) : Same H (upd (upd H b (.tup [.str "lot", .ref c])) a (.tup [.str line, .ref b])) ∧ En K W (upd (upd H b (.tup [.str "lot", .ref c])) a (.tup [.str line, .ref b])) (.ref a) :=
  ⟨mkS hb ha, a, b, line, .er (.lot L), rfl, .of upd_same, ⟨c, (Same.upd_new ha).sqt (.of upd_same), (mkS hb ha).sqt hc⟩, u, s⟩
theorem fr_new {M : List Addr} {H G : Hp} {a : Addr} {o : HO} (f : FrX M H G) (n : H a = none) : FrX M H (upd G a o) := fun b u nb e => by
  rw [upd_ne (fun z => by subst z; rw [n] at e; cases e)]
  exact f b u nb e
section
variable {w : World} {K : PySem.W.Frag} {mg : Str → Option Value} {base : Heap}
theorem sc__law_unfit : FnScope ["_law_tape_here", "_law_world_here", "_law_stores", "_law_pieces", "_law_s", "_law_p", "_law_rate", "_law_wish", "_law_lot_here", "_law_menu"] ["_law_tape_here", "_law_world_here"] (defScope s__law_unfit) := ⟨rfl, rfl, rfl, by decide +kernel, rfl, by decide +kernel, by decide +kernel⟩
theorem ok__law_unfit (T : Top w K mg) : HasF w K mg base 4 "_law_unfit" ["_law_tape_here", "_law_world_here"] (spUnfit K) := by
  refine .of T (has_ex (k := 3) T 32 (d := dD ("_law_unfit", none) "_law_unfit" "_law_unfit" s__law_unfit) rfl sc__law_unfit (fun _ => rfl) (fun _ _ _ _ _ _ us hl => match us, hl with | [_, _], _ => rfl) (fun vs H Q E h => ?_) (fun cdv A outer s H vs Q E hr h => ?_))
  · obtain ⟨p, l, x, W, rfl, _⟩ := h
    rfl
  · obtain ⟨p, l, x, W, rfl, ht, nxp, hx, ww, wz, q⟩ := h
    obtain ⟨a, b, c, d, e, h0, h1, h2, h3, h4, h5⟩ := hx.ex
    have hu := hu_of hr
    refine ⟨_, (pss_cons (ps_set (i := 2) sc__law_unfit.nd rfl (Or.inl rfl) (pe_len T (pe_dget hu (pv 1) pe_str (fun _ _ => rfl))))
      (pss_cons (ps_set (i := 3) sc__law_unfit.nd rfl (Or.inl rfl) (pe_len T (pe_dget hu (pv 1) pe_str (fun _ _ => rfl))))
      (pss_cons (ps_set (i := 4) sc__law_unfit.nd rfl (Or.inl rfl) (pe_op op_add (pv 2) (pe_fn (ok__law_draw T) rfl hr (by omega) (pa_cons (pv 0) (pa_cons pe_int pa_nil)))))
      (pss_cons (ps_set (i := 5) sc__law_unfit.nd rfl (Or.inl rfl) (pe_op op_add (pv 3) (pe_fn (ok__law_draw T) rfl hr (by omega) (pa_cons (pv 0) (pa_cons pe_int pa_nil)))))
      (pss_cons (ps_set (i := 6) sc__law_unfit.nd rfl (Or.inl rfl) (pe_fn (ok__law_pick T) rfl hr (by omega) (pa_cons (pv 0) (pa_cons (pe_lst (pa_cons pe_int (pa_cons pe_int (pa_cons pe_int pa_nil)))) pa_nil))))
      (pss_cons (ps_set (i := 7) sc__law_unfit.nd rfl (Or.inl rfl) (pe_fn (ok__law_pick T) rfl hr (by omega) (pa_cons (pv 0) (pa_cons (pe_lst (pa_cons pe_int (pa_cons pe_int (pa_cons pe_int pa_nil)))) pa_nil))))
      (pss_cons (ps_set (i := 8) sc__law_unfit.nd rfl (Or.inl rfl) (pe_fn (ok__law_pick T) rfl hr (by omega) (pa_cons (pv 0) (pa_cons (pe_lst (pa_cons (pe_tup (pa_cons pe_int (pa_cons pe_int pa_nil))) (pa_cons (pe_tup (pa_cons pe_int (pa_cons pe_int pa_nil))) (pa_cons (pe_tup (pa_cons (pv 2) pa_nil)) (pa_cons (pe_tup (pa_cons pe_int (pa_cons pe_int pa_nil))) pa_nil))))) pa_nil))))
      (pss_cons (ps_set (i := 9) sc__law_unfit.nd rfl (Or.inl rfl) (pe_lst (pa_cons (pe_tup (pa_cons (pe_op op_add_str pe_str (pe_strN T (pv 6))) (pa_cons (pe_tup (pa_cons pe_str (pa_cons (pv 6) pa_nil))) pa_nil))) (pa_cons (pe_tup (pa_cons (pe_op op_add_str (pe_op op_add_str pe_str (pe_strN T (pv 4))) pe_str) (pa_cons (pe_tup (pa_cons pe_str (pa_cons (pv 4) pa_nil))) pa_nil))) pa_nil))))
      (pss_cons (ps_set (i := 9) sc__law_unfit.nd rfl (Or.inl rfl) (pe_op op_cat (pv 9) (pe_lst (pa_cons (pe_tup (pa_cons (pe_op op_add_str (pe_op op_add_str pe_str (pe_strN T (pv 4))) pe_str) (pa_cons (pe_tup (pa_cons pe_str (pa_cons (pv 4) pa_nil))) pa_nil))) (pa_cons (pe_tup (pa_cons (pe_op op_add_str (pe_op op_add_str pe_str (pe_strN T (pv 4))) pe_str) (pa_cons (pe_tup (pa_cons pe_str (pa_cons (pv 4) pa_nil))) pa_nil))) pa_nil)))))
      (pss_cons (ps_set (i := 9) sc__law_unfit.nd rfl (Or.inl rfl) (pe_op op_cat (pv 9) (pe_lst (pa_cons (pe_tup (pa_cons (pe_op op_add_str pe_str (pe_strN T (pv 6))) (pa_cons (pe_tup (pa_cons pe_str (pa_cons (pv 6) pa_nil))) pa_nil))) (pa_cons (pe_tup (pa_cons (pe_op op_add_str (pe_op op_add_str pe_str (pe_strN T (pv 5))) pe_str) (pa_cons (pe_tup (pa_cons pe_str (pa_cons (pv 5) pa_nil))) pa_nil))) pa_nil)))))
      (pss_cons (ps_set (i := 9) sc__law_unfit.nd rfl (Or.inl rfl) (pe_op op_cat (pv 9) (pe_lst (pa_cons (pe_tup (pa_cons (pe_op op_add_str pe_str (pe_strN T (pv 5))) (pa_cons (pe_tup (pa_cons pe_str (pa_cons (pv 5) pa_nil))) pa_nil))) (pa_cons (pe_tup (pa_cons (pe_op op_add_str (pe_op op_add_str pe_str (pe_strN T (pv 7))) pe_str) (pa_cons (pe_tup (pa_cons pe_str (pa_cons (pv 7) pa_nil))) pa_nil))) pa_nil)))))
      (pss_cons (ps_expr (pe_bm PySem.F.plainAttrs_list PySem.F.slot_list_append PySem.F.type_list_append mt_append (pv 9) (pa_cons (pe_tup (pa_cons (pe_op op_add_str pe_str (pe_fn (ok__law_joined T) rfl hr (by omega) (pa_cons (pv 8) pa_nil))) (pa_cons (pe_tup (pa_cons pe_str (pa_cons (pv 8) pa_nil))) pa_nil))) pa_nil)))
      (pss_cons (ps_if (pt_cmpR op_gt (pv 3) pe_int (nomark _)) (pss_one (ps_expr (pe_bm PySem.F.plainAttrs_list PySem.F.slot_list_append PySem.F.type_list_append mt_append (pv 9) (pa_cons (pe_tup (pa_cons (pe_op op_add_str pe_str (pe_strN T (pv 7))) (pa_cons (pe_tup (pa_cons pe_str (pa_cons (pv 7) pa_nil))) pa_nil))) pa_nil)))) pss_nil)
      (pss_one (ps_ret (pe_fn (ok__law_pick T) rfl hr (by omega) (pa_cons (pv 0) (pa_cons (pv 9) pa_nil)))))))))))))))))), ?_⟩
    have nl0 : W.cl.ra.length ≤ 4 := ww.n4
    have n2 := ww.n2
    refine ⟨_, rfl, x, _, rfl, DGet.k (k := sK "racks") h0, _, _, rfl, .inr h1, ?_⟩
    rw [List.length_map]
    refine ⟨_, rfl, x, _, rfl, DGet.k (k := sK "wishes") h0, _, _, rfl, .inr h4, ?_⟩
    rw [List.length_map]
    refine ⟨_, rfl, _, rfl, p, l, 80, rfl, by decide, ht, fun s' H1 s0 s1 f1 t1 => ⟨_, _, rfl, rfl, ?_⟩⟩
    refine ⟨_, rfl, _, rfl, p, l, 80, rfl, by decide, t1, fun p' H2 p0 p1 f2 t2 => ⟨_, _, rfl, rfl, ?_⟩⟩
    obtain ⟨sv, hsv⟩ : ∃ sv : Int, sv = (W.cl.ra.length : Int) + s' := ⟨_, rfl⟩
    obtain ⟨pv', hpv⟩ : ∃ pv' : Int, pv' = (W.wi.length : Int) + p' := ⟨_, rfl⟩
    have sv0 : 0 ≤ sv := by omega
    have pv0 : 0 ≤ pv' := by omega
    refine ⟨_, rfl, by show 3 ≤ sizeLine; decide, fun F3 hF3 => ?_⟩
    have sF3 := Same.upd_new (o := .lst [.int 0, .int 9, .int 99]) hF3
    refine ⟨p, l, F3, [.int 0, .int 9, .int 99], rfl, t2.same sF3, .inl (.of upd_same), by simp, fun i3 y3 H3 ey3 f3 t3 => ?_⟩
    obtain ⟨rt, rfl, rt0, rt1, rt2⟩ : ∃ r : Int, y3 = .int r ∧ 0 ≤ r ∧ r < 100 ∧ ¬ (1 ≤ r ∧ r ≤ 8) := by
      have hm := List.mem_of_getElem? ey3
      simp only [List.mem_cons, List.not_mem_nil, or_false] at hm
      rcases hm with rfl | rfl | rfl
      · exact ⟨0, rfl, by decide, by decide, by decide⟩
      · exact ⟨9, rfl, by decide, by decide, by decide⟩
      · exact ⟨99, rfl, by decide, by decide, by decide⟩
    refine ⟨_, rfl, by show 3 ≤ sizeLine; decide, fun F4 hF4 => ?_⟩
    have sF4 := Same.upd_new (o := .lst [.int 0, .int 4, .int 99]) hF4
    refine ⟨p, l, F4, [.int 0, .int 4, .int 99], rfl, t3.same sF4, .inl (.of upd_same), by simp, fun i4 y4 H4 ey4 f4 t4 => ?_⟩
    obtain ⟨wv, rfl, wv0, wv1, wv2⟩ : ∃ r : Int, y4 = .int r ∧ 0 ≤ r ∧ r < 100 ∧ ¬ (1 ≤ r ∧ r ≤ 3) := by
      have hm := List.mem_of_getElem? ey4
      simp only [List.mem_cons, List.not_mem_nil, or_false] at hm
      rcases hm with rfl | rfl | rfl
      · exact ⟨0, rfl, by decide, by decide, by decide⟩
      · exact ⟨4, rfl, by decide, by decide, by decide⟩
      · exact ⟨99, rfl, by decide, by decide, by decide⟩
    -- the lot
    refine ⟨_, rfl, by show 2 ≤ sizeLine; decide, fun c1 hc1 => ⟨by show 2 ≤ sizeLine; decide, fun c2 hc2 => ⟨_, rfl, by show 1 ≤ sizeLine; decide, fun c3 hc3 => ⟨by show 2 ≤ sizeLine; decide, fun c4 hc4 => ⟨by show 4 ≤ sizeLine; decide, fun F5 hF5 => ?_⟩⟩⟩⟩⟩
    have sc1 := Same.upd_new (o := .tup [.int 1, .int 0]) hc1
    have sc2 := Same.upd_new (o := .tup [.int 0, .int 0]) hc2
    have sc3 := Same.upd_new (o := .tup [.int (W.cl.ra.length : Nat)]) hc3
    have sc4 := Same.upd_new (o := .tup [.int 0, .int 99]) hc4
    have sF5 := Same.upd_new (o := .lst [.ref c1, .ref c2, .ref c3, .ref c4]) hF5
    have t5 := (((t4.same sc1).same sc2).same sc3).same sc4 |>.same sF5
    refine ⟨p, l, F5, [.ref c1, .ref c2, .ref c3, .ref c4], rfl, t5, .inl (.of upd_same), by simp, fun i5 y5 H6 ey5 f6 t6 => ?_⟩
    have m5 := t5.md.mu
    obtain ⟨lt, L, rfl, hL, lb1, lb2, lb3, lb4, lb5⟩ : ∃ (lt : Addr) (L : List Int), y5 = .ref lt ∧ TI K H6 lt L ∧ lotGo W.cl.ra.length none L = false ∧ L ≠ [] ∧ L.length ≤ 9 ∧ (∀ y ∈ L, 0 ≤ y ∧ y < 100) ∧ strOkB (lotW (L.map Int.toNat)) = true := by
      have hm := List.mem_of_getElem? ey5
      simp only [List.mem_cons, List.not_mem_nil, or_false] at hm
      rcases hm with rfl | rfl | rfl | rfl
      · exact ⟨c1, [1, 0], rfl, f6.sqt m5 (sF5.sqt (sc4.sqt (sc3.sqt (sc2.sqt (.of upd_same))))), by simp [lotGo], by simp, by decide, by decide, by decide +kernel⟩
      · exact ⟨c2, [0, 0], rfl, f6.sqt m5 (sF5.sqt (sc4.sqt (sc3.sqt (.of upd_same)))), by simp [lotGo], by simp, by decide, by decide, by decide +kernel⟩
      · exact ⟨c3, [(W.cl.ra.length : Nat)], rfl, f6.sqt m5 (sF5.sqt (sc4.sqt (.of upd_same))), by simp [lotGo], by simp, by simp, fun y hy => by rw [List.mem_singleton.mp hy]; omega, sokL1 _ (by omega)⟩
      · exact ⟨c4, [0, 99], rfl, f6.sqt m5 (sF5.sqt (.of upd_same)), by simp [lotGo]; omega, by simp, by decide, by decide, by decide +kernel⟩
    have fH6 : FrX [p] H H6 := ((((f1.trans f2).trans (sF3.fr.trans f3)).trans (sF4.fr.trans f4)).trans ((((sc1.trans sc2).trans sc3).trans sc4).trans sF5).fr).trans f6
    have b1 : VV.bd (.int 1) := ⟨by decide, by decide⟩
    have b0 : VV.bd (.int 0) := ⟨by decide, by decide⟩
    have b4 : VV.bd (.int 4) := ⟨by decide, by decide⟩
    have bs : VV.bd (.int sv) := ⟨by omega, by omega⟩
    have bp : VV.bd (.int pv') := ⟨by omega, by omega⟩
    have br : VV.bd (.int rt) := ⟨by omega, by omega⟩
    have bw : VV.bd (.int wv) := ⟨by omega, by omega⟩
    have b9 : VV.bd (.lst [9]) := ⟨by simp, by decide, by decide⟩
    have bL : VV.bd (.lst L) := ⟨lb2, lb3, lb4⟩
    have u1 : UF W (("store 1 1 " : Str) ++ Str.ofString (toString rt)) (.er (.num rt)) := uf_dd (d := .store 1 1 rt) (by rw [num_cast rt0]; exact lnSt cl3.2.2.2) (fun v hv => by
      simp only [Dd.vals, List.mem_cons, List.not_mem_nil, or_false] at hv
      rcases hv with rfl | rfl | rfl
      · exact b1
      · exact b1
      · exact br) (by
      show toW W (storeR W.cl 1 1 rt) = _
      unfold storeR
      rw [if_neg (by omega), if_pos (by decide), if_pos (by decide), if_neg rt2]
      rfl)
    have u2 : UF W (("room " : Str) ++ Str.ofString (toString sv) ++ " 1") (.er (.num sv)) := uf_dd (d := .room sv 1) (by rw [num_cast sv0]; exact lnMid cl2.1 cl1.1) (bd2 rfl bs b1) (uf_slot (by omega))
    have u3 : UF W (("rack " : Str) ++ Str.ofString (toString sv) ++ " 1") (.er (.num sv)) := uf_dd (d := .rack sv 1) (by rw [num_cast sv0]; exact lnMid cl2.2.1 cl1.1) (bd2 rfl bs b1) (uf_slot (by omega))
    have u4 : UF W (("rate " : Str) ++ Str.ofString (toString sv) ++ " 0") (.er (.num sv)) := uf_dd (d := .rate sv 0) (by rw [num_cast sv0]; exact lnMid cl2.2.2.1 cl1.2.1) (bd2 rfl bs b0) (uf_slot (by omega))
    have u5 : UF W (("rate 0 " : Str) ++ Str.ofString (toString rt)) (.er (.num rt)) := uf_dd (d := .rate 0 rt) (by rw [num_cast rt0]; exact lnEnd cl3.1) (bd2 rfl b0 br) (by
      show toW W (rateR W.cl 0 rt) = _
      unfold rateR slotR
      rw [if_pos (by omega), if_neg rt2]
      rfl)
    have wishE : ∀ {a v : Int}, (W.wi.length : Int) ≤ a → wishR W a v = .error (.num a) := fun {a v} h => by
      unfold wishR
      rw [if_neg (by omega)]
    have u6 : UF W (("wish " : Str) ++ Str.ofString (toString pv') ++ " 4") (.er (.num pv')) := uf_dd (d := .wish pv' 4) (by rw [num_cast pv0]; exact lnMid cl2.2.2.2.1 cl1.2.2.1) (bd2 rfl bp b4) (by
      show (match wishR W pv' 4 with | .ok l => (Except.ok ⟨W.cl, l, W.pl⟩ : Except Er Wd) | .error e => .error e) = _
      rw [wishE (by omega)])
    have u7 : UF W (("where " : Str) ++ Str.ofString (toString pv')) (.er (.num pv')) := by
      rw [num_cast pv0, lnOne cl2.2.2.2.2.2]
      have := uf_where (W := W) (p := pv'.toNat) (by omega) (by omega)
      rwa [Int.toNat_of_nonneg pv0] at this
    have u8 : UF W (("piece " : Str) ++ Str.ofString (toString wv) ++ " 9") (.er (.num wv)) := uf_dd (d := .piece wv [9]) (by rw [num_cast wv0]; exact lnMid cl2.2.2.2.2.1 cl1.2.2.2) (bd2 rfl bw b9) (by
      show pieceR W wv [9] = _
      unfold pieceR
      rw [if_neg wv2])
    have u9 : UF W (("piece 1 " : Str) ++ lotW (L.map Int.toNat)) (.er (.lot L)) := uf_dd (d := .piece 1 L) (lnEnd cl3.2.2.1) (bd2 rfl b1 bL) (by
      show pieceR W 1 L = _
      unfold pieceR
      rw [if_pos (by decide), if_neg (by rw [lb1]; simp)])
    have u10 : 0 < W.wi.length → UF W (("wish 0 " : Str) ++ Str.ofString (toString wv)) (.er (.num wv)) := fun hw => uf_dd (d := .wish 0 wv) (by rw [num_cast wv0]; exact lnEnd cl3.2.1) (bd2 rfl b0 bw) (by
      show (match wishR W 0 wv with | .ok l => (Except.ok ⟨W.cl, l, W.pl⟩ : Except Er Wd) | .error e => .error e) = _
      have e : wishR W 0 wv = .error (.num wv) := by
        unfold wishR
        rw [if_pos (by omega), if_neg wv2]
      rw [e])
    simp only [← hsv, ← hpv]
    have two : 2 ≤ sizeLine := by decide
    have sAll := Same.refl H6
    refine ⟨_, rfl, _, rfl, log_ok rt0 (by omega), _, _, rfl, rfl, szz (by decide) (Nat.le_trans (szn rt0 (by omega)) (by decide)), _, rfl, two, fun b1 hb1 => ⟨two, fun a1 ha1 => ?_⟩⟩
    obtain ⟨s1, e1⟩ := mkNum2 (K := K) hb1 ha1 u1 (sok_app (by decide +kernel) (sok_num rt0 (by omega)))
    generalize upd (upd H6 b1 (.tup [.str "number", .int rt])) a1 (.tup [.str (("store 1 1 " : Str) ++ Str.ofString (toString rt)), .ref b1]) = G0 at s1 e1 ⊢
    replace sAll := sAll.trans s1
    refine ⟨_, rfl, _, rfl, log_ok sv0 (by omega), _, _, rfl, rfl, szz (by decide) (Nat.le_trans (szn sv0 (by omega)) (by decide)), _, _, rfl, rfl, szz (sza (by decide) (szn sv0 (by omega))) (by decide), _, rfl, two, fun b2 hb2 => ⟨two, fun a2 ha2 => ?_⟩⟩
    obtain ⟨s2, e2⟩ := mkNum2 (K := K) hb2 ha2 u2 (sok_app (sok_app (by decide +kernel) (sok_num sv0 (by omega))) (by decide +kernel))
    generalize upd (upd G0 b2 (.tup [.str "number", .int sv])) a2 (.tup [.str (("room " : Str) ++ Str.ofString (toString sv) ++ " 1"), .ref b2]) = G1 at s2 e2 ⊢
    replace e1 := e1.same s2
    replace sAll := sAll.trans s2
    refine ⟨two, fun M1 hM1 => ?_⟩
    have sM1 := Same.upd_new (o := .lst [.ref a1, .ref a2]) hM1
    have lM1 : upd G1 M1 (.lst [.ref a1, .ref a2]) M1 = some (.lst [.ref a1, .ref a2]) := upd_same
    generalize upd G1 M1 (.lst [.ref a1, .ref a2]) = G2 at sM1 lM1 ⊢
    replace e1 := e1.same sM1
    replace e2 := e2.same sM1
    replace sAll := sAll.trans sM1
    refine ⟨_, rfl, _, rfl, _, rfl, log_ok sv0 (by omega), _, _, rfl, rfl, szz (by decide) (Nat.le_trans (szn sv0 (by omega)) (by decide)), _, _, rfl, rfl, szz (sza (by decide) (szn sv0 (by omega))) (by decide), _, rfl, two, fun b3 hb3 => ⟨two, fun a3 ha3 => ?_⟩⟩
    obtain ⟨s3, e3⟩ := mkNum2 (K := K) hb3 ha3 u3 (sok_app (sok_app (by decide +kernel) (sok_num sv0 (by omega))) (by decide +kernel))
    generalize upd (upd G2 b3 (.tup [.str "number", .int sv])) a3 (.tup [.str (("rack " : Str) ++ Str.ofString (toString sv) ++ " 1"), .ref b3]) = G3 at s3 e3 ⊢
    replace e1 := e1.same s3
    replace e2 := e2.same s3
    replace sAll := sAll.trans s3
    replace lM1 := s3 _ _ lM1
    refine ⟨_, rfl, _, rfl, log_ok sv0 (by omega), _, _, rfl, rfl, szz (by decide) (Nat.le_trans (szn sv0 (by omega)) (by decide)), _, _, rfl, rfl, szz (sza (by decide) (szn sv0 (by omega))) (by decide), _, rfl, two, fun b4 hb4 => ⟨two, fun a4 ha4 => ?_⟩⟩
    obtain ⟨s4, e4⟩ := mkNum2 (K := K) hb4 ha4 u4 (sok_app (sok_app (by decide +kernel) (sok_num sv0 (by omega))) (by decide +kernel))
    generalize upd (upd G3 b4 (.tup [.str "number", .int sv])) a4 (.tup [.str (("rate " : Str) ++ Str.ofString (toString sv) ++ " 0"), .ref b4]) = G4 at s4 e4 ⊢
    replace e1 := e1.same s4
    replace e2 := e2.same s4
    replace e3 := e3.same s4
    replace sAll := sAll.trans s4
    replace lM1 := s4 _ _ lM1
    refine ⟨two, fun N1 hN1 => ?_⟩
    have sN1 := Same.upd_new (o := .lst [.ref a3, .ref a4]) hN1
    have lN1 : upd G4 N1 (.lst [.ref a3, .ref a4]) N1 = some (.lst [.ref a3, .ref a4]) := upd_same
    generalize upd G4 N1 (.lst [.ref a3, .ref a4]) = G5 at sN1 lN1 ⊢
    replace e1 := e1.same sN1
    replace e2 := e2.same sN1
    replace e3 := e3.same sN1
    replace e4 := e4.same sN1
    replace sAll := sAll.trans sN1
    replace lM1 := sN1 _ _ lM1
    refine ⟨M1, N1, _, _, rfl, rfl, lM1, lN1, by simp only [List.length_cons, List.length_nil]; decide, fun M2 hM2 => ?_⟩
    simp only [List.cons_append, List.nil_append]
    have sM2 := Same.upd_new (o := .lst [.ref a1, .ref a2, .ref a3, .ref a4]) hM2
    have lM2 : upd G5 M2 (.lst [.ref a1, .ref a2, .ref a3, .ref a4]) M2 = some (.lst [.ref a1, .ref a2, .ref a3, .ref a4]) := upd_same
    generalize upd G5 M2 (.lst [.ref a1, .ref a2, .ref a3, .ref a4]) = G6 at sM2 lM2 ⊢
    replace e1 := e1.same sM2
    replace e2 := e2.same sM2
    replace e3 := e3.same sM2
    replace e4 := e4.same sM2
    replace sAll := sAll.trans sM2
    refine ⟨_, rfl, _, rfl, _, rfl, log_ok rt0 (by omega), _, _, rfl, rfl, szz (by decide) (Nat.le_trans (szn rt0 (by omega)) (by decide)), _, rfl, two, fun b5 hb5 => ⟨two, fun a5 ha5 => ?_⟩⟩
    obtain ⟨s5, e5⟩ := mkNum2 (K := K) hb5 ha5 u5 (sok_app (by decide +kernel) (sok_num rt0 (by omega)))
    generalize upd (upd G6 b5 (.tup [.str "number", .int rt])) a5 (.tup [.str (("rate 0 " : Str) ++ Str.ofString (toString rt)), .ref b5]) = G7 at s5 e5 ⊢
    replace e1 := e1.same s5
    replace e2 := e2.same s5
    replace e3 := e3.same s5
    replace e4 := e4.same s5
    replace sAll := sAll.trans s5
    replace lM2 := s5 _ _ lM2
    refine ⟨_, rfl, _, rfl, log_ok pv0 (by omega), _, _, rfl, rfl, szz (by decide) (Nat.le_trans (szn pv0 (by omega)) (by decide)), _, _, rfl, rfl, szz (sza (by decide) (szn pv0 (by omega))) (by decide), _, rfl, two, fun b6 hb6 => ⟨two, fun a6 ha6 => ?_⟩⟩
    obtain ⟨s6, e6⟩ := mkNum2 (K := K) hb6 ha6 u6 (sok_app (sok_app (by decide +kernel) (sok_num pv0 (by omega))) (by decide +kernel))
    generalize upd (upd G7 b6 (.tup [.str "number", .int pv'])) a6 (.tup [.str (("wish " : Str) ++ Str.ofString (toString pv') ++ " 4"), .ref b6]) = G8 at s6 e6 ⊢
    replace e1 := e1.same s6
    replace e2 := e2.same s6
    replace e3 := e3.same s6
    replace e4 := e4.same s6
    replace e5 := e5.same s6
    replace sAll := sAll.trans s6
    replace lM2 := s6 _ _ lM2
    refine ⟨two, fun N2 hN2 => ?_⟩
    have sN2 := Same.upd_new (o := .lst [.ref a5, .ref a6]) hN2
    have lN2 : upd G8 N2 (.lst [.ref a5, .ref a6]) N2 = some (.lst [.ref a5, .ref a6]) := upd_same
    generalize upd G8 N2 (.lst [.ref a5, .ref a6]) = G9 at sN2 lN2 ⊢
    replace e1 := e1.same sN2
    replace e2 := e2.same sN2
    replace e3 := e3.same sN2
    replace e4 := e4.same sN2
    replace e5 := e5.same sN2
    replace e6 := e6.same sN2
    replace sAll := sAll.trans sN2
    replace lM2 := sN2 _ _ lM2
    refine ⟨M2, N2, _, _, rfl, rfl, lM2, lN2, by simp only [List.length_cons, List.length_nil]; decide, fun M3 hM3 => ?_⟩
    simp only [List.cons_append, List.nil_append]
    have sM3 := Same.upd_new (o := .lst [.ref a1, .ref a2, .ref a3, .ref a4, .ref a5, .ref a6]) hM3
    have lM3 : upd G9 M3 (.lst [.ref a1, .ref a2, .ref a3, .ref a4, .ref a5, .ref a6]) M3 = some (.lst [.ref a1, .ref a2, .ref a3, .ref a4, .ref a5, .ref a6]) := upd_same
    generalize upd G9 M3 (.lst [.ref a1, .ref a2, .ref a3, .ref a4, .ref a5, .ref a6]) = G10 at sM3 lM3 ⊢
    replace e1 := e1.same sM3
    replace e2 := e2.same sM3
    replace e3 := e3.same sM3
    replace e4 := e4.same sM3
    replace e5 := e5.same sM3
    replace e6 := e6.same sM3
    replace sAll := sAll.trans sM3
    refine ⟨_, rfl, _, rfl, _, rfl, log_ok pv0 (by omega), _, _, rfl, rfl, szz (by decide) (Nat.le_trans (szn pv0 (by omega)) (by decide)), _, rfl, two, fun b7 hb7 => ⟨two, fun a7 ha7 => ?_⟩⟩
    obtain ⟨s7, e7⟩ := mkNum2 (K := K) hb7 ha7 u7 (sok_app (by decide +kernel) (sok_num pv0 (by omega)))
    generalize upd (upd G10 b7 (.tup [.str "number", .int pv'])) a7 (.tup [.str (("where " : Str) ++ Str.ofString (toString pv')), .ref b7]) = G11 at s7 e7 ⊢
    replace e1 := e1.same s7
    replace e2 := e2.same s7
    replace e3 := e3.same s7
    replace e4 := e4.same s7
    replace e5 := e5.same s7
    replace e6 := e6.same s7
    replace sAll := sAll.trans s7
    replace lM3 := s7 _ _ lM3
    refine ⟨_, rfl, _, rfl, log_ok wv0 (by omega), _, _, rfl, rfl, szz (by decide) (Nat.le_trans (szn wv0 (by omega)) (by decide)), _, _, rfl, rfl, szz (sza (by decide) (szn wv0 (by omega))) (by decide), _, rfl, two, fun b8 hb8 => ⟨two, fun a8 ha8 => ?_⟩⟩
    obtain ⟨s8, e8⟩ := mkNum2 (K := K) hb8 ha8 u8 (sok_app (sok_app (by decide +kernel) (sok_num wv0 (by omega))) (by decide +kernel))
    generalize upd (upd G11 b8 (.tup [.str "number", .int wv])) a8 (.tup [.str (("piece " : Str) ++ Str.ofString (toString wv) ++ " 9"), .ref b8]) = G12 at s8 e8 ⊢
    replace e1 := e1.same s8
    replace e2 := e2.same s8
    replace e3 := e3.same s8
    replace e4 := e4.same s8
    replace e5 := e5.same s8
    replace e6 := e6.same s8
    replace e7 := e7.same s8
    replace sAll := sAll.trans s8
    replace lM3 := s8 _ _ lM3
    refine ⟨two, fun N3 hN3 => ?_⟩
    have sN3 := Same.upd_new (o := .lst [.ref a7, .ref a8]) hN3
    have lN3 : upd G12 N3 (.lst [.ref a7, .ref a8]) N3 = some (.lst [.ref a7, .ref a8]) := upd_same
    generalize upd G12 N3 (.lst [.ref a7, .ref a8]) = G13 at sN3 lN3 ⊢
    replace e1 := e1.same sN3
    replace e2 := e2.same sN3
    replace e3 := e3.same sN3
    replace e4 := e4.same sN3
    replace e5 := e5.same sN3
    replace e6 := e6.same sN3
    replace e7 := e7.same sN3
    replace e8 := e8.same sN3
    replace sAll := sAll.trans sN3
    replace lM3 := sN3 _ _ lM3
    refine ⟨M3, N3, _, _, rfl, rfl, lM3, lN3, by simp only [List.length_cons, List.length_nil]; decide, fun M4 hM4 => ?_⟩
    simp only [List.cons_append, List.nil_append]
    have nM4 := (t6.same sAll).new hM4
    have nH4 : H M4 = none := (fH6.trans sAll.fr).free (t6.same sAll).md hM4
    have sM4 := Same.upd_new (o := .lst [.ref a1, .ref a2, .ref a3, .ref a4, .ref a5, .ref a6, .ref a7, .ref a8]) hM4
    have lM4 : upd G13 M4 (.lst [.ref a1, .ref a2, .ref a3, .ref a4, .ref a5, .ref a6, .ref a7, .ref a8]) M4 = some (.lst [.ref a1, .ref a2, .ref a3, .ref a4, .ref a5, .ref a6, .ref a7, .ref a8]) := upd_same
    generalize upd G13 M4 (.lst [.ref a1, .ref a2, .ref a3, .ref a4, .ref a5, .ref a6, .ref a7, .ref a8]) = G14 at sM4 lM4 ⊢
    replace e1 := e1.same sM4
    replace e2 := e2.same sM4
    replace e3 := e3.same sM4
    replace e4 := e4.same sM4
    replace e5 := e5.same sM4
    replace e6 := e6.same sM4
    replace e7 := e7.same sM4
    replace e8 := e8.same sM4
    replace sAll := sAll.trans sM4
    have tM := t6.same sAll
    have hLM := sAll.sqt hL
    refine ⟨_, rfl, .inl ⟨rfl, _, .inl (.inl lM4)⟩, ?_⟩
    refine ⟨_, rfl, lt, L.map Int.toNat, rfl, ?_, ?_, ?_, fun HJ sJ => ?_⟩
    · have e : toI (L.map Int.toNat) = L := by
        unfold toI
        rw [List.map_map]
        conv => rhs; rw [← List.map_id L]
        exact List.map_congr_left (fun y hy => Int.toNat_of_nonneg (lb4 y hy).1)
      rw [e]
      exact hLM
    · intro n hn
      obtain ⟨y, hy, rfl⟩ := List.mem_map.mp hn
      have := lb4 y hy
      omega
    · rw [List.length_map]
      omega
    replace hLM := sJ.sqt hLM
    replace sAll := sAll.trans sJ
    replace tM := tM.same sJ
    replace lM4 := sJ _ _ lM4
    replace e1 := e1.same sJ
    replace e2 := e2.same sJ
    replace e3 := e3.same sJ
    replace e4 := e4.same sJ
    replace e5 := e5.same sJ
    replace e6 := e6.same sJ
    replace e7 := e7.same sJ
    replace e8 := e8.same sJ
    refine ⟨_, _, rfl, rfl, ?_, _, rfl, two, fun b9 hb9 => ⟨two, fun a9 ha9 => ?_⟩⟩
    · refine szz (by decide) (Nat.le_trans (lotW_len (fun n hn => ?_)) (by rw [List.length_map]; omega))
      obtain ⟨y, hy, rfl⟩ := List.mem_map.mp hn
      have := lb4 y hy
      omega
    obtain ⟨s9, e9⟩ := mkLot (K := K) hb9 ha9 hLM u9 (sok_app (by decide +kernel) lb5)
    refine nilOf ⟨M4, _, _, rfl, rfl, s9 _ _ lM4, by simp only [List.length_cons, List.length_nil]; decide, ?_⟩
    replace sAll := sAll.trans s9
    replace tM := tM.same s9
    replace lM4 := s9 _ _ lM4
    generalize upd (upd HJ b9 (.tup [.str "lot", .ref lt])) a9 (.tup [.str (("piece 1 " : Str) ++ lotW (L.map Int.toNat)), .ref b9]) = GJ at s9 e9 sAll tM lM4 ⊢
    replace e1 := e1.same s9
    replace e2 := e2.same s9
    replace e3 := e3.same s9
    replace e4 := e4.same s9
    replace e5 := e5.same s9
    replace e6 := e6.same s9
    replace e7 := e7.same s9
    replace e8 := e8.same s9
    have mM4 : MuX [M4] GJ := MuX.one lM4 rfl
    have all : ∀ v ∈ [V.ref a1, .ref a2, .ref a3, .ref a4, .ref a5, .ref a6, .ref a7, .ref a8, .ref a9], En K W GJ v := by
      intro v hv
      simp only [List.mem_cons, List.not_mem_nil, or_false] at hv
      rcases hv with rfl | rfl | rfl | rfl | rfl | rfl | rfl | rfl | rfl <;> assumption
    simp only [List.cons_append, List.nil_append]
    clear e1 e2 e3 e4 e5 e6 e7 e8 e9
    have tape9 := tM.upd (o := .lst [V.ref a1, .ref a2, .ref a3, .ref a4, .ref a5, .ref a6, .ref a7, .ref a8, .ref a9]) nM4.1 nM4.2
    have l9 : upd GJ M4 (.lst [V.ref a1, .ref a2, .ref a3, .ref a4, .ref a5, .ref a6, .ref a7, .ref a8, .ref a9]) M4 = some (.lst [V.ref a1, .ref a2, .ref a3, .ref a4, .ref a5, .ref a6, .ref a7, .ref a8, .ref a9]) := upd_same
    have f9 : FrX [M4] GJ (upd GJ M4 (.lst [V.ref a1, .ref a2, .ref a3, .ref a4, .ref a5, .ref a6, .ref a7, .ref a8, .ref a9])) := (Same.refl GJ).fr.upd (by simp)
    have fH9 : FrX [p] H (upd GJ M4 (.lst [V.ref a1, .ref a2, .ref a3, .ref a4, .ref a5, .ref a6, .ref a7, .ref a8, .ref a9])) := fr_new (fH6.trans sAll.fr) nH4
    replace all : ∀ v ∈ [V.ref a1, .ref a2, .ref a3, .ref a4, .ref a5, .ref a6, .ref a7, .ref a8, .ref a9], En K W (upd GJ M4 (.lst [V.ref a1, .ref a2, .ref a3, .ref a4, .ref a5, .ref a6, .ref a7, .ref a8, .ref a9])) v := fun v hv => (all v hv).fr f9 mM4
    generalize upd GJ M4 (.lst [V.ref a1, .ref a2, .ref a3, .ref a4, .ref a5, .ref a6, .ref a7, .ref a8, .ref a9]) = G9 at tape9 l9 f9 fH9 all ⊢
    have len9 : [V.ref a1, .ref a2, .ref a3, .ref a4, .ref a5, .ref a6, .ref a7, .ref a8, .ref a9].length + 1 ≤ sizeLine := by simp only [List.length_cons, List.length_nil]; decide
    have ne9 : [V.ref a1, .ref a2, .ref a3, .ref a4, .ref a5, .ref a6, .ref a7, .ref a8, .ref a9] ≠ [] := by simp
    generalize [V.ref a1, .ref a2, .ref a3, .ref a4, .ref a5, .ref a6, .ref a7, .ref a8, .ref a9] = X9 at l9 all len9 ne9
    refine ⟨_, rfl, _, _, rfl, rfl, _, rfl, ite2 (fun c => ?_) (fun c => ?_)⟩
    · have hw : 0 < W.wi.length := by simpa using c
      refine ⟨_, rfl, .inl ⟨rfl, _, .inl (.inl l9)⟩, ?_⟩
      refine ⟨_, rfl, _, rfl, log_ok wv0 (by omega), _, _, rfl, rfl, szz (by decide) (Nat.le_trans (szn wv0 (by omega)) (by decide)), _, rfl, two, fun b10 hb10 => ⟨two, fun a10 ha10 => ?_⟩⟩
      obtain ⟨s10, e10⟩ := mkNum2 (K := K) hb10 ha10 (u10 hw) (sok_app (by decide +kernel) (sok_num wv0 (by omega)))
      refine nilOf ⟨M4, _, _, rfl, rfl, s10 _ _ l9, by omega, ?_⟩
      have l10 := s10 _ _ l9
      have t10 := (tape9.same s10).upd (o := .lst (X9 ++ [.ref a10])) nM4.1 nM4.2
      have f10 := (Same.refl _).fr.upd (M := [M4]) (H := upd (upd G9 b10 (.tup [.str "number", .int wv])) a10 (.tup [.str (("wish 0 " : Str) ++ Str.ofString (toString wv)), .ref b10])) (a := M4) (o := .lst (X9 ++ [.ref a10])) (by simp)
      have m10 : MuX [M4] (upd (upd G9 b10 (.tup [.str "number", .int wv])) a10 (.tup [.str (("wish 0 " : Str) ++ Str.ofString (toString wv)), .ref b10])) := MuX.one l10 rfl
      refine ⟨_, rfl, _, rfl, p, l, M4, X9 ++ [.ref a10], rfl, t10, .inl (.inl (.inl upd_same)), by simp, fun i v H' ev f' t' => ?_⟩
      refine q v H' ((fr_new (fH9.trans s10.fr) nH4).trans f') t' (En.fr f' t10.md.mu ?_)
      rcases List.mem_append.mp (List.mem_of_getElem? ev) with hm | hm
      · exact ((all v hm).same s10).fr f10 m10
      · rw [List.mem_singleton.mp hm]
        exact e10.fr f10 m10
    · refine ⟨_, rfl, _, rfl, p, l, M4, X9, rfl, tape9, .inl (.inl (.inl l9)), ne9, fun i v H' ev f' t' => ?_⟩
      exact q v H' (fH9.trans f') t' ((all v (List.mem_of_getElem? ev)).fr f' tape9.md.mu)
end
end K5
set_option Elab.async false
set_option linter.all false
set_option maxRecDepth 100000
set_option maxHeartbeats 4000000
namespace K5
open PySem PySem.Spec PyProof.Rows L2
open TL (tl)
/-! ### _law_full -/
def spFull (K : PySem.W.Frag) : Sp := fun vs H Q _ => ∃ p l : Addr, vs = [.ref p] ∧ TapeAt K H p l ∧ ∀ H', Q (.bl true) H'
theorem cl_makeQ {K : PySem.W.Frag} {H1 : Hp} {Q : VK} {E : XK} {a b d x dx : Addr} {k : Cl} (ha : TI K H1 a k.ra) (hb : TI K H1 b k.ro) (hd : TI K H1 d k.rt) (ok : OkC k.ra k.ro k.rt) (hx : H1 x = none) (hdx : H1 dx = none) (q : ∀ H', Same H1 H' → ClA K H' x k → Q .non H') :
    spCl K (.ref x :: ([.ref a, .ref b, .ref d] ++ [])) (upd (upd H1 dx (.own x)) x (.ins (He.ga K "Cluster") dx [])) Q E :=
  ⟨x, dx, a, b, d, k.ra, k.ro, k.rt, rfl, upd_same, (mk_pre hx hdx).sqt ha, (mk_pre hx hdx).sqt hb, (mk_pre hx hdx).sqt hd, ok, fun H2 f e => q H2 (mk_same hx hdx f) ⟨⟨dx, a, b, d, e, (mk_same hx hdx f).sqt ha, (mk_same hx hdx f).sqt hb, (mk_same hx hdx f).sqt hd⟩, ok⟩⟩
theorem dk_makeQ {K : PySem.W.Frag} {H1 : Hp} {Q : VK} {E : XK} {c wi pl x dx : Addr} {k : Cl} {ws : List Int} {ls : List (List Int)} (hc : ClA K H1 c k) (hw : TI K H1 wi ws) (hp : TP K H1 pl ls) (ok : OkW k.ra.length ws ls) (hx : H1 x = none) (hdx : H1 dx = none) (q : ∀ dl ul H', Same H1 H' → H1 dl = none → H1 ul = none → DkAt K H' x dl ul ⟨⟨k, ws, ls⟩, [], []⟩ → Q .non H') :
    spDesk K (.ref x :: ([.ref c, .ref wi, .ref pl] ++ [])) (upd (upd H1 dx (.own x)) x (.ins (He.ga K "Desk") dx [])) Q E :=
  ⟨x, dx, .ref c, .ref wi, .ref pl, rfl, upd_same, .inl ⟨c, wi, pl, k, ws, ls, rfl, rfl, rfl, hc.same (mk_pre hx hdx), (mk_pre hx hdx).sqt hw, (mk_pre hx hdx).tp hp, ok, fun dl ul H2 f nd nu D => q dl ul H2 (mk_same hx hdx f) ((mk_pre hx hdx).free nd) ((mk_pre hx hdx).free nu) D⟩⟩
theorem repF {α : Type} {k : Nat} {x : α} : (List.replicate k [x]).flatten = List.replicate k x := by
  induction k with
  | zero => rfl
  | succ k ih => rw [List.replicate_succ, List.replicate_succ, List.flatten_cons, ih]; rfl
theorem repI {K : PySem.W.Frag} {H : Hp} {a : Addr} {k : Nat} {i : Int} (h : H a = some (.tup (List.replicate k [V.int i]).flatten)) : TI K H a (List.replicate k i) := by
  have e : (List.replicate k [V.int i]).flatten = (List.replicate k i).map V.int := by
    rw [repF, List.map_replicate]
  rw [e] at h
  exact .of h
theorem repP {K : PySem.W.Frag} {H : Hp} {a b : Addr} {k : Nat} {l : List Int} (h : H a = some (.tup (List.replicate k [V.ref b]).flatten)) (hb : TI K H b l) : TP K H a (List.replicate k l) := by
  rw [repF] at h
  refine ⟨List.replicate k b, ?_, by simp, fun i c l' e1 e2 => ?_⟩
  · rw [List.map_replicate]
    exact .of h
  · have := (List.mem_replicate.mp (List.mem_of_getElem? e1)).2
    have := (List.mem_replicate.mp (List.mem_of_getElem? e2)).2
    subst_vars
    exact hb
theorem runOk {K : PySem.W.Frag} {b dl ul : Addr} {D : Dk} {line : Str} {d : Dd} {W' : Wd} {H : Hp} {Q : VK} {E : XK} (hl : line = J (d.word :: d.ws)) (bd : d.bd) (hD : DkAt K H b dl ul D) (z : DkSz D) (e : ledR D.w d = .ok W')
    (q : ∀ ul' H', FrX [b, dl] H H' → H ul' = none → DkAt K H' b dl ul' ⟨W', D.done ++ [⟨line, D.w, W'⟩], []⟩ → Q (.str "") H') : spRun K [.ref b, .str line] H Q E := by
  refine ⟨b, dl, ul, D, line, d.word, d.ws, rfl, hD, z.d, z.u, z.w, z.p, by rw [hl]; exact d.lineIs bd, .inl ⟨d, rfl, okWords_ok (Dd.good bd), told_ok (Dd.good bd), Dd.nn_of bd, ?_⟩⟩
  rw [e]
  exact q
theorem ln1 : ("store 1 1 1" : Str) = J ["store", numW 1, numW 1, numW 1] ∧ ("store 1 1 0" : Str) = J ["store", numW 1, numW 1, numW 0] := by decide +kernel
theorem ln2 : ("piece 1 7" : Str) = J ["piece", numW 1, lotW [7]] ∧ ("piece 1 0" : Str) = J ["piece", numW 1, lotW [0]] ∧ ("piece 1 8" : Str) = J ["piece", numW 1, lotW [8]] := by decide +kernel
theorem bdA : (Dd.store 1 1 1).bd ∧ (Dd.store 1 1 0).bd ∧ (Dd.piece 1 [7]).bd ∧ (Dd.piece 1 [0]).bd ∧ (Dd.piece 1 [8]).bd := by
  refine ⟨?_, ?_, ?_, ?_, ?_⟩ <;> (intro v hv; simp only [Dd.vals, List.mem_cons, List.not_mem_nil, or_false] at hv)
  · rcases hv with rfl | rfl | rfl <;> exact ⟨by decide, by decide⟩
  · rcases hv with rfl | rfl | rfl <;> exact ⟨by decide, by decide⟩
  · rcases hv with rfl | rfl
    · exact ⟨by decide, by decide⟩
    · exact ⟨by simp, by decide, by decide⟩
  · rcases hv with rfl | rfl
    · exact ⟨by decide, by decide⟩
    · exact ⟨by simp, by decide, by decide⟩
  · rcases hv with rfl | rfl
    · exact ⟨by decide, by decide⟩
    · exact ⟨by simp, by decide, by decide⟩
section
variable {w : World} {K : PySem.W.Frag} {mg : Str → Option Value} {base : Heap}
theorem sc__law_full : FnScope ["_law_tape_here", "_law_many", "_law_desk", "_law_k"] ["_law_tape_here"] (defScope s__law_full) := ⟨rfl, rfl, rfl, by decide +kernel, rfl, by decide +kernel, by decide +kernel⟩
theorem ok__law_full (T : Top w K mg) : HasF w K mg base 10 "_law_full" ["_law_tape_here"] (spFull K) := by
  refine .of T (has_ex (k := 9) T 33 (d := dD ("_law_full", none) "_law_full" "_law_full" s__law_full) rfl sc__law_full (fun _ => rfl) (fun _ _ _ _ _ _ us hl => match us, hl with | [_], _ => rfl) (fun vs H Q E h => ?_) (fun cdv A outer s H vs Q E hr h => ?_))
  · obtain ⟨p, l, rfl, _⟩ := h
    rfl
  · obtain ⟨p, l, rfl, ht, q⟩ := h
    have hu := hu_of hr
    have hv := hr.units
    refine ⟨_, (pss_cons (ps_set (i := 1) sc__law_full.nd rfl (Or.inl rfl) (pe_op op_add pe_int (pe_fn (ok__law_draw T) rfl hr (by omega) (pa_cons (pv 0) (pa_cons pe_int pa_nil)))))
      (pss_cons (ps_set (i := 2) sc__law_full.nd rfl (Or.inl rfl) (pe_mkX (ok_Desk_init T) rfl hr (by omega) (takes_of rfl rfl rfl rfl) (pa_cons (pe_mkX (ok_Cluster_init T) rfl hr (by omega) (takes_of rfl rfl rfl rfl) (pa_cons (pe_op op_repT (pe_tup (pa_cons pe_int pa_nil)) (pv 1)) (pa_cons (pe_op op_repT (pe_tup (pa_cons pe_int pa_nil)) (pv 1)) (pa_cons (pe_op op_repT (pe_tup (pa_cons pe_int pa_nil)) (pv 1)) pa_nil)))) (pa_cons (pe_op op_repT (pe_tup (pa_cons pe_int pa_nil)) pe_int) (pa_cons (pe_op op_repT (pe_tup (pa_cons (pe_tup (pa_cons pe_int pa_nil)) pa_nil)) pe_int) pa_nil)))))
      (pss_cons (ps_for (passes_of rfl) rfl (pi_range1 rfl (T.free _ (by decide +kernel)) (pa_cons (pe_op op_sub pe_int (pv 1)) pa_nil)) (pg_name (i := 3) sc__law_full.nd rfl (Or.inl rfl)) (pss_one (ps_if (pt_cmpR (op_neD hv) (pe_meX (ok_Desk_run T) T.clD rfl hr (by omega) (takes_of rfl rfl rfl rfl) (pv 2) (pa_cons pe_str pa_nil)) pe_str (nomark _)) (pss_one (ps_ret pe_bl)) pss_nil)))
      (pss_cons (ps_if (PW.pt (pw_or (pt_cmpR (op_neD hv) (pe_fn (ok__law_refused T) rfl hr (by omega) (pa_cons (pv 2) (pa_cons pe_str pa_nil))) (pe_tup (pa_cons pe_str (pa_cons pe_str pa_nil))) (nomark _)) (pw_or1 (pt_cmpR (op_neD hv) (pe_meX (ok_Desk_run T) T.clD rfl hr (by omega) (takes_of rfl rfl rfl rfl) (pv 2) (pa_cons pe_str pa_nil)) pe_str (nomark _))))) (pss_one (ps_ret pe_bl)) pss_nil)
      (pss_one (ps_ret (pe_and (pe_cmpR (op_eqD hv) (pe_fn (ok__law_refused T) rfl hr (by omega) (pa_cons (pv 2) (pa_cons pe_str pa_nil))) (pe_tup (pa_cons pe_str (pa_cons pe_str pa_nil))) (nomark _)) (pe_one (pe_cmpR (op_eqD hv) (pe_fn (ok__law_refused T) rfl hr (by omega) (pa_cons (pv 2) (pa_cons pe_str pa_nil))) (pe_tup (pa_cons pe_str (pa_cons (pe_tup (pa_cons pe_int pa_nil)) pa_nil))) (nomark _)))))))))), ?_⟩
    refine ⟨_, rfl, p, l, 3, rfl, by decide, ht, fun d H1 d0 d1 f1 t1 => ⟨_, _, rfl, rfl, ?_⟩⟩
    obtain ⟨m, hm⟩ : ∃ m : Nat, (m : Int) = 6 + d := ⟨(6 + d).toNat, by omega⟩
    have m6 : 6 ≤ m := by omega
    have m8 : m ≤ 8 := by omega
    simp only [← hm]
    have one : 1 ≤ sizeLine := by decide
    refine ⟨one, fun x1 hx1 => ⟨_, rfl, x1, _, _, rfl, rfl, .of upd_same, by simp, by omega, by omega, by simp, fun r1 hr1 => ?_⟩⟩
    have s1 := (Same.upd_new (o := .tup [.int 0]) hx1).trans (Same.upd_new (o := .tup (List.replicate (m : Int).toNat [V.int 0]).flatten) hr1)
    have i1 : TI K (upd (upd H1 x1 (.tup [.int 0])) r1 (.tup (List.replicate (m : Int).toNat [V.int 0]).flatten)) r1 (List.replicate m 0) := repI upd_same
    generalize upd (upd H1 x1 (.tup [.int 0])) r1 (.tup (List.replicate (m : Int).toNat [V.int 0]).flatten) = G1 at s1 i1 ⊢
    refine ⟨one, fun x2 hx2 => ⟨_, rfl, x2, _, _, rfl, rfl, .of upd_same, by simp, by omega, by omega, by simp, fun r2 hr2 => ?_⟩⟩
    have s2 := (Same.upd_new (o := .tup [.int 9]) hx2).trans (Same.upd_new (o := .tup (List.replicate (m : Int).toNat [V.int 9]).flatten) hr2)
    have i2 : TI K (upd (upd G1 x2 (.tup [.int 9])) r2 (.tup (List.replicate (m : Int).toNat [V.int 9]).flatten)) r2 (List.replicate m 9) := repI upd_same
    generalize upd (upd G1 x2 (.tup [.int 9])) r2 (.tup (List.replicate (m : Int).toNat [V.int 9]).flatten) = G2 at s2 i2 ⊢
    replace i1 := s2.sqt i1
    refine ⟨one, fun x3 hx3 => ⟨_, rfl, x3, _, _, rfl, rfl, .of upd_same, by simp, by omega, by omega, by simp, fun r3 hr3 => ?_⟩⟩
    have s3 := (Same.upd_new (o := .tup [.int 1]) hx3).trans (Same.upd_new (o := .tup (List.replicate (m : Int).toNat [V.int 1]).flatten) hr3)
    have i3 : TI K (upd (upd G2 x3 (.tup [.int 1])) r3 (.tup (List.replicate (m : Int).toNat [V.int 1]).flatten)) r3 (List.replicate m 1) := repI upd_same
    generalize upd (upd G2 x3 (.tup [.int 1])) r3 (.tup (List.replicate (m : Int).toNat [V.int 1]).flatten) = G3 at s3 i3 ⊢
    replace i1 := s3.sqt i1
    replace i2 := s3.sqt i2
    have okc : OkC (List.replicate m 0) (List.replicate m 9) (List.replicate m 1) := ⟨by simp; omega, by simp; omega, by simp, by simp, fun x hx => by rw [(List.mem_replicate.mp hx).2]; decide, fun x hx => by rw [(List.mem_replicate.mp hx).2]; decide, fun x hx => by rw [(List.mem_replicate.mp hx).2]; decide⟩
    refine nilOf ?_
    intro c xb nc nxb _
    refine cl_makeQ (k := ⟨List.replicate m 0, List.replicate m 9, List.replicate m 1⟩) i1 i2 i3 okc nc nxb fun H2 s4 hc => ⟨rfl, ?_⟩
    refine ⟨one, fun x5 hx5 => ⟨x5, _, _, rfl, rfl, .of upd_same, by simp, by decide, by decide, by simp, fun r5 hr5 => ?_⟩⟩
    have s5 := (Same.upd_new (o := .tup [.int 1]) hx5).trans (Same.upd_new (o := .tup (List.replicate (39 : Int).toNat [V.int 1]).flatten) hr5)
    have i5 : TI K (upd (upd H2 x5 (.tup [.int 1])) r5 (.tup (List.replicate (39 : Int).toNat [V.int 1]).flatten)) r5 (List.replicate 39 1) := repI upd_same
    generalize upd (upd H2 x5 (.tup [.int 1])) r5 (.tup (List.replicate (39 : Int).toNat [V.int 1]).flatten) = G5 at s5 i5 ⊢
    replace hc := hc.same s5
    refine ⟨one, fun y6 hy6 => ⟨one, fun x6 hx6 => ⟨x6, _, _, rfl, rfl, .of upd_same, by simp, by decide, by decide, by simp, fun r6 hr6 => ?_⟩⟩⟩
    have s6 := ((Same.upd_new (o := .tup [.int 0]) hy6).trans (Same.upd_new (o := .tup [.ref y6]) hx6)).trans (Same.upd_new (o := .tup (List.replicate (39 : Int).toNat [V.ref y6]).flatten) hr6)
    have j6 := (Same.upd_new (o := .tup [.ref y6]) hx6).trans (Same.upd_new (o := .tup (List.replicate (39 : Int).toNat [V.ref y6]).flatten) hr6)
    have i6 : TP K (upd (upd (upd G5 y6 (.tup [.int 0])) x6 (.tup [.ref y6])) r6 (.tup (List.replicate (39 : Int).toNat [V.ref y6]).flatten)) r6 (List.replicate 39 [0]) := repP upd_same (j6.sqt (.of upd_same))
    generalize upd (upd (upd G5 y6 (.tup [.int 0])) x6 (.tup [.ref y6])) r6 (.tup (List.replicate (39 : Int).toNat [V.ref y6]).flatten) = G6 at s6 j6 i6 ⊢
    replace i5 := s6.sqt i5
    replace hc := hc.same s6
    have okw : OkW m (List.replicate 39 1) (List.replicate 39 [0]) := ⟨fun x hx => by rw [(List.mem_replicate.mp hx).2]; decide, by simp, by simp, fun x hx => by
      rw [(List.mem_replicate.mp hx).2]
      exact ⟨⟨fun y hy => by rw [List.mem_singleton.mp hy]; omega, by simp, by simp⟩, by simp⟩⟩
    refine nilOf ?_
    intro b xb' nb nxb' _
    refine dk_makeQ hc i5 i6 (by simpa using okw) nb nxb' fun dl ul H3 s7 ndl nul D => ⟨rfl, ?_⟩
    have t3 := (((((t1.same s1).same s2).same s3).same s4).same s5).same s6 |>.same s7
    refine ⟨_, rfl, _, _, rfl, rfl, _, rfl, by omega, by omega, ?_⟩
    refine for_range (fun i σ H' => ∃ (dl ul : Addr) (D : Dk) (u : Option V), σ = [some (.ref p), some (.int (m : Nat)), some (.ref b), u] ∧ DkAt K H' b dl ul D ∧ D.w.cl.ra.length = m + i ∧ D.w.wi.length = 39 ∧ D.w.pl.length = 39 ∧ D.done.length = i ∧ D.undone.length = 0)
      ⟨dl, ul, _, none, rfl, D, by simp, by simp, by simp, rfl, rfl⟩ ?_ ?_
    · rintro i σ G hi ⟨dl, ul, D, u, rfl, hD, z1, z2, z3, z4, z5⟩
      have e : ledR D.w (.store 1 1 1) = .ok ⟨⟨D.w.cl.ra ++ [1], D.w.cl.ro ++ [1], D.w.cl.rt ++ [1]⟩, D.w.wi, D.w.pl⟩ := by
        show toW D.w (storeR D.w.cl 1 1 1) = _
        unfold storeR
        rw [if_neg (by omega), if_pos (by decide), if_pos (by decide), if_pos (by decide)]
        rfl
      obtain ⟨dx, cA, wA, pA, li, xs, ys, h1, _⟩ := id hD.ex
      refine ⟨_, rfl, b, dx, _, rfl, h1, rfl, runOk (d := .store 1 1 1) ln1.1 bdA.1 hD ⟨by omega, by omega, by omega, by omega⟩ e fun ul' G' f nf D' => ?_⟩
      refine ⟨_, _, .str _, .str _, by decide +kernel, by decide +kernel, _, rfl, iteC rfl ?_⟩
      exact ⟨dl, ul', _, some (.int (0 + (i : Nat))), rfl, D', by simp; omega, z2, z3, by simp; omega, rfl⟩
    · rintro σ G ⟨dl, ul, D, u, rfl, hD, z1, z2, z3, z4, z5⟩
      have z6 : D.w.cl.ra.length = 8 := by omega
      refine ⟨_, rfl, b, dl, ul, D, "store 1 1 0", .er (.many "stores"), rfl, hD, ⟨by omega, by omega, by omega, by omega⟩, ?_, fun r G2 s8 hr8 => ?_⟩
      · refine uf_dd (W := D.w) (d := .store 1 1 0) ln1.2 bdA.2.1 ?_ D rfl
        show toW D.w (storeR D.w.cl 1 1 0) = _
        unfold storeR
        rw [if_pos z6]
        rfl
      refine ⟨by show 2 ≤ sizeLine; decide, fun y hy => ?_⟩
      have s9 := Same.upd_new (o := .tup [.str "many", .str "stores"]) hy
      refine ⟨_, _, .tup (s9.sqt hr8) (.cons (.str _) (.cons (.str _) .nil)), .tup (.of upd_same) (.cons (.str _) (.cons (.str _) .nil)), by decide +kernel, by decide +kernel, _, rfl, ?_⟩
      refine iteC (by decide +kernel) ?_
      have sA := s8.trans s9
      replace hD := hD.same sA
      obtain ⟨dx, cA, wA, pA, li, xs, ys, h1, _⟩ := id hD.ex
      have e : ledR D.w (.piece 1 [7]) = .ok ⟨D.w.cl, D.w.wi ++ [1], D.w.pl ++ [[7]]⟩ := by
        show pieceR D.w 1 [7] = _
        unfold pieceR
        rw [if_pos (by decide), z6, if_pos (by decide), if_neg (by omega)]
      refine ⟨_, rfl, b, dx, _, rfl, h1, rfl, runOk (d := .piece 1 [7]) ln2.1 bdA.2.2.1 hD ⟨by omega, by omega, by omega, by omega⟩ e fun ul' G' f nf D' => ?_⟩
      refine ⟨_, _, .str _, .str _, by decide +kernel, by decide +kernel, _, rfl, iteC (by decide +kernel) ?_⟩
      have dz : DkSz ⟨⟨D.w.cl, D.w.wi ++ [1], D.w.pl ++ [[7]]⟩, D.done ++ [⟨"piece 1 7", D.w, ⟨D.w.cl, D.w.wi ++ [1], D.w.pl ++ [[7]]⟩⟩], []⟩ := ⟨by simp; omega, by simp, by simp; omega, by simp; omega⟩
      refine ⟨_, rfl, b, dl, ul', _, "piece 1 0", .er (.many "pieces"), rfl, D', dz, ?_, fun r G3 s10 hr10 => ?_⟩
      · refine uf_dd (d := .piece 1 [0]) ln2.2.1 bdA.2.2.2.1 ?_ _ rfl
        show pieceR _ 1 [0] = _
        unfold pieceR
        rw [if_pos (by decide), z6, if_pos (by decide), if_pos (by simp; omega)]
      refine ⟨by show 2 ≤ sizeLine; decide, fun y2 hy2 => ?_⟩
      have s11 := Same.upd_new (o := .tup [.str "many", .str "pieces"]) hy2
      refine ⟨_, _, .tup (s11.sqt hr10) (.cons (.str _) (.cons (.str _) .nil)), .tup (.of upd_same) (.cons (.str _) (.cons (.str _) .nil)), by decide +kernel, by decide +kernel, ?_⟩
      refine ⟨_, rfl, iteB (by decide +kernel) ?_⟩
      refine ⟨_, rfl, b, dl, ul', _, "piece 1 8", .er (.lot [8]), rfl, D'.same (s10.trans s11), dz, ?_, fun r2 G4 s12 hr12 => ?_⟩
      · refine uf_dd (d := .piece 1 [8]) ln2.2.2 bdA.2.2.2.2 ?_ _ rfl
        show pieceR _ 1 [8] = _
        unfold pieceR
        rw [if_pos (by decide), z6, if_neg (by decide)]
      obtain ⟨la, hr13, hr14⟩ := hr12
      refine ⟨by show 1 ≤ sizeLine; decide, fun z hz => ⟨by show 2 ≤ sizeLine; decide, fun y3 hy3 => ?_⟩⟩
      have s13 := Same.upd_new (o := .tup [.int 8]) hz
      have s14 := Same.upd_new (o := .tup [.str "lot", .ref z]) hy3
      have sL := s13.trans s14
      refine ⟨_, _, .tup (sL.sqt hr13) (.cons (.str _) (.cons (.tup (sL.sqt hr14) (.cons (.int _) .nil)) .nil)), .tup (.of upd_same) (.cons (.str _) (.cons (.tup (s14.sqt (.of upd_same)) (.cons (.int _) .nil)) .nil)), by decide +kernel, by decide +kernel, ?_⟩
      exact (congrArg (fun c => Q (V.bl c) _) (by decide +kernel : PyData.eqv (.tuple [.str "lot", .tuple [.int 8]]) (.tuple [.str "lot", .tuple [.int 8]]) = true)).mpr (q _)
end
end K5
set_option Elab.async false
set_option linter.all false
namespace K5
open PySem PySem.Spec PyProof.Rows L2
theorem incr_len : ∀ {l : List Int} {a b : Int}, (∀ x ∈ l, a ≤ x ∧ x ≤ b) → l.Pairwise (· < ·) → a ≤ b + 1 → (l.length : Int) ≤ b + 1 - a
  | [], _, _, _, _, h => by simp; omega
  | x :: l, a, b, h, pw, _ => by
    have hx := h x (by simp)
    have hp := List.pairwise_cons.mp pw
    have := incr_len (l := l) (a := x + 1) (b := b) (fun y hy => ⟨by have := hp.1 y hy; omega, (h y (by simp [hy])).2⟩) hp.2 (by omega)
    simp only [List.length_cons]
    omega
theorem small_ww {W : Wd} (h : WW W) : Small W := by
  have n4 := h.n4
  refine ⟨⟨h.ok.bra, by omega⟩, ⟨h.ok.bro, by have := h.ok.lo; omega⟩, ⟨fun x hx => by have := h.ok.brt x hx; omega, by have := h.ok.lt; omega⟩, ⟨fun x hx => by have := h.p.w x hx; omega, by have := h.m; omega⟩, by have := h.m; have := h.p.l; omega, fun l hl => ?_⟩
  have := h.p.p l hl
  have hl2 := incr_len (a := 0) (b := (W.cl.ra.length : Int) - 1) this.1.1 this.1.2.1 (by omega)
  exact ⟨fun x hx => by have := this.1.1 x hx; omega, by omega⟩
theorem okn_put {lo hi : Int} {l : List Int} {i : Nat} {v : Int} (h : OkN lo hi l) (hv : lo ≤ v ∧ v ≤ hi) : OkN lo hi (putL l i v) := fun x hx => by
  unfold putL at hx
  rcases List.mem_append.mp hx with hx | hx
  · rcases List.mem_append.mp hx with hx | hx
    · exact h x (List.mem_of_mem_take hx)
    · rw [List.mem_singleton.mp hx]; exact hv
  · exact h x (List.mem_of_mem_drop hx)
theorem len_put {l : List Int} {i : Nat} {v : Int} : (putL l i v).length ≤ l.length + 1 := by
  unfold putL
  simp
  omega
theorem okn_snoc {lo hi : Int} {l : List Int} {v : Int} (h : OkN lo hi l) (hv : lo ≤ v ∧ v ≤ hi) : OkN lo hi (l ++ [v]) := fun x hx => by
  rcases List.mem_append.mp hx with hx | hx
  · exact h x hx
  · rw [List.mem_singleton.mp hx]; exact hv
theorem toW_ok {W W' : Wd} {r : Except Er Cl} (h : toW W r = .ok W') : ∃ c, r = .ok c ∧ W' = ⟨c, W.wi, W.pl⟩ := by
  cases r with
  | ok c => exact ⟨c, rfl, (Except.ok.inj h).symm⟩
  | error e => cases h
theorem slotR_ok {n : Nat} {lo hi s v : Int} {set : Nat → Cl} {c : Cl} (h : slotR n lo hi set s v = .ok c) : lo ≤ v ∧ v ≤ hi ∧ c = set s.toNat := by
  unfold slotR at h
  split at h
  · split at h
    · rename_i a
      exact ⟨a.1, a.2, (Except.ok.inj h).symm⟩
    · cases h
  · cases h
theorem small_led {W W' : Wd} {d : Dd} {line : Str} (h : WW W) (ln : LnOk W d line W') : Small W' := by
  have S := small_ww h
  have n4 := h.n4
  have l1 := h.ok.lo
  have l2 := h.ok.lt
  have l3 := h.m
  have l4 := h.p.l
  have r := ln.r
  cases d with
  | store a b d =>
    obtain ⟨c, k, rfl⟩ := toW_ok r
    unfold storeR at k
    split at k
    · cases k
    split at k
    · split at k
      · split at k
        · cases Except.ok.inj k
          rename_i x y z
          exact ⟨⟨okn_snoc S.a.1 (by assumption), by simp; omega⟩, ⟨okn_snoc S.b.1 (by assumption), by simp; omega⟩, ⟨okn_snoc S.c.1 (by omega), by simp; omega⟩, S.d, S.e⟩
        · cases k
      · cases k
    · cases k
  | room s v =>
    obtain ⟨c, k, rfl⟩ := toW_ok r
    obtain ⟨v1, v2, rfl⟩ := slotR_ok k
    exact ⟨S.a, ⟨okn_put S.b.1 ⟨v1, v2⟩, by have := len_put (l := W.cl.ro) (i := s.toNat) (v := v); show (putL W.cl.ro s.toNat v).length ≤ 20; omega⟩, S.c, S.d, S.e⟩
  | rack s v =>
    obtain ⟨c, k, rfl⟩ := toW_ok r
    obtain ⟨v1, v2, rfl⟩ := slotR_ok k
    exact ⟨⟨okn_put S.a.1 ⟨v1, v2⟩, by have := len_put (l := W.cl.ra) (i := s.toNat) (v := v); show (putL W.cl.ra s.toNat v).length ≤ 20; omega⟩, S.b, S.c, S.d, S.e⟩
  | rate s v =>
    obtain ⟨c, k, rfl⟩ := toW_ok r
    obtain ⟨v1, v2, rfl⟩ := slotR_ok k
    exact ⟨S.a, S.b, ⟨okn_put S.c.1 ⟨by omega, by omega⟩, by have := len_put (l := W.cl.rt) (i := s.toNat) (v := v); show (putL W.cl.rt s.toNat v).length ≤ 20; omega⟩, S.d, S.e⟩
  | wish p v =>
    have r : (match wishR W p v with | .ok l => (Except.ok ⟨W.cl, l, W.pl⟩ : Except Er Wd) | .error e => .error e) = .ok W' := r
    unfold wishR at r
    split at r
    · rename_i k
      split at k
      · split at k
        · cases Except.ok.inj k
          cases Except.ok.inj r
          exact ⟨S.a, S.b, S.c, ⟨okn_put S.d.1 (by omega), by have := len_put (l := W.wi) (i := p.toNat) (v := v); show (putL W.wi p.toNat v).length ≤ 20; omega⟩, S.e⟩
        · cases k
      · cases k
    · cases r
  | piece v l =>
    have r : pieceR W v l = .ok W' := r
    have bl : VV.bd (.lst l) := ln.b _ (by simp [Dd.vals])
    unfold pieceR at r
    split at r
    · split at r
      · split at r
        · cases r
        · cases Except.ok.inj r
          refine ⟨S.a, S.b, S.c, ⟨okn_snoc S.d.1 (by omega), by simp; omega⟩, by simp; omega, fun m hm => ?_⟩
          rcases List.mem_append.mp hm with hm | hm
          · exact S.e.2 m hm
          · rw [List.mem_singleton.mp hm]
            exact ⟨fun x hx => by have := bl.2.2 x hx; omega, by have := bl.2.1; omega⟩
      · cases r
    · cases r
end K5
set_option Elab.async false
set_option linter.all false
set_option maxRecDepth 100000
set_option maxHeartbeats 4000000
namespace K5
open PySem PySem.Spec PyProof.Rows L2
/-! ### x == y, x != y of equal data, any texts -/
def rNeQ (K : PySem.W.Frag) : R2 := fun x y H Q => ∃ d, Dp K H x d ∧ Dp K H y d ∧ d.plain = true ∧ d.depth ≤ 64 ∧ Q (.bl false) H
theorem op_neQ {X : Cx} (hu : X.A.units + 64 < cLine) : OpR X (compareOp .NotEq) (rNeQ X.K) := by
  intro pins s σ H x y v u Q I rx ry h
  obtain ⟨d, hd, he, hp, hz, q⟩ := h
  obtain ⟨as, r1⟩ := Dp.reads I d x v hd rx
  obtain ⟨bs, r2⟩ := Dp.reads I d y u he ry
  refine SeqAt.ne_plain r1 r2 hp hp (by omega) ⟨.bl false, H, I, ?_, q⟩
  rw [SeqAt.eqv_refl_plain d hp]
  rfl
/-! ### a tuple, so many times -/
theorem tuple_mul1 (l : Addr) (items : Array Value) (n : Nat) (dd : Option Addr) (sl : Array (Option Value)) (u : Tok) :
    Meets (Builtin.«tuple.__mul__» ⟨[.ref l, .int 1 u], []⟩) (fun _ R s => s.heap.get? l = some { cls := .type "tuple", dict := dd, data := .seq items n, slots := sl } ∧ R (.ok (.ret (Value.ref l))) { s with heap := s.heap, toks := s.toks }) :=
  .of_wp fun prog w A R s h => by
    obtain ⟨hp, g, d, tk, os⟩ := s
    obtain ⟨hl, h⟩ := h
    have f1 := AutoSeq1.idx_int
    have c1 : (items.isEmpty || (1 : Int) == 1) = true := by simp
    wp_walk using wpAny_loadPart' hl
    repeat (first
      | (refine wpAny_ite_true (decide_eq_true (by rw [c1])) ?_; wp_walk using wpAny_loadPart' hl)
      | (refine wpAny_ite_false (decide_eq_false (by decide)) ?_; wp_walk using wpAny_loadPart' hl))
    exact ⟨_, rfl, h⟩
theorem tuple_mul0 (l : Addr) (items : Array Value) (n : Nat) (dd : Option Addr) (sl : Array (Option Value)) (u : Tok) (hne : items.isEmpty = false) :
    Meets (Builtin.«tuple.__mul__» ⟨[.ref l, .int 0 u], []⟩) (fun _ R s => s.heap.get? l = some { cls := .type "tuple", dict := dd, data := .seq items n, slots := sl } ∧
      R (.ok (.ret (Value.ref s.heap.objs.size))) { s with heap := s.heap.push { cls := Value.type "tuple", data := Data.seq #[] }, toks := s.toks }) :=
  .of_wp fun prog w A R s h => by
    obtain ⟨hp, g, d, tk, os⟩ := s
    obtain ⟨hl, h⟩ := h
    have f1 := AutoSeq1.idx_int
    have c1 : (items.isEmpty || (0 : Int) == 1) = false := by rw [hne]; rfl
    have c2 : (decide ((0 : Int) ≤ 0) || items.isEmpty) = true := by simp
    wp_walk using wpAny_loadPart' hl
    repeat (first
      | (refine wpAny_ite_false (decide_eq_false (by rw [c1]; exact Bool.false_ne_true)) ?_; wp_walk using wpAny_loadPart' hl)
      | (refine wpAny_ite_true (decide_eq_true (by rw [c2])) ?_; wp_walk using wpAny_loadPart' hl)
      | (refine wpAny_ite_false (decide_eq_false (by decide)) ?_; wp_walk using wpAny_loadPart' hl))
    exact ⟨_, rfl, h⟩
def rRepA (K : PySem.W.Frag) : R2 := fun x y H Q => ∃ (l : Addr) (k : Nat) (xs : List V), x = .ref l ∧ y = .int (k : Nat) ∧ SqT K H l xs ∧ xs ≠ [] ∧ k ≤ 1000 ∧ xs.length ≤ 1000 ∧ ∀ p H', Same H H' → SqT K H' p (List.replicate k xs).flatten → Q (.ref p) H'
theorem op_repA {X : Cx} : OpR X (binaryOp .Mult) (rRepA X.K) := by
  intro pins s σ H x y v u Q I rx ry h
  obtain ⟨l, k, xs, rfl, rfl, hT, hne, hk, hz, q⟩ := h
  match k, hk, q, ry with
  | 0, hk, q, ry =>
    cases rx
    obtain ⟨t, rfl⟩ := ry
    obtain ⟨its, r, ⟨⟨cls, dd, data, sl⟩, ho, hc, n, hd⟩, hs⟩ := I.tuple hT
    simp only at hc hd
    subst hc hd
    have hi : its.toArray.isEmpty = false := by
      cases its with
      | nil => exact absurd (List.eq_nil_of_length_eq_zero r.length) hne
      | cons a b => rfl
    refine wpAny_binaryOp_repeat_ref (T := "tuple") (U := "int") (by decide) ⟨_, ho, rfl⟩ (fun s' => typeIs_int s' ((0 : Nat) : Int) t) noFill_tuple_mul F.fills_int_mul F.slot_int_rmul repeat_tuple F.slot_int_index.lookup
      (call_meets F.slot_int_rmul (typeIs_int s ((0 : Nat) : Int) t) F.entry_int_rmul (F.args_int_rmul_2 _ _) (int_rmul_tuple ((0 : Nat) : Int) t l its.toArray n dd sl)
        ⟨ho, rfl, ⟨_, ho, rfl⟩, call_meets F.slot_tuple_mul ⟨_, ho, rfl⟩ F.entry_tuple_mul (F.args_tuple_mul_2 _ _) (tuple_mul0 l its.toArray n dd sl t hi) ⟨ho, ?_⟩⟩)
    have hn := I.hok.fresh (Nat.le_refl s.heap.objs.size)
    refine ⟨.ref s.heap.objs.size, _, I.laid (t' := s.toks) (o := .tup []) (fun b ob q => Heap.get?_push_of_some _ q) (Nat.le_refl _) ?_, rfl, q _ _ (Same.upd_new hn) (.of upd_same)⟩
    exact ⟨Nat.zero_le _, [], .nil, IsTup.new _ _⟩
  | 1, hk, q, ry =>
    have rx' := rx
    cases rx
    obtain ⟨t, rfl⟩ := ry
    obtain ⟨its, r, ⟨⟨cls, dd, data, sl⟩, ho, hc, n, hd⟩, hs⟩ := I.tuple hT
    simp only at hc hd
    subst hc hd
    exact wpAny_binaryOp_repeat_ref (T := "tuple") (U := "int") (by decide) ⟨_, ho, rfl⟩ (fun s' => typeIs_int s' ((1 : Nat) : Int) t) noFill_tuple_mul F.fills_int_mul F.slot_int_rmul repeat_tuple F.slot_int_index.lookup
      (call_meets F.slot_int_rmul (typeIs_int s ((1 : Nat) : Int) t) F.entry_int_rmul (F.args_int_rmul_2 _ _) (int_rmul_tuple ((1 : Nat) : Int) t l its.toArray n dd sl)
        ⟨ho, rfl, ⟨_, ho, rfl⟩, call_meets F.slot_tuple_mul ⟨_, ho, rfl⟩ F.entry_tuple_mul (F.args_tuple_mul_2 _ _) (tuple_mul1 l its.toArray n dd sl t) ⟨ho, ⟨.ref l, H, I, rfl, q l H (Same.refl H) (by simpa using hT)⟩⟩⟩)
  | k + 2, hk, q, ry =>
    refine op_repT pins s σ H _ _ v u Q I rx ry ⟨l, _, xs, rfl, rfl, hT, hne, by omega, by omega, hz, fun p hp => q p _ (Same.upd_new hp) (.of ?_)⟩
    rw [show (((k + 2 : Nat) : Int)).toNat = k + 2 from rfl]
    exact upd_same
/-! ### how a line is refused, as data -/
def Ref.dat : Ref → PyData
  | .word s => .tuple [.str "word", .str s]
  | .line l a => .tuple [.str "line", .str l, .int (a : Nat)]
  | .er (.num i) => .tuple [.str "number", .int i]
  | .er (.lot l) => .tuple [.str "lot", tupD l]
  | .er (.many s) => .tuple [.str "many", .str s]
  | .nothing s => .tuple [.str "nothing", .str s]
theorem dpA {K : PySem.W.Frag} {H : Hp} : ∀ l : List Int, DpAll K H (l.map V.int) (l.map .int)
  | [] => .nil
  | i :: l => .cons (.int i) (dpA l)
theorem TI.dp {K : PySem.W.Frag} {H : Hp} {a : Addr} {l : List Int} (h : TI K H a l) : Dp K H (.ref a) (tupD l) := .tup h (dpA l)
theorem RefAt.dp {K : PySem.W.Frag} {H : Hp} {p : Addr} {R : Ref} (h : RefAt K H p R) : Dp K H (.ref p) R.dat := by
  cases R with
  | word s => exact .tup h (.cons (.str _) (.cons (.str _) .nil))
  | line l a => exact .tup h (.cons (.str _) (.cons (.str _) (.cons (.int _) .nil)))
  | nothing s => exact .tup h (.cons (.str _) (.cons (.str _) .nil))
  | er e =>
    cases e with
    | num i => exact .tup h (.cons (.str _) (.cons (.int _) .nil))
    | many s => exact .tup h (.cons (.str _) (.cons (.str _) .nil))
    | lot l =>
      obtain ⟨a, h1, h2⟩ := h
      exact .tup h1 (.cons (.str _) (.cons (TI.dp h2) .nil))
theorem plain_ints : ∀ l : List Int, PyData.plainAll (l.map .int) = true
  | [] => rfl
  | _ :: l => plain_ints l
theorem depth_ints : ∀ l : List Int, PyData.depthAll (l.map .int) = 0
  | [] => rfl
  | _ :: l => by show max 0 (PyData.depthAll (l.map .int)) = 0; rw [depth_ints l]; rfl
theorem Ref.ok (R : Ref) : R.dat.plain = true ∧ R.dat.depth ≤ 64 := by
  cases R with
  | word s => exact ⟨rfl, by show 1 ≤ 64; decide⟩
  | line l a => exact ⟨rfl, by show 1 ≤ 64; decide⟩
  | nothing s => exact ⟨rfl, by show 1 ≤ 64; decide⟩
  | er e =>
    cases e with
    | num i => exact ⟨rfl, by show 1 ≤ 64; decide⟩
    | many s => exact ⟨rfl, by show 1 ≤ 64; decide⟩
    | lot l =>
      refine ⟨?_, ?_⟩
      · show (true && (PyData.plainAll (l.map .int) && true)) = true
        rw [plain_ints]; rfl
      · show max 0 (max (PyData.depthAll (l.map .int) + 1) 0) + 1 ≤ 64
        rw [depth_ints]; decide
/-- what a line and how it is refused are -/
def Pr (K : PySem.W.Frag) (W : Wd) (H : Hp) (v : V) : Prop := ∃ a b line R, v = .ref a ∧ SqT K H a [.str line, .ref b] ∧ RefAt K H b R ∧ UF W line R
theorem En.pr {K : PySem.W.Frag} {W : Wd} {H : Hp} {v : V} (h : En K W H v) : Pr K W H v := let ⟨a, b, l, R, e, h1, h2, h3, _⟩ := h; ⟨a, b, l, R, e, h1, h2, h3⟩
theorem Pr.fr {K : PySem.W.Frag} {W : Wd} {M : List Addr} {H H' : Hp} {v : V} (f : FrX M H H') (m : MuX M H) (h : Pr K W H v) : Pr K W H' v := let ⟨a, b, l, R, e, h1, h2, h3⟩ := h; ⟨a, b, l, R, e, f.sqt m h1, h2.fr f m, h3⟩
theorem Pr.same {K : PySem.W.Frag} {W : Wd} {H H' : Hp} {v : V} (s : Same H H') (h : Pr K W H v) : Pr K W H' v := h.fr (M := []) s.fr noMu
theorem uf_word {W : Wd} {line w0 : Str} {ws : List Str} (L : LineIs line w0 ws) (u : Un w0) : UF W line (.word w0) := fun D _ => ⟨w0, ws, L, .inr (.inr (.inl ⟨u, rfl⟩))⟩
theorem uf_line {W : Wd} {line : Str} {a : Nat} (h : BadLine line a) : UF W line (.line line a) := fun D _ => by
  obtain ⟨w0, ws, ks, o, L, k, ok, t, rfl⟩ := h
  exact ⟨w0, ws, L, .inr (.inl ⟨ks, o, k, ok, t, rfl⟩)⟩
/-! ### the desk, the world and the tape, side by side -/
structure Iv (K : PySem.W.Frag) (H : Hp) (p l x b dl ul : Addr) (W : Wd) (D : Dk) : Prop where
  t : TapeAt K H p l
  wo : WoAt K H x W
  d : DkAt K H b dl ul D
  n : x ≠ p ∧ b ≠ p ∧ dl ≠ p ∧ ul ≠ p
section
variable {K : PySem.W.Frag} {H H' : Hp} {p l x b dl ul : Addr} {W : Wd} {D : Dk}
theorem Iv.same (s : Same H H') (h : Iv K H p l x b dl ul W D) : Iv K H' p l x b dl ul W D := ⟨h.t.same s, h.wo.same s, h.d.same s, h.n⟩
theorem Iv.fr (h : Iv K H p l x b dl ul W D) (f : FrX [p] H H') (t : TapeAt K H' p l) : Iv K H' p l x b dl ul W D :=
  ⟨t, h.wo.fr f h.t.md.mu (by simpa using h.n.1), h.d.fr f h.t.md ⟨by simpa using h.n.2.1, by simpa using h.n.2.2.1, by simpa using h.n.2.2.2⟩, h.n⟩
theorem Iv.row (h : Iv K H p l x b dl ul W D) : ∃ dx c wi pl li, H b = some (DkO K dx dl ul c wi pl li) ∧ SqT K H li (D.done.map fun d => V.str d.line) := by
  obtain ⟨dx, c, wi, pl, li, xs, ys, h1, h2, h3, h4, h5, h6, h7⟩ := h.d.ex
  exact ⟨dx, c, wi, pl, li, h1, h7⟩
end
/-! ### wishes and placings that are none -/
def DpS (K : PySem.W.Frag) (H : Hp) (y : V) : Prop := ∃ d, d.plain = true ∧ d.depth ≤ 60 ∧ ∀ H', Same H H' → Dp K H' y d
theorem plain_tupD (l : List Int) : (tupD l).plain = true := plain_ints l
theorem depth_tupD (l : List Int) : (tupD l).depth = 1 := by
  show PyData.depthAll (l.map .int) + 1 = 1
  rw [depth_ints]
theorem plain_lots : ∀ ls : List (List Int), PyData.plainAll (ls.map tupD) = true
  | [] => rfl
  | l :: ls => by
    show ((tupD l).plain && PyData.plainAll (ls.map tupD)) = true
    rw [plain_tupD, plain_lots ls]; rfl
theorem depth_lots : ∀ ls : List (List Int), PyData.depthAll (ls.map tupD) ≤ 1
  | [] => Nat.zero_le _
  | l :: ls => by
    show max (tupD l).depth (PyData.depthAll (ls.map tupD)) ≤ 1
    have := depth_lots ls
    rw [depth_tupD]
    omega
theorem dpTs {K : PySem.W.Frag} {H : Hp} {xs : List V} {ds : List PyData} (h : DpAll K H xs ds) {ys : List V} {es : List PyData} : DpAll K H ys es → DpAll K H (xs ++ ys) (ds ++ es) := fun g => by
  induction ds generalizing xs with
  | nil => cases h; exact g
  | cons d ds ih => cases h with | cons h1 h2 => exact .cons h1 (ih h2)
theorem DpS.non {K : PySem.W.Frag} {H : Hp} : DpS K H .non := ⟨.none, rfl, by show 0 ≤ 60; decide, fun _ _ => .non⟩
theorem DpS.int {K : PySem.W.Frag} {H : Hp} {i : Int} : DpS K H (.int i) := ⟨.int i, rfl, by show 0 ≤ 60; decide, fun _ _ => .int i⟩
theorem DpS.str {K : PySem.W.Frag} {H : Hp} {x : Str} : DpS K H (.str x) := ⟨.str x, rfl, by show 0 ≤ 60; decide, fun _ _ => .str x⟩
theorem DpS.ints {K : PySem.W.Frag} {H : Hp} {a : Addr} {ns : List Int} (h : SqL K H a (ns.map V.int)) : DpS K H (.ref a) :=
  ⟨.list (ns.map .int), plain_ints ns, by show PyData.depthAll (ns.map .int) + 1 ≤ 60; rw [depth_ints]; decide, fun _ s => .lst (s.seq h) (dpA ns)⟩
theorem DpS.intsT {K : PySem.W.Frag} {H : Hp} {a : Addr} {ns : List Int} (h : TI K H a ns) : DpS K H (.ref a) :=
  ⟨tupD ns, plain_tupD ns, by rw [depth_tupD]; decide, fun _ s => TI.dp (s.sqt h)⟩
theorem BadW.ty {K : PySem.W.Frag} {H : Hp} {x : V} {t : Value} (h : TyX K H x t) (k : PySem.W.kitOne K t (.type "tuple") = some false) : BadW K H x := .inr ⟨t, h, k⟩
theorem BadP.ty {K : PySem.W.Frag} {H : Hp} {x : V} {t : Value} {m : Int} (h : TyX K H x t) (k : PySem.W.kitOne K t (.type "tuple") = some false) : BadP K H x m := .inr ⟨t, h, k⟩
theorem BadW.more {K : PySem.W.Frag} {H : Hp} {a : Addr} {ns : List Int} (h : TI K H a (ns ++ [4])) (z : ns.length < 900) : BadW K H (.ref a) := by
  refine .inl ⟨a, _, rfl, h, by simp; omega, fun x hx => ?_, ?_⟩
  · obtain ⟨n, _, rfl⟩ := List.mem_map.mp hx
    rfl
  · rw [List.map_append, List.all_append]
    have : ([(4 : Int)].map V.int).all (inR 1 3) = false := by decide
    rw [this, Bool.and_false]
theorem repN {K : PySem.W.Frag} {H : Hp} {e : Addr} (he : SqT K H e []) : ∀ k : Nat, DpAll K H (List.replicate k [V.ref e]).flatten (List.replicate k (PyData.tuple []))
  | 0 => .nil
  | k + 1 => by
    rw [List.replicate_succ, List.replicate_succ, List.flatten_cons]
    exact .cons (.tup he .nil) (repN he k)
theorem plain_rep : ∀ k : Nat, PyData.plainAll (List.replicate k (PyData.tuple []) ++ [PyData.int 0]) = true
  | 0 => rfl
  | k + 1 => plain_rep k
theorem depth_rep : ∀ k : Nat, PyData.depthAll (List.replicate k (PyData.tuple []) ++ [PyData.int 0]) ≤ 1
  | 0 => Nat.zero_le _
  | k + 1 => by
    rw [List.replicate_succ]
    show max (PyData.tuple []).depth (PyData.depthAll (List.replicate k (PyData.tuple []) ++ [PyData.int 0])) ≤ 1
    have := depth_rep k
    have e : (PyData.tuple []).depth = 1 := rfl
    rw [e]
    omega
/-! ### the law's own def, for all heaps below -/
theorem hasGB {w : World} {K : PySem.W.Frag} {mg : Str → Option Value} {N ps : List Str} {k : Nat} {sp : Sp} {x : Str} (T : Top w K mg) (i : Nat) {d : He.DefD} (hd : fn[i]? = some d) (hx : d.at_ = (x, none)) (S : FnScope N ps d.scope) (hdv : ∀ K, d.dvs K = [])
    (bnd : ∀ (kV doc pm : Value) (an : Option Addr) (cdv ct : Value) (us : List Value), us.length = ps.length → bindArgs (PySem.W.fnOf d.name d.qual d.params d.body d.scope .none kV doc pm an cdv ct) ⟨us, []⟩ = pure (ps.zip us))
    (len : ∀ vs H Q E, sp vs H Q E → vs.length = ps.length)
    (hbody : ∀ (base : Heap) (cdv : Value) (A : Around) (outer : List Env) (s : Shared) (H : Hp) (vs : List V) (Q : VK) (E : XK), A.guards = some [] → Room k (A.deeper (envOfC d.qual d.scope s.heap.objs.size (He.fAd K d.at_) cdv)) → sp vs H Q E →
      ∃ t, PSs (cxOf (L2.CX PG w) PG w K mg base N d.qual d.scope (He.fAd K d.at_) cdv A outer s H E) d.body t ∧ t { nx := fun _ H' => Q .non H', rt := Q } (start N vs) H) :
    ∃ fd : FuncData, (∀ base : Heap, FnG PG w K mg base (k + 1) (He.fAd K (x, none)) fd ps sp) ∧ ∀ (s : Shared) (us : List Value), us.length = ps.length → BindsTo s fd ⟨us, []⟩ (ps.zip us) := by
  obtain ⟨fd, F⟩ := T.fns d (List.mem_of_getElem? hd)
  rw [hdv K] at F
  rw [hx] at F hbody
  exact ⟨fd, fun base => fnG_of F S len (hbody base), FunD.bindsA F bnd⟩
end K5
set_option Elab.async false
set_option linter.all false
set_option maxRecDepth 100000
set_option maxHeartbeats 4000000
namespace K5
open PySem PySem.Spec PyProof.Rows L2
open TL (tl)
/-! ### law -/
def spLaw (K : PySem.W.Frag) : Sp := fun vs H Q _ => ∃ (a : Addr) (ns : List Int), vs = [.ref a] ∧ SqL K H a (ns.map V.int) ∧ ∀ H', Q (.bl true) H'
theorem lnU : LineIs "undo" "undo" [] ∧ LineIs "redo" "redo" [] := by
  have h1 : ("undo" : Str) = J ["undo"] ∧ ("redo" : Str) = J ["redo"] ∧ 32 ∉ tl ("undo" : Str) ∧ 32 ∉ tl ("redo" : Str) ∧ ("undo" : Str).length ≤ 30 ∧ ("redo" : Str).length ≤ 30 := by decide +kernel
  obtain ⟨e1, e2, n1, n2, l1, l2⟩ := h1
  have a := lineIs (w := "undo") (ws := []) n1 (by simp) l1 (by simp) (by simp)
  have b := lineIs (w := "redo") (ws := []) n2 (by simp) l2 (by simp) (by simp)
  rw [← e1] at a
  rw [← e2] at b
  exact ⟨a, b⟩
theorem one_snoc {α : Type} {x d : α} {ds : List α} (h : [x] = ds ++ [d]) : ds = [] ∧ d = x := by
  cases ds with
  | nil => exact ⟨rfl, (List.cons.inj h).1.symm⟩
  | cons y ds => simp at h
section
variable {w : World} {K : PySem.W.Frag} {mg : Str → Option Value} {base : Heap}
theorem sc_law : FnScope ["_law_script", "_law_tape_here", "_law_world_here", "_law_cluster_here", "_law_desk", "_law_line_here", "_law_at", "_law_told", "_law_place", "_law_due", "_law_bad"] ["_law_script"] (defScope s_law) := ⟨rfl, rfl, rfl, by decide +kernel, rfl, by decide +kernel, by decide +kernel⟩
theorem ok_law (T : Top w K mg) : ∃ fd : FuncData, (∀ base : Heap, FnG PG w K mg base 11 (He.fAd K ("law", none)) fd ["_law_script"] (spLaw K)) ∧ ∀ (s : Shared) (us : List Value), us.length = (["_law_script"] : List Str).length → BindsTo s fd ⟨us, []⟩ ((["_law_script"] : List Str).zip us) := by
  refine hasGB (k := 10) T 34 (d := dD ("law", none) "law" "law" s_law) rfl rfl sc_law (fun _ => rfl) (fun _ _ _ _ _ _ us hl => match us, hl with | [_], _ => rfl) (fun vs H Q E h => ?_) (fun base cdv A outer s H vs Q E hG hr h => ?_)
  · obtain ⟨a, ns, rfl, _⟩ := h
    rfl
  · obtain ⟨a, ns, rfl, ha, q⟩ := h
    have hu := hu_of hr
    have hv := hr.units
    refine ⟨_, (pss_cons (ps_set (i := 1) sc_law.nd rfl (Or.inl rfl) (pe_fn (ok__law_tape T) rfl hr (by omega) (pa_cons (pv 0) pa_nil)))
      (pss_cons (ps_set (i := 2) sc_law.nd rfl (Or.inl rfl) (pe_fn (ok__law_desk_world T) rfl hr (by omega) (pa_cons (pv 1) pa_nil)))
      (pss_cons (ps_set (i := 3) sc_law.nd rfl (Or.inl rfl) (pe_fn (ok__law_cluster T) rfl hr (by omega) (pa_cons (pv 2) pa_nil)))
      (pss_cons (ps_set (i := 4) sc_law.nd rfl (Or.inl rfl) (pe_mkX (ok_Desk_init T) rfl hr (by omega) (takes_of rfl rfl rfl rfl) (pa_cons (pv 3) (pa_cons (pe_dget hu (pv 2) pe_str (fun _ _ => rfl)) (pa_cons (pe_dget hu (pv 2) pe_str (fun _ _ => rfl)) pa_nil)))))
      (pss_cons (ps_if (pt_cmpR (op_neD hv) (pe_fn (ok__law_refused T) rfl hr (by omega) (pa_cons (pv 4) (pa_cons pe_str pa_nil))) (pe_tup (pa_cons pe_str (pa_cons pe_str pa_nil))) (nomark _)) (pss_one (ps_ret pe_bl)) pss_nil)
      (pss_cons (ps_set (i := 5) sc_law.nd rfl (Or.inl rfl) (pe_fn (ok__law_line T) rfl hr (by omega) (pa_cons (pv 1) (pa_cons (pv 2) pa_nil))))
      (pss_cons (ps_if (PW.pt (pw_or (pt_cmpR (op_neD hv) (pe_meX (ok_Desk_run T) T.clD rfl hr (by omega) (takes_of rfl rfl rfl rfl) (pv 4) (pa_cons (pv 5) pa_nil)) pe_str (nomark _)) (pw_or1 (pt_cmpR (op_neQ hv) (pe_meX (ok_Desk_run T) T.clD rfl hr (by omega) (takes_of rfl rfl rfl rfl) (pv 4) (pa_cons pe_str pa_nil)) pe_str (nomark _))))) (pss_one (ps_ret pe_bl)) pss_nil)
      (pss_cons (ps_for (passes_of rfl) rfl (pi_range1 rfl (T.free _ (by decide +kernel)) (pa_cons pe_int pa_nil)) (pg_name (i := 6) sc_law.nd rfl (Or.inl rfl)) (pss_cons (ps_asg (pe_fn (ok__law_misformed T) rfl hr (by omega) (pa_cons (pv 1) pa_nil)) (pg_tup rfl (pgs_cons (pg_name (i := 7) sc_law.nd rfl (Or.inl rfl)) (pgs_cons (pg_name (i := 8) sc_law.nd rfl (Or.inl rfl)) pgs_nil))))
      (pss_cons (ps_if (pt_cmpR (op_neQ hv) (pe_fn (ok__law_refused T) rfl hr (by omega) (pa_cons (pv 4) (pa_cons (pv 7) pa_nil))) (pe_tup (pa_cons pe_str (pa_cons (pv 7) (pa_cons (pv 8) pa_nil)))) (nomark _)) (pss_one (ps_ret pe_bl)) pss_nil)
      (pss_one (ps_for (passes_of rfl) rfl (pi_list (pe_lst (pa_cons (pe_fn (ok__law_unknown T) rfl hr (by omega) (pa_cons (pv 1) pa_nil)) (pa_cons (pe_fn (ok__law_unfit T) rfl hr (by omega) (pa_cons (pv 1) (pa_cons (pv 2) pa_nil))) pa_nil)))) (pg_tup rfl (pgs_cons (pg_name (i := 7) sc_law.nd rfl (Or.inl rfl)) (pgs_cons (pg_name (i := 9) sc_law.nd rfl (Or.inl rfl)) pgs_nil))) (pss_one (ps_if (pt_cmpR (op_neQ hv) (pe_fn (ok__law_refused T) rfl hr (by omega) (pa_cons (pv 4) (pa_cons (pv 7) pa_nil))) (pv 9) (nomark _)) (pss_one (ps_ret pe_bl)) pss_nil)))))))
      (pss_cons (ps_if (PW.pt (pw_or (pt_cmpR (op_neQ hv) (pe_fld (pv 4) rfl) (pe_tup pa_nil) (nomark _)) (pw_or1 (pt_not (pt_val (pe_fnG (ok__law_is_world T) rfl (g_deeper hG) hr (by omega) (pa_cons (pv 4) (pa_cons (pv 2) pa_nil)))))))) (pss_one (ps_ret pe_bl)) pss_nil)
      (pss_cons (ps_if (PW.pt (pw_or (pt_cmpR (op_neQ hv) (pe_meX (ok_Desk_run T) T.clD rfl hr (by omega) (takes_of rfl rfl rfl rfl) (pv 4) (pa_cons pe_str pa_nil)) pe_str (nomark _)) (pw_or (pt_cmpR (op_neQ hv) (pe_fld (pv 4) rfl) (pe_tup (pa_cons (pv 5) pa_nil)) (nomark _)) (pw_or1 (pt_not (pt_val (pe_fnG (ok__law_is_world T) rfl (g_deeper hG) hr (by omega) (pa_cons (pv 4) (pa_cons (pe_fn (ok__law_deed T) rfl hr (by omega) (pa_cons (pv 2) (pa_cons (pv 5) pa_nil))) pa_nil))))))))) (pss_one (ps_ret pe_bl)) pss_nil)
      (pss_cons (ps_if (pt_cmpR (op_neQ hv) (pe_fn (ok__law_refused T) rfl hr (by omega) (pa_cons (pv 4) (pa_cons pe_str pa_nil))) (pe_tup (pa_cons pe_str (pa_cons pe_str pa_nil))) (nomark _)) (pss_one (ps_ret pe_bl)) pss_nil)
      (pss_cons (ps_set (i := 10) sc_law.nd rfl (Or.inl rfl) (pe_fn (ok__law_pick T) rfl hr (by omega) (pa_cons (pv 1) (pa_cons (pe_lst (pa_cons pe_non (pa_cons pe_int (pa_cons (pe_list T (pe_dget hu (pv 2) pe_str (fun _ _ => rfl))) (pa_cons (pe_op op_catA (pe_dget hu (pv 2) pe_str (fun _ _ => rfl)) (pe_tup (pa_cons pe_int pa_nil))) (pa_cons (pe_tup (pa_cons pe_bl pa_nil)) (pa_cons pe_str pa_nil))))))) pa_nil))))
      (pss_cons (ps_if (pt_cmpR (op_neQ hv) (pe_fn (ok__law_no_desk T) rfl hr (by omega) (pa_cons (pv 3) (pa_cons (pv 10) (pa_cons pe_non pa_nil)))) (pe_tup (pa_cons pe_str (pa_cons (pv 10) pa_nil))) (nomark _)) (pss_one (ps_ret pe_bl)) pss_nil)
      (pss_cons (ps_set (i := 10) sc_law.nd rfl (Or.inl rfl) (pe_fn (ok__law_pick T) rfl hr (by omega) (pa_cons (pv 1) (pa_cons (pe_lst (pa_cons pe_non (pa_cons pe_int (pa_cons (pe_op op_catA (pe_dget hu (pv 2) pe_str (fun _ _ => rfl)) (pe_tup (pa_cons (pe_tup (pa_cons pe_int pa_nil)) pa_nil))) (pa_cons (pe_list T (pe_dget hu (pv 2) pe_str (fun _ _ => rfl))) (pa_cons (pe_op op_catA (pe_op op_repA (pe_tup (pa_cons (pe_tup pa_nil) pa_nil)) (pe_len T (pe_dget hu (pv 2) pe_str (fun _ _ => rfl)))) (pe_tup (pa_cons pe_int pa_nil))) pa_nil)))))) pa_nil))))
      (pss_cons (ps_if (pt_cmpR (op_neQ hv) (pe_fn (ok__law_no_desk T) rfl hr (by omega) (pa_cons (pv 3) (pa_cons (pe_dget hu (pv 2) pe_str (fun _ _ => rfl)) (pa_cons (pv 10) pa_nil)))) (pe_tup (pa_cons pe_str (pa_cons (pv 10) pa_nil))) (nomark _)) (pss_one (ps_ret pe_bl)) pss_nil)
      (pss_one (ps_ret (pe_or (pe_cmpR op_gt (pe_fn (ok__law_draw T) rfl hr (by omega) (pa_cons (pv 1) (pa_cons pe_int pa_nil))) pe_int (nomark _)) (pe_one (pe_fn (ok__law_full T) rfl hr (by omega) (pa_cons (pv 1) pa_nil))))))))))))))))))))), ?_⟩
    refine ⟨_, rfl, a, ns, rfl, ha, fun p l H1 s1 np t1 nl => ?_⟩
    refine ⟨_, rfl, p, l, rfl, t1, fun x W H2 f2 t2 nx hx ww wz => ?_⟩
    refine ⟨_, rfl, x, W, rfl, hx, ww.ok, fun c H3 s3 hc => ?_⟩
    replace t2 := t2.same s3
    replace hx := hx.fr (M := []) s3.fr noMu (by simp)
    obtain ⟨da, db, dc, dd, de, h0, h1, h2, h3, h4, h5⟩ := id hx.ex
    refine ⟨_, rfl, _, rfl, x, _, rfl, DGet.k (k := sK "wishes") h0, _, rfl, x, _, rfl, DGet.k (k := sK "placing") h0, ?_⟩
    intro b xb nb nxb _
    refine dk_makeQ hc h4 h5 ww.p nb nxb fun dl ul H4 s4 ndl nul D => ⟨rfl, ?_⟩
    have np1 := t2.new nb
    have np2 := t2.new ndl
    have np3 := t2.new nul
    have nx1 : x ≠ b := fun z => by rw [z, nb] at h0; cases h0
    have nx2 : x ≠ dl := fun z => by rw [z, ndl] at h0; cases h0
    have nx3 : x ≠ ul := fun z => by rw [z, nul] at h0; cases h0
    replace t2 := t2.same s4
    replace hx := hx.fr (M := []) s4.fr noMu (by simp)
    replace hc := hc.same s4
    refine ⟨_, rfl, b, dl, ul, _, "undo", .nothing "undo", rfl, D, ⟨by simp, by simp, by have := ww.m; simp; omega, by have := ww.m; have := ww.p.l; simp; omega⟩, ?_, fun r H5 s5 hr5 => ?_⟩
    · exact ⟨"undo", [], lnU.1, .inr (.inr (.inr (.inr (.inl ⟨rfl, rfl, rfl, rfl⟩))))⟩
    refine ⟨by show 2 ≤ sizeLine; decide, fun y6 hy6 => ?_⟩
    have s6 := Same.upd_new (o := .tup [.str "nothing", .str "undo"]) hy6
    refine ⟨_, _, .tup (s6.sqt hr5) (.cons (.str _) (.cons (.str _) .nil)), .tup (.of upd_same) (.cons (.str _) (.cons (.str _) .nil)), by decide +kernel, by decide +kernel, _, rfl, iteC (by decide +kernel) ?_⟩
    have t6 := (t2.same s5).same s6
    replace hx := (hx.fr (M := []) s5.fr noMu (by simp)).fr (M := []) s6.fr noMu (by simp)
    replace hc := (hc.same s5).same s6
    replace D := (D.same s5).same s6
    have nxp : x ≠ p := fun z => by
      subst z
      exact (t1.new nx).1 rfl
    refine ⟨_, rfl, _, rfl, p, l, x, W, rfl, t6, nxp, hx, ww, wz, fun line d W' H7 f7 t7 ln => ?_⟩
    replace D := D.fr f7 t6.md ⟨by simpa using np1.1, by simpa using np2.1, by simpa using np3.1⟩
    replace hx := hx.fr f7 t6.md.mu (by simpa using nxp)
    obtain ⟨dx, cA, wA, pA, li, xs, ys, g1, _⟩ := id D.ex
    refine ⟨_, rfl, b, dx, _, rfl, g1, rfl, _, rfl, runOk ln.e ln.b D ⟨by simp, by simp, by have := ww.m; simp; omega, by have := ww.m; have := ww.p.l; simp; omega⟩ ln.r fun ul2 H8 f8 nul2 D2 => ?_⟩
    refine ⟨_, _, .str _, .str _, by decide +kernel, by decide +kernel, _, rfl, iteC (by decide +kernel) ?_⟩
    have t8 : TapeAt K H8 p l := t7.fr f8 (by simp; exact ⟨np1.1.symm, np2.1.symm⟩) (by simp; exact ⟨np1.2.symm, np2.2.symm⟩)
    have mb : MdX [b, dl] H7 := fun z hz => D.md z (by simp only [List.mem_cons, List.not_mem_nil, or_false] at hz ⊢; rcases hz with h | h <;> simp [h])
    have np4 := t7.new nul2
    have nx4 : x ≠ ul2 := fun z => by
      obtain ⟨_, _, _, _, _, h7, _⟩ := hx.ex
      rw [z, nul2] at h7
      cases h7
    replace hx := hx.fr f8 mb.mu (by simp; exact ⟨nx1, nx2⟩)
    obtain ⟨dx2, cA2, wA2, pA2, li2, xs2, ys2, g2, _⟩ := id D2.ex
    refine ⟨_, rfl, b, dx2, _, rfl, g2, rfl, b, dl, ul2, _, "undo", "undo", [], rfl, D2, by simp, by simp, ?_, ?_, lnU.1, .inr (.inr (.inr (.inr (.inl ⟨rfl, rfl, fun z => by simp at z, fun ds d2 e2 H9 f9 D3 => ?_⟩))))⟩
    · have := (small_led ww ln).d.2; show W'.wi.length < 900; omega
    · have := (small_led ww ln).e.1; show W'.pl.length < 900; omega
    obtain ⟨rfl, rfl⟩ := one_snoc (show [(⟨line, W, W'⟩ : Deed)] = ds ++ [d2] from e2)
    have t9 : TapeAt K H9 p l := t8.fr f9 (by simp; exact ⟨np1.1.symm, np2.1.symm, np4.1.symm⟩) (by simp; exact ⟨np1.2.symm, np2.2.symm, np4.2.symm⟩)
    have iv : Iv K H9 p l x b dl ul2 W ⟨W, [], [⟨line, W, W'⟩]⟩ := ⟨t9, hx.fr f9 D2.md.mu (by simp; exact ⟨nx1, nx2, nx4⟩), D3, nxp, np1.1, np2.1, np4.1⟩
    have dz : DkSz ⟨W, [], [⟨line, W, W'⟩]⟩ := ⟨by simp, by simp, by have := ww.m; show W.wi.length < 900; omega, by have := ww.m; have := ww.p.l; show W.pl.length < 900; omega⟩
    have dz2 : DkSz ⟨W', [⟨line, W, W'⟩], []⟩ := ⟨by simp, by simp, by have := (small_led ww ln).d.2; show W'.wi.length < 900; omega, by have := (small_led ww ln).e.1; show W'.pl.length < 900; omega⟩
    clear t9 D3 D2 hx t8 t7 t6 t2 D hc f7 f8 f9 g1 g2 h0 h1 h2 h3 h4 h5 nul2 mb hr5 hy6 s5 s6
    refine ⟨.str "", .str _, .str _, rfl, by show 0 ≤ 64; decide, _, rfl, iteF ?_⟩
    refine ⟨4, rfl, by decide, by decide, ?_⟩
    refine for_range (fun i σ H' => ∃ u6 u7 u8 u9, σ = [some (.ref a), some (.ref p), some (.ref x), some (.ref c), some (.ref b), some (.str line), u6, u7, u8, u9, none] ∧ Iv K H' p l x b dl ul2 W ⟨W, [], [⟨line, W, W'⟩]⟩) ⟨_, _, _, _, rfl, iv⟩ ?_ ?_
    · rintro i σ G hi ⟨u6, u7, u8, u9, rfl, iv⟩
      refine ⟨_, rfl, p, l, rfl, iv.t, fun m told at_ G1 f1 t1 sq bl => ?_⟩
      replace iv := iv.fr f1 t1
      refine ⟨m, _, rfl, sq, rfl, _, _, rfl, _, _, rfl, rfl, ?_⟩
      refine ⟨_, rfl, _, rfl, b, dl, ul2, _, told, .line told at_, rfl, iv.d, dz, uf_line bl _ rfl, fun r G2 s2 hr2 => ?_⟩
      refine ⟨_, rfl, _, rfl, by show 3 ≤ sizeLine; decide, fun y hy => ?_⟩
      have s3 := Same.upd_new (o := .tup [.str "line", .str told, .int (at_ : Nat)]) hy
      refine ⟨(Ref.line told at_).dat, RefAt.dp (R := .line told at_) (s3.sqt hr2), RefAt.dp (R := .line told at_) (.of upd_same), (Ref.ok _).1, (Ref.ok _).2, _, rfl, iteF ?_⟩
      replace iv := (iv.same s2).same s3
      refine ⟨_, rfl, p, l, rfl, iv.t, fun a1 b1 ln1 w0 ws G3 f3 t3 q1 q2 L un => ?_⟩
      have pr1 : Pr K W G3 (.ref a1) := ⟨a1, b1, ln1, .word w0, rfl, q1, q2, uf_word L un⟩
      replace iv := iv.fr f3 t3
      refine ⟨_, rfl, _, rfl, p, l, x, W, rfl, iv.t, nxp, iv.wo, ww, wz, fun v2 G4 f4 t4 en => ?_⟩
      replace pr1 := pr1.fr f4 iv.t.md.mu
      have pr2 := en.pr
      replace iv := iv.fr f4 t4
      refine ⟨by show 2 ≤ sizeLine; decide, fun F hF => ⟨F, rfl, ⟨_, .of upd_same⟩, ?_⟩⟩
      have sF := Same.upd_new (o := .lst [.ref a1, v2]) hF
      have eF : (upd G4 F (.lst [.ref a1, v2])) F = some (.lst [.ref a1, v2]) := upd_same
      have all : ∀ z ∈ [V.ref a1, v2], Pr K W (upd G4 F (.lst [.ref a1, v2])) z := fun z hz => by
        simp only [List.mem_cons, List.not_mem_nil, or_false] at hz
        rcases hz with rfl | rfl
        · exact pr1.same sF
        · exact pr2.same sF
      replace iv := iv.same sF
      generalize upd G4 F (.lst [.ref a1, v2]) = G5 at eF all iv ⊢
      refine for_list (K := K) (a := F) (xs := [.ref a1, v2]) (fun j σ G6 => ∃ u7 u8 u9, σ = [some (.ref a), some (.ref p), some (.ref x), some (.ref c), some (.ref b), some (.str line), some (.int (0 + (i : Nat))), u7, u8, u9, none] ∧ Same G5 G6) ⟨_, _, _, rfl, Same.refl _⟩ (fun j σ G6 _ ⟨_, _, _, _, s⟩ => .of (s _ _ eF)) ?_ ?_
      · rintro j z σ G6 ez ⟨u7, u8, u9, rfl, s6⟩
        obtain ⟨a3, b3, ln3, R, rfl, sq3, hR, uf⟩ := (all z (List.mem_of_getElem? ez)).same s6
        refine ⟨a3, _, rfl, sq3, rfl, _, _, rfl, _, _, rfl, rfl, ?_⟩
        refine ⟨_, rfl, _, rfl, b, dl, ul2, _, ln3, R, rfl, (iv.same s6).d, dz, uf _ rfl, fun r G7 s7 hr7 => ?_⟩
        refine ⟨_, rfl, R.dat, RefAt.dp (R := R) hr7, RefAt.dp (R := R) (RefAt.fr (R := R) (M := []) s7.fr noMu hR), R.ok.1, R.ok.2, _, rfl, iteF ?_⟩
        exact ⟨_, _, _, rfl, s6.trans s7⟩
      · rintro σ G6 ⟨u7, u8, u9, rfl, s6⟩
        exact ⟨_, _, _, _, rfl, iv.same s6⟩
    rintro σ G ⟨u6, u7, u8, u9, rfl, iv⟩
    -- the lines, the world
    obtain ⟨dx3, c3, wi3, pl3, li3, g3, sl3⟩ := iv.row
    refine ⟨_, rfl, _, _, _, _, _, rfl, g3, T.clD, T.dLi, rfl, by show 0 ≤ sizeLine; decide, fun e0 he0 => ?_⟩
    have s0 := Same.upd_new (o := .tup []) he0
    refine ⟨.tuple [], .tup (s0.sqt sl3) .nil, .tup (.of upd_same) .nil, rfl, by show 1 ≤ 64; decide, _, rfl, iteF ?_⟩
    replace iv := iv.same s0
    refine ⟨_, rfl, _, rfl, b, dl, ul2, x, _, rfl, iv.d, iv.wo, small_ww ww, fun G1 s1 => ?_⟩
    replace iv := iv.same s1
    refine ⟨_, rfl, iteF ?_⟩
    -- redo
    obtain ⟨dx4, c4, wi4, pl4, li4, g4, sl4⟩ := iv.row
    refine ⟨_, rfl, b, dx4, _, rfl, g4, rfl, b, dl, ul2, _, "redo", "redo", [], rfl, iv.d, dz.d, dz.u, dz.w, dz.p, lnU.2, .inr (.inr (.inr (.inr (.inr ⟨rfl, rfl, fun z => by simp at z, fun ds d2 e3 G2 f2 D4 => ?_⟩))))⟩
    obtain ⟨rfl, rfl⟩ := one_snoc (show [(⟨line, W, W'⟩ : Deed)] = ds ++ [d2] from e3)
    have iw : Iv K G2 p l x b dl ul2 W ⟨W', [⟨line, W, W'⟩], []⟩ := ⟨iv.t.fr f2 (by simp; exact ⟨np1.1.symm, np2.1.symm, np4.1.symm⟩) (by simp; exact ⟨np1.2.symm, np2.2.symm, np4.2.symm⟩), iv.wo.fr f2 iv.d.md.mu (by simp; exact ⟨nx1, nx2, nx4⟩), D4, iv.n⟩
    clear iv D4
    refine ⟨.str "", .str _, .str _, rfl, by show 0 ≤ 64; decide, _, rfl, iteF ?_⟩
    obtain ⟨dx5, c5, wi5, pl5, li5, g5, sl5⟩ := iw.row
    refine ⟨_, rfl, _, _, _, _, _, rfl, g5, T.clD, T.dLi, rfl, _, rfl, by show 1 ≤ sizeLine; decide, fun y hy => ?_⟩
    have sy := Same.upd_new (o := .tup [.str line]) hy
    refine ⟨.tuple [.str line], .tup (sy.sqt sl5) (.cons (.str _) .nil), .tup (.of upd_same) (.cons (.str _) .nil), rfl, by show 1 ≤ 64; decide, _, rfl, iteF ?_⟩
    replace iw := iw.same sy
    have okc := ww.ok
    refine ⟨_, rfl, _, rfl, _, rfl, x, W, W', d, line, rfl, iw.wo, by have := ww.n4; omega, okc, ww.m, by have := ww.m; have := ww.p.l; omega, ln, fun wo G3 s3 hwo => ?_⟩
    replace iw := iw.same s3
    refine ⟨b, dl, ul2, wo, _, rfl, iw.d, hwo, small_led ww ln, fun G4 s4 => ?_⟩
    replace iw := iw.same s4
    refine ⟨_, rfl, iteF ?_⟩
    -- redo again
    refine ⟨_, rfl, b, dl, ul2, _, "redo", .nothing "redo", rfl, iw.d, dz2, ⟨"redo", [], lnU.2, .inr (.inr (.inr (.inr (.inr ⟨rfl, rfl, rfl, rfl⟩))))⟩, fun r G5 s5 hr5 => ?_⟩
    refine ⟨by show 2 ≤ sizeLine; decide, fun y2 hy2 => ?_⟩
    have s6 := Same.upd_new (o := .tup [.str "nothing", .str "redo"]) hy2
    refine ⟨(Ref.nothing "redo").dat, RefAt.dp (R := .nothing "redo") (s6.sqt hr5), RefAt.dp (R := .nothing "redo") (.of upd_same), (Ref.ok _).1, (Ref.ok _).2, _, rfl, iteF ?_⟩
    have t6 := (iw.t.same s5).same s6
    have hx := (iw.wo.same s5).same s6
    clear iw hr5
    generalize upd G5 y2 (.tup [.str "nothing", .str "redo"]) = G6 at t6 hx ⊢
    -- wishes that are none
    obtain ⟨ea, eb, ec, ed, ee, h0, h1, h2, h3, h4, h5⟩ := id hx.ex
    have m10 := ww.m
    have l10 := ww.p.l
    refine ⟨_, rfl, _, rfl, x, _, rfl, DGet.k (k := sK "wishes") h0, _, _, rfl, .inr h4, fun L1 hL1 => ?_⟩
    have sL := Same.upd_new (o := .lst (W.wi.map V.int)) hL1
    refine ⟨_, rfl, x, _, rfl, DGet.k (k := sK "wishes") (sL _ _ h0), by show 1 ≤ sizeLine; decide, fun q1 hq1 => ?_⟩
    have sq1 := Same.upd_new (o := .tup [.int 4]) hq1
    refine cat_of ((sL.trans sq1).sqt h4) (.of upd_same) (sl_small (by simp; omega)) fun p2 H2 s2 hp2 => ?_
    refine ⟨by show 1 ≤ sizeLine; decide, fun q3 hq3 => ?_⟩
    have sq3 := Same.upd_new (o := .tup [.bl true]) hq3
    refine ⟨by show 6 ≤ sizeLine; decide, fun F2 hF2 => ?_⟩
    have sF2 := Same.upd_new (o := .lst [.non, .int 5, .ref L1, .ref p2, .ref q3, .str "1"]) hF2
    have sA := (((sL.trans sq1).trans s2).trans sq3).trans sF2
    have tA := t6.same sA
    have eL := (((sq1.trans s2).trans sq3).trans sF2) _ _ (upd_same (H := G6) (a := L1) (o := .lst (W.wi.map V.int)))
    have eP := (sq3.trans sF2).sqt hp2
    have eQ := sF2 _ _ (upd_same (H := H2) (a := q3) (o := .tup [.bl true]))
    refine ⟨p, l, F2, [.non, .int 5, .ref L1, .ref p2, .ref q3, .str "1"], rfl, tA, .inl (.of upd_same), by simp, fun i2 y H7 ey f7 t7 => ?_⟩
    have hy : BadW K H7 y ∧ DpS K H7 y := by
      have nL : L1 ∉ [p] := by
        obtain ⟨⟨_, _, _, _, _, e2, _⟩, _⟩ := tA
        simpa using ne_of eL e2 (by intro z; cases z)
      have hm := List.mem_of_getElem? ey
      simp only [List.mem_cons, List.not_mem_nil, or_false] at hm
      rcases hm with rfl | rfl | rfl | rfl | rfl | rfl
      · exact ⟨.ty (.base .non) (kit_nt K), .non⟩
      · exact ⟨.ty (.base (.int 5)) (kit_it K), .int⟩
      · have e := f7 _ _ nL eL
        exact ⟨.ty (ty_lst (.of e)) (kit_lt K), .ints (.of e)⟩
      · have e : TI K H7 p2 (W.wi ++ [4]) := by
          have := f7.sqt tA.md.mu eP
          unfold TI
          rw [List.map_append]
          exact this
        exact ⟨.more e (by omega), .intsT e⟩
      · have e : SqT K H7 q3 [V.bl true] := f7.sqt tA.md.mu (.of eQ)
        exact ⟨.inl ⟨q3, [.bl true], rfl, e, by decide, fun z hz => by rw [List.mem_singleton.mp hz]; rfl, rfl⟩, ⟨.tuple [.bool true], rfl, by show 1 ≤ 60; decide, fun _ s => .tup (s.sqt e) (.cons (.bl _) .nil)⟩⟩
      · exact ⟨.ty (.base (.str "1")) (kit_st K), .str⟩
    obtain ⟨bw, dt, dp1, dp2, dpy⟩ := hy
    have hx7 := (hx.same sA).fr f7 tA.md.mu (by simpa using nxp)
    clear eL eP eQ hL1 hq1 hq3 hF2 hp2 f7 hx t6 tA
    refine ⟨_, rfl, _, rfl, .ref c, y, .non, rfl, .inl ⟨bw, fun r1 H8 s8 hr8 => ?_⟩⟩
    refine ⟨_, rfl, by show 2 ≤ sizeLine; decide, fun z1 hz1 => ?_⟩
    have s9 := Same.upd_new (o := .tup [.str "wishes", y]) hz1
    refine ⟨.tuple [.str "wishes", dt], .tup (s9.sqt hr8) (.cons (.str _) (.cons (dpy _ (s8.trans s9)) .nil)), .tup (.of upd_same) (.cons (.str _) (.cons (dpy _ (s8.trans s9)) .nil)), ?_, ?_, _, rfl, iteF ?_⟩
    · show (true && (dt.plain && true)) = true
      rw [dp1]; rfl
    · show max 0 (max dt.depth 0) + 1 ≤ 64
      omega
    have t9 := (t7.same s8).same s9
    have hx9 := (hx7.same s8).same s9
    clear hr8 hx7 t7
    generalize upd H8 z1 (.tup [.str "wishes", y]) = G7 at t9 hx9 ⊢
    clear dpy bw
    -- placings that are none
    obtain ⟨ea, eb, ec, ed, ee, h0, h1, h2, h3, h4, h5⟩ := id hx9.ex
    obtain ⟨as, v1, v2, v3⟩ := h5.ex
    refine ⟨_, rfl, _, rfl, x, _, rfl, DGet.k (k := sK "placing") h0, by show 1 ≤ sizeLine; decide, fun q1 hq1 => ⟨by show 1 ≤ sizeLine; decide, fun q2 hq2 => ?_⟩⟩
    have sq1 := Same.upd_new (o := .tup [.int 0]) hq1
    have sq2 := Same.upd_new (o := .tup [.ref q1]) hq2
    refine cat_of ((sq1.trans sq2).sqt v1) (.of upd_same) (sl_small (by simp; omega)) fun p3 H3 s3 hp3 => ?_
    have sB := (sq1.trans sq2).trans s3
    refine ⟨_, rfl, x, _, rfl, DGet.k (k := sK "placing") (sB _ _ h0), _, _, rfl, .inr (sB.sqt v1), fun L2 hL2 => ?_⟩
    have sL2 := Same.upd_new (o := .lst (as.map V.ref)) hL2
    have sC := sB.trans sL2
    refine ⟨by show 0 ≤ sizeLine; decide, fun e0 he0 => ⟨by show 1 ≤ sizeLine; decide, fun q4 hq4 => ?_⟩⟩
    have se0 := Same.upd_new (o := .tup []) he0
    have sq4 := Same.upd_new (o := .tup [.ref e0]) hq4
    have sD := (sC.trans se0).trans sq4
    refine ⟨_, rfl, x, _, rfl, DGet.k (k := sK "placing") (sD _ _ h0), _, _, rfl, .inr (sD.sqt v1), ?_⟩
    refine ⟨q4, (as.map V.ref).length, [.ref e0], rfl, rfl, .of upd_same, by simp, by simp; omega, by simp, fun r4 H4 s4 hr4 => ?_⟩
    refine ⟨by show 1 ≤ sizeLine; decide, fun z4 hz4 => ?_⟩
    have sz4 := Same.upd_new (o := .tup [.int 0]) hz4
    refine cat_of (sz4.sqt hr4) (.of upd_same) (sl_small (by simp; omega)) fun p5 H5 s5' hp5 => ?_
    refine ⟨by show 5 ≤ sizeLine; decide, fun F3 hF3 => ?_⟩
    have sF3 := Same.upd_new (o := .lst [.non, .int 5, .ref p3, .ref L2, .ref p5]) hF3
    have sE := ((s4.trans sz4).trans s5').trans sF3
    have sZ := sD.trans sE
    have tZ := t9.same sZ
    have eL := ((se0.trans sq4).trans sE) _ _ (upd_same (H := H3) (a := L2) (o := .lst (as.map V.ref)))
    have eP := (((sL2.trans se0).trans sq4).trans sE).sqt hp3
    have eI : SqT K _ q1 [V.int 0] := ((((sq2.trans s3).trans sL2).trans se0).trans sq4).trans sE |>.sqt (.of (upd_same (H := G7) (a := q1) (o := .tup [.int 0])))
    have e0e : SqT K _ e0 [] := (sq4.trans sE).sqt (.of (upd_same (H := upd H3 L2 (.lst (as.map V.ref))) (a := e0) (o := .tup [])))
    have e5 := sF3.sqt hp5
    have ePl := sZ.tp h5
    refine ⟨p, l, F3, [.non, .int 5, .ref p3, .ref L2, .ref p5], rfl, tZ, .inl (.of upd_same), by simp, fun i3 y3 H9 ey3 f9 t10 => ?_⟩
    have hy : BadP K H9 y3 W.wi.length ∧ DpS K H9 y3 := by
      have mu := tZ.md.mu
      have nL : L2 ∉ [p] := by
        obtain ⟨⟨_, _, _, _, _, e2, _⟩, _⟩ := tZ
        simpa using ne_of eL e2 (by intro z; cases z)
      have dAll : ∀ H', Same H9 H' → DpAll K H' (as.map V.ref) (W.pl.map tupD) := fun H' s => by
        have hsq := s.sqt (f9.sqt mu (sZ.sqt v1))
        have key : ∀ (as : List Addr) (ls : List (List Int)), as.length = ls.length → (∀ (i : Nat) (b : Addr) (l : List Int), as[i]? = some b → ls[i]? = some l → TI K H' b l) → DpAll K H' (as.map V.ref) (ls.map tupD) := by
          intro as
          induction as with
          | nil => intro ls hl _; cases ls with | nil => exact .nil | cons x l => simp at hl
          | cons b as ih =>
            intro ls hl hi
            cases ls with
            | nil => simp at hl
            | cons l ls => exact .cons (dp_ti (hi 0 b l rfl rfl)) (ih ls (by simpa using hl) fun i b l e1 e2 => hi (i + 1) b l (by simpa using e1) (by simpa using e2))
        exact key as W.pl v2 fun i b' l' e1 e2 => s.sqt (f9.sqt mu (sZ.sqt (v3 i b' l' e1 e2)))
      have hm := List.mem_of_getElem? ey3
      simp only [List.mem_cons, List.not_mem_nil, or_false] at hm
      rcases hm with rfl | rfl | rfl | rfl | rfl
      · exact ⟨.ty (.base .non) (kit_nt K), .non⟩
      · exact ⟨.ty (.base (.int 5)) (kit_it K), .int⟩
      · have e := f9.sqt mu eP
        refine ⟨.inl ⟨p3, _, rfl, e, by simp; omega⟩, ⟨.tuple (W.pl.map tupD ++ [tupD [0]]), ?_, ?_, fun H' s => .tup (s.sqt e) (dpTs (dAll H' s) (.cons (dp_ti (ns := [0]) (s.sqt (f9.sqt mu eI))) .nil))⟩⟩
        · have := plain_lots (W.pl ++ [[0]])
          rw [List.map_append] at this
          exact this
        · have := depth_lots (W.pl ++ [[0]])
          rw [List.map_append] at this
          show PyData.depthAll (W.pl.map tupD ++ [tupD [0]]) + 1 ≤ 60
          have e : [tupD [0]] = ([[0]] : List (List Int)).map tupD := rfl
          rw [e]
          omega
      · have e := f9 _ _ nL eL
        exact ⟨.ty (ty_lst (.of e)) (kit_lt K), ⟨.list (W.pl.map tupD), plain_lots _, by show PyData.depthAll (W.pl.map tupD) + 1 ≤ 60; have := depth_lots W.pl; omega, fun H' s => .lst (s.seq (.of e)) (dAll H' s)⟩⟩
      · have e := f9.sqt mu e5
        refine ⟨.inl ⟨p5, _, rfl, e, by simp; omega⟩, ⟨.tuple (List.replicate (as.map V.ref).length (PyData.tuple []) ++ [PyData.int 0]), plain_rep (as.map V.ref).length, by show PyData.depthAll _ + 1 ≤ 60; have := depth_rep (as.map V.ref).length; omega, fun H' s => .tup (s.sqt e) (dpTs (repN (s.sqt (f9.sqt mu e0e)) _) (.cons (.int 0) .nil))⟩⟩
    obtain ⟨bp, dt3, dp3, dp4, dpy⟩ := hy
    have hx10 := (hx9.same sZ).fr f9 tZ.md.mu (by simpa using nxp)
    clear eL eP eI e0e e5 ePl hp3 hp5 hr4 sE sD sC sB hx9 t9
    obtain ⟨ea, eb, ec, ed, ee, h0, h1, h2, h3, h4, h5⟩ := id hx10.ex
    refine ⟨_, rfl, _, rfl, x, _, rfl, DGet.k (k := sK "wishes") h0, _, rfl, .ref c, .ref ed, y3, rfl, .inr ⟨ed, W.wi, rfl, h4, ww.p.w, by omega, bp, fun r1 H8' s8 hr8 => ?_⟩⟩
    refine ⟨_, rfl, by show 2 ≤ sizeLine; decide, fun z1 hz1 => ?_⟩
    have s9 := Same.upd_new (o := .tup [.str "placing", y3]) hz1
    refine ⟨.tuple [.str "placing", dt3], .tup (s9.sqt hr8) (.cons (.str _) (.cons (dpy _ (s8.trans s9)) .nil)), .tup (.of upd_same) (.cons (.str _) (.cons (dpy _ (s8.trans s9)) .nil)), ?_, ?_, _, rfl, iteF ?_⟩
    · show (true && (dt3.plain && true)) = true
      rw [dp3]; rfl
    · show max 0 (max dt3.depth 0) + 1 ≤ 64
      omega
    have t11 := (t10.same s8).same s9
    refine ⟨_, rfl, p, l, 4, rfl, by decide, t11, fun dd H10 d0 d1 f10 t12 => ⟨_, _, rfl, rfl, ?_⟩⟩
    exact ⟨_, rfl, ite2 (fun _ => q _) fun _ => ⟨_, rfl, p, l, rfl, t12, fun H11 => q H11⟩⟩
end
end K5
set_option Elab.async false
set_option linter.all false
set_option maxRecDepth 100000
set_option maxHeartbeats 0
namespace K5
open PySem PySem.Spec PyProof.Rows L2
abbrev R : PySem.W.OpenRow := PySem.W.OpenLaw.row PySem.Challenge.rw_movedwhole_k51_desk_faults
abbrev qv : Program := PySem.W.view R.prog [81]
def ob (s : PySem.W.SharedT) : AlK := obsK (HandSHeadRun.getT s)
theorem ob_eq (s : PySem.W.SharedT) : ob s = hk.obs s.abs := by
  have e : HandSHeadRun.getT s = s.abs.heap.get? := funext (HandSHeadRun.getT_eq s)
  show obsK (HandSHeadRun.getT s) = obsK s.abs.heap.get?
  rw [e]
theorem runF (w : World) : HandSHeadRun.RunEq R qv hk ob 9000 names (w.withFollow "special-get-raises" false) := by
  intro os
  kernel_rfl
theorem runT (w : World) : HandSHeadRun.RunEq R qv hk ob 9000 names (w.withFollow "special-get-raises" true) := by
  intro os
  kernel_rfl
theorem run (w : World) : HandSHeadRun.RunEq R qv hk ob 9000 names w := PySem.W.byRow2 "special-get-raises" runF runT w
end K5
set_option Elab.async false
set_option linter.all false
set_option maxRecDepth 100000
set_option maxHeartbeats 0
open PySem PySem.W PySem.Calls PyProof.Rows
theorem PySem.Challenge.cw_movedwhole_k51_desk_faults_holds : PySem.Challenge.rw_movedwhole_k51_desk_faults.Holds := by
  w_on; o_law
  refine HandSHeadRun.head_any (r := OpenLaw.row PySem.Challenge.rw_movedwhole_k51_desk_faults) (q := K5.qv) (H := K5.hk) (ob := K5.ob) (M := 9000) (loose := K5.names) (d := HandSHeadRun.topDef (OpenLaw.row PySem.Challenge.rw_movedwhole_k51_desk_faults).prog 81) (kwd := []) K5.ob_eq
    (by kernel_rfl) (fun s => by kernel_rfl) K5.run (by kernel_rfl) (by kernel_rfl) (by kernel_rfl) (by rfl) (by first | assumption | decide +kernel) (by decide +kernel) ⟨rfl, rfl, rfl, rfl, rfl, by decide +kernel⟩ ?hw ?hc
  case hw => w_witness2
  case hc =>
    refine Att.attach_call (l := PySem.Challenge.rw_movedwhole_k51_desk_faults) (n := 63) rfl (by kernel_rfl) fun w s₀ s₁ mg mb fa o pm cd doc a vs ns G Y ho hd hcd hmg0 hobj hints hlen hg => ?_
    obtain ⟨K, KX, c⟩ := Y
    have T := K5.top_of KX G.T.g c
    have hmg : mg ("law" : PySem.Str) = some (.ref fa) := by
      have e : (HandSHeadRun.topDef (OpenLaw.row PySem.Challenge.rw_movedwhole_k51_desk_faults).prog 81).name = ("law" : PySem.Str) := by kernel_rfl
      rw [← e]
      exact hmg0
    have e := hmg.symm.trans (T.glo "law" (by decide +kernel))
    cases e
    obtain ⟨fd, F, B⟩ := K5.ok_law T
    exact K5.law_callG (k := 11) (x := "_law_script") (sp := K5.spLaw K) KX G.T.g G.T.b G.T.builtins G.T.nolimit hg hobj hints (Nat.le_trans hlen (by decide)) ⟨rfl, by decide, by decide⟩ (fun base _ _ => F base) (fun s u => B s [u] rfl) (fun H hS => ⟨a, ns, rfl, hS, fun _ => rfl⟩)
