import PyProof.Rows.All
import Wide.All
import OpenK.AllK
import Wide.FinOn
import PyProof.EqAt
import PyProof.EqKinds
import PyProof.TupleCall
import KE.KStateDown
import HandS.ForMost
import HandS.ForExc
import HandS.ExcInit
import HandS.Defaults
import HandS.Head0
import HandS.Head1
import HandS.Head2
import HandS.HeadEnd
import HandS.HeadHook1
import HandS.HeadHook2
import HandS.HeadHook3
import HandS.HeadHook4
import HandS.Flow
import HandS.Style
import HandS.Conv
import HandS.Iter
import HandS.TupAny
import HandS.TupMul
import HandS.TupLe
import HandS.IsInst
import HandS.SetKeys
import HandS.Strs
import HandS.SortOrd
import HandS.TryMany
import HandS.Walk
import HandS.ClsMeth
import HandS.HotCalls
import HandS.TryOnly
import KE.GoesZip
import KE.GoesMore
import KE.KDictZip
import KE.GoesRaise
import HandS.Codes
import KE.SortData
import HandS.Sort
import KE.GoesEnum
import KE.KDictPairs
import HandS.Dict
import KE.KDictSum
import HandS.More
import HandS.Set
import HandS.SetFor
import HandS.SetTxt0
import PyProof.Rows.SortStr
import HandS.HeadWalk
import PySem.Challenge.RW_retrace_k62_kept_steps
/-! ## B0 -/
set_option Elab.async false
set_option linter.all false
set_option maxRecDepth 100000
set_option maxHeartbeats 4000000
namespace Rt
open PySem PySem.Spec PyProof.Rows L2
/-! the text by places -/
def topS (i : Nat) : Stmt := PySem.Challenge.pw_retrace_k62_kept_steps.main.body.getD i (.Pass ⟨0, 0, 0, 0⟩)
abbrev s_rows_within_numbers : Stmt := topS 1
abbrev s_put_rows : Stmt := topS 3
abbrev s_rows_of : Stmt := topS 4
abbrev s_doors_of : Stmt := topS 5
abbrev s_kept_steps : Stmt := topS 7
abbrev s_Fault___init__ : Stmt := inClass (topS 10) 0
abbrev s_Frame___init__ : Stmt := inClass (topS 11) 0
abbrev s_Frame_shown : Stmt := inClass (topS 11) 1
abbrev s_Work___init__ : Stmt := inClass (topS 12) 0
abbrev s_Work_top : Stmt := inClass (topS 12) 1
abbrev s_Work_cell_of : Stmt := inClass (topS 12) 2
abbrev s_Work_box : Stmt := inClass (topS 12) 3
abbrev s_Work_list_read : Stmt := inClass (topS 12) 4
abbrev s_Work_set_box : Stmt := inClass (topS 12) 5
abbrev s_Work_set_list : Stmt := inClass (topS 12) 6
abbrev s_Work_state : Stmt := inClass (topS 12) 7
abbrev s_truth : Stmt := topS 13
abbrev s_parted : Stmt := topS 14
abbrev s_both_of : Stmt := topS 15
abbrev s_reckoned : Stmt := topS 16
abbrev s_Deed___init__ : Stmt := inClass (topS 20) 0
abbrev s_Deed_kind : Stmt := inClass (topS 20) 1
abbrev s_Deed_change : Stmt := inClass (topS 20) 2
abbrev s_Deed_onward : Stmt := inClass (topS 20) 3
abbrev s_Deed_do : Stmt := inClass (topS 20) 4
abbrev s_SetDeed_change : Stmt := inClass (topS 21) 0
abbrev s_PushDeed_change : Stmt := inClass (topS 22) 0
abbrev s_PopDeed_change : Stmt := inClass (topS 23) 0
abbrev s_PutDeed_change : Stmt := inClass (topS 24) 0
abbrev s_AskDeed_change : Stmt := inClass (topS 25) 0
abbrev s_TellDeed_change : Stmt := inClass (topS 26) 0
abbrev s_FailDeed_change : Stmt := inClass (topS 27) 0
abbrev s_ChooseDeed___init__ : Stmt := inClass (topS 28) 0
abbrev s_ChooseDeed_onward : Stmt := inClass (topS 28) 1
abbrev s_CallDeed_kind : Stmt := inClass (topS 29) 0
abbrev s_CallDeed_do : Stmt := inClass (topS 29) 1
abbrev s_ReturnDeed_kind : Stmt := inClass (topS 30) 0
abbrev s_ReturnDeed_gives : Stmt := inClass (topS 30) 1
abbrev s_ReturnDeed_do : Stmt := inClass (topS 30) 2
abbrev s_OffDeed_kind : Stmt := inClass (topS 31) 0
abbrev s_OffDeed_gives : Stmt := inClass (topS 31) 1
abbrev s_plain_deed : Stmt := topS 32
abbrev s_deed_of : Stmt := topS 33
abbrev s_Node___init__ : Stmt := inClass (topS 38) 0
abbrev s_rows_within_nodes : Stmt := topS 39
abbrev s_numbered : Stmt := topS 41
abbrev s_entry_of : Stmt := topS 42
abbrev s_link : Stmt := topS 43
abbrev s_Function___init__ : Stmt := inClass (topS 44) 0
abbrev s_Layout___init__ : Stmt := inClass (topS 45) 0
abbrev s_Machine___init__ : Stmt := inClass (topS 47) 0
abbrev s_Machine_first : Stmt := inClass (topS 47) 1
abbrev s_Machine_next_row : Stmt := inClass (topS 47) 2
abbrev s_Machine_outward : Stmt := inClass (topS 47) 3
abbrev s_Machine_step : Stmt := inClass (topS 47) 4
abbrev s__law_cell_at : Stmt := topS 49
abbrev s__law_state : Stmt := topS 50
abbrev s__law_next : Stmt := topS 51
abbrev s__law_names : Stmt := topS 52
abbrev s__law_value : Stmt := topS 53
abbrev s__law_plain : Stmt := topS 54
abbrev s__law_rows : Stmt := topS 55
abbrev s__law_program : Stmt := topS 56
abbrev s__law_world : Stmt := topS 57
abbrev s__law_within : Stmt := topS 58
abbrev s__law_walk : Stmt := topS 59
abbrev s__law_listed : Stmt := topS 60
abbrev s__law_run : Stmt := topS 61
abbrev s_law : Stmt := topS 62
/-! ### the error class -/
structure FaultTxt (K : PySem.W.Frag) (C fI : Addr) : Prop where
  oex : OexC K C
  iC : PySem.W.findIn K (.ref C) "__init__" = some (some (.ref fI))
  tI : PySem.W.typeIn K (.ref fI) = some (.type "function")
  nN : PySem.W.findIn K (.ref C) "number" = some none
  vV : PySem.W.findCls K (.type "ValueError") (.type "type") "__init__" = some (.val (.builtin "ValueError.__init__"))
  ga : PySem.W.findIn K (.ref C) "__getattribute__" = some (some (.builtin "BaseException.__getattribute__"))
  gg : PySem.W.findIn K (.ref C) "__getattr__" = some none
  hd : PySem.W.hasDictIn K C = true
  te : PySem.W.exmOne K (.ref C) (.ref C) = some true
def oexB (K : PySem.W.Frag) (C : Addr) : Bool := match K.lookup C with
  | some ⟨.type "type", _, .cls cd, sl⟩ => (match cd.mro, sl.toList with
    | .ref C' :: bm, [_, _, _, _, some (.builtin n), _] => C' == C && n == "ValueError.__new__" && !cd.hasDel && cd.hasDict && PySem.HandSPX.refsVE bm
    | _, _ => false)
  | _ => false
def valIs (o : Option PySem.W.CFound) (v : Value) : Bool := match o with
  | some (.val u) => u == v
  | _ => false
theorem valIs_ok {o : Option PySem.W.CFound} {v : Value} (h : valIs o v = true) : o = some (.val v) := by
  unfold valIs at h
  split at h
  · rw [beq_iff_eq.mp h]
  · cases h
def initB (K : PySem.W.Frag) : Bool := valIs (PySem.W.findCls K (.ref (He.ga K "Deed")) (.type "type") "__init__") (.ref (He.ma K (He.ga K "Deed") "__init__")) && (PySem.W.readsIn K (He.ga K "Deed") (.type "type") && He.eqO (PySem.W.specialIn K (.ref (He.ga K "Deed")) "__getattribute__") (some (some (.builtin "type.__getattribute__"))) && PySem.W.keepIn K (.ref (He.ma K (He.ga K "Deed") "__init__")))
/-- Deed.__init__ as a value -/
structure InitTxt (K : PySem.W.Frag) (C f : Addr) : Prop where
  rd : ClX.CRead K C (.type "type")
  val : ClX.CVal K C (.type "type") "__init__" (.ref f) (.ref f)
  kp : PySem.W.keepIn K (.ref f) = true
def d_rows_within_numbers : He.DefD := ⟨("rows_within_numbers", none), "rows_within", "rows_within", defArgs s_rows_within_numbers, defBody s_rows_within_numbers, defScope s_rows_within_numbers, [], []⟩
def d_put_rows : He.DefD := ⟨("put_rows", none), "put_rows", "put_rows", defArgs s_put_rows, defBody s_put_rows, defScope s_put_rows, [], []⟩
def d_rows_of : He.DefD := ⟨("rows_of", none), "rows_of", "rows_of", defArgs s_rows_of, defBody s_rows_of, defScope s_rows_of, [], []⟩
def d_doors_of : He.DefD := ⟨("doors_of", none), "doors_of", "doors_of", defArgs s_doors_of, defBody s_doors_of, defScope s_doors_of, [], []⟩
def d_kept_steps : He.DefD := ⟨("kept_steps", none), "kept_steps", "kept_steps", defArgs s_kept_steps, defBody s_kept_steps, defScope s_kept_steps, [], []⟩
def d_Fault___init__ : He.DefD := ⟨("Fault", some "__init__"), "__init__", "Fault.__init__", defArgs s_Fault___init__, defBody s_Fault___init__, defScope s_Fault___init__, [], []⟩
def d_Frame___init__ : He.DefD := ⟨("Frame", some "__init__"), "__init__", "Frame.__init__", defArgs s_Frame___init__, defBody s_Frame___init__, defScope s_Frame___init__, [], []⟩
def d_Frame_shown : He.DefD := ⟨("Frame", some "shown"), "shown", "Frame.shown", defArgs s_Frame_shown, defBody s_Frame_shown, defScope s_Frame_shown, [], []⟩
def d_Work___init__ : He.DefD := ⟨("Work", some "__init__"), "__init__", "Work.__init__", defArgs s_Work___init__, defBody s_Work___init__, defScope s_Work___init__, [], []⟩
def d_Work_top : He.DefD := ⟨("Work", some "top"), "top", "Work.top", defArgs s_Work_top, defBody s_Work_top, defScope s_Work_top, [], []⟩
def d_Work_cell_of : He.DefD := ⟨("Work", some "cell_of"), "cell_of", "Work.cell_of", defArgs s_Work_cell_of, defBody s_Work_cell_of, defScope s_Work_cell_of, [], []⟩
def d_Work_box : He.DefD := ⟨("Work", some "box"), "box", "Work.box", defArgs s_Work_box, defBody s_Work_box, defScope s_Work_box, [], []⟩
def d_Work_list_read : He.DefD := ⟨("Work", some "list_read"), "list_read", "Work.list_read", defArgs s_Work_list_read, defBody s_Work_list_read, defScope s_Work_list_read, [], []⟩
def d_Work_set_box : He.DefD := ⟨("Work", some "set_box"), "set_box", "Work.set_box", defArgs s_Work_set_box, defBody s_Work_set_box, defScope s_Work_set_box, [], []⟩
def d_Work_set_list : He.DefD := ⟨("Work", some "set_list"), "set_list", "Work.set_list", defArgs s_Work_set_list, defBody s_Work_set_list, defScope s_Work_set_list, [], []⟩
def d_Work_state : He.DefD := ⟨("Work", some "state"), "state", "Work.state", defArgs s_Work_state, defBody s_Work_state, defScope s_Work_state, [], []⟩
def d_truth : He.DefD := ⟨("truth", none), "truth", "truth", defArgs s_truth, defBody s_truth, defScope s_truth, [], []⟩
def d_parted : He.DefD := ⟨("parted", none), "parted", "parted", defArgs s_parted, defBody s_parted, defScope s_parted, [], []⟩
def d_both_of : He.DefD := ⟨("both_of", none), "both_of", "both_of", defArgs s_both_of, defBody s_both_of, defScope s_both_of, [], []⟩
def d_reckoned : He.DefD := ⟨("reckoned", none), "reckoned", "reckoned", defArgs s_reckoned, defBody s_reckoned, defScope s_reckoned, [], []⟩
def d_Deed___init__ : He.DefD := ⟨("Deed", some "__init__"), "__init__", "Deed.__init__", defArgs s_Deed___init__, defBody s_Deed___init__, defScope s_Deed___init__, [], []⟩
def d_Deed_kind : He.DefD := ⟨("Deed", some "kind"), "kind", "Deed.kind", defArgs s_Deed_kind, defBody s_Deed_kind, defScope s_Deed_kind, [], []⟩
def d_Deed_change : He.DefD := ⟨("Deed", some "change"), "change", "Deed.change", defArgs s_Deed_change, defBody s_Deed_change, defScope s_Deed_change, [], []⟩
def d_Deed_onward : He.DefD := ⟨("Deed", some "onward"), "onward", "Deed.onward", defArgs s_Deed_onward, defBody s_Deed_onward, defScope s_Deed_onward, [], []⟩
def d_Deed_do : He.DefD := ⟨("Deed", some "do"), "do", "Deed.do", defArgs s_Deed_do, defBody s_Deed_do, defScope s_Deed_do, [], []⟩
def d_SetDeed_change : He.DefD := ⟨("SetDeed", some "change"), "change", "SetDeed.change", defArgs s_SetDeed_change, defBody s_SetDeed_change, defScope s_SetDeed_change, [], []⟩
def d_PushDeed_change : He.DefD := ⟨("PushDeed", some "change"), "change", "PushDeed.change", defArgs s_PushDeed_change, defBody s_PushDeed_change, defScope s_PushDeed_change, [], []⟩
def d_PopDeed_change : He.DefD := ⟨("PopDeed", some "change"), "change", "PopDeed.change", defArgs s_PopDeed_change, defBody s_PopDeed_change, defScope s_PopDeed_change, [], []⟩
def d_PutDeed_change : He.DefD := ⟨("PutDeed", some "change"), "change", "PutDeed.change", defArgs s_PutDeed_change, defBody s_PutDeed_change, defScope s_PutDeed_change, [], []⟩
def d_AskDeed_change : He.DefD := ⟨("AskDeed", some "change"), "change", "AskDeed.change", defArgs s_AskDeed_change, defBody s_AskDeed_change, defScope s_AskDeed_change, [], []⟩
def d_TellDeed_change : He.DefD := ⟨("TellDeed", some "change"), "change", "TellDeed.change", defArgs s_TellDeed_change, defBody s_TellDeed_change, defScope s_TellDeed_change, [], []⟩
def d_FailDeed_change : He.DefD := ⟨("FailDeed", some "change"), "change", "FailDeed.change", defArgs s_FailDeed_change, defBody s_FailDeed_change, defScope s_FailDeed_change, [], []⟩
def d_ChooseDeed___init__ : He.DefD := ⟨("ChooseDeed", some "__init__"), "__init__", "ChooseDeed.__init__", defArgs s_ChooseDeed___init__, defBody s_ChooseDeed___init__, defScope s_ChooseDeed___init__, [], []⟩
def d_ChooseDeed_onward : He.DefD := ⟨("ChooseDeed", some "onward"), "onward", "ChooseDeed.onward", defArgs s_ChooseDeed_onward, defBody s_ChooseDeed_onward, defScope s_ChooseDeed_onward, [], []⟩
def d_CallDeed_kind : He.DefD := ⟨("CallDeed", some "kind"), "kind", "CallDeed.kind", defArgs s_CallDeed_kind, defBody s_CallDeed_kind, defScope s_CallDeed_kind, [], []⟩
def d_CallDeed_do : He.DefD := ⟨("CallDeed", some "do"), "do", "CallDeed.do", defArgs s_CallDeed_do, defBody s_CallDeed_do, defScope s_CallDeed_do, [], []⟩
def d_ReturnDeed_kind : He.DefD := ⟨("ReturnDeed", some "kind"), "kind", "ReturnDeed.kind", defArgs s_ReturnDeed_kind, defBody s_ReturnDeed_kind, defScope s_ReturnDeed_kind, [], []⟩
def d_ReturnDeed_gives : He.DefD := ⟨("ReturnDeed", some "gives"), "gives", "ReturnDeed.gives", defArgs s_ReturnDeed_gives, defBody s_ReturnDeed_gives, defScope s_ReturnDeed_gives, [], []⟩
def d_ReturnDeed_do : He.DefD := ⟨("ReturnDeed", some "do"), "do", "ReturnDeed.do", defArgs s_ReturnDeed_do, defBody s_ReturnDeed_do, defScope s_ReturnDeed_do, [], []⟩
def d_OffDeed_kind : He.DefD := ⟨("OffDeed", some "kind"), "kind", "OffDeed.kind", defArgs s_OffDeed_kind, defBody s_OffDeed_kind, defScope s_OffDeed_kind, [], []⟩
def d_OffDeed_gives : He.DefD := ⟨("OffDeed", some "gives"), "gives", "OffDeed.gives", defArgs s_OffDeed_gives, defBody s_OffDeed_gives, defScope s_OffDeed_gives, [], []⟩
def d_plain_deed : He.DefD := ⟨("plain_deed", none), "plain_deed", "plain_deed", defArgs s_plain_deed, defBody s_plain_deed, defScope s_plain_deed, [], []⟩
def d_deed_of : He.DefD := ⟨("deed_of", none), "deed_of", "deed_of", defArgs s_deed_of, defBody s_deed_of, defScope s_deed_of, [], []⟩
def d_Node___init__ : He.DefD := ⟨("Node", some "__init__"), "__init__", "Node.__init__", defArgs s_Node___init__, defBody s_Node___init__, defScope s_Node___init__, [], []⟩
def d_rows_within_nodes : He.DefD := ⟨("rows_within_nodes", none), "rows_within", "rows_within", defArgs s_rows_within_nodes, defBody s_rows_within_nodes, defScope s_rows_within_nodes, [], []⟩
def d_numbered : He.DefD := ⟨("numbered", none), "numbered", "numbered", defArgs s_numbered, defBody s_numbered, defScope s_numbered, [], []⟩
def d_entry_of : He.DefD := ⟨("entry_of", none), "entry_of", "entry_of", defArgs s_entry_of, defBody s_entry_of, defScope s_entry_of, [], []⟩
def d_link : He.DefD := ⟨("link", none), "link", "link", defArgs s_link, defBody s_link, defScope s_link, [], []⟩
def d_Function___init__ : He.DefD := ⟨("Function", some "__init__"), "__init__", "Function.__init__", defArgs s_Function___init__, defBody s_Function___init__, defScope s_Function___init__, [], []⟩
def d_Layout___init__ : He.DefD := ⟨("Layout", some "__init__"), "__init__", "Layout.__init__", defArgs s_Layout___init__, defBody s_Layout___init__, defScope s_Layout___init__, [], []⟩
def d_Machine___init__ : He.DefD := ⟨("Machine", some "__init__"), "__init__", "Machine.__init__", defArgs s_Machine___init__, defBody s_Machine___init__, defScope s_Machine___init__, [.non], []⟩
def d_Machine_first : He.DefD := ⟨("Machine", some "first"), "first", "Machine.first", defArgs s_Machine_first, defBody s_Machine_first, defScope s_Machine_first, [], []⟩
def d_Machine_next_row : He.DefD := ⟨("Machine", some "next_row"), "next_row", "Machine.next_row", defArgs s_Machine_next_row, defBody s_Machine_next_row, defScope s_Machine_next_row, [], []⟩
def d_Machine_outward : He.DefD := ⟨("Machine", some "outward"), "outward", "Machine.outward", defArgs s_Machine_outward, defBody s_Machine_outward, defScope s_Machine_outward, [], []⟩
def d_Machine_step : He.DefD := ⟨("Machine", some "step"), "step", "Machine.step", defArgs s_Machine_step, defBody s_Machine_step, defScope s_Machine_step, [], []⟩
def d__law_cell_at : He.DefD := ⟨("_law_cell_at", none), "_law_cell_at", "_law_cell_at", defArgs s__law_cell_at, defBody s__law_cell_at, defScope s__law_cell_at, [], []⟩
def d__law_state : He.DefD := ⟨("_law_state", none), "_law_state", "_law_state", defArgs s__law_state, defBody s__law_state, defScope s__law_state, [], []⟩
def d__law_next : He.DefD := ⟨("_law_next", none), "_law_next", "_law_next", defArgs s__law_next, defBody s__law_next, defScope s__law_next, [], []⟩
def d__law_names : He.DefD := ⟨("_law_names", none), "_law_names", "_law_names", defArgs s__law_names, defBody s__law_names, defScope s__law_names, [], []⟩
def d__law_value : He.DefD := ⟨("_law_value", none), "_law_value", "_law_value", defArgs s__law_value, defBody s__law_value, defScope s__law_value, [], []⟩
def d__law_plain : He.DefD := ⟨("_law_plain", none), "_law_plain", "_law_plain", defArgs s__law_plain, defBody s__law_plain, defScope s__law_plain, [], []⟩
def d__law_rows : He.DefD := ⟨("_law_rows", none), "_law_rows", "_law_rows", defArgs s__law_rows, defBody s__law_rows, defScope s__law_rows, [], []⟩
def d__law_program : He.DefD := ⟨("_law_program", none), "_law_program", "_law_program", defArgs s__law_program, defBody s__law_program, defScope s__law_program, [], []⟩
def d__law_world : He.DefD := ⟨("_law_world", none), "_law_world", "_law_world", defArgs s__law_world, defBody s__law_world, defScope s__law_world, [], []⟩
def d__law_within : He.DefD := ⟨("_law_within", none), "_law_within", "_law_within", defArgs s__law_within, defBody s__law_within, defScope s__law_within, [], []⟩
def d__law_walk : He.DefD := ⟨("_law_walk", none), "_law_walk", "_law_walk", defArgs s__law_walk, defBody s__law_walk, defScope s__law_walk, [], []⟩
def d__law_listed : He.DefD := ⟨("_law_listed", none), "_law_listed", "_law_listed", defArgs s__law_listed, defBody s__law_listed, defScope s__law_listed, [], []⟩
def d__law_run : He.DefD := ⟨("_law_run", none), "_law_run", "_law_run", defArgs s__law_run, defBody s__law_run, defScope s__law_run, [], []⟩
def d_law : He.DefD := ⟨("law", none), "law", "law", defArgs s_law, defBody s_law, defScope s_law, [], []⟩
def fnL : List He.DefD := [d_rows_within_numbers, d_put_rows, d_rows_of, d_doors_of, d_kept_steps, d_Fault___init__, d_Frame___init__, d_Frame_shown, d_Work___init__, d_Work_top, d_Work_cell_of, d_Work_box, d_Work_list_read, d_Work_set_box, d_Work_set_list, d_Work_state, d_truth, d_parted, d_both_of, d_reckoned, d_Deed___init__, d_Deed_kind, d_Deed_change, d_Deed_onward, d_Deed_do, d_SetDeed_change, d_PushDeed_change, d_PopDeed_change, d_PutDeed_change, d_AskDeed_change, d_TellDeed_change, d_FailDeed_change, d_ChooseDeed___init__, d_ChooseDeed_onward, d_CallDeed_kind, d_CallDeed_do, d_ReturnDeed_kind, d_ReturnDeed_gives, d_ReturnDeed_do, d_OffDeed_kind, d_OffDeed_gives, d_plain_deed, d_deed_of, d_Node___init__, d_rows_within_nodes, d_numbered, d_entry_of, d_link, d_Function___init__, d_Layout___init__, d_Machine___init__, d_Machine_first, d_Machine_next_row, d_Machine_outward, d_Machine_step, d__law_cell_at, d__law_state, d__law_next, d__law_names, d__law_value, d__law_plain, d__law_rows, d__law_program, d__law_world, d__law_within, d__law_walk, d__law_listed, d__law_run, d_law]
def faL0 : List He.Fa := [.glo "rows_within_numbers", .glo "put_rows", .glo "rows_of", .glo "doors_of", .glo "kept_steps", .glo "Fault", .glo "Frame", .glo "Work", .glo "truth", .glo "parted", .glo "both_of", .glo "reckoned", .glo "Deed", .glo "SetDeed", .glo "PushDeed", .glo "PopDeed", .glo "PutDeed", .glo "AskDeed", .glo "TellDeed", .glo "FailDeed", .glo "ChooseDeed", .glo "CallDeed", .glo "ReturnDeed", .glo "OffDeed", .glo "plain_deed", .glo "deed_of", .glo "NoStep", .glo "Node", .glo "rows_within_nodes", .glo "numbered"]
def faL1 : List He.Fa := [.glo "entry_of", .glo "link", .glo "Function", .glo "Layout", .glo "Machine", .glo "_law_cell_at", .glo "_law_state", .glo "_law_next", .glo "_law_names", .glo "_law_value", .glo "_law_plain", .glo "_law_rows", .glo "_law_program", .glo "_law_world", .glo "_law_within", .glo "_law_walk", .glo "_law_listed", .glo "_law_run", .glo "law", .free "len", .free "sorted", .free "set", .free "dict", .free "zip", .free "list", .free "tuple", .free "enumerate", .free "reversed", .free "divmod", .free "range"]
def faL2 : List He.Fa := [.free "max", .free "int", .free "isinstance", .free "ValueError", .int "MODULUS" 1000000, .int "MOST_THINGS" 12, .int "MOST_FRAMES" 8, .cls "Frame", .noat "Frame" "title", .noat "Frame" "owns", .noat "Frame" "point", .meth "Frame" "shown", .mkr "Frame", .cls "Work", .noat "Work" "layout", .noat "Work" "boxes", .noat "Work" "lists", .noat "Work" "frames", .noat "Work" "counts", .noat "Work" "heard", .noat "Work" "word", .noat "Work" "reads", .noat "Work" "wrote", .meth "Work" "top", .meth "Work" "cell_of", .meth "Work" "box", .meth "Work" "list_read", .meth "Work" "set_box", .meth "Work" "set_list", .meth "Work" "state"]
def faL3 : List He.Fa := [.mkr "Work", .cls "Deed", .noat "Deed" "node", .noat "Deed" "row", .meth "Deed" "kind", .meth "Deed" "change", .meth "Deed" "onward", .meth "Deed" "do", .mkr "Deed", .cls "SetDeed", .noat "SetDeed" "node", .noat "SetDeed" "row", .meth "SetDeed" "kind", .meth "SetDeed" "change", .meth "SetDeed" "onward", .meth "SetDeed" "do", .mkr "SetDeed", .cls "PushDeed", .noat "PushDeed" "node", .noat "PushDeed" "row", .meth "PushDeed" "kind", .meth "PushDeed" "change", .meth "PushDeed" "onward", .meth "PushDeed" "do", .mkr "PushDeed", .cls "PopDeed", .noat "PopDeed" "node", .noat "PopDeed" "row", .meth "PopDeed" "kind", .meth "PopDeed" "change"]
def faL4 : List He.Fa := [.meth "PopDeed" "onward", .meth "PopDeed" "do", .mkr "PopDeed", .cls "PutDeed", .noat "PutDeed" "node", .noat "PutDeed" "row", .meth "PutDeed" "kind", .meth "PutDeed" "change", .meth "PutDeed" "onward", .meth "PutDeed" "do", .mkr "PutDeed", .cls "AskDeed", .noat "AskDeed" "node", .noat "AskDeed" "row", .meth "AskDeed" "kind", .meth "AskDeed" "change", .meth "AskDeed" "onward", .meth "AskDeed" "do", .mkr "AskDeed", .cls "TellDeed", .noat "TellDeed" "node", .noat "TellDeed" "row", .meth "TellDeed" "kind", .meth "TellDeed" "change", .meth "TellDeed" "onward", .meth "TellDeed" "do", .mkr "TellDeed", .cls "FailDeed", .noat "FailDeed" "node", .noat "FailDeed" "row"]
def faL5 : List He.Fa := [.meth "FailDeed" "kind", .meth "FailDeed" "change", .meth "FailDeed" "onward", .meth "FailDeed" "do", .mkr "FailDeed", .cls "ChooseDeed", .noat "ChooseDeed" "node", .noat "ChooseDeed" "row", .noat "ChooseDeed" "chosen", .noat "ChooseDeed" "otherwise", .meth "ChooseDeed" "kind", .meth "ChooseDeed" "change", .meth "ChooseDeed" "onward", .meth "ChooseDeed" "do", .mkr "ChooseDeed", .cls "CallDeed", .noat "CallDeed" "node", .noat "CallDeed" "row", .meth "CallDeed" "kind", .meth "CallDeed" "change", .meth "CallDeed" "onward", .meth "CallDeed" "do", .mkr "CallDeed", .cls "ReturnDeed", .noat "ReturnDeed" "node", .noat "ReturnDeed" "row", .meth "ReturnDeed" "kind", .meth "ReturnDeed" "change", .meth "ReturnDeed" "onward", .meth "ReturnDeed" "do"]
def faL6 : List He.Fa := [.meth "ReturnDeed" "gives", .mkr "ReturnDeed", .cls "OffDeed", .noat "OffDeed" "node", .noat "OffDeed" "row", .meth "OffDeed" "kind", .meth "OffDeed" "change", .meth "OffDeed" "onward", .meth "OffDeed" "do", .meth "OffDeed" "gives", .mkr "OffDeed", .cls "Node", .noat "Node" "number", .noat "Node" "row", .noat "Node" "home", .noat "Node" "firsts", .noat "Node" "seconds", .noat "Node" "entry", .noat "Node" "behind", .noat "Node" "guard", .mkr "Node", .cls "Function", .noat "Function" "title", .noat "Function" "params", .noat "Function" "names", .noat "Function" "number", .noat "Function" "entry", .mkr "Function", .cls "Layout", .noat "Layout" "nodes"]
def faL7 : List He.Fa := [.noat "Layout" "functions", .noat "Layout" "entry", .mkr "Layout", .cls "Machine", .noat "Machine" "source", .noat "Machine" "gates", .noat "Machine" "layout", .noat "Machine" "doors", .noat "Machine" "deeds", .meth "Machine" "first", .meth "Machine" "next_row", .meth "Machine" "outward", .meth "Machine" "step", .mkr "Machine", .keep "rows_within_numbers", .keep "put_rows", .keep "rows_of", .keep "doors_of", .keep "kept_steps", .keep "truth", .keep "parted", .keep "both_of", .keep "reckoned", .keep "plain_deed", .keep "deed_of", .keep "rows_within_nodes", .keep "numbered", .keep "entry_of", .keep "link", .keep "_law_cell_at"]
def faL8 : List He.Fa := [.keep "_law_state", .keep "_law_next", .keep "_law_names", .keep "_law_value", .keep "_law_plain", .keep "_law_rows", .keep "_law_program", .keep "_law_world", .keep "_law_within", .keep "_law_walk", .keep "_law_listed", .keep "_law_run", .keep "law"]
def faL : List He.Fa := faL0 ++ (faL1 ++ (faL2 ++ (faL3 ++ (faL4 ++ (faL5 ++ (faL6 ++ (faL7 ++ (faL8))))))))
def smL0 : List (Str × Str × Str) := [("SetDeed", "__init__", "Deed"), ("SetDeed", "kind", "Deed"), ("SetDeed", "onward", "Deed"), ("SetDeed", "do", "Deed"), ("PushDeed", "__init__", "Deed"), ("PushDeed", "kind", "Deed"), ("PushDeed", "onward", "Deed"), ("PushDeed", "do", "Deed"), ("PopDeed", "__init__", "Deed"), ("PopDeed", "kind", "Deed")]
def smL1 : List (Str × Str × Str) := [("PopDeed", "onward", "Deed"), ("PopDeed", "do", "Deed"), ("PutDeed", "__init__", "Deed"), ("PutDeed", "kind", "Deed"), ("PutDeed", "onward", "Deed"), ("PutDeed", "do", "Deed"), ("AskDeed", "__init__", "Deed"), ("AskDeed", "kind", "Deed"), ("AskDeed", "onward", "Deed"), ("AskDeed", "do", "Deed")]
def smL2 : List (Str × Str × Str) := [("TellDeed", "__init__", "Deed"), ("TellDeed", "kind", "Deed"), ("TellDeed", "onward", "Deed"), ("TellDeed", "do", "Deed"), ("FailDeed", "__init__", "Deed"), ("FailDeed", "kind", "Deed"), ("FailDeed", "onward", "Deed"), ("FailDeed", "do", "Deed"), ("ChooseDeed", "kind", "Deed"), ("ChooseDeed", "change", "Deed")]
def smL3 : List (Str × Str × Str) := [("ChooseDeed", "do", "Deed"), ("CallDeed", "__init__", "Deed"), ("CallDeed", "change", "Deed"), ("CallDeed", "onward", "Deed"), ("ReturnDeed", "__init__", "Deed"), ("ReturnDeed", "change", "Deed"), ("ReturnDeed", "onward", "Deed"), ("OffDeed", "__init__", "Deed"), ("OffDeed", "change", "Deed"), ("OffDeed", "onward", "Deed")]
def smL4 : List (Str × Str × Str) := [("OffDeed", "do", "ReturnDeed")]
def smL : List (Str × Str × Str) := smL0 ++ (smL1 ++ (smL2 ++ (smL3 ++ (smL4))))
def smB (K : PySem.W.Frag) (l : List (Str × Str × Str)) : Bool := l.all fun q => decide (He.ma K (He.ga K q.1) q.2.1 = He.ma K (He.ga K q.2.2) q.2.1)
theorem sm_ok {K : PySem.W.Frag} {l : List (Str × Str × Str)} (h : smB K l = true) (i : Nat) {q : Str × Str × Str} (e : l[i]? = some q := by rfl) : He.ma K (He.ga K q.1) q.2.1 = He.ma K (He.ga K q.2.2) q.2.1 :=
  of_decide_eq_true (List.all_eq_true.mp h q (List.mem_of_getElem? e))
def faultB (K : PySem.W.Frag) : Bool := oexB K (He.ga K "Fault") && (He.eqO (PySem.W.findIn K (.ref (He.ga K "Fault")) "__setattr__") (some (some (.builtin "object.__setattr__"))) && (decide (PySem.W.subIn K (.ref (He.ga K "Fault")) (.type "BaseException") = some true) && (decide (PySem.W.typeIn K (.ref (He.ga K "Fault")) = some (.type "type")) && (PySem.W.keepIn K (.ref (He.ga K "Fault")) &&
  (He.eqO (PySem.W.findIn K (.ref (He.ga K "Fault")) "__init__") (some (some (.ref (He.ma K (He.ga K "Fault") "__init__")))) && (decide (PySem.W.typeIn K (.ref (He.ma K (He.ga K "Fault") "__init__")) = some (.type "function")) && (He.eqO (PySem.W.findIn K (.ref (He.ga K "Fault")) "number") (some none) &&
  (valIs (PySem.W.findCls K (.type "ValueError") (.type "type") "__init__") (.builtin "ValueError.__init__") && (He.eqO (PySem.W.findIn K (.ref (He.ga K "Fault")) "__getattribute__") (some (some (.builtin "BaseException.__getattribute__"))) && (He.eqO (PySem.W.findIn K (.ref (He.ga K "Fault")) "__getattr__") (some none) && (PySem.W.hasDictIn K (He.ga K "Fault") && decide (PySem.W.exmOne K (.ref (He.ga K "Fault")) (.ref (He.ga K "Fault")) = some true))))))))))))
def exB (K : PySem.W.Frag) : Bool := (faultB K && initB K) && smB K smL
end Rt
/-! ## the head -/
set_option Elab.async false
set_option linter.all false
set_option maxRecDepth 100000
set_option maxHeartbeats 0
namespace Rt
open PySem PySem.Spec PyProof.Rows L2
abbrev RR : PySem.W.OpenRow := PySem.W.OpenLaw.row PySem.Challenge.rw_retrace_k62_kept_steps
/-- the names' reach, the interpreter's own table too -/
def frY (g : Addr → Option Obj) : PySem.W.Frag := He.frT g (He.asD g 4 ++ [cStatics])
def obsY (fa : List He.Fa) (fn : List He.DefD) (ex : PySem.W.Frag → Bool) (g : Addr → Option Obj) : He.AlX := (He.obsT fa fn [] (frY g), ex (frY g))
def hkY (fa : List He.Fa) (fn : List He.DefD) (ex : PySem.W.Frag → Bool) : PySem.W.Hook where
  α := He.AlX
  obs := fun s => obsY fa fn ex s.heap.get?
  val := fun w => He.valX fn [] w
  says := fun w h => ∃ K : PySem.W.Frag, K.In h ∧ He.SaysX fa fn [] [] ex w h K
  of := fun _ s e => ⟨frY s.heap.get?, He.frT_in, ⟨congrArg (fun z : He.AlX => z.1) e, congrArg (fun z : He.AlX => z.2) e, fun p hp => (nomatch hp), fun p hp => (nomatch hp), fun p hp => (nomatch hp)⟩⟩
  keeps := fun _ _ _ ⟨K, hK, c⟩ k => ⟨K, PySem.W.Frag.In.keeps hK k, ⟨c.t, c.more, c.hd, c.out, fun p hp => (nomatch hp)⟩⟩
theorem obsY_eq {fa : List He.Fa} {fn : List He.DefD} {ex : PySem.W.Frag → Bool} {g : Addr → Option Obj} {s : Shared} (h : ∀ a, g a = s.heap.get? a) : obsY fa fn ex g = (hkY fa fn ex).obs s := by
  have e : g = s.heap.get? := funext h
  rw [e] <;> rfl
abbrev hkR : PySem.W.Hook := hkY faL fnL exB
def obR (s : PySem.W.SharedT) : He.AlX := obsY faL fnL exB (HandSHeadRun.getT s)
theorem obR_eq (s : PySem.W.SharedT) : obR s = hkR.obs s.abs := obsY_eq (HandSHeadRun.getT_eq s)
def looseR : List PySem.Str := (["rows_within", "rows_within_numbers", "put_rows", "rows_of", "doors_of", "kept_steps", "MODULUS", "Fault", "Frame", "Work", "truth", "parted", "both_of", "reckoned", "MOST_THINGS", "MOST_FRAMES", "Deed", "SetDeed", "PushDeed", "PopDeed", "PutDeed", "AskDeed", "TellDeed", "FailDeed", "ChooseDeed", "CallDeed", "ReturnDeed", "OffDeed", "plain_deed", "deed_of"] : List PySem.Str) ++ (["RunError", "NoStep", "Node", "rows_within_nodes", "numbered", "entry_of", "link", "Function", "Layout", "Machine", "_law_cell_at", "_law_state", "_law_next", "_law_names", "_law_value", "_law_plain", "_law_rows", "_law_program", "_law_world", "_law_within", "_law_walk", "_law_listed", "_law_run"] : List PySem.Str)
section
open PySem.W PySem.Calls
/-- the run in two parts, for the memory's sake: what the top leaves .. -/
theorem run1 (w : World) (os : OsState) : (HandSHeadRun.endF (HandSHeadRun.stepQ (HandSHeadRun.denQ HandSHeadRun.tabQ) RR.prog w) 40000 RR.prog w os).map (fun s => (HandSHeadRun.looksF RR.prog (boot_heap w.params) s.abs, HandSHeadRun.seenQ (view RR.prog [62]) looseR (importedModules RR.prog.main.body) (fun s => xlAt (view RR.prog [62]) [] s && recOk RR.toRowW.records s) s.abs)) = some (true, openGood (view RR.prog [62]) looseR) := by kernel_rfl
/-- .. and the facts -/
theorem run2 (w : World) (os : OsState) : (HandSHeadRun.endF (HandSHeadRun.stepQ (HandSHeadRun.denQ HandSHeadRun.tabQ) RR.prog w) 40000 RR.prog w os).map obR = some (hkR.val w) := by kernel_rfl
end
theorem three {α β γ δ : Type} {x : Option α} {f : α → β × γ} {k : α → δ} {a : β} {b : γ} {c : δ} (h1 : x.map f = some (a, b)) (h2 : x.map k = some c) : x.map (fun s => ((f s).1, (f s).2, k s)) = some (a, b, c) := by
  cases x with
  | none => cases h1
  | some s =>
    have e : f s = (a, b) := Option.some.inj h1
    have e2 : k s = c := Option.some.inj h2
    show some ((f s).1, (f s).2, k s) = some (a, b, c)
    rw [e, e2]
theorem runR (w : World) : HandSHeadRun.RunEq RR (PySem.W.view RR.prog [62]) hkR obR 40000 looseR w := by
  intro os
  have h1 := run1 w os
  have h2 := run2 w os
  generalize (HandSHeadRun.endF (HandSHeadRun.stepQ (HandSHeadRun.denQ HandSHeadRun.tabQ) RR.prog w) 40000 RR.prog w os) = x at h1 h2 ⊢
  exact three h1 h2
end Rt
set_option Elab.async false
set_option linter.all false
set_option maxRecDepth 100000
set_option maxHeartbeats 4000000
namespace Rt
open PySem PySem.Spec PyProof.Rows L2
abbrev N_rows_within_numbers : List Str := ["row"]
abbrev P_rows_within_numbers : List Str := ["row"]
theorem sc_rows_within_numbers : FnScope N_rows_within_numbers P_rows_within_numbers (defScope s_rows_within_numbers) := ⟨rfl, rfl, rfl, by decide +kernel, rfl, by decide +kernel, by decide +kernel⟩
abbrev N_put_rows : List Str := ["rows", "around", "found", "row", "number", "some"]
abbrev P_put_rows : List Str := ["rows", "around", "found"]
theorem sc_put_rows : FnScope N_put_rows P_put_rows (defScope s_put_rows) := ⟨rfl, rfl, rfl, by decide +kernel, rfl, by decide +kernel, by decide +kernel⟩
abbrev N_rows_of : List Str := ["program", "found", "function", "number"]
abbrev P_rows_of : List Str := ["program"]
theorem sc_rows_of : FnScope N_rows_of P_rows_of (defScope s_rows_of) := ⟨rfl, rfl, rfl, by decide +kernel, rfl, by decide +kernel, by decide +kernel⟩
abbrev N_doors_of : List Str := ["program", "number", "row", "around"]
abbrev P_doors_of : List Str := ["program"]
theorem sc_doors_of : FnScope N_doors_of P_doors_of (defScope s_doors_of) := ⟨rfl, rfl, rfl, by decide +kernel, rfl, by decide +kernel, by decide +kernel⟩
abbrev N_kept_steps : List Str := ["notes", "rows", "step", "note"]
abbrev P_kept_steps : List Str := ["notes", "rows"]
theorem sc_kept_steps : FnScope N_kept_steps P_kept_steps (defScope s_kept_steps) := ⟨rfl, rfl, rfl, by decide +kernel, rfl, by decide +kernel, by decide +kernel⟩
abbrev N_Fault___init__ : List Str := ["self", "number"]
abbrev P_Fault___init__ : List Str := ["self", "number"]
theorem sc_Fault___init__ : FnScope N_Fault___init__ P_Fault___init__ (defScope s_Fault___init__) := ⟨rfl, rfl, rfl, by decide +kernel, rfl, by decide +kernel, by decide +kernel⟩
abbrev N_Frame___init__ : List Str := ["self", "title", "names", "numbers", "point"]
abbrev P_Frame___init__ : List Str := ["self", "title", "names", "numbers", "point"]
theorem sc_Frame___init__ : FnScope N_Frame___init__ P_Frame___init__ (defScope s_Frame___init__) := ⟨rfl, rfl, rfl, by decide +kernel, rfl, by decide +kernel, by decide +kernel⟩
abbrev N_Frame_shown : List Str := ["self"]
abbrev P_Frame_shown : List Str := ["self"]
theorem sc_Frame_shown : FnScope N_Frame_shown P_Frame_shown (defScope s_Frame_shown) := ⟨rfl, rfl, rfl, by decide +kernel, rfl, by decide +kernel, by decide +kernel⟩
abbrev N_Work___init__ : List Str := ["self", "layout", "program", "doors", "state", "title", "numbers", "point", "names", "box", "one"]
abbrev P_Work___init__ : List Str := ["self", "layout", "program", "doors", "state"]
theorem sc_Work___init__ : FnScope N_Work___init__ P_Work___init__ (defScope s_Work___init__) := ⟨rfl, rfl, rfl, by decide +kernel, rfl, by decide +kernel, by decide +kernel⟩
abbrev N_Work_top : List Str := ["self"]
abbrev P_Work_top : List Str := ["self"]
theorem sc_Work_top : FnScope N_Work_top P_Work_top (defScope s_Work_top) := ⟨rfl, rfl, rfl, by decide +kernel, rfl, by decide +kernel, by decide +kernel⟩
abbrev N_Work_cell_of : List Str := ["self", "name"]
abbrev P_Work_cell_of : List Str := ["self", "name"]
theorem sc_Work_cell_of : FnScope N_Work_cell_of P_Work_cell_of (defScope s_Work_cell_of) := ⟨rfl, rfl, rfl, by decide +kernel, rfl, by decide +kernel, by decide +kernel⟩
abbrev N_Work_box : List Str := ["self", "name", "cell"]
abbrev P_Work_box : List Str := ["self", "name"]
theorem sc_Work_box : FnScope N_Work_box P_Work_box (defScope s_Work_box) := ⟨rfl, rfl, rfl, by decide +kernel, rfl, by decide +kernel, by decide +kernel⟩
abbrev N_Work_list_read : List Str := ["self", "name"]
abbrev P_Work_list_read : List Str := ["self", "name"]
theorem sc_Work_list_read : FnScope N_Work_list_read P_Work_list_read (defScope s_Work_list_read) := ⟨rfl, rfl, rfl, by decide +kernel, rfl, by decide +kernel, by decide +kernel⟩
abbrev N_Work_set_box : List Str := ["self", "name", "number", "cell"]
abbrev P_Work_set_box : List Str := ["self", "name", "number"]
theorem sc_Work_set_box : FnScope N_Work_set_box P_Work_set_box (defScope s_Work_set_box) := ⟨rfl, rfl, rfl, by decide +kernel, rfl, by decide +kernel, by decide +kernel⟩
abbrev N_Work_set_list : List Str := ["self", "name", "things"]
abbrev P_Work_set_list : List Str := ["self", "name", "things"]
theorem sc_Work_set_list : FnScope N_Work_set_list P_Work_set_list (defScope s_Work_set_list) := ⟨rfl, rfl, rfl, by decide +kernel, rfl, by decide +kernel, by decide +kernel⟩
abbrev N_Work_state : List Str := ["self", "frames", "frame"]
abbrev P_Work_state : List Str := ["self"]
theorem sc_Work_state : FnScope N_Work_state P_Work_state (defScope s_Work_state) := ⟨rfl, rfl, rfl, by decide +kernel, rfl, by decide +kernel, by decide +kernel⟩
abbrev N_truth : List Str := ["is_so"]
abbrev P_truth : List Str := ["is_so"]
theorem sc_truth : FnScope N_truth P_truth (defScope s_truth) := ⟨rfl, rfl, rfl, by decide +kernel, rfl, by decide +kernel, by decide +kernel⟩
abbrev N_parted : List Str := ["one", "other"]
abbrev P_parted : List Str := ["one", "other"]
theorem sc_parted : FnScope N_parted P_parted (defScope s_parted) := ⟨rfl, rfl, rfl, by decide +kernel, rfl, by decide +kernel, by decide +kernel⟩
abbrev N_both_of : List Str := ["word", "one", "other"]
abbrev P_both_of : List Str := ["word", "one", "other"]
theorem sc_both_of : FnScope N_both_of P_both_of (defScope s_both_of) := ⟨rfl, rfl, rfl, by decide +kernel, rfl, by decide +kernel, by decide +kernel⟩
abbrev N_reckoned : List Str := ["work", "value", "word", "place", "things", "one", "other"]
abbrev P_reckoned : List Str := ["work", "value"]
theorem sc_reckoned : FnScope N_reckoned P_reckoned (defScope s_reckoned) := ⟨rfl, rfl, rfl, by decide +kernel, rfl, by decide +kernel, by decide +kernel⟩
abbrev N_Deed___init__ : List Str := ["self", "node"]
abbrev P_Deed___init__ : List Str := ["self", "node"]
theorem sc_Deed___init__ : FnScope N_Deed___init__ P_Deed___init__ (defScope s_Deed___init__) := ⟨rfl, rfl, rfl, by decide +kernel, rfl, by decide +kernel, by decide +kernel⟩
abbrev N_Deed_kind : List Str := ["self"]
abbrev P_Deed_kind : List Str := ["self"]
theorem sc_Deed_kind : FnScope N_Deed_kind P_Deed_kind (defScope s_Deed_kind) := ⟨rfl, rfl, rfl, by decide +kernel, rfl, by decide +kernel, by decide +kernel⟩
abbrev N_Deed_change : List Str := ["self", "work", "world"]
abbrev P_Deed_change : List Str := ["self", "work", "world"]
theorem sc_Deed_change : FnScope N_Deed_change P_Deed_change (defScope s_Deed_change) := ⟨rfl, rfl, rfl, by decide +kernel, rfl, by decide +kernel, by decide +kernel⟩
abbrev N_Deed_onward : List Str := ["self", "work"]
abbrev P_Deed_onward : List Str := ["self", "work"]
theorem sc_Deed_onward : FnScope N_Deed_onward P_Deed_onward (defScope s_Deed_onward) := ⟨rfl, rfl, rfl, by decide +kernel, rfl, by decide +kernel, by decide +kernel⟩
abbrev N_Deed_do : List Str := ["self", "work", "world", "frame"]
abbrev P_Deed_do : List Str := ["self", "work", "world"]
theorem sc_Deed_do : FnScope N_Deed_do P_Deed_do (defScope s_Deed_do) := ⟨rfl, rfl, rfl, by decide +kernel, rfl, by decide +kernel, by decide +kernel⟩
abbrev N_SetDeed_change : List Str := ["self", "work", "world", "number"]
abbrev P_SetDeed_change : List Str := ["self", "work", "world"]
theorem sc_SetDeed_change : FnScope N_SetDeed_change P_SetDeed_change (defScope s_SetDeed_change) := ⟨rfl, rfl, rfl, by decide +kernel, rfl, by decide +kernel, by decide +kernel⟩
abbrev N_PushDeed_change : List Str := ["self", "work", "world", "number", "things"]
abbrev P_PushDeed_change : List Str := ["self", "work", "world"]
theorem sc_PushDeed_change : FnScope N_PushDeed_change P_PushDeed_change (defScope s_PushDeed_change) := ⟨rfl, rfl, rfl, by decide +kernel, rfl, by decide +kernel, by decide +kernel⟩
abbrev N_PopDeed_change : List Str := ["self", "work", "world", "things"]
abbrev P_PopDeed_change : List Str := ["self", "work", "world"]
theorem sc_PopDeed_change : FnScope N_PopDeed_change P_PopDeed_change (defScope s_PopDeed_change) := ⟨rfl, rfl, rfl, by decide +kernel, rfl, by decide +kernel, by decide +kernel⟩
abbrev N_PutDeed_change : List Str := ["self", "work", "world", "place", "number", "things"]
abbrev P_PutDeed_change : List Str := ["self", "work", "world"]
theorem sc_PutDeed_change : FnScope N_PutDeed_change P_PutDeed_change (defScope s_PutDeed_change) := ⟨rfl, rfl, rfl, by decide +kernel, rfl, by decide +kernel, by decide +kernel⟩
abbrev N_AskDeed_change : List Str := ["self", "work", "world", "door", "answers", "number"]
abbrev P_AskDeed_change : List Str := ["self", "work", "world"]
theorem sc_AskDeed_change : FnScope N_AskDeed_change P_AskDeed_change (defScope s_AskDeed_change) := ⟨rfl, rfl, rfl, by decide +kernel, rfl, by decide +kernel, by decide +kernel⟩
abbrev N_TellDeed_change : List Str := ["self", "work", "world"]
abbrev P_TellDeed_change : List Str := ["self", "work", "world"]
theorem sc_TellDeed_change : FnScope N_TellDeed_change P_TellDeed_change (defScope s_TellDeed_change) := ⟨rfl, rfl, rfl, by decide +kernel, rfl, by decide +kernel, by decide +kernel⟩
abbrev N_FailDeed_change : List Str := ["self", "work", "world"]
abbrev P_FailDeed_change : List Str := ["self", "work", "world"]
theorem sc_FailDeed_change : FnScope N_FailDeed_change P_FailDeed_change (defScope s_FailDeed_change) := ⟨rfl, rfl, rfl, by decide +kernel, rfl, by decide +kernel, by decide +kernel⟩
abbrev N_ChooseDeed___init__ : List Str := ["self", "node", "first", "second"]
abbrev P_ChooseDeed___init__ : List Str := ["self", "node", "first", "second"]
theorem sc_ChooseDeed___init__ : FnScope N_ChooseDeed___init__ P_ChooseDeed___init__ (defScope s_ChooseDeed___init__) := ⟨rfl, rfl, rfl, by decide +kernel, rfl, by decide +kernel, by decide +kernel⟩
abbrev N_ChooseDeed_onward : List Str := ["self", "work"]
abbrev P_ChooseDeed_onward : List Str := ["self", "work"]
theorem sc_ChooseDeed_onward : FnScope N_ChooseDeed_onward P_ChooseDeed_onward (defScope s_ChooseDeed_onward) := ⟨rfl, rfl, rfl, by decide +kernel, rfl, by decide +kernel, by decide +kernel⟩
abbrev N_CallDeed_kind : List Str := ["self"]
abbrev P_CallDeed_kind : List Str := ["self"]
theorem sc_CallDeed_kind : FnScope N_CallDeed_kind P_CallDeed_kind (defScope s_CallDeed_kind) := ⟨rfl, rfl, rfl, by decide +kernel, rfl, by decide +kernel, by decide +kernel⟩
abbrev N_CallDeed_do : List Str := ["self", "work", "world", "numbers", "function", "name", "value"]
abbrev P_CallDeed_do : List Str := ["self", "work", "world"]
theorem sc_CallDeed_do : FnScope N_CallDeed_do P_CallDeed_do (defScope s_CallDeed_do) := ⟨rfl, rfl, rfl, by decide +kernel, rfl, by decide +kernel, by decide +kernel⟩
abbrev N_ReturnDeed_kind : List Str := ["self"]
abbrev P_ReturnDeed_kind : List Str := ["self"]
theorem sc_ReturnDeed_kind : FnScope N_ReturnDeed_kind P_ReturnDeed_kind (defScope s_ReturnDeed_kind) := ⟨rfl, rfl, rfl, by decide +kernel, rfl, by decide +kernel, by decide +kernel⟩
abbrev N_ReturnDeed_gives : List Str := ["self", "work"]
abbrev P_ReturnDeed_gives : List Str := ["self", "work"]
theorem sc_ReturnDeed_gives : FnScope N_ReturnDeed_gives P_ReturnDeed_gives (defScope s_ReturnDeed_gives) := ⟨rfl, rfl, rfl, by decide +kernel, rfl, by decide +kernel, by decide +kernel⟩
abbrev N_ReturnDeed_do : List Str := ["self", "work", "world", "number", "caller", "frame"]
abbrev P_ReturnDeed_do : List Str := ["self", "work", "world"]
theorem sc_ReturnDeed_do : FnScope N_ReturnDeed_do P_ReturnDeed_do (defScope s_ReturnDeed_do) := ⟨rfl, rfl, rfl, by decide +kernel, rfl, by decide +kernel, by decide +kernel⟩
abbrev N_OffDeed_kind : List Str := ["self"]
abbrev P_OffDeed_kind : List Str := ["self"]
theorem sc_OffDeed_kind : FnScope N_OffDeed_kind P_OffDeed_kind (defScope s_OffDeed_kind) := ⟨rfl, rfl, rfl, by decide +kernel, rfl, by decide +kernel, by decide +kernel⟩
abbrev N_OffDeed_gives : List Str := ["self", "work"]
abbrev P_OffDeed_gives : List Str := ["self", "work"]
theorem sc_OffDeed_gives : FnScope N_OffDeed_gives P_OffDeed_gives (defScope s_OffDeed_gives) := ⟨rfl, rfl, rfl, by decide +kernel, rfl, by decide +kernel, by decide +kernel⟩
abbrev N_plain_deed : List Str := ["node", "word"]
abbrev P_plain_deed : List Str := ["node"]
theorem sc_plain_deed : FnScope N_plain_deed P_plain_deed (defScope s_plain_deed) := ⟨rfl, rfl, rfl, by decide +kernel, rfl, by decide +kernel, by decide +kernel⟩
abbrev N_deed_of : List Str := ["node", "word", "first", "second"]
abbrev P_deed_of : List Str := ["node"]
theorem sc_deed_of : FnScope N_deed_of P_deed_of (defScope s_deed_of) := ⟨rfl, rfl, rfl, by decide +kernel, rfl, by decide +kernel, by decide +kernel⟩
abbrev N_Node___init__ : List Str := ["self", "number", "row", "home"]
abbrev P_Node___init__ : List Str := ["self", "number", "row", "home"]
theorem sc_Node___init__ : FnScope N_Node___init__ P_Node___init__ (defScope s_Node___init__) := ⟨rfl, rfl, rfl, by decide +kernel, rfl, by decide +kernel, by decide +kernel⟩
abbrev N_rows_within_nodes : List Str := ["row"]
abbrev P_rows_within_nodes : List Str := ["row"]
theorem sc_rows_within_nodes : FnScope N_rows_within_nodes P_rows_within_nodes (defScope s_rows_within_nodes) := ⟨rfl, rfl, rfl, by decide +kernel, rfl, by decide +kernel, by decide +kernel⟩
abbrev N_numbered : List Str := ["rows", "home", "found", "nodes", "row", "node", "firsts", "seconds"]
abbrev P_numbered : List Str := ["rows", "home", "found"]
theorem sc_numbered : FnScope N_numbered P_numbered (defScope s_numbered) := ⟨rfl, rfl, rfl, by decide +kernel, rfl, by decide +kernel, by decide +kernel⟩
abbrev N_entry_of : List Str := ["nodes", "behind"]
abbrev P_entry_of : List Str := ["nodes", "behind"]
theorem sc_entry_of : FnScope N_entry_of P_entry_of (defScope s_entry_of) := ⟨rfl, rfl, rfl, by decide +kernel, rfl, by decide +kernel, by decide +kernel⟩
abbrev N_link : List Str := ["nodes", "behind", "guard", "node", "word"]
abbrev P_link : List Str := ["nodes", "behind", "guard"]
theorem sc_link : FnScope N_link P_link (defScope s_link) := ⟨rfl, rfl, rfl, by decide +kernel, rfl, by decide +kernel, by decide +kernel⟩
abbrev N_Function___init__ : List Str := ["self", "told", "number", "nodes"]
abbrev P_Function___init__ : List Str := ["self", "told", "number", "nodes"]
theorem sc_Function___init__ : FnScope N_Function___init__ P_Function___init__ (defScope s_Function___init__) := ⟨rfl, rfl, rfl, by decide +kernel, rfl, by decide +kernel, by decide +kernel⟩
abbrev N_Layout___init__ : List Str := ["self", "program", "told", "head", "nodes"]
abbrev P_Layout___init__ : List Str := ["self", "program"]
theorem sc_Layout___init__ : FnScope N_Layout___init__ P_Layout___init__ (defScope s_Layout___init__) := ⟨rfl, rfl, rfl, by decide +kernel, rfl, by decide +kernel, by decide +kernel⟩
abbrev N_Machine___init__ : List Str := ["self", "program", "world", "node"]
abbrev P_Machine___init__ : List Str := ["self", "program", "world"]
theorem sc_Machine___init__ : FnScope N_Machine___init__ P_Machine___init__ (defScope s_Machine___init__) := ⟨rfl, rfl, rfl, by decide +kernel, rfl, by decide +kernel, by decide +kernel⟩
abbrev N_Machine_first : List Str := ["self", "word", "boxes", "lists", "frames", "name", "number", "things", "door"]
abbrev P_Machine_first : List Str := ["self"]
theorem sc_Machine_first : FnScope N_Machine_first P_Machine_first (defScope s_Machine_first) := ⟨rfl, rfl, rfl, by decide +kernel, rfl, by decide +kernel, by decide +kernel⟩
abbrev N_Machine_next_row : List Str := ["self", "state", "title", "numbers", "point"]
abbrev P_Machine_next_row : List Str := ["self", "state"]
theorem sc_Machine_next_row : FnScope N_Machine_next_row P_Machine_next_row (defScope s_Machine_next_row) := ⟨rfl, rfl, rfl, by decide +kernel, rfl, by decide +kernel, by decide +kernel⟩
abbrev N_Machine_outward : List Str := ["self", "work", "point", "number", "guard", "node", "frame"]
abbrev P_Machine_outward : List Str := ["self", "work", "point", "number"]
theorem sc_Machine_outward : FnScope N_Machine_outward P_Machine_outward (defScope s_Machine_outward) := ⟨rfl, rfl, rfl, by decide +kernel, rfl, by decide +kernel, by decide +kernel⟩
abbrev N_Machine_step : List Str := ["self", "state", "number", "work", "caller", "deed", "kind", "catcher", "e", "note"]
abbrev P_Machine_step : List Str := ["self", "state"]
theorem sc_Machine_step : FnScope N_Machine_step P_Machine_step (defScope s_Machine_step) := ⟨rfl, rfl, rfl, by decide +kernel, rfl, by decide +kernel, by decide +kernel⟩
abbrev N__law_cell_at : List Str := ["_law_script", "_law_k"]
abbrev P__law_cell_at : List Str := ["_law_script", "_law_k"]
theorem sc__law_cell_at : FnScope N__law_cell_at P__law_cell_at (defScope s__law_cell_at) := ⟨rfl, rfl, rfl, by decide +kernel, rfl, by decide +kernel, by decide +kernel⟩
abbrev N__law_state : List Str := ["_law_cell", "_law_k", "_law_drawn"]
abbrev P__law_state : List Str := ["_law_cell", "_law_k"]
theorem sc__law_state : FnScope N__law_state P__law_state (defScope s__law_state) := ⟨rfl, rfl, rfl, by decide +kernel, rfl, by decide +kernel, by decide +kernel⟩
abbrev N__law_next : List Str := ["_law_state_here", "_law_size", "_law_mixed"]
abbrev P__law_next : List Str := ["_law_state_here", "_law_size"]
theorem sc__law_next : FnScope N__law_next P__law_next (defScope s__law_next) := ⟨rfl, rfl, rfl, by decide +kernel, rfl, by decide +kernel, by decide +kernel⟩
abbrev N__law_names : List Str := ["_law_state_here", "_law_amount", "_law_letters", "_law_words", "_law_shift", "_law_found", "_law_k", "_law_name", "_law_kind"]
abbrev P__law_names : List Str := ["_law_state_here", "_law_amount"]
theorem sc__law_names : FnScope N__law_names P__law_names (defScope s__law_names) := ⟨rfl, rfl, rfl, by decide +kernel, rfl, by decide +kernel, by decide +kernel⟩
abbrev N__law_value : List Str := ["_law_state_here", "_law_deep", "_law_boxes", "_law_lists", "_law_kind", "_law_one", "_law_place", "_law_word"]
abbrev P__law_value : List Str := ["_law_state_here", "_law_deep", "_law_boxes", "_law_lists"]
theorem sc__law_value : FnScope N__law_value P__law_value (defScope s__law_value) := ⟨rfl, rfl, rfl, by decide +kernel, rfl, by decide +kernel, by decide +kernel⟩
abbrev N__law_plain : List Str := ["_law_state_here", "_law_names_here", "_law_boxes", "_law_lists", "_law_functions", "_law_inside", "_law_kind", "_law_value_here", "_law_box", "_law_name", "_law_place", "_law_amount", "_law_k"]
abbrev P__law_plain : List Str := ["_law_state_here", "_law_names_here"]
theorem sc__law_plain : FnScope N__law_plain P__law_plain (defScope s__law_plain) := ⟨rfl, rfl, rfl, by decide +kernel, rfl, by decide +kernel, by decide +kernel⟩
abbrev N__law_rows : List Str := ["_law_state_here", "_law_names_here", "_law_deep", "_law_most", "_law_left", "_law_found", "_law_k", "_law_kind", "_law_fails", "_law_box", "_law_first", "_law_second", "_law_value_here", "_law_less", "_law_inner", "_law_until", "_law_way"]
abbrev P__law_rows : List Str := ["_law_state_here", "_law_names_here", "_law_deep", "_law_most", "_law_left"]
theorem sc__law_rows : FnScope N__law_rows P__law_rows (defScope s__law_rows) := ⟨rfl, rfl, rfl, by decide +kernel, rfl, by decide +kernel, by decide +kernel⟩
abbrev N__law_program : List Str := ["_law_state_here", "_law_most", "_law_names_here", "_law_boxes", "_law_lists", "_law_amounts", "_law_left", "_law_functions", "_law_title", "_law_amount", "_law_params", "_law_owns", "_law_inner", "_law_rows_here", "_law_pairs", "_law_sizes", "_law_things", "_law_box", "_law_name", "_law_size"]
abbrev P__law_program : List Str := ["_law_state_here", "_law_most"]
theorem sc__law_program : FnScope N__law_program P__law_program (defScope s__law_program) := ⟨rfl, rfl, rfl, by decide +kernel, rfl, by decide +kernel, by decide +kernel⟩
abbrev N__law_world : List Str := ["_law_state_here", "_law_found", "_law_door", "_law_k"]
abbrev P__law_world : List Str := ["_law_state_here"]
theorem sc__law_world : FnScope N__law_world P__law_world (defScope s__law_world) := ⟨rfl, rfl, rfl, by decide +kernel, rfl, by decide +kernel, by decide +kernel⟩
abbrev N__law_within : List Str := ["_law_row"]
abbrev P__law_within : List Str := ["_law_row"]
theorem sc__law_within : FnScope N__law_within P__law_within (defScope s__law_within) := ⟨rfl, rfl, rfl, by decide +kernel, rfl, by decide +kernel, by decide +kernel⟩
abbrev N__law_walk : List Str := ["_law_rows_here", "_law_around", "_law_found", "_law_row", "_law_number", "_law_some"]
abbrev P__law_walk : List Str := ["_law_rows_here", "_law_around", "_law_found"]
theorem sc__law_walk : FnScope N__law_walk P__law_walk (defScope s__law_walk) := ⟨rfl, rfl, rfl, by decide +kernel, rfl, by decide +kernel, by decide +kernel⟩
abbrev N__law_listed : List Str := ["_law_program_here", "_law_found", "_law_title", "_law_params", "_law_owns", "_law_rows_here", "_law_number"]
abbrev P__law_listed : List Str := ["_law_program_here"]
theorem sc__law_listed : FnScope N__law_listed P__law_listed (defScope s__law_listed) := ⟨rfl, rfl, rfl, by decide +kernel, rfl, by decide +kernel, by decide +kernel⟩
abbrev N__law_run : List Str := ["_law_machine", "_law_most", "_law_state_here", "_law_found", "_law_note"]
abbrev P__law_run : List Str := ["_law_machine", "_law_most"]
theorem sc__law_run : FnScope N__law_run P__law_run (defScope s__law_run) := ⟨rfl, rfl, rfl, by decide +kernel, rfl, by decide +kernel, by decide +kernel⟩
abbrev N_law : List Str := ["_law_script", "_law_state_here", "_law_program_here", "_law_world_here", "_law_amount", "_law_some", "_law_turn", "_law_share", "_law_rows_here", "_law_due", "_law_k", "_law_found", "_law_number"]
abbrev P_law : List Str := ["_law_script"]
theorem sc_law : FnScope N_law P_law (defScope s_law) := ⟨rfl, rfl, rfl, by decide +kernel, rfl, by decide +kernel, by decide +kernel⟩
structure Txt (K : PySem.W.Frag) (mg : Str → Option Value) : Prop where
  g_rows_within_numbers : mg "rows_within_numbers" = some (.ref (He.ga K "rows_within_numbers"))
  g_put_rows : mg "put_rows" = some (.ref (He.ga K "put_rows"))
  g_rows_of : mg "rows_of" = some (.ref (He.ga K "rows_of"))
  g_doors_of : mg "doors_of" = some (.ref (He.ga K "doors_of"))
  g_kept_steps : mg "kept_steps" = some (.ref (He.ga K "kept_steps"))
  g_Fault : mg "Fault" = some (.ref (He.ga K "Fault"))
  g_Frame : mg "Frame" = some (.ref (He.ga K "Frame"))
  g_Work : mg "Work" = some (.ref (He.ga K "Work"))
  g_truth : mg "truth" = some (.ref (He.ga K "truth"))
  g_parted : mg "parted" = some (.ref (He.ga K "parted"))
  g_both_of : mg "both_of" = some (.ref (He.ga K "both_of"))
  g_reckoned : mg "reckoned" = some (.ref (He.ga K "reckoned"))
  g_Deed : mg "Deed" = some (.ref (He.ga K "Deed"))
  g_SetDeed : mg "SetDeed" = some (.ref (He.ga K "SetDeed"))
  g_PushDeed : mg "PushDeed" = some (.ref (He.ga K "PushDeed"))
  g_PopDeed : mg "PopDeed" = some (.ref (He.ga K "PopDeed"))
  g_PutDeed : mg "PutDeed" = some (.ref (He.ga K "PutDeed"))
  g_AskDeed : mg "AskDeed" = some (.ref (He.ga K "AskDeed"))
  g_TellDeed : mg "TellDeed" = some (.ref (He.ga K "TellDeed"))
  g_FailDeed : mg "FailDeed" = some (.ref (He.ga K "FailDeed"))
  g_ChooseDeed : mg "ChooseDeed" = some (.ref (He.ga K "ChooseDeed"))
  g_CallDeed : mg "CallDeed" = some (.ref (He.ga K "CallDeed"))
  g_ReturnDeed : mg "ReturnDeed" = some (.ref (He.ga K "ReturnDeed"))
  g_OffDeed : mg "OffDeed" = some (.ref (He.ga K "OffDeed"))
  g_plain_deed : mg "plain_deed" = some (.ref (He.ga K "plain_deed"))
  g_deed_of : mg "deed_of" = some (.ref (He.ga K "deed_of"))
  g_NoStep : mg "NoStep" = some (.ref (He.ga K "NoStep"))
  g_Node : mg "Node" = some (.ref (He.ga K "Node"))
  g_rows_within_nodes : mg "rows_within_nodes" = some (.ref (He.ga K "rows_within_nodes"))
  g_numbered : mg "numbered" = some (.ref (He.ga K "numbered"))
  g_entry_of : mg "entry_of" = some (.ref (He.ga K "entry_of"))
  g_link : mg "link" = some (.ref (He.ga K "link"))
  g_Function : mg "Function" = some (.ref (He.ga K "Function"))
  g_Layout : mg "Layout" = some (.ref (He.ga K "Layout"))
  g_Machine : mg "Machine" = some (.ref (He.ga K "Machine"))
  g__law_cell_at : mg "_law_cell_at" = some (.ref (He.ga K "_law_cell_at"))
  g__law_state : mg "_law_state" = some (.ref (He.ga K "_law_state"))
  g__law_next : mg "_law_next" = some (.ref (He.ga K "_law_next"))
  g__law_names : mg "_law_names" = some (.ref (He.ga K "_law_names"))
  g__law_value : mg "_law_value" = some (.ref (He.ga K "_law_value"))
  g__law_plain : mg "_law_plain" = some (.ref (He.ga K "_law_plain"))
  g__law_rows : mg "_law_rows" = some (.ref (He.ga K "_law_rows"))
  g__law_program : mg "_law_program" = some (.ref (He.ga K "_law_program"))
  g__law_world : mg "_law_world" = some (.ref (He.ga K "_law_world"))
  g__law_within : mg "_law_within" = some (.ref (He.ga K "_law_within"))
  g__law_walk : mg "_law_walk" = some (.ref (He.ga K "_law_walk"))
  g__law_listed : mg "_law_listed" = some (.ref (He.ga K "_law_listed"))
  g__law_run : mg "_law_run" = some (.ref (He.ga K "_law_run"))
  g_law : mg "law" = some (.ref (He.ga K "law"))
  b_len : mg "len" = none
  b_sorted : mg "sorted" = none
  b_set : mg "set" = none
  b_dict : mg "dict" = none
  b_zip : mg "zip" = none
  b_list : mg "list" = none
  b_tuple : mg "tuple" = none
  b_enumerate : mg "enumerate" = none
  b_reversed : mg "reversed" = none
  b_divmod : mg "divmod" = none
  b_range : mg "range" = none
  b_max : mg "max" = none
  b_int : mg "int" = none
  b_isinstance : mg "isinstance" = none
  b_ValueError : mg "ValueError" = none
  i_MODULUS : ∃ t, mg "MODULUS" = some (.int 1000000 t)
  i_MOST_THINGS : ∃ t, mg "MOST_THINGS" = some (.int 12 t)
  i_MOST_FRAMES : ∃ t, mg "MOST_FRAMES" = some (.int 8 t)
  c_Frame : Cls K (He.ga K "Frame")
  n_Frame_title : NoAttr K (He.ga K "Frame") "title"
  n_Frame_owns : NoAttr K (He.ga K "Frame") "owns"
  n_Frame_point : NoAttr K (He.ga K "Frame") "point"
  m_Frame_shown : Meth K (He.ga K "Frame") "shown" (He.ma K (He.ga K "Frame") "shown")
  k_Frame : Mk K (He.ga K "Frame") (He.ma K (He.ga K "Frame") "__init__")
  c_Work : Cls K (He.ga K "Work")
  n_Work_layout : NoAttr K (He.ga K "Work") "layout"
  n_Work_boxes : NoAttr K (He.ga K "Work") "boxes"
  n_Work_lists : NoAttr K (He.ga K "Work") "lists"
  n_Work_frames : NoAttr K (He.ga K "Work") "frames"
  n_Work_counts : NoAttr K (He.ga K "Work") "counts"
  n_Work_heard : NoAttr K (He.ga K "Work") "heard"
  n_Work_word : NoAttr K (He.ga K "Work") "word"
  n_Work_reads : NoAttr K (He.ga K "Work") "reads"
  n_Work_wrote : NoAttr K (He.ga K "Work") "wrote"
  m_Work_top : Meth K (He.ga K "Work") "top" (He.ma K (He.ga K "Work") "top")
  m_Work_cell_of : Meth K (He.ga K "Work") "cell_of" (He.ma K (He.ga K "Work") "cell_of")
  m_Work_box : Meth K (He.ga K "Work") "box" (He.ma K (He.ga K "Work") "box")
  m_Work_list_read : Meth K (He.ga K "Work") "list_read" (He.ma K (He.ga K "Work") "list_read")
  m_Work_set_box : Meth K (He.ga K "Work") "set_box" (He.ma K (He.ga K "Work") "set_box")
  m_Work_set_list : Meth K (He.ga K "Work") "set_list" (He.ma K (He.ga K "Work") "set_list")
  m_Work_state : Meth K (He.ga K "Work") "state" (He.ma K (He.ga K "Work") "state")
  k_Work : Mk K (He.ga K "Work") (He.ma K (He.ga K "Work") "__init__")
  c_Deed : Cls K (He.ga K "Deed")
  n_Deed_node : NoAttr K (He.ga K "Deed") "node"
  n_Deed_row : NoAttr K (He.ga K "Deed") "row"
  m_Deed_kind : Meth K (He.ga K "Deed") "kind" (He.ma K (He.ga K "Deed") "kind")
  m_Deed_change : Meth K (He.ga K "Deed") "change" (He.ma K (He.ga K "Deed") "change")
  m_Deed_onward : Meth K (He.ga K "Deed") "onward" (He.ma K (He.ga K "Deed") "onward")
  m_Deed_do : Meth K (He.ga K "Deed") "do" (He.ma K (He.ga K "Deed") "do")
  k_Deed : Mk K (He.ga K "Deed") (He.ma K (He.ga K "Deed") "__init__")
  c_SetDeed : Cls K (He.ga K "SetDeed")
  n_SetDeed_node : NoAttr K (He.ga K "SetDeed") "node"
  n_SetDeed_row : NoAttr K (He.ga K "SetDeed") "row"
  m_SetDeed_kind : Meth K (He.ga K "SetDeed") "kind" (He.ma K (He.ga K "SetDeed") "kind")
  m_SetDeed_change : Meth K (He.ga K "SetDeed") "change" (He.ma K (He.ga K "SetDeed") "change")
  m_SetDeed_onward : Meth K (He.ga K "SetDeed") "onward" (He.ma K (He.ga K "SetDeed") "onward")
  m_SetDeed_do : Meth K (He.ga K "SetDeed") "do" (He.ma K (He.ga K "SetDeed") "do")
  k_SetDeed : Mk K (He.ga K "SetDeed") (He.ma K (He.ga K "SetDeed") "__init__")
  c_PushDeed : Cls K (He.ga K "PushDeed")
  n_PushDeed_node : NoAttr K (He.ga K "PushDeed") "node"
  n_PushDeed_row : NoAttr K (He.ga K "PushDeed") "row"
  m_PushDeed_kind : Meth K (He.ga K "PushDeed") "kind" (He.ma K (He.ga K "PushDeed") "kind")
  m_PushDeed_change : Meth K (He.ga K "PushDeed") "change" (He.ma K (He.ga K "PushDeed") "change")
  m_PushDeed_onward : Meth K (He.ga K "PushDeed") "onward" (He.ma K (He.ga K "PushDeed") "onward")
  m_PushDeed_do : Meth K (He.ga K "PushDeed") "do" (He.ma K (He.ga K "PushDeed") "do")
  k_PushDeed : Mk K (He.ga K "PushDeed") (He.ma K (He.ga K "PushDeed") "__init__")
  c_PopDeed : Cls K (He.ga K "PopDeed")
  n_PopDeed_node : NoAttr K (He.ga K "PopDeed") "node"
  n_PopDeed_row : NoAttr K (He.ga K "PopDeed") "row"
  m_PopDeed_kind : Meth K (He.ga K "PopDeed") "kind" (He.ma K (He.ga K "PopDeed") "kind")
  m_PopDeed_change : Meth K (He.ga K "PopDeed") "change" (He.ma K (He.ga K "PopDeed") "change")
  m_PopDeed_onward : Meth K (He.ga K "PopDeed") "onward" (He.ma K (He.ga K "PopDeed") "onward")
  m_PopDeed_do : Meth K (He.ga K "PopDeed") "do" (He.ma K (He.ga K "PopDeed") "do")
  k_PopDeed : Mk K (He.ga K "PopDeed") (He.ma K (He.ga K "PopDeed") "__init__")
  c_PutDeed : Cls K (He.ga K "PutDeed")
  n_PutDeed_node : NoAttr K (He.ga K "PutDeed") "node"
  n_PutDeed_row : NoAttr K (He.ga K "PutDeed") "row"
  m_PutDeed_kind : Meth K (He.ga K "PutDeed") "kind" (He.ma K (He.ga K "PutDeed") "kind")
  m_PutDeed_change : Meth K (He.ga K "PutDeed") "change" (He.ma K (He.ga K "PutDeed") "change")
  m_PutDeed_onward : Meth K (He.ga K "PutDeed") "onward" (He.ma K (He.ga K "PutDeed") "onward")
  m_PutDeed_do : Meth K (He.ga K "PutDeed") "do" (He.ma K (He.ga K "PutDeed") "do")
  k_PutDeed : Mk K (He.ga K "PutDeed") (He.ma K (He.ga K "PutDeed") "__init__")
  c_AskDeed : Cls K (He.ga K "AskDeed")
  n_AskDeed_node : NoAttr K (He.ga K "AskDeed") "node"
  n_AskDeed_row : NoAttr K (He.ga K "AskDeed") "row"
  m_AskDeed_kind : Meth K (He.ga K "AskDeed") "kind" (He.ma K (He.ga K "AskDeed") "kind")
  m_AskDeed_change : Meth K (He.ga K "AskDeed") "change" (He.ma K (He.ga K "AskDeed") "change")
  m_AskDeed_onward : Meth K (He.ga K "AskDeed") "onward" (He.ma K (He.ga K "AskDeed") "onward")
  m_AskDeed_do : Meth K (He.ga K "AskDeed") "do" (He.ma K (He.ga K "AskDeed") "do")
  k_AskDeed : Mk K (He.ga K "AskDeed") (He.ma K (He.ga K "AskDeed") "__init__")
  c_TellDeed : Cls K (He.ga K "TellDeed")
  n_TellDeed_node : NoAttr K (He.ga K "TellDeed") "node"
  n_TellDeed_row : NoAttr K (He.ga K "TellDeed") "row"
  m_TellDeed_kind : Meth K (He.ga K "TellDeed") "kind" (He.ma K (He.ga K "TellDeed") "kind")
  m_TellDeed_change : Meth K (He.ga K "TellDeed") "change" (He.ma K (He.ga K "TellDeed") "change")
  m_TellDeed_onward : Meth K (He.ga K "TellDeed") "onward" (He.ma K (He.ga K "TellDeed") "onward")
  m_TellDeed_do : Meth K (He.ga K "TellDeed") "do" (He.ma K (He.ga K "TellDeed") "do")
  k_TellDeed : Mk K (He.ga K "TellDeed") (He.ma K (He.ga K "TellDeed") "__init__")
  c_FailDeed : Cls K (He.ga K "FailDeed")
  n_FailDeed_node : NoAttr K (He.ga K "FailDeed") "node"
  n_FailDeed_row : NoAttr K (He.ga K "FailDeed") "row"
  m_FailDeed_kind : Meth K (He.ga K "FailDeed") "kind" (He.ma K (He.ga K "FailDeed") "kind")
  m_FailDeed_change : Meth K (He.ga K "FailDeed") "change" (He.ma K (He.ga K "FailDeed") "change")
  m_FailDeed_onward : Meth K (He.ga K "FailDeed") "onward" (He.ma K (He.ga K "FailDeed") "onward")
  m_FailDeed_do : Meth K (He.ga K "FailDeed") "do" (He.ma K (He.ga K "FailDeed") "do")
  k_FailDeed : Mk K (He.ga K "FailDeed") (He.ma K (He.ga K "FailDeed") "__init__")
  c_ChooseDeed : Cls K (He.ga K "ChooseDeed")
  n_ChooseDeed_node : NoAttr K (He.ga K "ChooseDeed") "node"
  n_ChooseDeed_row : NoAttr K (He.ga K "ChooseDeed") "row"
  n_ChooseDeed_chosen : NoAttr K (He.ga K "ChooseDeed") "chosen"
  n_ChooseDeed_otherwise : NoAttr K (He.ga K "ChooseDeed") "otherwise"
  m_ChooseDeed_kind : Meth K (He.ga K "ChooseDeed") "kind" (He.ma K (He.ga K "ChooseDeed") "kind")
  m_ChooseDeed_change : Meth K (He.ga K "ChooseDeed") "change" (He.ma K (He.ga K "ChooseDeed") "change")
  m_ChooseDeed_onward : Meth K (He.ga K "ChooseDeed") "onward" (He.ma K (He.ga K "ChooseDeed") "onward")
  m_ChooseDeed_do : Meth K (He.ga K "ChooseDeed") "do" (He.ma K (He.ga K "ChooseDeed") "do")
  k_ChooseDeed : Mk K (He.ga K "ChooseDeed") (He.ma K (He.ga K "ChooseDeed") "__init__")
  c_CallDeed : Cls K (He.ga K "CallDeed")
  n_CallDeed_node : NoAttr K (He.ga K "CallDeed") "node"
  n_CallDeed_row : NoAttr K (He.ga K "CallDeed") "row"
  m_CallDeed_kind : Meth K (He.ga K "CallDeed") "kind" (He.ma K (He.ga K "CallDeed") "kind")
  m_CallDeed_change : Meth K (He.ga K "CallDeed") "change" (He.ma K (He.ga K "CallDeed") "change")
  m_CallDeed_onward : Meth K (He.ga K "CallDeed") "onward" (He.ma K (He.ga K "CallDeed") "onward")
  m_CallDeed_do : Meth K (He.ga K "CallDeed") "do" (He.ma K (He.ga K "CallDeed") "do")
  k_CallDeed : Mk K (He.ga K "CallDeed") (He.ma K (He.ga K "CallDeed") "__init__")
  c_ReturnDeed : Cls K (He.ga K "ReturnDeed")
  n_ReturnDeed_node : NoAttr K (He.ga K "ReturnDeed") "node"
  n_ReturnDeed_row : NoAttr K (He.ga K "ReturnDeed") "row"
  m_ReturnDeed_kind : Meth K (He.ga K "ReturnDeed") "kind" (He.ma K (He.ga K "ReturnDeed") "kind")
  m_ReturnDeed_change : Meth K (He.ga K "ReturnDeed") "change" (He.ma K (He.ga K "ReturnDeed") "change")
  m_ReturnDeed_onward : Meth K (He.ga K "ReturnDeed") "onward" (He.ma K (He.ga K "ReturnDeed") "onward")
  m_ReturnDeed_do : Meth K (He.ga K "ReturnDeed") "do" (He.ma K (He.ga K "ReturnDeed") "do")
  m_ReturnDeed_gives : Meth K (He.ga K "ReturnDeed") "gives" (He.ma K (He.ga K "ReturnDeed") "gives")
  k_ReturnDeed : Mk K (He.ga K "ReturnDeed") (He.ma K (He.ga K "ReturnDeed") "__init__")
  c_OffDeed : Cls K (He.ga K "OffDeed")
  n_OffDeed_node : NoAttr K (He.ga K "OffDeed") "node"
  n_OffDeed_row : NoAttr K (He.ga K "OffDeed") "row"
  m_OffDeed_kind : Meth K (He.ga K "OffDeed") "kind" (He.ma K (He.ga K "OffDeed") "kind")
  m_OffDeed_change : Meth K (He.ga K "OffDeed") "change" (He.ma K (He.ga K "OffDeed") "change")
  m_OffDeed_onward : Meth K (He.ga K "OffDeed") "onward" (He.ma K (He.ga K "OffDeed") "onward")
  m_OffDeed_do : Meth K (He.ga K "OffDeed") "do" (He.ma K (He.ga K "OffDeed") "do")
  m_OffDeed_gives : Meth K (He.ga K "OffDeed") "gives" (He.ma K (He.ga K "OffDeed") "gives")
  k_OffDeed : Mk K (He.ga K "OffDeed") (He.ma K (He.ga K "OffDeed") "__init__")
  c_Node : Cls K (He.ga K "Node")
  n_Node_number : NoAttr K (He.ga K "Node") "number"
  n_Node_row : NoAttr K (He.ga K "Node") "row"
  n_Node_home : NoAttr K (He.ga K "Node") "home"
  n_Node_firsts : NoAttr K (He.ga K "Node") "firsts"
  n_Node_seconds : NoAttr K (He.ga K "Node") "seconds"
  n_Node_entry : NoAttr K (He.ga K "Node") "entry"
  n_Node_behind : NoAttr K (He.ga K "Node") "behind"
  n_Node_guard : NoAttr K (He.ga K "Node") "guard"
  k_Node : Mk K (He.ga K "Node") (He.ma K (He.ga K "Node") "__init__")
  c_Function : Cls K (He.ga K "Function")
  n_Function_title : NoAttr K (He.ga K "Function") "title"
  n_Function_params : NoAttr K (He.ga K "Function") "params"
  n_Function_names : NoAttr K (He.ga K "Function") "names"
  n_Function_number : NoAttr K (He.ga K "Function") "number"
  n_Function_entry : NoAttr K (He.ga K "Function") "entry"
  k_Function : Mk K (He.ga K "Function") (He.ma K (He.ga K "Function") "__init__")
  c_Layout : Cls K (He.ga K "Layout")
  n_Layout_nodes : NoAttr K (He.ga K "Layout") "nodes"
  n_Layout_functions : NoAttr K (He.ga K "Layout") "functions"
  n_Layout_entry : NoAttr K (He.ga K "Layout") "entry"
  k_Layout : Mk K (He.ga K "Layout") (He.ma K (He.ga K "Layout") "__init__")
  c_Machine : Cls K (He.ga K "Machine")
  n_Machine_source : NoAttr K (He.ga K "Machine") "source"
  n_Machine_gates : NoAttr K (He.ga K "Machine") "gates"
  n_Machine_layout : NoAttr K (He.ga K "Machine") "layout"
  n_Machine_doors : NoAttr K (He.ga K "Machine") "doors"
  n_Machine_deeds : NoAttr K (He.ga K "Machine") "deeds"
  m_Machine_first : Meth K (He.ga K "Machine") "first" (He.ma K (He.ga K "Machine") "first")
  m_Machine_next_row : Meth K (He.ga K "Machine") "next_row" (He.ma K (He.ga K "Machine") "next_row")
  m_Machine_outward : Meth K (He.ga K "Machine") "outward" (He.ma K (He.ga K "Machine") "outward")
  m_Machine_step : Meth K (He.ga K "Machine") "step" (He.ma K (He.ga K "Machine") "step")
  k_Machine : Mk K (He.ga K "Machine") (He.ma K (He.ga K "Machine") "__init__")
  p_rows_within_numbers : PySem.W.keepIn K (.ref (He.ga K "rows_within_numbers")) = true
  p_put_rows : PySem.W.keepIn K (.ref (He.ga K "put_rows")) = true
  p_rows_of : PySem.W.keepIn K (.ref (He.ga K "rows_of")) = true
  p_doors_of : PySem.W.keepIn K (.ref (He.ga K "doors_of")) = true
  p_kept_steps : PySem.W.keepIn K (.ref (He.ga K "kept_steps")) = true
  p_truth : PySem.W.keepIn K (.ref (He.ga K "truth")) = true
  p_parted : PySem.W.keepIn K (.ref (He.ga K "parted")) = true
  p_both_of : PySem.W.keepIn K (.ref (He.ga K "both_of")) = true
  p_reckoned : PySem.W.keepIn K (.ref (He.ga K "reckoned")) = true
  p_plain_deed : PySem.W.keepIn K (.ref (He.ga K "plain_deed")) = true
  p_deed_of : PySem.W.keepIn K (.ref (He.ga K "deed_of")) = true
  p_rows_within_nodes : PySem.W.keepIn K (.ref (He.ga K "rows_within_nodes")) = true
  p_numbered : PySem.W.keepIn K (.ref (He.ga K "numbered")) = true
  p_entry_of : PySem.W.keepIn K (.ref (He.ga K "entry_of")) = true
  p_link : PySem.W.keepIn K (.ref (He.ga K "link")) = true
  p__law_cell_at : PySem.W.keepIn K (.ref (He.ga K "_law_cell_at")) = true
  p__law_state : PySem.W.keepIn K (.ref (He.ga K "_law_state")) = true
  p__law_next : PySem.W.keepIn K (.ref (He.ga K "_law_next")) = true
  p__law_names : PySem.W.keepIn K (.ref (He.ga K "_law_names")) = true
  p__law_value : PySem.W.keepIn K (.ref (He.ga K "_law_value")) = true
  p__law_plain : PySem.W.keepIn K (.ref (He.ga K "_law_plain")) = true
  p__law_rows : PySem.W.keepIn K (.ref (He.ga K "_law_rows")) = true
  p__law_program : PySem.W.keepIn K (.ref (He.ga K "_law_program")) = true
  p__law_world : PySem.W.keepIn K (.ref (He.ga K "_law_world")) = true
  p__law_within : PySem.W.keepIn K (.ref (He.ga K "_law_within")) = true
  p__law_walk : PySem.W.keepIn K (.ref (He.ga K "_law_walk")) = true
  p__law_listed : PySem.W.keepIn K (.ref (He.ga K "_law_listed")) = true
  p__law_run : PySem.W.keepIn K (.ref (He.ga K "_law_run")) = true
  p_law : PySem.W.keepIn K (.ref (He.ga K "law")) = true
  e_SetDeed___init__ : He.ma K (He.ga K "SetDeed") "__init__" = He.ma K (He.ga K "Deed") "__init__"
  e_SetDeed_kind : He.ma K (He.ga K "SetDeed") "kind" = He.ma K (He.ga K "Deed") "kind"
  e_SetDeed_onward : He.ma K (He.ga K "SetDeed") "onward" = He.ma K (He.ga K "Deed") "onward"
  e_SetDeed_do : He.ma K (He.ga K "SetDeed") "do" = He.ma K (He.ga K "Deed") "do"
  e_PushDeed___init__ : He.ma K (He.ga K "PushDeed") "__init__" = He.ma K (He.ga K "Deed") "__init__"
  e_PushDeed_kind : He.ma K (He.ga K "PushDeed") "kind" = He.ma K (He.ga K "Deed") "kind"
  e_PushDeed_onward : He.ma K (He.ga K "PushDeed") "onward" = He.ma K (He.ga K "Deed") "onward"
  e_PushDeed_do : He.ma K (He.ga K "PushDeed") "do" = He.ma K (He.ga K "Deed") "do"
  e_PopDeed___init__ : He.ma K (He.ga K "PopDeed") "__init__" = He.ma K (He.ga K "Deed") "__init__"
  e_PopDeed_kind : He.ma K (He.ga K "PopDeed") "kind" = He.ma K (He.ga K "Deed") "kind"
  e_PopDeed_onward : He.ma K (He.ga K "PopDeed") "onward" = He.ma K (He.ga K "Deed") "onward"
  e_PopDeed_do : He.ma K (He.ga K "PopDeed") "do" = He.ma K (He.ga K "Deed") "do"
  e_PutDeed___init__ : He.ma K (He.ga K "PutDeed") "__init__" = He.ma K (He.ga K "Deed") "__init__"
  e_PutDeed_kind : He.ma K (He.ga K "PutDeed") "kind" = He.ma K (He.ga K "Deed") "kind"
  e_PutDeed_onward : He.ma K (He.ga K "PutDeed") "onward" = He.ma K (He.ga K "Deed") "onward"
  e_PutDeed_do : He.ma K (He.ga K "PutDeed") "do" = He.ma K (He.ga K "Deed") "do"
  e_AskDeed___init__ : He.ma K (He.ga K "AskDeed") "__init__" = He.ma K (He.ga K "Deed") "__init__"
  e_AskDeed_kind : He.ma K (He.ga K "AskDeed") "kind" = He.ma K (He.ga K "Deed") "kind"
  e_AskDeed_onward : He.ma K (He.ga K "AskDeed") "onward" = He.ma K (He.ga K "Deed") "onward"
  e_AskDeed_do : He.ma K (He.ga K "AskDeed") "do" = He.ma K (He.ga K "Deed") "do"
  e_TellDeed___init__ : He.ma K (He.ga K "TellDeed") "__init__" = He.ma K (He.ga K "Deed") "__init__"
  e_TellDeed_kind : He.ma K (He.ga K "TellDeed") "kind" = He.ma K (He.ga K "Deed") "kind"
  e_TellDeed_onward : He.ma K (He.ga K "TellDeed") "onward" = He.ma K (He.ga K "Deed") "onward"
  e_TellDeed_do : He.ma K (He.ga K "TellDeed") "do" = He.ma K (He.ga K "Deed") "do"
  e_FailDeed___init__ : He.ma K (He.ga K "FailDeed") "__init__" = He.ma K (He.ga K "Deed") "__init__"
  e_FailDeed_kind : He.ma K (He.ga K "FailDeed") "kind" = He.ma K (He.ga K "Deed") "kind"
  e_FailDeed_onward : He.ma K (He.ga K "FailDeed") "onward" = He.ma K (He.ga K "Deed") "onward"
  e_FailDeed_do : He.ma K (He.ga K "FailDeed") "do" = He.ma K (He.ga K "Deed") "do"
  e_ChooseDeed_kind : He.ma K (He.ga K "ChooseDeed") "kind" = He.ma K (He.ga K "Deed") "kind"
  e_ChooseDeed_change : He.ma K (He.ga K "ChooseDeed") "change" = He.ma K (He.ga K "Deed") "change"
  e_ChooseDeed_do : He.ma K (He.ga K "ChooseDeed") "do" = He.ma K (He.ga K "Deed") "do"
  e_CallDeed___init__ : He.ma K (He.ga K "CallDeed") "__init__" = He.ma K (He.ga K "Deed") "__init__"
  e_CallDeed_change : He.ma K (He.ga K "CallDeed") "change" = He.ma K (He.ga K "Deed") "change"
  e_CallDeed_onward : He.ma K (He.ga K "CallDeed") "onward" = He.ma K (He.ga K "Deed") "onward"
  e_ReturnDeed___init__ : He.ma K (He.ga K "ReturnDeed") "__init__" = He.ma K (He.ga K "Deed") "__init__"
  e_ReturnDeed_change : He.ma K (He.ga K "ReturnDeed") "change" = He.ma K (He.ga K "Deed") "change"
  e_ReturnDeed_onward : He.ma K (He.ga K "ReturnDeed") "onward" = He.ma K (He.ga K "Deed") "onward"
  e_OffDeed___init__ : He.ma K (He.ga K "OffDeed") "__init__" = He.ma K (He.ga K "Deed") "__init__"
  e_OffDeed_change : He.ma K (He.ga K "OffDeed") "change" = He.ma K (He.ga K "Deed") "change"
  e_OffDeed_onward : He.ma K (He.ga K "OffDeed") "onward" = He.ma K (He.ga K "Deed") "onward"
  e_OffDeed_do : He.ma K (He.ga K "OffDeed") "do" = He.ma K (He.ga K "ReturnDeed") "do"
  f_rows_within_numbers : ∃ fd, FunD K "rows_within" "rows_within" (defArgs s_rows_within_numbers) (defBody s_rows_within_numbers) (defScope s_rows_within_numbers) [] [] (He.fAd K ("rows_within_numbers", none)) fd
  f_put_rows : ∃ fd, FunD K "put_rows" "put_rows" (defArgs s_put_rows) (defBody s_put_rows) (defScope s_put_rows) [] [] (He.fAd K ("put_rows", none)) fd
  f_rows_of : ∃ fd, FunD K "rows_of" "rows_of" (defArgs s_rows_of) (defBody s_rows_of) (defScope s_rows_of) [] [] (He.fAd K ("rows_of", none)) fd
  f_doors_of : ∃ fd, FunD K "doors_of" "doors_of" (defArgs s_doors_of) (defBody s_doors_of) (defScope s_doors_of) [] [] (He.fAd K ("doors_of", none)) fd
  f_kept_steps : ∃ fd, FunD K "kept_steps" "kept_steps" (defArgs s_kept_steps) (defBody s_kept_steps) (defScope s_kept_steps) [] [] (He.fAd K ("kept_steps", none)) fd
  f_Fault___init__ : ∃ fd, FunD K "__init__" "Fault.__init__" (defArgs s_Fault___init__) (defBody s_Fault___init__) (defScope s_Fault___init__) [] [] (He.fAd K ("Fault", some "__init__")) fd
  f_Frame___init__ : ∃ fd, FunD K "__init__" "Frame.__init__" (defArgs s_Frame___init__) (defBody s_Frame___init__) (defScope s_Frame___init__) [] [] (He.fAd K ("Frame", some "__init__")) fd
  f_Frame_shown : ∃ fd, FunD K "shown" "Frame.shown" (defArgs s_Frame_shown) (defBody s_Frame_shown) (defScope s_Frame_shown) [] [] (He.fAd K ("Frame", some "shown")) fd
  f_Work___init__ : ∃ fd, FunD K "__init__" "Work.__init__" (defArgs s_Work___init__) (defBody s_Work___init__) (defScope s_Work___init__) [] [] (He.fAd K ("Work", some "__init__")) fd
  f_Work_top : ∃ fd, FunD K "top" "Work.top" (defArgs s_Work_top) (defBody s_Work_top) (defScope s_Work_top) [] [] (He.fAd K ("Work", some "top")) fd
  f_Work_cell_of : ∃ fd, FunD K "cell_of" "Work.cell_of" (defArgs s_Work_cell_of) (defBody s_Work_cell_of) (defScope s_Work_cell_of) [] [] (He.fAd K ("Work", some "cell_of")) fd
  f_Work_box : ∃ fd, FunD K "box" "Work.box" (defArgs s_Work_box) (defBody s_Work_box) (defScope s_Work_box) [] [] (He.fAd K ("Work", some "box")) fd
  f_Work_list_read : ∃ fd, FunD K "list_read" "Work.list_read" (defArgs s_Work_list_read) (defBody s_Work_list_read) (defScope s_Work_list_read) [] [] (He.fAd K ("Work", some "list_read")) fd
  f_Work_set_box : ∃ fd, FunD K "set_box" "Work.set_box" (defArgs s_Work_set_box) (defBody s_Work_set_box) (defScope s_Work_set_box) [] [] (He.fAd K ("Work", some "set_box")) fd
  f_Work_set_list : ∃ fd, FunD K "set_list" "Work.set_list" (defArgs s_Work_set_list) (defBody s_Work_set_list) (defScope s_Work_set_list) [] [] (He.fAd K ("Work", some "set_list")) fd
  f_Work_state : ∃ fd, FunD K "state" "Work.state" (defArgs s_Work_state) (defBody s_Work_state) (defScope s_Work_state) [] [] (He.fAd K ("Work", some "state")) fd
  f_truth : ∃ fd, FunD K "truth" "truth" (defArgs s_truth) (defBody s_truth) (defScope s_truth) [] [] (He.fAd K ("truth", none)) fd
  f_parted : ∃ fd, FunD K "parted" "parted" (defArgs s_parted) (defBody s_parted) (defScope s_parted) [] [] (He.fAd K ("parted", none)) fd
  f_both_of : ∃ fd, FunD K "both_of" "both_of" (defArgs s_both_of) (defBody s_both_of) (defScope s_both_of) [] [] (He.fAd K ("both_of", none)) fd
  f_reckoned : ∃ fd, FunD K "reckoned" "reckoned" (defArgs s_reckoned) (defBody s_reckoned) (defScope s_reckoned) [] [] (He.fAd K ("reckoned", none)) fd
  f_Deed___init__ : ∃ fd, FunD K "__init__" "Deed.__init__" (defArgs s_Deed___init__) (defBody s_Deed___init__) (defScope s_Deed___init__) [] [] (He.fAd K ("Deed", some "__init__")) fd
  f_Deed_kind : ∃ fd, FunD K "kind" "Deed.kind" (defArgs s_Deed_kind) (defBody s_Deed_kind) (defScope s_Deed_kind) [] [] (He.fAd K ("Deed", some "kind")) fd
  f_Deed_change : ∃ fd, FunD K "change" "Deed.change" (defArgs s_Deed_change) (defBody s_Deed_change) (defScope s_Deed_change) [] [] (He.fAd K ("Deed", some "change")) fd
  f_Deed_onward : ∃ fd, FunD K "onward" "Deed.onward" (defArgs s_Deed_onward) (defBody s_Deed_onward) (defScope s_Deed_onward) [] [] (He.fAd K ("Deed", some "onward")) fd
  f_Deed_do : ∃ fd, FunD K "do" "Deed.do" (defArgs s_Deed_do) (defBody s_Deed_do) (defScope s_Deed_do) [] [] (He.fAd K ("Deed", some "do")) fd
  f_SetDeed_change : ∃ fd, FunD K "change" "SetDeed.change" (defArgs s_SetDeed_change) (defBody s_SetDeed_change) (defScope s_SetDeed_change) [] [] (He.fAd K ("SetDeed", some "change")) fd
  f_PushDeed_change : ∃ fd, FunD K "change" "PushDeed.change" (defArgs s_PushDeed_change) (defBody s_PushDeed_change) (defScope s_PushDeed_change) [] [] (He.fAd K ("PushDeed", some "change")) fd
  f_PopDeed_change : ∃ fd, FunD K "change" "PopDeed.change" (defArgs s_PopDeed_change) (defBody s_PopDeed_change) (defScope s_PopDeed_change) [] [] (He.fAd K ("PopDeed", some "change")) fd
  f_PutDeed_change : ∃ fd, FunD K "change" "PutDeed.change" (defArgs s_PutDeed_change) (defBody s_PutDeed_change) (defScope s_PutDeed_change) [] [] (He.fAd K ("PutDeed", some "change")) fd
  f_AskDeed_change : ∃ fd, FunD K "change" "AskDeed.change" (defArgs s_AskDeed_change) (defBody s_AskDeed_change) (defScope s_AskDeed_change) [] [] (He.fAd K ("AskDeed", some "change")) fd
  f_TellDeed_change : ∃ fd, FunD K "change" "TellDeed.change" (defArgs s_TellDeed_change) (defBody s_TellDeed_change) (defScope s_TellDeed_change) [] [] (He.fAd K ("TellDeed", some "change")) fd
  f_FailDeed_change : ∃ fd, FunD K "change" "FailDeed.change" (defArgs s_FailDeed_change) (defBody s_FailDeed_change) (defScope s_FailDeed_change) [] [] (He.fAd K ("FailDeed", some "change")) fd
  f_ChooseDeed___init__ : ∃ fd, FunD K "__init__" "ChooseDeed.__init__" (defArgs s_ChooseDeed___init__) (defBody s_ChooseDeed___init__) (defScope s_ChooseDeed___init__) [] [] (He.fAd K ("ChooseDeed", some "__init__")) fd
  f_ChooseDeed_onward : ∃ fd, FunD K "onward" "ChooseDeed.onward" (defArgs s_ChooseDeed_onward) (defBody s_ChooseDeed_onward) (defScope s_ChooseDeed_onward) [] [] (He.fAd K ("ChooseDeed", some "onward")) fd
  f_CallDeed_kind : ∃ fd, FunD K "kind" "CallDeed.kind" (defArgs s_CallDeed_kind) (defBody s_CallDeed_kind) (defScope s_CallDeed_kind) [] [] (He.fAd K ("CallDeed", some "kind")) fd
  f_CallDeed_do : ∃ fd, FunD K "do" "CallDeed.do" (defArgs s_CallDeed_do) (defBody s_CallDeed_do) (defScope s_CallDeed_do) [] [] (He.fAd K ("CallDeed", some "do")) fd
  f_ReturnDeed_kind : ∃ fd, FunD K "kind" "ReturnDeed.kind" (defArgs s_ReturnDeed_kind) (defBody s_ReturnDeed_kind) (defScope s_ReturnDeed_kind) [] [] (He.fAd K ("ReturnDeed", some "kind")) fd
  f_ReturnDeed_gives : ∃ fd, FunD K "gives" "ReturnDeed.gives" (defArgs s_ReturnDeed_gives) (defBody s_ReturnDeed_gives) (defScope s_ReturnDeed_gives) [] [] (He.fAd K ("ReturnDeed", some "gives")) fd
  f_ReturnDeed_do : ∃ fd, FunD K "do" "ReturnDeed.do" (defArgs s_ReturnDeed_do) (defBody s_ReturnDeed_do) (defScope s_ReturnDeed_do) [] [] (He.fAd K ("ReturnDeed", some "do")) fd
  f_OffDeed_kind : ∃ fd, FunD K "kind" "OffDeed.kind" (defArgs s_OffDeed_kind) (defBody s_OffDeed_kind) (defScope s_OffDeed_kind) [] [] (He.fAd K ("OffDeed", some "kind")) fd
  f_OffDeed_gives : ∃ fd, FunD K "gives" "OffDeed.gives" (defArgs s_OffDeed_gives) (defBody s_OffDeed_gives) (defScope s_OffDeed_gives) [] [] (He.fAd K ("OffDeed", some "gives")) fd
  f_plain_deed : ∃ fd, FunD K "plain_deed" "plain_deed" (defArgs s_plain_deed) (defBody s_plain_deed) (defScope s_plain_deed) [] [] (He.fAd K ("plain_deed", none)) fd
  f_deed_of : ∃ fd, FunD K "deed_of" "deed_of" (defArgs s_deed_of) (defBody s_deed_of) (defScope s_deed_of) [] [] (He.fAd K ("deed_of", none)) fd
  f_Node___init__ : ∃ fd, FunD K "__init__" "Node.__init__" (defArgs s_Node___init__) (defBody s_Node___init__) (defScope s_Node___init__) [] [] (He.fAd K ("Node", some "__init__")) fd
  f_rows_within_nodes : ∃ fd, FunD K "rows_within" "rows_within" (defArgs s_rows_within_nodes) (defBody s_rows_within_nodes) (defScope s_rows_within_nodes) [] [] (He.fAd K ("rows_within_nodes", none)) fd
  f_numbered : ∃ fd, FunD K "numbered" "numbered" (defArgs s_numbered) (defBody s_numbered) (defScope s_numbered) [] [] (He.fAd K ("numbered", none)) fd
  f_entry_of : ∃ fd, FunD K "entry_of" "entry_of" (defArgs s_entry_of) (defBody s_entry_of) (defScope s_entry_of) [] [] (He.fAd K ("entry_of", none)) fd
  f_link : ∃ fd, FunD K "link" "link" (defArgs s_link) (defBody s_link) (defScope s_link) [] [] (He.fAd K ("link", none)) fd
  f_Function___init__ : ∃ fd, FunD K "__init__" "Function.__init__" (defArgs s_Function___init__) (defBody s_Function___init__) (defScope s_Function___init__) [] [] (He.fAd K ("Function", some "__init__")) fd
  f_Layout___init__ : ∃ fd, FunD K "__init__" "Layout.__init__" (defArgs s_Layout___init__) (defBody s_Layout___init__) (defScope s_Layout___init__) [] [] (He.fAd K ("Layout", some "__init__")) fd
  f_Machine___init__ : ∃ fd, FunD K "__init__" "Machine.__init__" (defArgs s_Machine___init__) (defBody s_Machine___init__) (defScope s_Machine___init__) [.non] [] (He.fAd K ("Machine", some "__init__")) fd
  f_Machine_first : ∃ fd, FunD K "first" "Machine.first" (defArgs s_Machine_first) (defBody s_Machine_first) (defScope s_Machine_first) [] [] (He.fAd K ("Machine", some "first")) fd
  f_Machine_next_row : ∃ fd, FunD K "next_row" "Machine.next_row" (defArgs s_Machine_next_row) (defBody s_Machine_next_row) (defScope s_Machine_next_row) [] [] (He.fAd K ("Machine", some "next_row")) fd
  f_Machine_outward : ∃ fd, FunD K "outward" "Machine.outward" (defArgs s_Machine_outward) (defBody s_Machine_outward) (defScope s_Machine_outward) [] [] (He.fAd K ("Machine", some "outward")) fd
  f_Machine_step : ∃ fd, FunD K "step" "Machine.step" (defArgs s_Machine_step) (defBody s_Machine_step) (defScope s_Machine_step) [] [] (He.fAd K ("Machine", some "step")) fd
  f__law_cell_at : ∃ fd, FunD K "_law_cell_at" "_law_cell_at" (defArgs s__law_cell_at) (defBody s__law_cell_at) (defScope s__law_cell_at) [] [] (He.fAd K ("_law_cell_at", none)) fd
  f__law_state : ∃ fd, FunD K "_law_state" "_law_state" (defArgs s__law_state) (defBody s__law_state) (defScope s__law_state) [] [] (He.fAd K ("_law_state", none)) fd
  f__law_next : ∃ fd, FunD K "_law_next" "_law_next" (defArgs s__law_next) (defBody s__law_next) (defScope s__law_next) [] [] (He.fAd K ("_law_next", none)) fd
  f__law_names : ∃ fd, FunD K "_law_names" "_law_names" (defArgs s__law_names) (defBody s__law_names) (defScope s__law_names) [] [] (He.fAd K ("_law_names", none)) fd
  f__law_value : ∃ fd, FunD K "_law_value" "_law_value" (defArgs s__law_value) (defBody s__law_value) (defScope s__law_value) [] [] (He.fAd K ("_law_value", none)) fd
  f__law_plain : ∃ fd, FunD K "_law_plain" "_law_plain" (defArgs s__law_plain) (defBody s__law_plain) (defScope s__law_plain) [] [] (He.fAd K ("_law_plain", none)) fd
  f__law_rows : ∃ fd, FunD K "_law_rows" "_law_rows" (defArgs s__law_rows) (defBody s__law_rows) (defScope s__law_rows) [] [] (He.fAd K ("_law_rows", none)) fd
  f__law_program : ∃ fd, FunD K "_law_program" "_law_program" (defArgs s__law_program) (defBody s__law_program) (defScope s__law_program) [] [] (He.fAd K ("_law_program", none)) fd
  f__law_world : ∃ fd, FunD K "_law_world" "_law_world" (defArgs s__law_world) (defBody s__law_world) (defScope s__law_world) [] [] (He.fAd K ("_law_world", none)) fd
  f__law_within : ∃ fd, FunD K "_law_within" "_law_within" (defArgs s__law_within) (defBody s__law_within) (defScope s__law_within) [] [] (He.fAd K ("_law_within", none)) fd
  f__law_walk : ∃ fd, FunD K "_law_walk" "_law_walk" (defArgs s__law_walk) (defBody s__law_walk) (defScope s__law_walk) [] [] (He.fAd K ("_law_walk", none)) fd
  f__law_listed : ∃ fd, FunD K "_law_listed" "_law_listed" (defArgs s__law_listed) (defBody s__law_listed) (defScope s__law_listed) [] [] (He.fAd K ("_law_listed", none)) fd
  f__law_run : ∃ fd, FunD K "_law_run" "_law_run" (defArgs s__law_run) (defBody s__law_run) (defScope s__law_run) [] [] (He.fAd K ("_law_run", none)) fd
  f_law : ∃ fd, FunD K "law" "law" (defArgs s_law) (defBody s_law) (defScope s_law) [] [] (He.fAd K ("law", none)) fd
  fault : FaultTxt K (He.ga K "Fault") (He.ma K (He.ga K "Fault") "__init__")
  deedInit : InitTxt K (He.ga K "Deed") (He.ma K (He.ga K "Deed") "__init__")
theorem oexB_ok {K : PySem.W.Frag} {C : Addr} (q : oexB K C = true) : ∃ nm qn N bs bm sn sub ab col dd k0 k1 k2 k3 k5, K.lookup C = some (excClassObj nm qn C N bs bm true sn sub ab col dd k0 k1 k2 k3 k5 "ValueError.__new__") ∧ PySem.HandSPX.refsVE bm = true := by
  unfold oexB at q
  split at q
  · rename_i dd cd sl ho
    split at q
    · rename_i C' bm k0 k1 k2 k3 n k5 hm hs
      simp only [Bool.and_eq_true, beq_iff_eq, Bool.not_eq_true'] at q
      obtain ⟨⟨⟨⟨rfl, rfl⟩, hdel⟩, hdd⟩, ht⟩ := q
      obtain ⟨nm, bs, mro, ns, qn, hd, sn, sub, ab, col, del⟩ := cd
      dsimp only at hm hdel hdd
      subst hm hdel hdd
      have hsl : sl = #[k0, k1, k2, k3, some (.builtin "ValueError.__new__"), k5] := by
        obtain ⟨l⟩ := sl
        simp only at hs
        rw [hs]
      subst hsl
      exact ⟨nm, qn, ns, bs, bm, sn, sub, ab, col, dd, k0, k1, k2, k3, k5, ho, ht⟩
    · cases q
  · cases q
theorem fault_ok {K : PySem.W.Frag} (h : faultB K = true) : FaultTxt K (He.ga K "Fault") (He.ma K (He.ga K "Fault") "__init__") := by
  unfold faultB at h
  simp only [Bool.and_eq_true, decide_eq_true_eq] at h
  obtain ⟨h1, h2, h3, h4, h5, h6, h7, h8, h9, h10, h11, h12, h13⟩ := h
  exact ⟨⟨oexB_ok h1, He.eqO_ok h2, h3, h4, h5⟩, He.eqO_ok h6, h7, He.eqO_ok h8, valIs_ok h9, He.eqO_ok h10, He.eqO_ok h11, h12, h13⟩
theorem init_ok {K : PySem.W.Frag} (h : initB K = true) : InitTxt K (He.ga K "Deed") (He.ma K (He.ga K "Deed") "__init__") := by
  unfold initB at h
  simp only [Bool.and_eq_true] at h
  exact ⟨⟨h.2.1.1, He.eqO_ok h.2.1.2⟩, ⟨valIs_ok h.1, rfl⟩, h.2.2⟩
theorem txt_mk {K : PySem.W.Frag} {mg : Str → Option Value} {h : Heap} (X : K.In h) (G : h.Ns mainGlobals mg) (c : He.SaysD faL fnL K) (he : exB K = true) (hs : smB K smL = true) : Txt K mg :=
  { g_rows_within_numbers := He.glo_ok X G (c.fact 0 (f := .glo "rows_within_numbers") rfl),
      g_put_rows := He.glo_ok X G (c.fact 1 (f := .glo "put_rows") rfl),
      g_rows_of := He.glo_ok X G (c.fact 2 (f := .glo "rows_of") rfl),
      g_doors_of := He.glo_ok X G (c.fact 3 (f := .glo "doors_of") rfl),
      g_kept_steps := He.glo_ok X G (c.fact 4 (f := .glo "kept_steps") rfl),
      g_Fault := He.glo_ok X G (c.fact 5 (f := .glo "Fault") rfl),
      g_Frame := He.glo_ok X G (c.fact 6 (f := .glo "Frame") rfl),
      g_Work := He.glo_ok X G (c.fact 7 (f := .glo "Work") rfl),
      g_truth := He.glo_ok X G (c.fact 8 (f := .glo "truth") rfl),
      g_parted := He.glo_ok X G (c.fact 9 (f := .glo "parted") rfl),
      g_both_of := He.glo_ok X G (c.fact 10 (f := .glo "both_of") rfl),
      g_reckoned := He.glo_ok X G (c.fact 11 (f := .glo "reckoned") rfl),
      g_Deed := He.glo_ok X G (c.fact 12 (f := .glo "Deed") rfl),
      g_SetDeed := He.glo_ok X G (c.fact 13 (f := .glo "SetDeed") rfl),
      g_PushDeed := He.glo_ok X G (c.fact 14 (f := .glo "PushDeed") rfl),
      g_PopDeed := He.glo_ok X G (c.fact 15 (f := .glo "PopDeed") rfl),
      g_PutDeed := He.glo_ok X G (c.fact 16 (f := .glo "PutDeed") rfl),
      g_AskDeed := He.glo_ok X G (c.fact 17 (f := .glo "AskDeed") rfl),
      g_TellDeed := He.glo_ok X G (c.fact 18 (f := .glo "TellDeed") rfl),
      g_FailDeed := He.glo_ok X G (c.fact 19 (f := .glo "FailDeed") rfl),
      g_ChooseDeed := He.glo_ok X G (c.fact 20 (f := .glo "ChooseDeed") rfl),
      g_CallDeed := He.glo_ok X G (c.fact 21 (f := .glo "CallDeed") rfl),
      g_ReturnDeed := He.glo_ok X G (c.fact 22 (f := .glo "ReturnDeed") rfl),
      g_OffDeed := He.glo_ok X G (c.fact 23 (f := .glo "OffDeed") rfl),
      g_plain_deed := He.glo_ok X G (c.fact 24 (f := .glo "plain_deed") rfl),
      g_deed_of := He.glo_ok X G (c.fact 25 (f := .glo "deed_of") rfl),
      g_NoStep := He.glo_ok X G (c.fact 26 (f := .glo "NoStep") rfl),
      g_Node := He.glo_ok X G (c.fact 27 (f := .glo "Node") rfl),
      g_rows_within_nodes := He.glo_ok X G (c.fact 28 (f := .glo "rows_within_nodes") rfl),
      g_numbered := He.glo_ok X G (c.fact 29 (f := .glo "numbered") rfl),
      g_entry_of := He.glo_ok X G (c.fact 30 (f := .glo "entry_of") rfl),
      g_link := He.glo_ok X G (c.fact 31 (f := .glo "link") rfl),
      g_Function := He.glo_ok X G (c.fact 32 (f := .glo "Function") rfl),
      g_Layout := He.glo_ok X G (c.fact 33 (f := .glo "Layout") rfl),
      g_Machine := He.glo_ok X G (c.fact 34 (f := .glo "Machine") rfl),
      g__law_cell_at := He.glo_ok X G (c.fact 35 (f := .glo "_law_cell_at") rfl),
      g__law_state := He.glo_ok X G (c.fact 36 (f := .glo "_law_state") rfl),
      g__law_next := He.glo_ok X G (c.fact 37 (f := .glo "_law_next") rfl),
      g__law_names := He.glo_ok X G (c.fact 38 (f := .glo "_law_names") rfl),
      g__law_value := He.glo_ok X G (c.fact 39 (f := .glo "_law_value") rfl),
      g__law_plain := He.glo_ok X G (c.fact 40 (f := .glo "_law_plain") rfl),
      g__law_rows := He.glo_ok X G (c.fact 41 (f := .glo "_law_rows") rfl),
      g__law_program := He.glo_ok X G (c.fact 42 (f := .glo "_law_program") rfl),
      g__law_world := He.glo_ok X G (c.fact 43 (f := .glo "_law_world") rfl),
      g__law_within := He.glo_ok X G (c.fact 44 (f := .glo "_law_within") rfl),
      g__law_walk := He.glo_ok X G (c.fact 45 (f := .glo "_law_walk") rfl),
      g__law_listed := He.glo_ok X G (c.fact 46 (f := .glo "_law_listed") rfl),
      g__law_run := He.glo_ok X G (c.fact 47 (f := .glo "_law_run") rfl),
      g_law := He.glo_ok X G (c.fact 48 (f := .glo "law") rfl),
      b_len := He.free_ok X G (c.fact 49 (f := .free "len") rfl),
      b_sorted := He.free_ok X G (c.fact 50 (f := .free "sorted") rfl),
      b_set := He.free_ok X G (c.fact 51 (f := .free "set") rfl),
      b_dict := He.free_ok X G (c.fact 52 (f := .free "dict") rfl),
      b_zip := He.free_ok X G (c.fact 53 (f := .free "zip") rfl),
      b_list := He.free_ok X G (c.fact 54 (f := .free "list") rfl),
      b_tuple := He.free_ok X G (c.fact 55 (f := .free "tuple") rfl),
      b_enumerate := He.free_ok X G (c.fact 56 (f := .free "enumerate") rfl),
      b_reversed := He.free_ok X G (c.fact 57 (f := .free "reversed") rfl),
      b_divmod := He.free_ok X G (c.fact 58 (f := .free "divmod") rfl),
      b_range := He.free_ok X G (c.fact 59 (f := .free "range") rfl),
      b_max := He.free_ok X G (c.fact 60 (f := .free "max") rfl),
      b_int := He.free_ok X G (c.fact 61 (f := .free "int") rfl),
      b_isinstance := He.free_ok X G (c.fact 62 (f := .free "isinstance") rfl),
      b_ValueError := He.free_ok X G (c.fact 63 (f := .free "ValueError") rfl),
      i_MODULUS := He.int_ok X G (c.fact 64 (f := .int "MODULUS" 1000000) rfl),
      i_MOST_THINGS := He.int_ok X G (c.fact 65 (f := .int "MOST_THINGS" 12) rfl),
      i_MOST_FRAMES := He.int_ok X G (c.fact 66 (f := .int "MOST_FRAMES" 8) rfl),
      c_Frame := He.cls_ok (c.fact 67 (f := .cls "Frame") rfl),
      n_Frame_title := He.noat_ok (c.fact 68 (f := .noat "Frame" "title") rfl),
      n_Frame_owns := He.noat_ok (c.fact 69 (f := .noat "Frame" "owns") rfl),
      n_Frame_point := He.noat_ok (c.fact 70 (f := .noat "Frame" "point") rfl),
      m_Frame_shown := He.meth_ok (c.fact 71 (f := .meth "Frame" "shown") rfl),
      k_Frame := He.mkr_ok (c.fact 72 (f := .mkr "Frame") rfl),
      c_Work := He.cls_ok (c.fact 73 (f := .cls "Work") rfl),
      n_Work_layout := He.noat_ok (c.fact 74 (f := .noat "Work" "layout") rfl),
      n_Work_boxes := He.noat_ok (c.fact 75 (f := .noat "Work" "boxes") rfl),
      n_Work_lists := He.noat_ok (c.fact 76 (f := .noat "Work" "lists") rfl),
      n_Work_frames := He.noat_ok (c.fact 77 (f := .noat "Work" "frames") rfl),
      n_Work_counts := He.noat_ok (c.fact 78 (f := .noat "Work" "counts") rfl),
      n_Work_heard := He.noat_ok (c.fact 79 (f := .noat "Work" "heard") rfl),
      n_Work_word := He.noat_ok (c.fact 80 (f := .noat "Work" "word") rfl),
      n_Work_reads := He.noat_ok (c.fact 81 (f := .noat "Work" "reads") rfl),
      n_Work_wrote := He.noat_ok (c.fact 82 (f := .noat "Work" "wrote") rfl),
      m_Work_top := He.meth_ok (c.fact 83 (f := .meth "Work" "top") rfl),
      m_Work_cell_of := He.meth_ok (c.fact 84 (f := .meth "Work" "cell_of") rfl),
      m_Work_box := He.meth_ok (c.fact 85 (f := .meth "Work" "box") rfl),
      m_Work_list_read := He.meth_ok (c.fact 86 (f := .meth "Work" "list_read") rfl),
      m_Work_set_box := He.meth_ok (c.fact 87 (f := .meth "Work" "set_box") rfl),
      m_Work_set_list := He.meth_ok (c.fact 88 (f := .meth "Work" "set_list") rfl),
      m_Work_state := He.meth_ok (c.fact 89 (f := .meth "Work" "state") rfl),
      k_Work := He.mkr_ok (c.fact 90 (f := .mkr "Work") rfl),
      c_Deed := He.cls_ok (c.fact 91 (f := .cls "Deed") rfl),
      n_Deed_node := He.noat_ok (c.fact 92 (f := .noat "Deed" "node") rfl),
      n_Deed_row := He.noat_ok (c.fact 93 (f := .noat "Deed" "row") rfl),
      m_Deed_kind := He.meth_ok (c.fact 94 (f := .meth "Deed" "kind") rfl),
      m_Deed_change := He.meth_ok (c.fact 95 (f := .meth "Deed" "change") rfl),
      m_Deed_onward := He.meth_ok (c.fact 96 (f := .meth "Deed" "onward") rfl),
      m_Deed_do := He.meth_ok (c.fact 97 (f := .meth "Deed" "do") rfl),
      k_Deed := He.mkr_ok (c.fact 98 (f := .mkr "Deed") rfl),
      c_SetDeed := He.cls_ok (c.fact 99 (f := .cls "SetDeed") rfl),
      n_SetDeed_node := He.noat_ok (c.fact 100 (f := .noat "SetDeed" "node") rfl),
      n_SetDeed_row := He.noat_ok (c.fact 101 (f := .noat "SetDeed" "row") rfl),
      m_SetDeed_kind := He.meth_ok (c.fact 102 (f := .meth "SetDeed" "kind") rfl),
      m_SetDeed_change := He.meth_ok (c.fact 103 (f := .meth "SetDeed" "change") rfl),
      m_SetDeed_onward := He.meth_ok (c.fact 104 (f := .meth "SetDeed" "onward") rfl),
      m_SetDeed_do := He.meth_ok (c.fact 105 (f := .meth "SetDeed" "do") rfl),
      k_SetDeed := He.mkr_ok (c.fact 106 (f := .mkr "SetDeed") rfl),
      c_PushDeed := He.cls_ok (c.fact 107 (f := .cls "PushDeed") rfl),
      n_PushDeed_node := He.noat_ok (c.fact 108 (f := .noat "PushDeed" "node") rfl),
      n_PushDeed_row := He.noat_ok (c.fact 109 (f := .noat "PushDeed" "row") rfl),
      m_PushDeed_kind := He.meth_ok (c.fact 110 (f := .meth "PushDeed" "kind") rfl),
      m_PushDeed_change := He.meth_ok (c.fact 111 (f := .meth "PushDeed" "change") rfl),
      m_PushDeed_onward := He.meth_ok (c.fact 112 (f := .meth "PushDeed" "onward") rfl),
      m_PushDeed_do := He.meth_ok (c.fact 113 (f := .meth "PushDeed" "do") rfl),
      k_PushDeed := He.mkr_ok (c.fact 114 (f := .mkr "PushDeed") rfl),
      c_PopDeed := He.cls_ok (c.fact 115 (f := .cls "PopDeed") rfl),
      n_PopDeed_node := He.noat_ok (c.fact 116 (f := .noat "PopDeed" "node") rfl),
      n_PopDeed_row := He.noat_ok (c.fact 117 (f := .noat "PopDeed" "row") rfl),
      m_PopDeed_kind := He.meth_ok (c.fact 118 (f := .meth "PopDeed" "kind") rfl),
      m_PopDeed_change := He.meth_ok (c.fact 119 (f := .meth "PopDeed" "change") rfl),
      m_PopDeed_onward := He.meth_ok (c.fact 120 (f := .meth "PopDeed" "onward") rfl),
      m_PopDeed_do := He.meth_ok (c.fact 121 (f := .meth "PopDeed" "do") rfl),
      k_PopDeed := He.mkr_ok (c.fact 122 (f := .mkr "PopDeed") rfl),
      c_PutDeed := He.cls_ok (c.fact 123 (f := .cls "PutDeed") rfl),
      n_PutDeed_node := He.noat_ok (c.fact 124 (f := .noat "PutDeed" "node") rfl),
      n_PutDeed_row := He.noat_ok (c.fact 125 (f := .noat "PutDeed" "row") rfl),
      m_PutDeed_kind := He.meth_ok (c.fact 126 (f := .meth "PutDeed" "kind") rfl),
      m_PutDeed_change := He.meth_ok (c.fact 127 (f := .meth "PutDeed" "change") rfl),
      m_PutDeed_onward := He.meth_ok (c.fact 128 (f := .meth "PutDeed" "onward") rfl),
      m_PutDeed_do := He.meth_ok (c.fact 129 (f := .meth "PutDeed" "do") rfl),
      k_PutDeed := He.mkr_ok (c.fact 130 (f := .mkr "PutDeed") rfl),
      c_AskDeed := He.cls_ok (c.fact 131 (f := .cls "AskDeed") rfl),
      n_AskDeed_node := He.noat_ok (c.fact 132 (f := .noat "AskDeed" "node") rfl),
      n_AskDeed_row := He.noat_ok (c.fact 133 (f := .noat "AskDeed" "row") rfl),
      m_AskDeed_kind := He.meth_ok (c.fact 134 (f := .meth "AskDeed" "kind") rfl),
      m_AskDeed_change := He.meth_ok (c.fact 135 (f := .meth "AskDeed" "change") rfl),
      m_AskDeed_onward := He.meth_ok (c.fact 136 (f := .meth "AskDeed" "onward") rfl),
      m_AskDeed_do := He.meth_ok (c.fact 137 (f := .meth "AskDeed" "do") rfl),
      k_AskDeed := He.mkr_ok (c.fact 138 (f := .mkr "AskDeed") rfl),
      c_TellDeed := He.cls_ok (c.fact 139 (f := .cls "TellDeed") rfl),
      n_TellDeed_node := He.noat_ok (c.fact 140 (f := .noat "TellDeed" "node") rfl),
      n_TellDeed_row := He.noat_ok (c.fact 141 (f := .noat "TellDeed" "row") rfl),
      m_TellDeed_kind := He.meth_ok (c.fact 142 (f := .meth "TellDeed" "kind") rfl),
      m_TellDeed_change := He.meth_ok (c.fact 143 (f := .meth "TellDeed" "change") rfl),
      m_TellDeed_onward := He.meth_ok (c.fact 144 (f := .meth "TellDeed" "onward") rfl),
      m_TellDeed_do := He.meth_ok (c.fact 145 (f := .meth "TellDeed" "do") rfl),
      k_TellDeed := He.mkr_ok (c.fact 146 (f := .mkr "TellDeed") rfl),
      c_FailDeed := He.cls_ok (c.fact 147 (f := .cls "FailDeed") rfl),
      n_FailDeed_node := He.noat_ok (c.fact 148 (f := .noat "FailDeed" "node") rfl),
      n_FailDeed_row := He.noat_ok (c.fact 149 (f := .noat "FailDeed" "row") rfl),
      m_FailDeed_kind := He.meth_ok (c.fact 150 (f := .meth "FailDeed" "kind") rfl),
      m_FailDeed_change := He.meth_ok (c.fact 151 (f := .meth "FailDeed" "change") rfl),
      m_FailDeed_onward := He.meth_ok (c.fact 152 (f := .meth "FailDeed" "onward") rfl),
      m_FailDeed_do := He.meth_ok (c.fact 153 (f := .meth "FailDeed" "do") rfl),
      k_FailDeed := He.mkr_ok (c.fact 154 (f := .mkr "FailDeed") rfl),
      c_ChooseDeed := He.cls_ok (c.fact 155 (f := .cls "ChooseDeed") rfl),
      n_ChooseDeed_node := He.noat_ok (c.fact 156 (f := .noat "ChooseDeed" "node") rfl),
      n_ChooseDeed_row := He.noat_ok (c.fact 157 (f := .noat "ChooseDeed" "row") rfl),
      n_ChooseDeed_chosen := He.noat_ok (c.fact 158 (f := .noat "ChooseDeed" "chosen") rfl),
      n_ChooseDeed_otherwise := He.noat_ok (c.fact 159 (f := .noat "ChooseDeed" "otherwise") rfl),
      m_ChooseDeed_kind := He.meth_ok (c.fact 160 (f := .meth "ChooseDeed" "kind") rfl),
      m_ChooseDeed_change := He.meth_ok (c.fact 161 (f := .meth "ChooseDeed" "change") rfl),
      m_ChooseDeed_onward := He.meth_ok (c.fact 162 (f := .meth "ChooseDeed" "onward") rfl),
      m_ChooseDeed_do := He.meth_ok (c.fact 163 (f := .meth "ChooseDeed" "do") rfl),
      k_ChooseDeed := He.mkr_ok (c.fact 164 (f := .mkr "ChooseDeed") rfl),
      c_CallDeed := He.cls_ok (c.fact 165 (f := .cls "CallDeed") rfl),
      n_CallDeed_node := He.noat_ok (c.fact 166 (f := .noat "CallDeed" "node") rfl),
      n_CallDeed_row := He.noat_ok (c.fact 167 (f := .noat "CallDeed" "row") rfl),
      m_CallDeed_kind := He.meth_ok (c.fact 168 (f := .meth "CallDeed" "kind") rfl),
      m_CallDeed_change := He.meth_ok (c.fact 169 (f := .meth "CallDeed" "change") rfl),
      m_CallDeed_onward := He.meth_ok (c.fact 170 (f := .meth "CallDeed" "onward") rfl),
      m_CallDeed_do := He.meth_ok (c.fact 171 (f := .meth "CallDeed" "do") rfl),
      k_CallDeed := He.mkr_ok (c.fact 172 (f := .mkr "CallDeed") rfl),
      c_ReturnDeed := He.cls_ok (c.fact 173 (f := .cls "ReturnDeed") rfl),
      n_ReturnDeed_node := He.noat_ok (c.fact 174 (f := .noat "ReturnDeed" "node") rfl),
      n_ReturnDeed_row := He.noat_ok (c.fact 175 (f := .noat "ReturnDeed" "row") rfl),
      m_ReturnDeed_kind := He.meth_ok (c.fact 176 (f := .meth "ReturnDeed" "kind") rfl),
      m_ReturnDeed_change := He.meth_ok (c.fact 177 (f := .meth "ReturnDeed" "change") rfl),
      m_ReturnDeed_onward := He.meth_ok (c.fact 178 (f := .meth "ReturnDeed" "onward") rfl),
      m_ReturnDeed_do := He.meth_ok (c.fact 179 (f := .meth "ReturnDeed" "do") rfl),
      m_ReturnDeed_gives := He.meth_ok (c.fact 180 (f := .meth "ReturnDeed" "gives") rfl),
      k_ReturnDeed := He.mkr_ok (c.fact 181 (f := .mkr "ReturnDeed") rfl),
      c_OffDeed := He.cls_ok (c.fact 182 (f := .cls "OffDeed") rfl),
      n_OffDeed_node := He.noat_ok (c.fact 183 (f := .noat "OffDeed" "node") rfl),
      n_OffDeed_row := He.noat_ok (c.fact 184 (f := .noat "OffDeed" "row") rfl),
      m_OffDeed_kind := He.meth_ok (c.fact 185 (f := .meth "OffDeed" "kind") rfl),
      m_OffDeed_change := He.meth_ok (c.fact 186 (f := .meth "OffDeed" "change") rfl),
      m_OffDeed_onward := He.meth_ok (c.fact 187 (f := .meth "OffDeed" "onward") rfl),
      m_OffDeed_do := He.meth_ok (c.fact 188 (f := .meth "OffDeed" "do") rfl),
      m_OffDeed_gives := He.meth_ok (c.fact 189 (f := .meth "OffDeed" "gives") rfl),
      k_OffDeed := He.mkr_ok (c.fact 190 (f := .mkr "OffDeed") rfl),
      c_Node := He.cls_ok (c.fact 191 (f := .cls "Node") rfl),
      n_Node_number := He.noat_ok (c.fact 192 (f := .noat "Node" "number") rfl),
      n_Node_row := He.noat_ok (c.fact 193 (f := .noat "Node" "row") rfl),
      n_Node_home := He.noat_ok (c.fact 194 (f := .noat "Node" "home") rfl),
      n_Node_firsts := He.noat_ok (c.fact 195 (f := .noat "Node" "firsts") rfl),
      n_Node_seconds := He.noat_ok (c.fact 196 (f := .noat "Node" "seconds") rfl),
      n_Node_entry := He.noat_ok (c.fact 197 (f := .noat "Node" "entry") rfl),
      n_Node_behind := He.noat_ok (c.fact 198 (f := .noat "Node" "behind") rfl),
      n_Node_guard := He.noat_ok (c.fact 199 (f := .noat "Node" "guard") rfl),
      k_Node := He.mkr_ok (c.fact 200 (f := .mkr "Node") rfl),
      c_Function := He.cls_ok (c.fact 201 (f := .cls "Function") rfl),
      n_Function_title := He.noat_ok (c.fact 202 (f := .noat "Function" "title") rfl),
      n_Function_params := He.noat_ok (c.fact 203 (f := .noat "Function" "params") rfl),
      n_Function_names := He.noat_ok (c.fact 204 (f := .noat "Function" "names") rfl),
      n_Function_number := He.noat_ok (c.fact 205 (f := .noat "Function" "number") rfl),
      n_Function_entry := He.noat_ok (c.fact 206 (f := .noat "Function" "entry") rfl),
      k_Function := He.mkr_ok (c.fact 207 (f := .mkr "Function") rfl),
      c_Layout := He.cls_ok (c.fact 208 (f := .cls "Layout") rfl),
      n_Layout_nodes := He.noat_ok (c.fact 209 (f := .noat "Layout" "nodes") rfl),
      n_Layout_functions := He.noat_ok (c.fact 210 (f := .noat "Layout" "functions") rfl),
      n_Layout_entry := He.noat_ok (c.fact 211 (f := .noat "Layout" "entry") rfl),
      k_Layout := He.mkr_ok (c.fact 212 (f := .mkr "Layout") rfl),
      c_Machine := He.cls_ok (c.fact 213 (f := .cls "Machine") rfl),
      n_Machine_source := He.noat_ok (c.fact 214 (f := .noat "Machine" "source") rfl),
      n_Machine_gates := He.noat_ok (c.fact 215 (f := .noat "Machine" "gates") rfl),
      n_Machine_layout := He.noat_ok (c.fact 216 (f := .noat "Machine" "layout") rfl),
      n_Machine_doors := He.noat_ok (c.fact 217 (f := .noat "Machine" "doors") rfl),
      n_Machine_deeds := He.noat_ok (c.fact 218 (f := .noat "Machine" "deeds") rfl),
      m_Machine_first := He.meth_ok (c.fact 219 (f := .meth "Machine" "first") rfl),
      m_Machine_next_row := He.meth_ok (c.fact 220 (f := .meth "Machine" "next_row") rfl),
      m_Machine_outward := He.meth_ok (c.fact 221 (f := .meth "Machine" "outward") rfl),
      m_Machine_step := He.meth_ok (c.fact 222 (f := .meth "Machine" "step") rfl),
      k_Machine := He.mkr_ok (c.fact 223 (f := .mkr "Machine") rfl),
      p_rows_within_numbers := He.keep_ok (c.fact 224 (f := .keep "rows_within_numbers") rfl),
      p_put_rows := He.keep_ok (c.fact 225 (f := .keep "put_rows") rfl),
      p_rows_of := He.keep_ok (c.fact 226 (f := .keep "rows_of") rfl),
      p_doors_of := He.keep_ok (c.fact 227 (f := .keep "doors_of") rfl),
      p_kept_steps := He.keep_ok (c.fact 228 (f := .keep "kept_steps") rfl),
      p_truth := He.keep_ok (c.fact 229 (f := .keep "truth") rfl),
      p_parted := He.keep_ok (c.fact 230 (f := .keep "parted") rfl),
      p_both_of := He.keep_ok (c.fact 231 (f := .keep "both_of") rfl),
      p_reckoned := He.keep_ok (c.fact 232 (f := .keep "reckoned") rfl),
      p_plain_deed := He.keep_ok (c.fact 233 (f := .keep "plain_deed") rfl),
      p_deed_of := He.keep_ok (c.fact 234 (f := .keep "deed_of") rfl),
      p_rows_within_nodes := He.keep_ok (c.fact 235 (f := .keep "rows_within_nodes") rfl),
      p_numbered := He.keep_ok (c.fact 236 (f := .keep "numbered") rfl),
      p_entry_of := He.keep_ok (c.fact 237 (f := .keep "entry_of") rfl),
      p_link := He.keep_ok (c.fact 238 (f := .keep "link") rfl),
      p__law_cell_at := He.keep_ok (c.fact 239 (f := .keep "_law_cell_at") rfl),
      p__law_state := He.keep_ok (c.fact 240 (f := .keep "_law_state") rfl),
      p__law_next := He.keep_ok (c.fact 241 (f := .keep "_law_next") rfl),
      p__law_names := He.keep_ok (c.fact 242 (f := .keep "_law_names") rfl),
      p__law_value := He.keep_ok (c.fact 243 (f := .keep "_law_value") rfl),
      p__law_plain := He.keep_ok (c.fact 244 (f := .keep "_law_plain") rfl),
      p__law_rows := He.keep_ok (c.fact 245 (f := .keep "_law_rows") rfl),
      p__law_program := He.keep_ok (c.fact 246 (f := .keep "_law_program") rfl),
      p__law_world := He.keep_ok (c.fact 247 (f := .keep "_law_world") rfl),
      p__law_within := He.keep_ok (c.fact 248 (f := .keep "_law_within") rfl),
      p__law_walk := He.keep_ok (c.fact 249 (f := .keep "_law_walk") rfl),
      p__law_listed := He.keep_ok (c.fact 250 (f := .keep "_law_listed") rfl),
      p__law_run := He.keep_ok (c.fact 251 (f := .keep "_law_run") rfl),
      p_law := He.keep_ok (c.fact 252 (f := .keep "law") rfl),
      e_SetDeed___init__ := sm_ok hs 0,
      e_SetDeed_kind := sm_ok hs 1,
      e_SetDeed_onward := sm_ok hs 2,
      e_SetDeed_do := sm_ok hs 3,
      e_PushDeed___init__ := sm_ok hs 4,
      e_PushDeed_kind := sm_ok hs 5,
      e_PushDeed_onward := sm_ok hs 6,
      e_PushDeed_do := sm_ok hs 7,
      e_PopDeed___init__ := sm_ok hs 8,
      e_PopDeed_kind := sm_ok hs 9,
      e_PopDeed_onward := sm_ok hs 10,
      e_PopDeed_do := sm_ok hs 11,
      e_PutDeed___init__ := sm_ok hs 12,
      e_PutDeed_kind := sm_ok hs 13,
      e_PutDeed_onward := sm_ok hs 14,
      e_PutDeed_do := sm_ok hs 15,
      e_AskDeed___init__ := sm_ok hs 16,
      e_AskDeed_kind := sm_ok hs 17,
      e_AskDeed_onward := sm_ok hs 18,
      e_AskDeed_do := sm_ok hs 19,
      e_TellDeed___init__ := sm_ok hs 20,
      e_TellDeed_kind := sm_ok hs 21,
      e_TellDeed_onward := sm_ok hs 22,
      e_TellDeed_do := sm_ok hs 23,
      e_FailDeed___init__ := sm_ok hs 24,
      e_FailDeed_kind := sm_ok hs 25,
      e_FailDeed_onward := sm_ok hs 26,
      e_FailDeed_do := sm_ok hs 27,
      e_ChooseDeed_kind := sm_ok hs 28,
      e_ChooseDeed_change := sm_ok hs 29,
      e_ChooseDeed_do := sm_ok hs 30,
      e_CallDeed___init__ := sm_ok hs 31,
      e_CallDeed_change := sm_ok hs 32,
      e_CallDeed_onward := sm_ok hs 33,
      e_ReturnDeed___init__ := sm_ok hs 34,
      e_ReturnDeed_change := sm_ok hs 35,
      e_ReturnDeed_onward := sm_ok hs 36,
      e_OffDeed___init__ := sm_ok hs 37,
      e_OffDeed_change := sm_ok hs 38,
      e_OffDeed_onward := sm_ok hs 39,
      e_OffDeed_do := sm_ok hs 40,
      f_rows_within_numbers := c.def_ 0 (d := d_rows_within_numbers) rfl,
      f_put_rows := c.def_ 1 (d := d_put_rows) rfl,
      f_rows_of := c.def_ 2 (d := d_rows_of) rfl,
      f_doors_of := c.def_ 3 (d := d_doors_of) rfl,
      f_kept_steps := c.def_ 4 (d := d_kept_steps) rfl,
      f_Fault___init__ := c.def_ 5 (d := d_Fault___init__) rfl,
      f_Frame___init__ := c.def_ 6 (d := d_Frame___init__) rfl,
      f_Frame_shown := c.def_ 7 (d := d_Frame_shown) rfl,
      f_Work___init__ := c.def_ 8 (d := d_Work___init__) rfl,
      f_Work_top := c.def_ 9 (d := d_Work_top) rfl,
      f_Work_cell_of := c.def_ 10 (d := d_Work_cell_of) rfl,
      f_Work_box := c.def_ 11 (d := d_Work_box) rfl,
      f_Work_list_read := c.def_ 12 (d := d_Work_list_read) rfl,
      f_Work_set_box := c.def_ 13 (d := d_Work_set_box) rfl,
      f_Work_set_list := c.def_ 14 (d := d_Work_set_list) rfl,
      f_Work_state := c.def_ 15 (d := d_Work_state) rfl,
      f_truth := c.def_ 16 (d := d_truth) rfl,
      f_parted := c.def_ 17 (d := d_parted) rfl,
      f_both_of := c.def_ 18 (d := d_both_of) rfl,
      f_reckoned := c.def_ 19 (d := d_reckoned) rfl,
      f_Deed___init__ := c.def_ 20 (d := d_Deed___init__) rfl,
      f_Deed_kind := c.def_ 21 (d := d_Deed_kind) rfl,
      f_Deed_change := c.def_ 22 (d := d_Deed_change) rfl,
      f_Deed_onward := c.def_ 23 (d := d_Deed_onward) rfl,
      f_Deed_do := c.def_ 24 (d := d_Deed_do) rfl,
      f_SetDeed_change := c.def_ 25 (d := d_SetDeed_change) rfl,
      f_PushDeed_change := c.def_ 26 (d := d_PushDeed_change) rfl,
      f_PopDeed_change := c.def_ 27 (d := d_PopDeed_change) rfl,
      f_PutDeed_change := c.def_ 28 (d := d_PutDeed_change) rfl,
      f_AskDeed_change := c.def_ 29 (d := d_AskDeed_change) rfl,
      f_TellDeed_change := c.def_ 30 (d := d_TellDeed_change) rfl,
      f_FailDeed_change := c.def_ 31 (d := d_FailDeed_change) rfl,
      f_ChooseDeed___init__ := c.def_ 32 (d := d_ChooseDeed___init__) rfl,
      f_ChooseDeed_onward := c.def_ 33 (d := d_ChooseDeed_onward) rfl,
      f_CallDeed_kind := c.def_ 34 (d := d_CallDeed_kind) rfl,
      f_CallDeed_do := c.def_ 35 (d := d_CallDeed_do) rfl,
      f_ReturnDeed_kind := c.def_ 36 (d := d_ReturnDeed_kind) rfl,
      f_ReturnDeed_gives := c.def_ 37 (d := d_ReturnDeed_gives) rfl,
      f_ReturnDeed_do := c.def_ 38 (d := d_ReturnDeed_do) rfl,
      f_OffDeed_kind := c.def_ 39 (d := d_OffDeed_kind) rfl,
      f_OffDeed_gives := c.def_ 40 (d := d_OffDeed_gives) rfl,
      f_plain_deed := c.def_ 41 (d := d_plain_deed) rfl,
      f_deed_of := c.def_ 42 (d := d_deed_of) rfl,
      f_Node___init__ := c.def_ 43 (d := d_Node___init__) rfl,
      f_rows_within_nodes := c.def_ 44 (d := d_rows_within_nodes) rfl,
      f_numbered := c.def_ 45 (d := d_numbered) rfl,
      f_entry_of := c.def_ 46 (d := d_entry_of) rfl,
      f_link := c.def_ 47 (d := d_link) rfl,
      f_Function___init__ := c.def_ 48 (d := d_Function___init__) rfl,
      f_Layout___init__ := c.def_ 49 (d := d_Layout___init__) rfl,
      f_Machine___init__ := c.def_ 50 (d := d_Machine___init__) rfl,
      f_Machine_first := c.def_ 51 (d := d_Machine_first) rfl,
      f_Machine_next_row := c.def_ 52 (d := d_Machine_next_row) rfl,
      f_Machine_outward := c.def_ 53 (d := d_Machine_outward) rfl,
      f_Machine_step := c.def_ 54 (d := d_Machine_step) rfl,
      f__law_cell_at := c.def_ 55 (d := d__law_cell_at) rfl,
      f__law_state := c.def_ 56 (d := d__law_state) rfl,
      f__law_next := c.def_ 57 (d := d__law_next) rfl,
      f__law_names := c.def_ 58 (d := d__law_names) rfl,
      f__law_value := c.def_ 59 (d := d__law_value) rfl,
      f__law_plain := c.def_ 60 (d := d__law_plain) rfl,
      f__law_rows := c.def_ 61 (d := d__law_rows) rfl,
      f__law_program := c.def_ 62 (d := d__law_program) rfl,
      f__law_world := c.def_ 63 (d := d__law_world) rfl,
      f__law_within := c.def_ 64 (d := d__law_within) rfl,
      f__law_walk := c.def_ 65 (d := d__law_walk) rfl,
      f__law_listed := c.def_ 66 (d := d__law_listed) rfl,
      f__law_run := c.def_ 67 (d := d__law_run) rfl,
      f_law := c.def_ 68 (d := d_law) rfl,
      fault := fault_ok (He.ba (He.ba he).1).1, deedInit := init_ok (He.ba (He.ba he).1).2 }
end Rt
/-! ## B1a -/
set_option Elab.async false
set_option linter.all false
set_option maxRecDepth 100000
set_option maxHeartbeats 4000000
namespace Rt
open PySem PySem.Spec PyProof.Rows L2
open L2H (RoomH roomH_of)
abbrev St := L2.St
/-! ### a def, its arguments' binding -/
def OkC (P : Program) (w : World) (K : PySem.W.Frag) (mg : Str → Option Value) (base : Heap) (CX : CXT) (k : Nat) (f : Addr) (ps : List Str) (sp : Sp) : Prop :=
  ∃ fd : FuncData, FnOk P w K mg base CX k f fd ps sp ∧ Binds K fd ps []
/-- a def that runs whatever is handled around it -/
structure FnA (P : Program) (w : World) (K : PySem.W.Frag) (mg : Str → Option Value) (base : Heap) (CX : CXT) (k : Nat) (f : Addr) (fd : FuncData) (ps : List Str) (sp : Sp) : Prop where
  len : ∀ vs H Q E, sp vs H Q E → vs.length = ps.length
  run : ∀ (A : Around) (outer : List Env) (s : Shared) (H : Hp) (args : Args) (us : List Value) (vs : List V) (Q : VK) (E : XK), RoomH k A → Env0 P w K mg base A outer s H → BindsTo s fd args (ps.zip us) → Vals vs us →
    sp vs H Q E → codeAny (model P w) A (.call (.ref f) args) (CR CX outer P w H s Q E) s
def OkA (P : Program) (w : World) (K : PySem.W.Frag) (mg : Str → Option Value) (base : Heap) (CX : CXT) (k : Nat) (f : Addr) (ps : List Str) (sp : Sp) : Prop :=
  ∃ fd : FuncData, FnA P w K mg base CX k f fd ps sp ∧ Binds K fd ps []
section
variable {P : Program} {w : World} {K : PySem.W.Frag} {mg : Str → Option Value} {base : Heap} {CX : CXT} {k j : Nat} {f : Addr} {fd : FuncData} {ps N : List Str} {sp sp' : Sp}
theorem OkA.ok (h : OkA P w K mg base CX k f ps sp) : OkC P w K mg base CX k f ps sp := by
  obtain ⟨fd, F, b⟩ := h
  exact ⟨fd, ⟨F.len, fun A outer s H args us vs Q E hr => F.run A outer s H args us vs Q E (roomH_of hr)⟩, b⟩
theorem OkC.mono (h : OkC P w K mg base CX k f ps sp) (hk : k ≤ j) : OkC P w K mg base CX j f ps sp := by
  obtain ⟨fd, F, b⟩ := h
  exact ⟨fd, F.mono hk, b⟩
theorem OkC.imp (h : OkC P w K mg base CX k f ps sp) (hs : ∀ vs H Q E, sp' vs H Q E → sp vs H Q E) : OkC P w K mg base CX k f ps sp' := by
  obtain ⟨fd, F, b⟩ := h
  exact ⟨fd, F.imp hs, b⟩
/-- THE RULE for a def that lets nothing out -/
theorem okC {x qual : Str} {st : Stmt} (F : ∃ fd, FunD K x qual (defArgs st) (defBody st) (defScope st) [] [] f fd) (S : FnScope N ps (defScope st))
    (hb : ∀ (fd : FuncData), FunD K x qual (defArgs st) (defBody st) (defScope st) [] [] f fd → Binds K fd ps [])
    (len : ∀ vs H Q E, sp vs H Q E → vs.length = ps.length)
    (hbody : ∀ (cdv : Value) (A : Around) (outer : List Env) (s : Shared) (H : Hp) (vs : List V) (Q : VK) (E : XK), Room k (A.deeper (envOfC qual (defScope st) s.heap.objs.size f cdv)) → sp vs H Q E →
      ∃ t, PSs (cxOf CX0 P w K mg base N qual (defScope st) f cdv A outer s H E).nox (defBody st) t ∧ t { nx := fun _ H' => Q .non H', rt := Q } (start N vs) H) : OkC P w K mg base CX0 (k + 1) f ps sp := by
  obtain ⟨fd, F⟩ := F
  refine ⟨fd, F.ok S len fun cdv A outer s H vs Q E hr h => ?_, hb fd F⟩
  obtain ⟨t, h1, h2⟩ := hbody cdv A outer s H vs Q E hr h
  exact ⟨t, h1.nox, h2⟩
/-- .. that may raise -/
theorem okX {x qual : Str} {st : Stmt} (F : ∃ fd, FunD K x qual (defArgs st) (defBody st) (defScope st) [] [] f fd) (S : FnScope N ps (defScope st))
    (hb : ∀ (fd : FuncData), FunD K x qual (defArgs st) (defBody st) (defScope st) [] [] f fd → Binds K fd ps [])
    (len : ∀ vs H Q E, sp vs H Q E → vs.length = ps.length)
    (hbody : ∀ (cdv : Value) (A : Around) (outer : List Env) (s : Shared) (H : Hp) (vs : List V) (Q : VK) (E : XK), Room k (A.deeper (envOfC qual (defScope st) s.heap.objs.size f cdv)) → sp vs H Q E →
      ∃ t, PSs (cxOf (L2.CX P w) P w K mg base N qual (defScope st) f cdv A outer s H E) (defBody st) t ∧ t { nx := fun _ H' => Q .non H', rt := Q } (start N vs) H) : OkC P w K mg base (L2.CX P w) (k + 1) f ps sp := by
  obtain ⟨fd, F⟩ := F
  exact ⟨fd, F.ok S len hbody, hb fd F⟩
end
section
variable {P : Program} {w : World} {K : PySem.W.Frag} {mg : Str → Option Value} {base : Heap} {CX : CXT} {k : Nat} {f : Addr} {ps N : List Str} {sp : Sp}
/-- the context of such a body: any object of the base is its pin -/
theorem okA {x qual : Str} {st : Stmt} (F : ∃ fd, FunD K x qual (defArgs st) (defBody st) (defScope st) [] [] f fd) (S : FnScope N ps (defScope st))
    (hb : ∀ (fd : FuncData), FunD K x qual (defArgs st) (defBody st) (defScope st) [] [] f fd → Binds K fd ps [])
    (len : ∀ vs H Q E, sp vs H Q E → vs.length = ps.length)
    (hbody : ∀ (cdv : Value) (A : Around) (outer : List Env) (s : Shared) (H : Hp) (vs : List V) (Q : VK) (E : XK) (p : Addr × Obj), RoomH k (A.deeper (envOfC qual (defScope st) s.heap.objs.size f cdv)) → sp vs H Q E →
      ∃ t, PSs (L2H.cxH CX P w K mg base N qual (defScope st) f cdv A outer s H E p) (defBody st) t ∧ t { nx := fun _ H' => Q .non H', rt := Q } (start N vs) H) : OkA P w K mg base CX (k + 1) f ps sp := by
  obtain ⟨fd, F⟩ := F
  refine ⟨fd, ⟨len, fun A outer s H args us vs Q E hr e0 hbt r hsp => ?_⟩, hb fd F⟩
  obtain ⟨oc, od, dV, kV, doc, pm, an, cdv, ct, osl, efd, lk, hcd, _, _⟩ := F.ex
  subst efd
  have hl := len _ _ _ _ hsp
  have inB : ∀ b o, base.get? b = some o → s.heap.get? b = some o := fun b o e => (e0.bs b o e).1
  have KX : K.In s.heap := e0.mod.kin.keeps inB
  obtain ⟨og, es, ep, hog, hdat, _⟩ := id e0.mod.glob
  have hpin : L2H.PinOk outer H s (mainGlobals, og) := by
    refine ⟨inB _ _ hog, (e0.bs _ _ hog).2, fun hm => ?_, fun v e => ?_⟩
    · have z := (e0.funs.mem hm).1
      rw [hog] at z
      cases z
    · have z : og.data = .cell v := e
      rw [hdat] at z
      cases z
  have hkind : ∀ y ∈ ps.zip us, (defScope st).names.lookup y.1 = some .local ∨ ((defScope st).names.lookup y.1 = some .cell ∧ ((cellsFrom (s.heap.objs.size + 1) (defScope st).names []).lookup y.1).isSome = true) := by
    rintro ⟨n, v⟩ hy
    rcases S.par n (List.of_mem_zip hy).1 with q | q
    · exact .inl q
    · exact .inr ⟨q, PySem.W.cellsFrom_some _ _ _ (.inl q)⟩
  refine codeAny_call_function hr.depth (KX _ _ lk) rfl S.co S.gen rfl (PySem.W.codeRec_of KX hcd) (hbt _ _ _ _ ?_)
  refine wpAny_newFunctionEnv_cells S.kind hkind fun env he s1 x => ?_
  subst he
  refine ⟨(e0.mod.nolimit.keeps inB).keeps x.toInCall.keep, codeAny_func ?_⟩
  obtain ⟨t, ht, hq⟩ := hbody cdv A outer s H vs Q E (mainGlobals, og) (hr.deeper _) hsp
  have I := L2H.inv_startH (CX := CX) (E := E) (cd := cdv) (f := f) (qual := qual) S hpin e0 hl r x
  refine wpAny_mono (ht.run [] s1 (start N vs) H _ I hq) (fun fl s' hs => ?_) fun e s' hs => hs
  cases fl with
  | ret u =>
    obtain ⟨v, σ', H', J, rv, q⟩ := hs
    exact ⟨v, H', J.os, J.bare, J.base, J.hok, rv, q⟩
  | next =>
    obtain ⟨σ', H', J, q⟩ := hs
    exact ⟨V.non, H', J.os, J.bare, J.base, J.hok, rfl, q⟩
  | brk =>
    obtain ⟨_, _, _, q⟩ := hs
    exact False.elim q
  | cont =>
    obtain ⟨_, _, _, q⟩ := hs
    exact False.elim q
end
end Rt
/-! ## B1b -/
set_option Elab.async false
set_option linter.all false
set_option maxRecDepth 100000
set_option maxHeartbeats 4000000
namespace Rt
open PySem PySem.Spec PyProof.Rows L2
open L2H (RoomH roomH_of)
section
variable {X : Cx} {CX : CXT} {k : Nat} {f C : Addr} {ps : List Str} {sp : Sp} {E : XK} {x m : Str} {p pos apos : Pos} {e o : Expr} {es : List Expr} {ta : TE} {t : TA}
theorem ce_call (G : OkC X.prog X.w X.K X.mg X.base CX k f ps sp) (hr : Room k X.A) (hm : X.mg x = some (.ref f)) (hk : PySem.W.keepIn X.K (.ref f) = true) (hx : Passes CX X E) (ha : PA X (e :: es) t) (hg : Gl X x := by rfl)
    (hdb : (x == ("__debug__" : Str)) = false := by decide) (he : starEach (e :: es) X.env = (false, eval e X.env) :: starEach es X.env := by rfl) (hpl : (backTo pos (starEach es X.env)).any (·.1) = false := by rfl) :
    PE X (.Call (.Name x p) (e :: es) [] pos) (tCall sp [] E t) := by
  obtain ⟨fd, F, b⟩ := G
  exact pe_call F hr hg hm hk b .nil hx ha hdb he hpl
theorem ce_meth {pl : Sem Bool} (G : OkC X.prog X.w X.K X.mg X.base CX k f ps sp) (hr : Room k X.A) (he : PE X o ta) (c : Cls X.K C) (hm : Meth X.K C m f) (hx : Passes CX X E) (ha : PA X (e :: es) t)
    (hst : starEach (e :: es) X.env = (false, eval e X.env) :: starEach es X.env := by rfl) (hpl : (backTo pos (starEach es X.env)).any (·.1) = false := by rfl)
    (ht : eval (.Call (.Attribute o m apos) (e :: es) [] pos) X.env = (do
      let ov ← eval o X.env
      standAt apos.atName
      let (g, first) ← holding [ov] (getMethod ov m pl)
      callWith pos g first (backTo pos (starEach (e :: es) X.env)) (backToKw pos (keywordEach [] X.env))) := by rfl) :
    PE X (.Call (.Attribute o m apos) (e :: es) [] pos) (tMeth C m sp [] E ta t) := by
  obtain ⟨fd, F, b⟩ := G
  exact pe_meth he c hm F hr b .nil hx ha hst hpl ht
theorem ce_meth0 {pl : Sem Bool} (G : OkC X.prog X.w X.K X.mg X.base CX k f ps sp) (hr : Room k X.A) (he : PE X o ta) (c : Cls X.K C) (hm : Meth X.K C m f) (hx : Passes CX X E)
    (ht : eval (.Call (.Attribute o m apos) [] [] pos) X.env = (do
      let ov ← eval o X.env
      standAt apos.atName
      let (g, first) ← holding [ov] (getMethod ov m pl)
      callWith pos g first (backTo pos (starEach [] X.env)) (backToKw pos (keywordEach [] X.env))) := by rfl) :
    PE X (.Call (.Attribute o m apos) [] [] pos) (tMeth C m sp [] E ta tNil) := by
  obtain ⟨fd, F, b⟩ := G
  exact pe_meth0 he c hm F hr b .nil hx ht
theorem ce_make (G : OkC X.prog X.w X.K X.mg X.base CX k f ps sp) (hr : Room (k + 1) X.A) (M : Mk X.K C f) (hm : X.mg x = some (.ref C)) (hx : Passes CX X E) (ha : PA X (e :: es) t) (hg : Gl X x := by rfl)
    (hdb : (x == ("__debug__" : Str)) = false := by decide) (he : starEach (e :: es) X.env = (false, eval e X.env) :: starEach es X.env := by rfl) (hpl : (backTo pos (starEach es X.env)).any (·.1) = false := by rfl) :
    PE X (.Call (.Name x p) (e :: es) [] pos) (tMake C sp [] E t) := by
  obtain ⟨fd, F, b⟩ := G
  exact pe_make M F hr hg hm b .nil hx ha hdb he hpl
/-- the callee runs, whatever is handled -/
theorem run_A {pins : List (Addr × Obj)} {σ : St} {H : Hp} {s : Shared} {Q : VK} {us : List Value} {vs : List V} (G : OkA X.prog X.w X.K X.mg X.base CX k f ps sp) (hr : RoomH k X.A) (hx : Passes CX X E)
    (I : L2.Inv X pins σ H s) (r : Vals vs us) (h : sp vs H Q E) : wpAny (model X.prog X.w) X.A (call (.ref f) us) (EP X pins σ Q) X.xe s := by
  obtain ⟨fd, F, hb⟩ := G
  have hl : (us ++ []).length = ps.length := by rw [List.append_nil, ← r.length]; exact F.len _ _ _ _ h
  have b := hb s us I.kIn hl
  rw [List.append_nil] at b
  refine wpAny_call (codeAny_mono (F.run X.A X.stack s H ⟨us, []⟩ us vs Q E hr I.env0 b r h) fun r s' hq => ?_)
  cases r with
  | error e => exact hx pins σ H s e s' I hq
  | ok fl =>
    cases fl with
    | ret u => exact I.after hq
    | next => exact False.elim hq
    | brk => exact False.elim hq
    | cont => exact False.elim hq
theorem ce_methA {pl : Sem Bool} (G : OkA X.prog X.w X.K X.mg X.base CX k f ps sp) (hr : RoomH k X.A) (he : PE X o ta) (c : Cls X.K C) (hm : Meth X.K C m f) (hx : Passes CX X E) (ha : PA X (e :: es) t)
    (hst : starEach (e :: es) X.env = (false, eval e X.env) :: starEach es X.env := by rfl) (hpl : (backTo pos (starEach es X.env)).any (·.1) = false := by rfl)
    (ht : eval (.Call (.Attribute o m apos) (e :: es) [] pos) X.env = (do
      let ov ← eval o X.env
      standAt apos.atName
      let (g, first) ← holding [ov] (getMethod ov m pl)
      callWith pos g first (backTo pos (starEach (e :: es) X.env)) (backToKw pos (keywordEach [] X.env))) := by rfl) :
    PE X (.Call (.Attribute o m apos) (e :: es) [] pos) (tMeth C m sp [] E ta t) := by
  refine ⟨fun pins s σ H Q I h => ?_⟩
  refine PySem.W.methodCall_KW (pl := pl) (thn (he.run pins s σ H _ I h) fun u s1 ⟨x, H1, I1, rx, a, dx, fs, ex, ea, l, q⟩ => ?_) ht
  subst ex
  obtain rfl : u = Value.ref a := rx
  refine getmeth_ok I1 ea c hm l ?_
  refine PySem.W.callWith_K (first := [.ref a]) (h₀ := X.base) I.ok.mod.kin hm.kp (thn (ha.run pos pins s1 σ H1 _ I1 q) fun us s2 ⟨vs, H2, I2, r, q2⟩ => ⟨I2.kIn, ?_⟩) hst hpl
  have q3 : sp (V.ref a :: (vs ++ [])) H2 Q E := q2
  rw [List.append_nil] at q3
  exact run_A (us := .ref a :: us) (vs := .ref a :: vs) G hr hx I2 (.cons rfl r) q3
theorem ce_methA0 {pl : Sem Bool} (G : OkA X.prog X.w X.K X.mg X.base CX k f ps sp) (hr : RoomH k X.A) (he : PE X o ta) (c : Cls X.K C) (hm : Meth X.K C m f) (hx : Passes CX X E)
    (ht : eval (.Call (.Attribute o m apos) [] [] pos) X.env = (do
      let ov ← eval o X.env
      standAt apos.atName
      let (g, first) ← holding [ov] (getMethod ov m pl)
      callWith pos g first (backTo pos (starEach [] X.env)) (backToKw pos (keywordEach [] X.env))) := by rfl) :
    PE X (.Call (.Attribute o m apos) [] [] pos) (tMeth C m sp [] E ta tNil) := by
  refine ⟨fun pins s σ H Q I h => ?_⟩
  refine PySem.W.methodCall_KW (pl := pl) (thn (he.run pins s σ H _ I h) fun u s1 ⟨x, H1, I1, rx, a, dx, fs, ex, ea, l, q⟩ => ?_) ht
  subst ex
  obtain rfl : u = Value.ref a := rx
  refine getmeth_ok I1 ea c hm l ?_
  exact PySem.W.callWith_K0 (first := [.ref a]) I1.kIn hm.kp (run_A (us := [.ref a]) (vs := [.ref a]) G hr hx I1 (.cons rfl .nil) q)
/-- o.m(..), o of one of several classes: R tells which promise goes with which class -/
def tMethD (R : Addr → Sp → Prop) (m : Str) (E : XK) (ta : TE) (t : TA) : TE := fun σ H Q => ta σ H fun x H1 => ∃ C sp a dx fs, R C sp ∧ x = .ref a ∧ H1 a = some (.ins C dx fs) ∧ fs.lookup m = none ∧
  t σ H1 fun vs H2 => sp (x :: vs) H2 Q E
def Disp (P : Program) (w : World) (K : PySem.W.Frag) (mg : Str → Option Value) (base : Heap) (CX : CXT) (k : Nat) (m : Str) (ps : List Str) (R : Addr → Sp → Prop) : Prop :=
  ∀ C sp, R C sp → Cls K C ∧ ∃ f, Meth K C m f ∧ OkC P w K mg base CX k f ps sp
theorem ce_methD {pl : Sem Bool} {R : Addr → Sp → Prop} (G : Disp X.prog X.w X.K X.mg X.base CX k m ps R) (hr : Room k X.A) (he : PE X o ta) (hx : Passes CX X E) (ha : PA X (e :: es) t)
    (hst : starEach (e :: es) X.env = (false, eval e X.env) :: starEach es X.env := by rfl) (hpl : (backTo pos (starEach es X.env)).any (·.1) = false := by rfl)
    (ht : eval (.Call (.Attribute o m apos) (e :: es) [] pos) X.env = (do
      let ov ← eval o X.env
      standAt apos.atName
      let (g, first) ← holding [ov] (getMethod ov m pl)
      callWith pos g first (backTo pos (starEach (e :: es) X.env)) (backToKw pos (keywordEach [] X.env))) := by rfl) :
    PE X (.Call (.Attribute o m apos) (e :: es) [] pos) (tMethD R m E ta t) := by
  refine ⟨fun pins s σ H Q I h => ?_⟩
  refine PySem.W.methodCall_KW (pl := pl) (thn (he.run pins s σ H _ I h) fun u s1 ⟨x, H1, I1, rx, C, sp, a, dx, fs, hR, ex, ea, l, q⟩ => ?_) ht
  subst ex
  obtain rfl : u = Value.ref a := rx
  obtain ⟨c, f, hm, fd, F, b⟩ := G C sp hR
  refine getmeth_ok I1 ea c hm l ?_
  refine PySem.W.callWith_K (first := [.ref a]) (h₀ := X.base) I.ok.mod.kin hm.kp (thn (ha.run pos pins s1 σ H1 _ I1 q) fun us s2 ⟨vs, H2, I2, r, q2⟩ => ⟨I2.kIn, ?_⟩) hst hpl
  exact run_fn (us := .ref a :: us) (vs := .ref a :: vs) (dvs := []) F hr b .nil hx I2 (.cons rfl r) (by rw [List.append_nil]; exact q2)
theorem ce_methD0 {pl : Sem Bool} {R : Addr → Sp → Prop} (G : Disp X.prog X.w X.K X.mg X.base CX k m ps R) (hr : Room k X.A) (he : PE X o ta) (hx : Passes CX X E)
    (ht : eval (.Call (.Attribute o m apos) [] [] pos) X.env = (do
      let ov ← eval o X.env
      standAt apos.atName
      let (g, first) ← holding [ov] (getMethod ov m pl)
      callWith pos g first (backTo pos (starEach [] X.env)) (backToKw pos (keywordEach [] X.env))) := by rfl) :
    PE X (.Call (.Attribute o m apos) [] [] pos) (tMethD R m E ta tNil) := by
  refine ⟨fun pins s σ H Q I h => ?_⟩
  refine PySem.W.methodCall_KW (pl := pl) (thn (he.run pins s σ H _ I h) fun u s1 ⟨x, H1, I1, rx, C, sp, a, dx, fs, hR, ex, ea, l, q⟩ => ?_) ht
  subst ex
  obtain rfl : u = Value.ref a := rx
  obtain ⟨c, f, hm, fd, F, b⟩ := G C sp hR
  refine getmeth_ok I1 ea c hm l ?_
  exact PySem.W.callWith_K0 (first := [.ref a]) I1.kIn hm.kp (run_fn (us := [.ref a]) (vs := [.ref a]) (dvs := []) F hr b .nil hx I1 (.cons rfl .nil) q)
/-- C.m(e, ..), m a plain def read off the class by its name -/
theorem ce_uncls {pl : Sem Bool} {p1 p2 : Pos} (G : OkC X.prog X.w X.K X.mg X.base CX k f ps sp) (hr : Room k X.A) (hmg : X.mg x = some (.ref C)) (r : ClX.CRead X.K C (.type "type")) (v : ClX.CVal X.K C (.type "type") m (.ref f) (.ref f))
    (hkp : PySem.W.keepIn X.K (.ref f) = true) (hx : Passes CX X E) (ha : PA X (e :: es) t) (hg : Gl X x := by rfl)
    (hdb : (x == ("__debug__" : Str)) = false := by decide) (hst : starEach (e :: es) X.env = (false, eval e X.env) :: starEach es X.env := by rfl) (hpl : (backTo pos (starEach es X.env)).any (·.1) = false := by rfl)
    (ht : eval (.Call (.Attribute (.Name x p1) m p2) (e :: es) [] pos) X.env = (do
      let ov ← eval (.Name x p1) X.env
      standAt p2.atName
      let (g, first) ← holding [ov] (getMethod ov m pl)
      callWith pos g first (backTo pos (starEach (e :: es) X.env)) (backToKw pos (keywordEach [] X.env))) := by rfl) :
    PE X (.Call (.Attribute (.Name x p1) m p2) (e :: es) [] pos) (tCall sp [] E t) := by
  refine ⟨fun pins s σ H Q I h => ?_⟩
  obtain ⟨fd, F, b⟩ := G
  refine PySem.W.methodCall_KW (pl := pl) (ld_glob I hg hmg ?_ hdb) ht
  refine PySem.W.method_cls I.kIn r.ga (ClX.getcval_ok I r v fun s1 I1 => ?_)
  refine PySem.W.callWith_K (first := []) (h₀ := X.base) I.ok.mod.kin hkp (thn (ha.run pos pins s1 σ H _ I1 h) fun us s2 ⟨vs, H2, I2, rv, q2⟩ => ⟨I2.kIn, ?_⟩) hst hpl
  exact run_fn (us := us) (vs := vs) (dvs := []) F hr b .nil hx I2 rv q2
end
end Rt
/-! ## B2a -/
set_option Elab.async false
set_option linter.all false
set_option maxRecDepth 100000
set_option maxHeartbeats 4000000
namespace Rt
open PySem PySem.Spec PyProof.Rows L2
open L2H (RoomH roomH_of)
/-! ### t * 0, t * 1 -/
theorem tuple_mul1 (l : Addr) (items : Array Value) (n : Nat) (dd : Option Addr) (sl : Array (Option Value)) (u : Tok) :
    Meets (Builtin.«tuple.__mul__» ⟨[.ref l, .int 1 u], []⟩) (fun _ R s => s.heap.get? l = some { cls := .type "tuple", dict := dd, data := .seq items n, slots := sl } ∧ R (.ok (.ret (Value.ref l))) s) :=
  .of_wp fun prog w A R s h => by
    obtain ⟨hp, g, d, tk, os⟩ := s
    obtain ⟨hl, h⟩ := h
    have f1 := AutoSeq1.idx_int
    have c1 : (items.isEmpty || (1 : Int) == 1) = true := by simp
    wp_walk using wpAny_loadPart' hl
    repeat (first
      | (refine wpAny_ite_false (decide_eq_false (by decide)) ?_; wp_walk using wpAny_loadPart' hl)
      | (refine wpAny_ite_true (decide_eq_true c1) ?_; wp_walk using wpAny_loadPart' hl))
    exact ⟨_, rfl, h⟩
theorem tuple_mul0 (l : Addr) (items : Array Value) (n : Nat) (dd : Option Addr) (sl : Array (Option Value)) (u : Tok) (c1 : (items.isEmpty || (0 : Int) == 1) = false) :
    Meets (Builtin.«tuple.__mul__» ⟨[.ref l, .int 0 u], []⟩) (fun _ R s => s.heap.get? l = some { cls := .type "tuple", dict := dd, data := .seq items n, slots := sl } ∧
      R (.ok (.ret (Value.ref s.heap.objs.size))) { s with heap := s.heap.push { cls := Value.type "tuple", data := Data.seq #[] }, toks := s.toks }) :=
  .of_wp fun prog w A R s h => by
    obtain ⟨hp, g, d, tk, os⟩ := s
    obtain ⟨hl, h⟩ := h
    have f1 := AutoSeq1.idx_int
    have c2 : (decide ((0 : Int) ≤ 0) || items.isEmpty) = true := by simp
    wp_walk using wpAny_loadPart' hl
    repeat (first
      | (refine wpAny_ite_false (decide_eq_false (by decide)) ?_; wp_walk using wpAny_loadPart' hl)
      | (refine wpAny_ite_false (decide_eq_false (by rw [c1]; exact Bool.false_ne_true)) ?_; wp_walk using wpAny_loadPart' hl)
      | (refine wpAny_ite_true (decide_eq_true c2) ?_; wp_walk using wpAny_loadPart' hl))
    exact ⟨_, rfl, h⟩
/-- t * k, k 0 or 1, t not empty -/
def rRep01 (K : PySem.W.Frag) : R2 := fun x y H Q => ∃ l k xs, x = .ref l ∧ y = .int k ∧ SqT K H l xs ∧ xs ≠ [] ∧ (k = 0 ∨ k = 1) ∧ (k = 1 → Q (.ref l) H) ∧ (k = 0 → ∀ p, H p = none → Q (.ref p) (upd H p (.tup [])))
section
variable {X : Cx}
theorem op_rep01 : OpR X (binaryOp .Mult) (rRep01 X.K) := by
  intro pins s σ H x y v u Q I rx ry h
  obtain ⟨l, k, xs, rfl, rfl, hT, hne, hk, q1, q0⟩ := h
  cases rx
  obtain ⟨t, rfl⟩ := ry
  obtain ⟨its, r, ⟨⟨cls, dd, data, sl⟩, ho, hc, n, hd⟩, hs⟩ := I.tuple hT
  simp only at hc hd
  subst hc hd
  have hi : its.toArray.isEmpty = false := by
    cases its with
    | nil =>
      cases r
      exact absurd rfl hne
    | cons a b => rfl
  rcases hk with rfl | rfl
  · refine wpAny_binaryOp_repeat_ref (T := "tuple") (U := "int") (by decide) ⟨_, ho, rfl⟩ (fun s' => typeIs_int s' 0 t) noFill_tuple_mul F.fills_int_mul F.slot_int_rmul repeat_tuple F.slot_int_index.lookup
      (call_meets F.slot_int_rmul (typeIs_int s 0 t) F.entry_int_rmul (F.args_int_rmul_2 _ _) (int_rmul_tuple 0 t l its.toArray n dd sl)
        ⟨ho, rfl, ⟨_, ho, rfl⟩, call_meets F.slot_tuple_mul ⟨_, ho, rfl⟩ F.entry_tuple_mul (F.args_tuple_mul_2 _ _) (tuple_mul0 l its.toArray n dd sl t (by rw [hi]; rfl)) ⟨ho, ?_⟩⟩)
    exact ⟨.ref s.heap.objs.size, _, I.laid (t' := s.toks) (o := .tup []) (fun b ob q => Heap.get?_push_of_some _ q) (Nat.le_refl _) ⟨Nat.zero_le _, [], .nil, IsTup.new _ _⟩, rfl, q0 rfl _ (I.hok.fresh (Nat.le_refl _))⟩
  · refine wpAny_binaryOp_repeat_ref (T := "tuple") (U := "int") (by decide) ⟨_, ho, rfl⟩ (fun s' => typeIs_int s' 1 t) noFill_tuple_mul F.fills_int_mul F.slot_int_rmul repeat_tuple F.slot_int_index.lookup
      (call_meets F.slot_int_rmul (typeIs_int s 1 t) F.entry_int_rmul (F.args_int_rmul_2 _ _) (int_rmul_tuple 1 t l its.toArray n dd sl)
        ⟨ho, rfl, ⟨_, ho, rfl⟩, call_meets F.slot_tuple_mul ⟨_, ho, rfl⟩ F.entry_tuple_mul (F.args_tuple_mul_2 _ _) (tuple_mul1 l its.toArray n dd sl t) ⟨ho, ?_⟩⟩)
    exact ⟨.ref l, H, I, rfl, q1 rfl⟩
/-- t + u, read as one: a tuple of both -/
def rCatS : R2 := fun x y H Q => ∃ a b xs ys, x = .ref a ∧ y = .ref b ∧ H a = some (.tup xs) ∧ H b = some (.tup ys) ∧ xs.length + ys.length ≤ sizeLine ∧ ∀ p H', Same H H' → H' p = some (.tup (xs ++ ys)) → Q (.ref p) H'
theorem same_new {H : Hp} {p : Addr} {o : HO} (h : H p = none) : Same H (upd H p o) := fun b u e => by
  rw [upd_ne (ne_of_none e h)]
  exact e
theorem op_catS : OpR X (binaryOp .Add) rCatS := by
  intro pins s σ H x y v u Q I rx ry h
  obtain ⟨a, b, xs, ys, ex, ey, ha, hb, hz, k⟩ := h
  refine op_catA pins s σ H x y v u Q I rx ry ⟨a, b, xs, ys, ex, ey, SqT.of ha, SqT.of hb, hz, fun e => ?_, fun _ e => ?_, fun _ _ p hp => k p _ (same_new hp) upd_same⟩
  · exact k b H (Same.refl H) (by rw [e]; exact hb)
  · exact k a H (Same.refl H) (by rw [e, List.append_nil]; exact ha)
/-- t * k, k 0 or 1 -/
def rRepS : R2 := fun x y H Q => ∃ l k xs, x = .ref l ∧ y = .int k ∧ H l = some (.tup xs) ∧ xs ≠ [] ∧ (k = 0 ∨ k = 1) ∧ ∀ p H' ys, Same H H' → H' p = some (.tup ys) → (ys = [] ∨ ys = xs) → Q (.ref p) H'
theorem op_repS : OpR X (binaryOp .Mult) rRepS := by
  intro pins s σ H x y v u Q I rx ry h
  obtain ⟨l, k, xs, ex, ey, hl, hne, hk, q⟩ := h
  exact op_rep01 pins s σ H x y v u Q I rx ry ⟨l, k, xs, ex, ey, SqT.of hl, hne, hk, fun _ => q l H xs (Same.refl H) hl (.inr rfl), fun _ p hp => q p _ [] (same_new hp) upd_same (.inl rfl)⟩
/-- t[lo:hi] -/
def rSlS : V → Option Int → Option Int → Hp → VK → Prop := fun x lo hi H Q => ∃ a xs, x = .ref a ∧ H a = some (.tup xs) ∧ ∀ p H', Same H H' → H' p = some (.tup (cutV xs lo hi)) → Q (.ref p) H'
theorem cutV_whole {xs : List V} {lo hi : Option Int} (h : HT.sIx xs.length 0 lo = 0 ∧ HT.sIx xs.length xs.length hi = xs.length) : cutV xs lo hi = xs := by
  unfold cutV
  rw [h.1, h.2]
  simp
theorem sl_tupS : SlR X rSlS := by
  intro pins s σ H x v vl vu lo hi sl Q I rx hs pl pu h
  obtain ⟨a, xs, ex, ha, k⟩ := h
  exact sl_tupA pins s σ H x v vl vu lo hi sl Q I rx hs pl pu ⟨a, xs, ex, SqT.of ha, fun e => k a H (Same.refl H) (by rw [cutV_whole e]; exact ha), fun _ p hp => k p _ (same_new hp) upd_same⟩
end
end Rt
/-! ## B2b -/
set_option Elab.async false
set_option linter.all false
set_option maxRecDepth 100000
set_option maxHeartbeats 4000000
namespace Rt
open PySem PySem.Spec PyProof.Rows L2
open L2H (RoomH roomH_of)
section
variable {X : Cx} {K : PySem.W.Frag}
/-! ### rules within a comprehension: the frag told -/
theorem ix_listK (h : X.K = K := by rfl) : IxR X (rIxL K) := by
  subst h
  exact ix_list
theorem ix_tupK (h : X.K = K := by rfl) : IxR X (rIxT K) := by
  subst h
  exact ix_tup
theorem pg_tupK {es : List Expr} {k : Nat} {pos : Pos} {t : TGs} {n : Nat} (h : PGs X es t) (hK : X.K = K := by rfl) (hc : X.calm = true := by rfl)
    (hn : (assignEach es X.env).length = n := by rfl) (hst : (assignEach es X.env).findIdx? (·.1) = none := by rfl) : PG X (.Tuple es k pos) (gTup K n t) := by
  subst hK
  exact pg_tup hc h hn hst
/-- t * k, k two or more -/
def rRepTS : R2 := fun x y H Q => ∃ l k xs, x = .ref l ∧ y = .int k ∧ H l = some (.tup xs) ∧ xs ≠ [] ∧ 2 ≤ k ∧ k ≤ 1000 ∧ xs.length ≤ 1000 ∧ ∀ p H', Same H H' → H' p = some (.tup (List.replicate k.toNat xs).flatten) → Q (.ref p) H'
theorem op_repTS : OpR X (binaryOp .Mult) rRepTS := by
  intro pins s σ H x y v u Q I rx ry h
  obtain ⟨l, k, xs, ex, ey, hl, hne, h1, h2, h3, q⟩ := h
  exact op_repT pins s σ H x y v u Q I rx ry ⟨l, k, xs, ex, ey, SqT.of hl, hne, h1, h2, h3, fun p hp => q p _ (same_new hp) upd_same⟩
end
end Rt
/-! ## B3 -/
set_option Elab.async false
set_option linter.all false
set_option maxRecDepth 100000
set_option maxHeartbeats 4000000
namespace Rt
open PySem PySem.Spec PyProof.Rows L2
open L2H (RoomH roomH_of)
section
variable {X : Cx} {CX : CXT} {k : Nat} {f C : Addr} {ps : List Str} {sp : Sp} {E : St → XK} {x m : Str} {p pos apos : Pos} {e o : Expr} {es : List Expr} {ta : TE} {t : TA}
/-- o.m(..) in a try's body, o of one of several classes -/
def tMethDS (R : Addr → Sp → Prop) (m : Str) (E : St → XK) (ta : TE) (t : TA) : TE := fun σ H Q => ta σ H fun x H1 => ∃ C sp a dx fs, R C sp ∧ x = .ref a ∧ H1 a = some (.ins C dx fs) ∧ fs.lookup m = none ∧
  t σ H1 fun vs H2 => sp (x :: vs) H2 Q (E σ)
theorem ce_methDS {pl : Sem Bool} {R : Addr → Sp → Prop} (G : Disp X.prog X.w X.K X.mg X.base CX k m ps R) (hr : Room k X.A) (he : PE X o ta) (hx : ∀ σ, PassesAt CX X σ (E σ)) (ha : PA X (e :: es) t)
    (hst : starEach (e :: es) X.env = (false, eval e X.env) :: starEach es X.env := by rfl) (hpl : (backTo pos (starEach es X.env)).any (·.1) = false := by rfl)
    (ht : eval (.Call (.Attribute o m apos) (e :: es) [] pos) X.env = (do
      let ov ← eval o X.env
      standAt apos.atName
      let (g, first) ← holding [ov] (getMethod ov m pl)
      callWith pos g first (backTo pos (starEach (e :: es) X.env)) (backToKw pos (keywordEach [] X.env))) := by rfl) :
    PE X (.Call (.Attribute o m apos) (e :: es) [] pos) (tMethDS R m E ta t) := by
  refine ⟨fun pins s σ H Q I h => ?_⟩
  refine PySem.W.methodCall_KW (pl := pl) (thn (he.run pins s σ H _ I h) fun u s1 ⟨x, H1, I1, rx, C, sp, a, dx, fs, hR, ex, ea, l, q⟩ => ?_) ht
  subst ex
  obtain rfl : u = Value.ref a := rx
  obtain ⟨c, f, hm, fd, F, b⟩ := G C sp hR
  refine getmeth_ok I1 ea c hm l ?_
  refine PySem.W.callWith_K (first := [.ref a]) (h₀ := X.base) I.ok.mod.kin hm.kp (thn (ha.run pos pins s1 σ H1 _ I1 q) fun us s2 ⟨vs, H2, I2, r, q2⟩ => ⟨I2.kIn, ?_⟩) hst hpl
  exact run_fnS (us := .ref a :: us) (vs := .ref a :: vs) F hr b (hx σ) I2 (.cons rfl r) q2
/-- e.number, e the fault that the suite holds (at a; its class cls, its dict d) -/
def tByF (C : Addr) (a : Addr) (cls : Value) (d : Option Addr) (te : TE) : TE := fun σ H Q => te σ H fun x H1 => x = .ref a ∧ cls = .ref C ∧ ∃ (dd : Addr) (v : V), d = some dd ∧ H1 dd = some (.xd [(("number" : Str), v)]) ∧ Q v H1
theorem pe_byF {a : Addr} {oe : Obj} {cls : Value} {d : Option Addr} {pn : List (Addr × Obj)} {e : Expr} {te : TE} {pos : Pos} {C fI : Addr} (T : FaultTxt X.K C fI) (hz : Zc cls d oe) (hf : ∃ vs, oe.data = .fields vs) (he : PE (X.suite a ((a, oe) :: pn)) e te)
    (hb : attributeBase e "number" X.env (eval e X.env) = eval e X.env := by rfl) :
    PE (X.suite a ((a, oe) :: pn)) (.Attribute e "number" pos) (tByF C a cls d te) := by
  refine ⟨fun pins s σ H Q I h => ?_⟩
  refine attr_of hb (thn (he.run pins s σ H _ I h) fun u s1 hh => ?_)
  obtain ⟨x, H1, I1, rx, ex, ec, dd, v, ed, ea, q⟩ := hh
  subst ex
  obtain rfl : u = Value.ref a := rx
  subst ec
  subst ed
  obtain ⟨ha, _⟩ := I1.pin (a, oe) (List.mem_append_left _ List.mem_cons_self)
  obtain ⟨vs, hd⟩ := hf
  have hx : ObjOk X.prog X.w H1 s1.heap dd (.xd [(("number" : Str), v)]) := I1.hok dd _ ea
  obtain ⟨mA, hns, hr⟩ := hx
  obtain ⟨od, ho, hl⟩ := lookIn_ns hns
  have l : List.lookup ("number" : Str) [(("number" : Str), v)] = some v := by simp [List.lookup]
  obtain ⟨u, hu, ru⟩ := RelO.some_of (v := v) (o := mA "number") (by rw [← l]; exact hr "number")
  have J : PySem.W.InstAt s1.heap a oe C (some od) := ⟨ha, hz.1, by unfold PySem.W.notCls; rw [hd] <;> rfl, by rw [hz.2]; exact ho⟩
  exact HandSPX.exc_get I1.kIn J T.ga T.gg T.oex.exC (PySem.W.findObj_own T.hd T.nN rfl (by rw [hl, hu])) (handed_of ru) ⟨v, H1, I1.tok _, ru, q⟩
end
end Rt
/-! ## G3 -/
set_option Elab.async false
set_option linter.all false
set_option maxRecDepth 100000
set_option maxHeartbeats 4000000
namespace Rt
open PySem PySem.Spec PyProof.Rows L2
open L2H (RoomH roomH_of)
/-! ### sorted over cells -/
/-- a cell as a datum -/
def CellD (d : PyData) : Prop := (∃ x : Str, d = .tuple [.str "box", .str x]) ∨ (∃ x : Str, d = .tuple [.str "list", .str x]) ∨ ∃ (n : Int) (x : Str), d = .tuple [.str "own", .int n, .str x]
theorem CellD.pair {d d' : PyData} (h : CellD d) (h' : CellD d') : ∃ (a : Str) (r : List PyData) (b : Str) (r' : List PyData), d = .tuple (.str a :: r) ∧ d' = .tuple (.str b :: r') ∧ (PySem.W.alikeAll r r' = true ∨ a ≠ b) ∧ PyData.depthAll r = 0 ∧ PyData.depthAll r' = 0 := by
  rcases h with ⟨x, rfl⟩ | ⟨x, rfl⟩ | ⟨n, x, rfl⟩ <;> rcases h' with ⟨y, rfl⟩ | ⟨y, rfl⟩ | ⟨m, y, rfl⟩ <;>
    refine ⟨_, _, _, _, rfl, rfl, ?_, by simp [PyData.depthAll, PyData.depth], by simp [PyData.depthAll, PyData.depth]⟩ <;>
    first
      | exact .inr (by decide)
      | exact .inl (by simp [PySem.W.alikeAll, PySem.W.alike])
section
variable {prog : Program} {w : World} {A : Around} {s : Shared}
theorem kat_head {b fin : Bool} {Q : Bool → Shared → Prop} {x y : Str} {xs ys : List PyData} {vs ws : List Value} {as bs : List Addr} (ra : ReadsAll s.heap vs (.str x :: xs) as) (rb : ReadsAll s.heap ws (.str y :: ys) bs) (hxy : x ≠ y) (hu : A.units < cLine)
    (hq : Q (PyProof.Rows.lexLt itemOrd (PySem.W.keyToksAll (.str x :: xs)) (PySem.W.keyToksAll (.str y :: ys))) s) : PySem.W.KatLex prog w A b fin Q (vs.zip ws) 0 s := by
  have al : PySem.W.alike (.str x) (.str y) = true := by simp [PySem.W.alike]
  have ne : PyData.eqv (.str x) (.str y) = false := by simp [PyData.eqv, hxy]
  have rm : A.units + min (PyData.depth (.str x)) (PyData.depth (.str y)) < cLine := by simpa [PyData.depth] using hu
  cases ra with
  | cons r rs =>
    cases rb with
    | cons r' rs' =>
      rw [List.zip_cons_cons]
      refine PySem.W.kat_cons (PySem.W.eqAt_alike _ _ A s _ _ _ _ r r' al rm prog w _ _ ?_)
      rw [ne]
      rw [PySem.W.dataLt_all_no al ne] at hq
      exact PySem.W.kat_no (PySem.W.oneLt_alike (fun _ t z => by cases z) r r' al (by intro z; cases z) rm hq)
theorem sorts_cells {vs : List Value} {ds : List PyData} (e : PySem.W.EachIs (fun v d => ∃ as, Reads s.heap v d as) vs ds) (hc : ∀ d ∈ ds, CellD d) (hu : A.units + 8 < cLine) : PySem.W.SortsAt prog w A s (PySem.W.dataKind s.heap ds) vs := by
  refine ⟨fun v hv => ?_, tuples' true, ?_, fun h2 E Q hq => ?_⟩
  · obtain ⟨d, hd, as, r⟩ := e.left v hv
    have q : ∃ d, d ∈ ds ∧ ∃ as, Reads s.heap v d as := ⟨d, hd, as, r⟩
    exact ⟨_, dif_pos q⟩
  · intro E x y a b Q ha hb hq
    obtain ⟨d, as, hd, ra, rfl⟩ := PySem.W.dataKind_inv ha
    obtain ⟨d', as', hd', rb, rfl⟩ := PySem.W.dataKind_inv hb
    obtain ⟨a, r, b, r', rfl, rfl, hab, z1, z2⟩ := (hc d hd).pair (hc d' hd')
    have hq' : Q (PySem.W.dataLt (.tuple (.str a :: r)) (.tuple (.str b :: r'))) s := hq
    rw [PySem.W.dataLt_tuple] at hq'
    cases ra with
    | @tuple l o xs n _ _ h1 h2 h3 h4 =>
      cases rb with
      | @tuple l' o' xs' n' _ _ k1 k2 k3 k4 =>
        have n1 : xs.size = (PyData.str a :: r).length := by simpa using SeqAt.ReadsAll.length _ _ _ h4
        have n2 : xs'.size = (PyData.str b :: r').length := by simpa using SeqAt.ReadsAll.length _ _ _ k4
        refine PySem.W.kat_lt h1 h3 k1 k3 ?_
        by_cases heq : a = b
        · subst heq
          have hal : PySem.W.alikeAll r r' = true := hab.resolve_right fun z => z rfl
          refine PySem.W.katLex_alike (.str a :: r) (.str a :: r') 0 _ _ _ _ h4 k4 (by simp [PySem.W.alikeAll, PySem.W.alike, hal]) (by simp [PyData.depthAll, PyData.depth, z1, z2]; omega) (fun _ _ x r t ex => ?_) (by rw [n1, n2]) hq'
          cases ex
          intro z
          cases z
        · exact kat_head h4 k4 heq (by omega) hq'
  · have ht : ∀ d, d ∈ ds → ∃ x r, d = .tuple (x :: r) := fun d hd => by
      obtain ⟨a, r, _, _, e, _⟩ := (hc d hd).pair (hc d hd)
      exact ⟨_, _, e⟩
    obtain ⟨fs, t1, t2, t3⟩ := PySem.W.each_katTups e ht
    refine PySem.W.kat_kind (T := .type "str") t1 (by omega) (fun f hf => ?_) (beq_self_eq_true _) (by rw [show (Value.type "str" != Value.type "tuple") = true from by decide]; exact hq)
    obtain ⟨x, r, as, m1, m2⟩ := t3 f hf
    obtain ⟨a, r', _, _, e, _⟩ := (hc _ m1).pair (hc _ m1)
    injection e with e
    injection e with e
    subst e
    exact PySem.W.looks_reads m2
end
/-- a cell -/
abbrev ks (x : Str) : Key := Sum.inr x
abbrev ki (n : Int) : Key := Sum.inl n
def CellK (k : List Key) : Prop := (∃ x : Str, k = [ks "box", ks x]) ∨ (∃ x : Str, k = [ks "list", ks x]) ∨ ∃ (n : Int) (x : Str), k = [ks "own", ki n, ks x]
def CellV (H : Hp) (v : V) : Prop := ∃ (b : Addr) (k : List Key), v = .ref b ∧ H b = some (.tup (k.map kV)) ∧ CellK k
def rSortedC : List V → Hp → VK → Prop := fun xs H Q => ∃ a : Addr, xs = [.ref a] ∧ ((∃ vs, H a = some (.lst vs) ∧ vs.length < 64 ∧ ∀ v ∈ vs, CellV H v) ∨ ∃ kvs : List (List Key × V), H a = some (.dT kvs) ∧ kvs.length < 64 ∧ ∀ kv ∈ kvs, CellK kv.1) ∧
  ∀ (p : Addr) (ys : List V), H p = none → ys.length < 64 → Q (.ref p) (upd H p (.lst ys))
section
variable {X : Cx} {pins : List (Addr × Obj)} {σ : L2.St} {H : Hp} {s : Shared}
theorem cell_data (I : Inv X pins σ H s) {v : V} {u : Value} (h : CellV H v) (r : RelV v u) : ∃ d, CellD d ∧ ∃ as, Reads s.heap u d as := by
  obtain ⟨b, k, rfl, hb, hk⟩ := h
  rcases hk with ⟨x, rfl⟩ | ⟨x, rfl⟩ | ⟨n, x, rfl⟩
  · exact ⟨_, .inl ⟨x, rfl⟩, Dp.reads I _ _ _ (.tup (SqT.of hb) (.cons (.str _) (.cons (.str _) .nil))) r⟩
  · exact ⟨_, .inr (.inl ⟨x, rfl⟩), Dp.reads I _ _ _ (.tup (SqT.of hb) (.cons (.str _) (.cons (.str _) .nil))) r⟩
  · exact ⟨_, .inr (.inr ⟨n, x, rfl⟩), Dp.reads I _ _ _ (.tup (SqT.of hb) (.cons (.str _) (.cons (.int _) (.cons (.str _) .nil)))) r⟩
theorem cells_data (I : Inv X pins σ H s) : ∀ {vs : List V} {us : List Value}, Vals vs us → (∀ v ∈ vs, CellV H v) → ∃ ds, PySem.W.EachIs (fun v d => ∃ as, Reads s.heap v d as) us ds ∧ ∀ d ∈ ds, CellD d
  | _, _, .nil, _ => ⟨[], .nil, fun d hd => by cases hd⟩
  | v :: vs, _, .cons r t, h => by
    obtain ⟨d, hd, q⟩ := cell_data I (h v List.mem_cons_self) r
    obtain ⟨ds, e, hds⟩ := cells_data I t fun u hu => h u (List.mem_cons_of_mem _ hu)
    refine ⟨d :: ds, .cons q e, fun d' h' => ?_⟩
    rcases List.mem_cons.mp h' with rfl | h'
    · exact hd
    · exact hds d' h'
theorem cells_refs : ∀ {vs : List V} {us : List Value}, Vals vs us → (∀ v ∈ vs, CellV H v) → ∀ u ∈ us, ∃ a, u = Value.ref a
  | _, _, .nil, _ => fun u hu => by cases hu
  | v :: vs, _, .cons r t, h => fun u hu => by
    rcases List.mem_cons.mp hu with rfl | hu
    · obtain ⟨b, _, rfl, _⟩ := h v List.mem_cons_self
      exact ⟨b, r⟩
    · exact cells_refs t (fun u hu => h u (List.mem_cons_of_mem _ hu)) u hu
end
section
variable {X : Cx}
theorem cr_sortedC (hu : X.A.units + 64 < cLine) (hc : X.calm = true := by rfl) : CallR X (.builtin "sorted") rSortedC := by
  intro pins s σ H xs us Q I r h
  obtain ⟨a, rfl, hcase, q⟩ := h
  obtain ⟨u, rfl, rx⟩ := vals1 r
  obtain rfl : u = Value.ref a := rx
  rcases hcase with ⟨vs, ha, hl, hv⟩ | ⟨kvs, ha, hl, hk⟩
  · obtain ⟨its, rv, pl, hz⟩ := I.list (SqL.of ha)
    have hlen : its.length = vs.length := rv.length.symm
    obtain ⟨ds, e, hd⟩ := cells_data I rv hv
    have e2 : PySem.W.EachIs (fun v d => ∃ as, Reads (PySem.W.sortingHeap (PySem.W.copyHeap s.heap its) (s.heap.objs.size + 1) its) v d as) its ds := e.mono fun _ _ ⟨as, r⟩ => ⟨as, PyProof.Rows.Reads.keeps (fun _ _ => PySem.W.sorting_copy_old) r⟩
    refine PySem.W.sorted_vals pl.isList (sorts_cells (s := { s with heap := PySem.W.sortingHeap (PySem.W.copyHeap s.heap its) (s.heap.objs.size + 1) its }) e2 hd (show X.A.units + 2 + 8 < cLine by omega)) (by rw [hlen, sizeLine_eq]; omega) ?_
    generalize ho : PySem.W.sortVals (PySem.W.dataKind (PySem.W.sortingHeap (PySem.W.copyHeap s.heap its) (s.heap.objs.size + 1) its) ds) false its its = out
    have hol : out.length = vs.length := by rw [← ho, PySem.W.sortVals_length _ rfl, hlen]
    have hor : ∀ u ∈ out, ∃ a, u = Value.ref a := fun u hu => cells_refs rv hv u (PySem.W.sortVals_mem false (by rw [ho]; exact hu))
    obtain ⟨c, hc'⟩ := sortedAll_at s.heap its out.toArray
    refine ⟨.ref (s.heap.objs.size + 1), upd H (s.heap.objs.size + 1) (.lst (out.map backV)), I.laid (t' := s.toks) (fun b o e => sortedAll_old e) (Nat.le_succ _) ⟨by rw [List.length_map, hol, sizeLine_eq]; omega, out, c, vals_back hor, hc'⟩, rfl, q _ _ (I.hok.fresh (Nat.le_succ _)) (by rw [List.length_map, hol]; exact hl)⟩
  · obtain ⟨z, hs, kts, pr, o, es, ep, ho, hx, hdt, he, hn⟩ := (show ObjOk X.prog X.w H s.heap a (.dT kvs) from I.hok a _ ha)
    have l1 : es.size = kts.length := size_of_entries he
    have l2 : kvs.length = kts.length := Paired.length pr
    refine Calls.call_function_entry kind_sorted plain_sorted entry_sorted (args_sorted1 _) ?_
    unfold Builtin.«sorted»
    refine wpAny_bind (m := checkCount "sorted" 1 1 _) (wpAny_pure ?_)
    refine wpAny_bind (PySem.W.kdu_collect (A := X.A.in1) (kdl_raw hs hx hdt) (I.ok.hd hc) ho (by rw [sizeLine_eq]; omega) fun h' tk acc kp it => ?_)
    have ea : acc.toList = (kts.map fun x => x.2.1).map Value.ref := by
      have hl' : acc.toList.length = kts.length := by rw [Array.length_toList, it.1]; exact l1
      refine List.ext_getElem? fun j => ?_
      rw [List.getElem?_map, List.getElem?_map]
      cases hj : acc.toList[j]? with
      | none =>
        have h1 := List.getElem?_eq_none_iff.mp hj
        rw [List.getElem?_eq_none (by omega)]
        rfl
      | some v =>
        obtain ⟨en, hen, hv⟩ := it.2 j v (by rw [← Array.getElem?_toList]; exact hj)
        have qe := entry_at he j
        rw [hen] at qe
        cases hb : kts[j]? with
        | none =>
          rw [hb] at qe
          exact nomatch (show some en = none from qe)
        | some b =>
          rw [hb] at qe
          have e2 : en = entryOfKey (tupleKind (mixKind X.prog X.w)) b := Option.some.inj qe
          rw [hv, e2]
          rfl
    have I1 : Inv X pins σ H { s with heap := h', toks := tk } := I.kept kp
    have rv : Vals ((kts.map fun x => x.2.1).map V.ref) acc.toList := by
      rw [ea]
      exact vals_refs _
    have hik := isKeys_of pr
    have hv : ∀ v ∈ (kts.map fun x => x.2.1).map V.ref, CellV H v := fun v hv => by
      obtain ⟨b, hb, rfl⟩ := List.mem_map.mp hv
      obtain ⟨j, hj, ej⟩ := List.mem_iff_getElem.mp hb
      have hjk : j < kvs.length := by
        rw [List.length_map] at hj
        omega
      have hh : ∀ {ks : List (List Key × V)} {bs : List Addr}, Paired (fun p b => H b = some (.tup (p.1.map kV))) ks bs → ∀ (j : Nat) (h1 : j < ks.length) (h2 : j < bs.length), H bs[j] = some (.tup (ks[j].1.map kV)) := by
        intro ks bs p
        induction p with
        | nil => exact fun j h1 => absurd h1 (Nat.not_lt_zero _)
        | cons h t ih =>
          intro j h1 h2
          cases j with
          | zero => exact h
          | succ j => exact ih j (Nat.lt_of_succ_lt_succ h1) (Nat.lt_of_succ_lt_succ h2)
      have := hh hik j hjk hj
      rw [ej] at this
      exact ⟨b, _, rfl, this, hk _ (List.getElem_mem hjk)⟩
    have hal : acc.toList.length = kvs.length := by rw [ea, List.length_map, List.length_map, l2]
    refine wpAny_bind (wpAny_newList ?_ (by rw [hal, sizeLine_eq]; omega))
    have hoL : (h'.push (seqObj "list" acc.toList.toArray 0)).get? h'.objs.size = some (seqObj "list" acc.toList.toArray 0) := Heap.get?_push_size _ rfl
    show wpAny _ _ _ _ _ { s with heap := h'.push (seqObj "list" acc.toList.toArray 0), toks := tk }
    obtain ⟨ds, e, hd⟩ := cells_data I1 rv hv
    have e2 : PySem.W.EachIs (fun v d => ∃ as, Reads (PySem.W.sortingHeap (h'.push (seqObj "list" acc.toList.toArray 0)) h'.objs.size acc.toList) v d as) acc.toList ds :=
      e.mono fun _ _ ⟨as, r⟩ => ⟨as, PyProof.Rows.Reads.keeps (fun b o q => PySem.W.sortingHeap_old (Nat.ne_of_lt (Heap.lt_size q)) (Heap.get?_push_of_some _ q)) r⟩
    refine wpAny_bind (wpAny_holding (wpAny_call_entry slot_list_sort ⟨_, hoL, rfl⟩ entry_list_sort (PySem.W.list_sort_vals (s := { s with heap := h'.push (seqObj "list" acc.toList.toArray 0), toks := tk }) hoL
      (sorts_cells (s := { s with heap := PySem.W.sortingHeap (h'.push (seqObj "list" acc.toList.toArray 0)) h'.objs.size acc.toList, toks := tk }) e2 hd (show X.A.units + 2 + 8 < cLine by omega)) (by rw [hal, sizeLine_eq]; omega) ⟨_, rfl, ?_⟩) (args_list_sort _)))
    generalize ho2 : PySem.W.sortVals (PySem.W.dataKind (PySem.W.sortingHeap (h'.push (seqObj "list" acc.toList.toArray 0)) h'.objs.size acc.toList) ds) false acc.toList acc.toList = out
    have hol : out.length = kvs.length := by rw [← ho2, PySem.W.sortVals_length _ rfl, hal]
    have hor : ∀ u ∈ out, ∃ a, u = Value.ref a := fun u hu => cells_refs rv hv u (PySem.W.sortVals_mem false (by rw [ho2]; exact hu))
    obtain ⟨c, hc'⟩ := sortedHeap_at (vs := acc.toList) (out := out.toArray) hoL
    refine wpAny_pure ⟨_, rfl, .ref h'.objs.size, upd H h'.objs.size (.lst (out.map backV)), I1.laid (t' := tk) (fun b o e => ?_) (Nat.le_refl _) ⟨by rw [List.length_map, hol, sizeLine_eq]; omega, out, c, vals_back hor, hc'⟩, rfl, q _ _ (I1.hok.fresh (Nat.le_refl _)) (by rw [List.length_map, hol]; exact hl)⟩
    have hb : b < h'.objs.size := Heap.lt_size e
    rw [sortedHeap_old (Nat.ne_of_lt hb) (by rw [size_push']; exact Nat.lt_succ_of_lt hb)]
    exact Heap.get?_push_of_some _ e
end
end Rt
/-! ## G5 -/
set_option Elab.async false
set_option linter.all false
set_option maxRecDepth 100000
set_option maxHeartbeats 4000000
namespace Rt
open PySem PySem.Spec PyProof.Rows L2
open L2H (RoomH roomH_of)
open PySem.HandSPX (FlyingZ HeldZ)
/-! ### a list comprehension whose item may raise -/
/-- a ground without one object -/
theorem ground_but (B : Heap) (C : Addr) : ∃ G : Heap, (∀ b, b ≠ C → G.get? b = B.get? b) ∧ G.get? C = none := by
  obtain ⟨G, h1, h2⟩ := restrict B fun b => decide (b ≠ C)
  exact ⟨G, fun b hb => h1 b (decide_eq_true hb), h2 C (decide_eq_false fun z => z rfl)⟩
section
variable {X : Cx} {pins : List (Addr × Obj)} {σ : L2.St} {H : Hp} {s s' : Shared} {E : XK}
/-- what a call let out, told over a state of ours; C: an object that is not tracked stays so -/
theorem air_of (I : Inv X pins σ H s) {u : Value} (c : L2.CX X.prog X.w X.stack H s E u s') {C : Addr} (hC : ∃ o, s.heap.get? C = some o) (nC : H C = none) (fC : C ∉ frs X.stack) :
    ∃ (a : Addr) (B : Heap) (sI : Shared) (H' : Hp) (cls : Value) (d : Option Addr), u = .ref a ∧ Inv X pins σ H' sI ∧ (∀ b o, sI.heap.get? b = some o → b ∉ frs X.stack → B.get? b = some o) ∧ sI.heap.UpToSlots s'.heap ∧
      FlyingZ B X.stack a (Zc cls d) s'.heap ∧ H' a = none ∧ s'.os = sI.os ∧ AllBare s'.gens ∧ E cls d H' ∧ H' C = none ∧ B.get? C = s.heap.get? C := by
  obtain ⟨a, B, H', cls, d, rfl, fl, hok, ub, na, os, ag, hE⟩ := c
  obtain ⟨G, g1, g2⟩ := restrict s'.heap fun b => (B.get? b).isSome || decide (b ∈ frs X.stack)
  have st : B.StaysIn s'.heap := fl.1
  have inB : ∀ b o, B.get? b = some o → G.get? b = some o := fun b o e => (g1 b (by simp [e])).trans (st b o e)
  have inF : ∀ b, b ∈ frs X.stack → G.get? b = s'.heap.get? b := fun b hb => g1 b (by simp [hb])
  have ofG : ∀ b o, G.get? b = some o → s'.heap.get? b = some o ∧ ((B.get? b).isSome = true ∨ b ∈ frs X.stack) := fun b o e => by
    cases q : ((B.get? b).isSome || decide (b ∈ frs X.stack)) with
    | false =>
      rw [g2 b q] at e
      cases e
    | true => exact ⟨(g1 b q).symm.trans e, by simpa [Bool.or_eq_true] using q⟩
  refine ⟨a, B, { s with heap := G, gens := s'.gens, drawn := s'.drawn, toks := s'.toks }, H', cls, d, rfl, ?_, fun b o e hb => ?_, fun b o e nf => ⟨o.slots, (ofG b o e).1⟩, fl, na, os, ag, hE, ?_, ?_⟩
  · refine I.call (ch := []) ⟨fun b o e n hb _ => inB b o (ub.keep b o e n hb), fun b o e n hb _ => ?_, fun b o e n _ => ub.free b o e n, fun b o e _ => ?_, ub.tups, ub.frzs, ub.tbls⟩ (hok.kept inB) ag (fun _ z => nomatch z)
    · obtain ⟨sl, q⟩ := ub.slot b o e hb
      exact ⟨sl, (inF b hb).trans q⟩
    · by_cases hb : b ∈ frs X.stack
      · obtain ⟨sl, q⟩ := ub.slot b o e hb
        exact ⟨_, (inF b hb).trans q⟩
      · obtain ⟨o', q⟩ := ub.there b o e hb
        exact ⟨o', inB b o' q⟩
  · obtain ⟨e1, h | h⟩ := ofG b o e
    · obtain ⟨o', q⟩ := Option.isSome_iff_exists.mp h
      have z := (st b o' q).symm.trans e1
      cases z
      exact q
    · exact absurd h hb
  · obtain ⟨o, e⟩ := hC
    exact ub.free C o e nC
  · obtain ⟨o, e⟩ := hC
    rw [e]
    exact ub.keep C o e nC fC
/-- .. while a block of names at C is let go, and then on in our own frame -/
theorem air_passes (hst : X.stack = X.env :: X.outer) (hf : X.env.frame = some X.env.locals) (tk : Takes X (fun cls d _ H => E cls d H)) (I : Inv X pins σ H s) {u : Value} (c : L2.CX X.prog X.w X.stack H s E u s')
    {ce : Env} {m : Str → Option Value} (hcf : ce.frame = X.env.frame) (hn : s.heap.Ns ce.locals m) (nC : H ce.locals = none) (fC : ce.locals ∉ frs X.stack) (hC1 : ∀ H' : Hp, H' ce.locals = none → FpOk X pins H' ce.locals) :
    notedBy (model X.prog X.w) X.A ce (CompFails (model X.prog X.w) X.A X.xe ce) u s' := by
  obtain ⟨oC, es, ep, hoC, hdC, hrC⟩ := id hn
  obtain ⟨a, B, sI, H', cls, d, rfl, J, nb, up, fl, na, os, ag, hE, nC', eC⟩ := air_of I c ⟨oC, hoC⟩ nC fC
  obtain ⟨st, an, ff, oe, vs, T, oT, ts, he, hz, hd, h1, hnT, hTe, hT, hdT, h3⟩ := fl
  have hoB : B.get? ce.locals = some oC := eC.trans hoC
  have hn1 : s'.heap.Ns ce.locals m := ⟨oC, es, ep, st _ _ hoB, hdC, hrC⟩
  obtain ⟨B', b1, b2⟩ := ground_but B ce.locals
  have toB : ∀ b o, B'.get? b = some o → b ≠ ce.locals ∧ B.get? b = some o := fun b o e => by
    have hb : b ≠ ce.locals := fun z => by
      rw [z, b2] at e
      cases e
    exact ⟨hb, (b1 b hb).symm.trans e⟩
  have ofN : ∀ b, B.get? b = none → B'.get? b = none := fun b e => by
    cases q : B'.get? b with
    | none => rfl
    | some o =>
      have z := (toB b o q).2
      rw [e] at z
      cases z
  have frN : ∀ L ∈ frs X.stack, B'.get? L = none := fun L hL => ofN L (ff.mem hL).1
  have fl2 : FlyingZ B' (X.env :: X.outer) a (Zc cls d) s'.heap := by
    rw [← hst]
    exact ⟨fun b o e => st b o (toB b o e).2, ofN a an, funFrames_none ff frN, oe, vs, T, oT, ts, he, hz, hd, h1, ofN T hnT, hTe, hT, hdT, h3⟩
  have hfr : X.A.frames = some (X.env :: X.outer) := by rw [J.ok.frames, hst]
  show wpAny (model X.prog X.w) X.A (noteFrame (.ref a) ce) _ _ s'
  rw [noteFrame_env _ hcf]
  refine HandSPX.looks_onZ Zc.steady hfr hf fl2 fun g1 hH up1 => ⟨m, hn1.upToSlots up1, fun g2 m2 hn2 sb => ?_⟩
  obtain ⟨st1, an1, ff1, oe1, vs1, T1, oT1, ts1, he1, hz1, hd1, h11, hnT1, hTe1, hT1, hdT1, h31⟩ := hH
  have nsC : ∀ b o vs, g1.get? b = some o → o.data = .fields vs → b ≠ ce.locals := fun b o vs e q z => by
    obtain ⟨o', _, _, e', q', _⟩ := hn1.upToSlots up1
    rw [z] at e
    rw [e'] at e
    cases e
    rw [q'] at q
    cases q
  have at2 : ∀ b o, b ≠ ce.locals → g1.get? b = some o → g2.get? b = some o := fun b o hb e => (sb.2 b hb).trans e
  have hH2 : HeldZ B' (X.env :: X.outer) a (Zc cls d) X.env.locals g2 :=
    ⟨fun b o e => at2 b o (toB b o e).1 (st1 b o e), an1, Heap.FunFrames.sameBut sb hn2 ff1, oe1, vs1, T1, oT1, ts1, at2 _ _ (nsC _ _ _ he1 hd1) he1, hz1, hd1, h11, hnT1, hTe1, at2 _ _ (nsC _ _ _ hT1 hdT1) hT1, hdT1, h31⟩
  have he2 := at2 _ _ (nsC _ _ _ he1 hd1) he1
  unfold PySem.passOn
  refine wpAny_bind (wpAny_field he2 hd1 h11 ?_)
  rw [if_neg (show ¬ ((Value.ref T1 == Value.none) = true) from by simp)]
  obtain ⟨G, e1, e2⟩ := ground_but sI.heap ce.locals
  have ofG : ∀ b o, G.get? b = some o → b ≠ ce.locals ∧ sI.heap.get? b = some o := fun b o e => by
    have hb : b ≠ ce.locals := fun z => by
      rw [z, e2] at e
      cases e
    exact ⟨hb, (e1 b hb).symm.trans e⟩
  obtain ⟨f0, f1, f2, f3, f4, f5⟩ := hC1 H' nC'
  have J2 : Inv X pins σ H' { sI with heap := G, toks := sI.toks } := J.turned (it := ce.locals) (t' := sI.toks) (fun b o hb e => (e1 b hb).trans e) f0 f1 f3 f4 f5
  have fin : wpAny (model X.prog X.w) X.A (setFlight (.ref a) ce.frame) (fun _ s4 => wpAny (model X.prog X.w) X.A (throw (.ref a) : Sem Value) (fun _ _ => False) X.xe s4) X.xe { s' with heap := g2 } := by
    rw [hcf, hf]
    refine HandSPX.setFlight_onZ hH2 fun g3 hH3 up3 => wpAny_throw (tk _ _ ?_)
    refine ⟨a, B', { sI with heap := G, toks := sI.toks }, pins, σ, H', cls, d, rfl, J2, fun b o e hb => ?_, fun b o e nf => ?_, .inr (.inr (by rw [hst]; exact hH3)), na, os, ag, hE⟩
    · obtain ⟨hbC, q⟩ := ofG b o e
      exact (b1 b hbC).trans (nb b o q hb)
    · obtain ⟨hbC, q⟩ := ofG b o e
      obtain ⟨sl, q1⟩ := (up.trans up1) b o q nf
      obtain ⟨sl2, q2⟩ := up3 b _ (at2 b _ hbC q1) nf
      exact ⟨sl2, q2⟩
  first
    | exact wpAny_bind (wpAny_pure (wpAny_bind fin))
    | exact wpAny_bind fin
end
section
variable {X : Cx} {E : XK}
theorem lc_coreX {pins : List (Addr × Obj)} {s : Shared} {σ : L2.St} {H : Hp} {Q : VK} {elt tg iter : Expr} {ifs : List Expr} {scope : Scope} {own : List (Str × Nat)} {pos pos' : Pos} {wi : TI} {g : TG} {tt : TT} {te : TE} {use : Value → Sem Unit} {Qf : Value → Shared → Prop}
    (hst : X.stack = X.env :: X.outer) (hfl : X.env.frame = some X.env.locals) (tk : Takes X (fun cls d _ H => E cls d H)) (hc : X.calm = true) (hN : X.N.Nodup) (I : Inv X pins σ H s) (hi : PI X tg iter wi) (ok : BlkOk X.N X.env.scope scope own)
    (hg : ∀ (s : Shared) (H : Hp) (C : Addr) (cl : List (Str × Addr)) (fp : List Addr), PG (X.blk s H scope (compEnvC scope cl C X.env) fp) tg g) (ht : ∀ (s : Shared) (H : Hp) (C : Addr) (cl : List (Str × Addr)) (fp : List Addr), PTs (X.blk s H scope (compEnvC scope cl C X.env) fp) ifs tt)
    (he : ∀ (s : Shared) (H : Hp) (C : Addr) (cl : List (Str × Addr)) (fp : List Addr) (xe : Value → Shared → Prop), Passes (L2.CX X.prog X.w) { X.blk s H scope (compEnvC scope cl C X.env) fp with xe := xe } E → PE { X.blk s H scope (compEnvC scope cl C X.env) fp with xe := xe } elt te) (hs : ∀ x, foldedSetIterable iter X.env x = pure x)
    (h : tLc wi g tt te (own.map (·.2)) σ H Q)
    (hRR : ∀ D C s' m H', Inv X pins σ H' s' → Q (.ref D) H' → s'.heap.Ns C m → FpOk X pins H' C → wpAny (model X.prog X.w) X.A (use (.ref D)) (fun _ s'' => ∃ m, s''.heap.Ns C m ∧ ∀ h', Heap.SameBut C s''.heap h' → Qf .none { s'' with heap := h' }) X.xe s') :
    wpAny (model X.prog X.w) X.A (comprehension (.ListComp elt [⟨tg, iter, ifs, 0⟩] scope pos) scope X.env pos' (newList []) false (eval iter X.env) (some use)) Qf X.xe s := by
  have hfree : ∀ y ∈ scope.names, y.2 = .free → ∃ c, X.env.cells.lookup y.1 = some c := fun y hy e => (ok.free y hy e).elim (fun k => I.ok.has _ (.inl k)) (fun k => I.ok.has _ (.inr k))
  refine comprehension_at (use := some use) rfl hs (closure_ok hfree) ok.kind (fun y hy e => by rw [ok.uniq y hy, e])
    (thn (hi.run pins s σ H _ I h) fun xv s1 hx => thn hx fun itv s2 h2 => ?_)
  obtain ⟨it, fp, tn, J, H2, e, I2, T, st2, f2, q⟩ := h2
  subst e
  refine wpAny_newObj_type (newEnv_comp ?_) (by show 0 ≤ sizeLine; decide)
  generalize hD : s2.heap.objs.size = D
  have hDn : H2 D = none := I2.hok.fresh (Nat.le_of_eq hD)
  obtain ⟨W, ⟨m0, w0⟩, turn⟩ := q D hDn
  -- the list that grows
  generalize hs3 : ({ s2 with heap := s2.heap.push { cls := .type "list", data := .seq ([] : List Value).toArray } } : Shared) = s3
  have I3 : Inv X pins σ (upd H2 D (.lst [])) s3 := by
    rw [← hs3]
    refine I2.laid (t' := s2.toks) (fun b o e => Heap.get?_push_of_some _ e) (Nat.le_of_eq hD) ⟨Nat.zero_le _, [], 0, .nil, ?_⟩
    rw [← hD]
    exact Heap.get?_push_size _ rfl
  have h3 : s3.heap = s2.heap.push { cls := .type "list", data := .seq ([] : List Value).toArray } := by rw [← hs3]
  have f3 : ∀ b ∈ fp, FpOk X pins (upd H2 D (.lst [])) b ∧ b < s3.heap.objs.size := fun b hb => by
    obtain ⟨o, eo, _⟩ := T.obj _ _ st2 b hb
    have hlt := Heap.lt_size eo
    refine ⟨⟨?_, (f2 b hb).2⟩, by rw [h3, Heap.size_push]; exact Nat.lt_succ_of_lt hlt⟩
    rw [upd_ne (by rw [← hD]; exact Nat.ne_of_lt hlt)]
    exact (f2 b hb).1
  have st3 : tn 0 s3.heap := T.keep _ _ _ st2 fun b _ o e => by rw [h3]; exact Heap.get?_push_of_some _ e
  have I4 := block_start I3 ok hN f3
  have pg := hg s3 (upd H2 D (.lst [])) s3.heap.objs.size (cellsFrom (s3.heap.objs.size + 1) scope.names (cloFrom X.env.cells scope.names [])) fp
  have pt := ht s3 (upd H2 D (.lst [])) s3.heap.objs.size (cellsFrom (s3.heap.objs.size + 1) scope.names (cloFrom X.env.cells scope.names [])) fp
  have pe := he s3 (upd H2 D (.lst [])) s3.heap.objs.size (cellsFrom (s3.heap.objs.size + 1) scope.names (cloFrom X.env.cells scope.names [])) fp
  show codeAny _ _ (.compStart (.ListComp elt [⟨tg, iter, ifs, 0⟩] scope pos) 0 (.ref it) (.ref D) (compEnvC scope (cellsFrom (s3.heap.objs.size + 1) scope.names (cloFrom X.env.cells scope.names [])) s3.heap.objs.size X.env))
    (compEnds (model X.prog X.w) X.A X.xe (some use) Qf (.ref D) (compEnvC scope (cellsFrom (s3.heap.objs.size + 1) scope.names (cloFrom X.env.cells scope.names [])) s3.heap.objs.size X.env)) { s3 with heap := pushCells (s3.heap.push { cls := .type "dict", data := .dict #[] }) scope.names }
  have nfp : ∀ b ∈ fp, (upd H2 D (.lst [])) b = none := fun b hb => (f3 b hb).1.1
  generalize hce : compEnvC scope (cellsFrom (s3.heap.objs.size + 1) scope.names (cloFrom X.env.cells scope.names [])) s3.heap.objs.size X.env = ce at I4 pg pt pe ⊢
  have cL : ce.locals = s3.heap.objs.size := by subst hce; rfl
  have cF : ce.frame = X.env.frame := by subst hce; rfl
  generalize hH3 : upd H2 D (.lst []) = H3 at I3 I4 pg pt pe w0 nfp f3
  generalize hs4 : ({ s3 with heap := pushCells (s3.heap.push { cls := .type "dict", data := .dict #[] }) scope.names } : Shared) = s4 at I4 ⊢
  have st4 : tn 0 s4.heap := T.keep _ _ _ st3 fun b _ o e => by rw [← hs4]; exact pushCells_keeps _ _ _ _ (Heap.get?_push_of_some _ e)
  have stat : ∀ {σ' : L2.St} {H' : Hp} {s' : Shared}, Inv (X.blk s3 H3 scope ce fp) [] σ' H' s' → (∀ b ∈ fp, H' b = none) → ∀ b ∈ fp, FpOk (X.blk s3 H3 scope ce fp) [] H' b := fun {σ' H' s'} I' hn b hb =>
    ⟨hn b hb, (I'.ok.exf b hb).1, I'.ok.exfs b hb, .inl hb, fun x c e => (I'.ok.exf b hb).2 x c e, fun p hp => absurd (show p ∈ ([] : List (Addr × Obj)) ++ [] from hp) (by simp)⟩
  -- back to the def
  have back : ∀ {σ' : L2.St} {H' : Hp} {s' : Shared} {pn : List (Addr × Obj)}, Inv (X.blk s3 H3 scope ce fp) pn σ' H' s' → Inv X pins σ H' s' := fun {σ' H' s' pn} I6 =>
    I3.call' (ch := fp) I6.os I6.base I6.hok I6.bare fun b hb => ⟨(f3 b hb).1.2.2.2.1, (f3 b hb).1.2.1, (f3 b hb).1.2.2.2.2.1, (f3 b hb).1.2.2.2.2.2⟩
  have pe := pe (notedBy (model X.prog X.w) X.A ce (CompFails (model X.prog X.w) X.A X.xe ce)) fun pnB σB HB sB u s' IB c => by
    have IB2 : Inv (X.blk s3 H3 scope ce fp) pnB σB HB sB := IB.unwish
    obtain ⟨m, hn, _⟩ := IB2.loc
    refine air_passes hst hfl tk (back IB2) c cF hn IB2.free (fun hm => ?_) fun H' hn' => by rw [cL] at hn' ⊢; exact I3.fpOk (Nat.le_refl _) hn'
    obtain ⟨_, o, ho, _⟩ := IB2.ok.funs.mem hm
    exact absurd (Heap.lt_size ho) (Nat.not_lt.mpr IB2.ok.above)
  have loop : codeAny (model X.prog X.w) X.A (.compLoop (.ListComp elt [⟨tg, iter, ifs, 0⟩] scope pos) 0 (.ref it) (.ref D) ce) (compEnds (model X.prog X.w) X.A X.xe (some use) Qf (.ref D) ce) s4 := by
    refine compLoop_any (fun n s' => ∃ i H', Inv (X.blk s3 H3 scope ce fp) [] (wipe σ (own.map (·.2))) H' s' ∧ tn i s'.heap ∧ (∀ b ∈ fp, H' b = none) ∧ W i n H') ?_ m0 ⟨0, H3, I4, st4, nfp, w0⟩
    rintro n s5 ⟨i, H5, I5, st5, n5, w5⟩
    rcases turn i n H5 w5 with ⟨stop, qq⟩ | ⟨go, Nx, hNx, step⟩
    · have td := T.done (X.blk s3 H3 scope ce fp) rfl rfl rfl hc i [] s5 _ H5 (fun _ _ => False) I5 (stat I5 n5) st5 stop
      refine thnF td fun r s6 ⟨hr, I6⟩ => ?_
      subst hr
      have nC : H5 s3.heap.objs.size = none := by
        have z : H5 ce.locals = none := I6.free
        rw [cL] at z
        exact z
      obtain ⟨m, hn, _⟩ := I6.loc
      have hn : s6.heap.Ns ce.locals m := hn
      rw [cL] at hn
      show wpAny _ _ (use (.ref D)) (fun _ s'' => ∃ m, s''.heap.Ns ce.locals m ∧ ∀ h', Heap.SameBut ce.locals s''.heap h' → Qf .none { s'' with heap := h' }) _ _
      rw [cL]
      exact hRR D s3.heap.objs.size s6 m H5 (back I6) qq hn (I3.fpOk (Nat.le_refl _) nC)
    · have ti := T.item (X.blk s3 H3 scope ce fp) rfl rfl rfl hc i [] s5 _ H5 (fun _ _ => False) I5 (stat I5 n5) st5 go
      refine thnF ti fun r s6 ⟨u, hr, h6⟩ => ?_
      subst hr
      refine thnF h6 fun _ s7 ⟨x, H7, I7, r7, y7, st7, n7⟩ => ?_
      have I7' := I7.pinned (stat I7 n7) (T.obj _ _ st7)
      refine thnF (pg.run _ s7 _ H7 x u _ I7' r7 (step x H7 y7)) fun _ s8 ⟨σ8, H8, I8, hw8, q8⟩ => ?_
      refine thnF (pt.run _ s8 σ8 H8 _ I8 q8) fun b s9 ⟨H9, I9, q9⟩ => ?_
      have fin : ∀ {s' : Shared} {H' : Hp}, Inv (X.blk s3 H3 scope ce fp) ([] ++ pinsAt fp s7.heap) σ8 H' s' → Nx H' → ∃ m, m < n ∧ ∃ i H', Inv (X.blk s3 H3 scope ce fp) [] (wipe σ (own.map (·.2))) H' s' ∧ tn i s'.heap ∧ (∀ b ∈ fp, H' b = none) ∧ W i m H' := fun {s' H'} I' nx => by
        obtain ⟨m', hm, w'⟩ := hNx H' nx
        have pin' : ∀ b ∈ fp, ∀ o, s7.heap.get? b = some o → s'.heap.get? b = some o ∧ H' b = none := fun b hb o e => by
          have z := I'.pin (b, o) (List.mem_append_right _ (List.mem_append_right _ (mem_pinsAt hb e)))
          exact ⟨z.1, z.2.1⟩
        refine ⟨m', hm, i + 1, H', (I'.unpinned (pins := [])).weak (by rw [← hw8, wipe_length]) (fun j v e => ?_), T.keep _ _ _ st7 fun b hb o e => (pin' b hb o e).1, fun b hb => ?_, w'⟩
        · rw [← hw8] at e
          exact (wipe_some e).1
        · obtain ⟨o, e, _⟩ := T.obj _ _ st7 b hb
          exact (pin' b hb o e).2
      cases b with
      | false =>
        simp only [Bool.false_eq_true, if_false] at q9 ⊢
        exact fin I9 q9
      | true =>
        simp only [if_true] at q9 ⊢
        refine thn (pe.run _ s9 σ8 H9 _ (I9.wish _) q9) fun z s10 ⟨yv, H10, I10, r10, acc, hD10, hz10, nx⟩ => ?_
        exact app_ok (X := X.blk s3 H3 scope ce fp) I10.unwish hD10 hz10 r10 fun s11 I11 => fin I11 nx
  exact codeAny_compStart_list loop (T.self X.A 0 _ _ _ st4 loop)
theorem ps_setLcX {i : Nat} {y : Str} {py : Pos} {elt tg iter : Expr} {ifs : List Expr} {scope : Scope} {own : List (Str × Nat)} {pos spos : Pos} {wi : TI} {g : TG} {tt : TT} {te : TE} (tk : Takes X (fun cls d _ H => E cls d H)) (hc : X.calm = true) (hN : X.N.Nodup) (hy : X.N[i]? = some y) (hyl : X.env.scope.names.lookup y = some .local)
    (hsw : swapsWith (.ListComp elt [⟨tg, iter, ifs, 0⟩] scope pos) (some (.Name y py)) spos.line X.env = pure true) (hi : PI X tg iter wi) (ok : BlkOk X.N X.env.scope scope own)
    (hg : ∀ (s : Shared) (H : Hp) (C : Addr) (cl : List (Str × Addr)) (fp : List Addr), PG (X.blk s H scope (compEnvC scope cl C X.env) fp) tg g) (ht : ∀ (s : Shared) (H : Hp) (C : Addr) (cl : List (Str × Addr)) (fp : List Addr), PTs (X.blk s H scope (compEnvC scope cl C X.env) fp) ifs tt)
    (he : ∀ (s : Shared) (H : Hp) (C : Addr) (cl : List (Str × Addr)) (fp : List Addr) (xe : Value → Shared → Prop), Passes (L2.CX X.prog X.w) { X.blk s H scope (compEnvC scope cl C X.env) fp with xe := xe } E → PE { X.blk s H scope (compEnvC scope cl C X.env) fp with xe := xe } elt te)
    (hs : ∀ x, foldedSetIterable iter X.env x = pure x := by intro _; rfl) (hst : X.stack = X.env :: X.outer := by rfl) (hfl : X.env.frame = some X.env.locals := by rfl) :
    PS X (.Assign [.Name y py] (.ListComp elt [⟨tg, iter, ifs, 0⟩] scope pos) spos) (tAsg (tLc wi g tt te (own.map (·.2))) (gName i)) := by
  refine ⟨fun pins s σ H D I h => ?_⟩
  rw [exec_Assign_Name_used _ _ _ _ hsw]
  refine wpAny_bind (wpAny_standAt (wpAny_bind ?_))
  show wpAny _ X.A (do let _ ← comprehension (.ListComp elt [⟨tg, iter, ifs, 0⟩] scope pos) scope X.env (firstIterPos [⟨tg, iter, ifs, 0⟩] pos) (newList []) false (eval iter X.env) (some (assign (.Name y py) X.env))) _ _ s
  have h : tLc wi g tt te (own.map (·.2)) σ H (fun x H1 => gName i x σ H1 D.nx) := h
  refine wpAny_bind (thn (lc_coreX (Qf := fun _ s' => SP X pins D .next s') hst hfl tk hc hN I hi ok hg ht he hs h fun L C s' m H' I' q hn f => ?_) fun _ s' hq => wpAny_pure (wpAny_pure hq))
  refine wpAny_assign_Name (store_ok2 (v := V.ref L) I' hN hy (.inl hyl) rfl (fun s2 I2 ⟨a, sb, ha⟩ => ?_) (.inr hyl))
  obtain ⟨f0, f1, f2, f3, f4, f5⟩ := f
  have haC : C ≠ a := by
    rcases ha with z | z
    · rw [z]
      exact f1
    · exact fun e => f4 y a z e.symm
  exact ⟨m, hn.sameBut sb haC, fun h3 sb3 => ⟨_, H', I2.turned (t' := s2.toks) (fun b o hb e => (sb3.2 b hb).trans e) f0 f1 f3 f4 f5, q⟩⟩
end
end Rt
/-! ## G6 -/
set_option Elab.async false
set_option linter.all false
set_option maxRecDepth 100000
set_option maxHeartbeats 4000000
namespace Rt
open PySem PySem.Spec PyProof.Rows L2
open L2H (RoomH roomH_of)
/-! ### enumerate(xs, 1) -/
/-- the list at a, each item in a new pair with its count from one -/
def Ite1 (K : PySem.W.Frag) (a : Addr) : It :=
  ⟨fun i H => ∃ (xs : List V) (x : V), SqL K H a xs ∧ xs[i]? = some x, fun i H v H' => ∃ T x, v = .ref T ∧ H T = none ∧ H' = upd H T (.tup [.int (1 + (i : Int)), x]) ∧ ∀ xs, SqL K H a xs → xs[i]? = some x, fun i H => ∃ xs : List V, SqL K H a xs ∧ xs.length = i⟩
theorem turn_enum1 {P : Program} {w : World} {K : PySem.W.Frag} {elts : List Expr} {kk : Nat} {tpos : Pos} (a e it : Addr) :
    Turn P w K (.Tuple elts kk tpos) (Ite1 K a) [e, it] e (fun i h => (∃ old, IsEnum h e it (1 + (i : Int)) old) ∧ h.IsListIter it a i ∧ e ≠ it ∧ e ≠ a ∧ a ≠ it) where
  mem := by simp
  obj := fun i h st b hb => by
    obtain ⟨⟨old, he⟩, ⟨o, ho, hc, hd⟩, _⟩ := st
    rcases (show b = e ∨ b = it by simpa using hb) with rfl | rfl
    · exact ⟨_, he, fun v q => nomatch q⟩
    · exact ⟨o, ho, fun v q => by rw [hd] at q; cases q⟩
  keep := fun i h h' st k => by
    obtain ⟨⟨old, he⟩, hi, hne⟩ := st
    exact ⟨⟨old, k e (by simp) _ he⟩, hi.at fun o q => k it (by simp) o q, hne⟩
  item := by
    intro X hP hw hK hc i pins s σ H E I hf st hg
    subst hP
    subst hw
    subst hK
    obtain ⟨⟨old, he⟩, hit, n1, n2, n3⟩ := st
    obtain ⟨xs, x, hq, hx⟩ := hg
    obtain ⟨its, rv, p, hz⟩ := I.list hq
    obtain ⟨u, hu, ru⟩ := rv.get hx
    have hel : e < s.heap.objs.size := Heap.lt_size he
    have hil : it < s.heap.objs.size := by
      obtain ⟨_, q, _⟩ := hit
      exact Heap.lt_size q
    have hu2 : its.toArray[i]? = some u := by simpa using hu
    refine wpAny_pyNext_enum_itemC (Draws.list (A := X.A.in1) (I.ok.hd hc) it a n3 its.toArray) he ⟨hit, p.isList⟩ (Array.getElem?_eq_some_iff.mp hu2).1 n1 (by simp [n1, n2]) fun x' h' tk hx' ho st' hT hsz hk => ?_
    obtain rfl : u = x' := Option.some.inj (hu2.symm.trans hx')
    refine ⟨_, rfl, wpAny_letOwnedTupleGo_enum (s := { s with heap := h', toks := tk + 1 }) ho fun h2 he2 sb => ?_⟩
    have hT2 : h2.get? s.heap.objs.size = some { cls := .type "tuple", data := .seq #[.int (1 + (i : Int)) tk, u] } := (sb.2 _ (Nat.ne_of_gt hel)).trans hT
    have new : ObjOk X.prog X.w (upd H s.heap.objs.size (.tup [.int (1 + (i : Int)), x])) h2 s.heap.objs.size (.tup [.int (1 + (i : Int)), x]) :=
      ⟨by show 2 ≤ sizeLine; decide, [.int (1 + (i : Int)) tk, u], .cons ⟨_, rfl⟩ (.cons ru .nil), ⟨_, hT2, rfl, _, rfl⟩⟩
    have I1 : Inv X pins σ (upd H s.heap.objs.size (.tup [.int (1 + (i : Int)), x])) { s with heap := h2, toks := tk + 1 } :=
      I.turnedNew (ch := [e, it]) (fun b ob hb q => (sb.2 b (fun z => hb (by simp [z]))).trans (hk b ob (fun z => hb (by simp [z])) (fun z => hb (by simp [z])) q)) hf (Nat.le_refl _) new
    refine ⟨.ref s.heap.objs.size, _, I1, rfl, ⟨_, x, rfl, I.hok.fresh (Nat.le_refl _), rfl, fun ys hy => by rw [I.list_inj hy hq]; exact hx⟩, ⟨⟨u, ?_⟩, st'.1.at fun o q => (sb.2 it (Ne.symm n1)).trans q, n1, n2, n3⟩, fun b hb => ?_⟩
    · have e1 : 1 + ((i + 1 : Nat) : Int) = 1 + (i : Int) + 1 := by omega
      rw [e1]
      exact he2
    · have hb2 : b < s.heap.objs.size := by
        rcases (show b = e ∨ b = it by simpa using hb) with rfl | rfl
        · exact hel
        · exact hil
      rw [upd_ne (Nat.ne_of_lt hb2)]
      exact (hf b hb).1
  done := by
    intro X hP hw hK hc i pins s σ H E I hf st hg
    subst hP
    subst hw
    subst hK
    obtain ⟨⟨old, he⟩, hit, n1, n2, n3⟩ := st
    obtain ⟨xs, hq, hx⟩ := hg
    obtain ⟨its, rv, p, hz⟩ := I.list hq
    obtain ⟨f0, f1, f2, f3, f4, f5⟩ := hf it (by simp)
    have hl : its.toArray.size = i := by
      rw [List.size_toArray, ← rv.length]
      exact hx
    exact wpAny_pyNext_enum_endD (Draws.list (A := X.A.in1) (I.ok.hd hc) it a n3 its.toArray) he (by rw [hl]; exact ⟨hit, p.isList⟩) fun h' eb => ⟨rfl, I.turned (t' := s.toks) (fun b o hb q => eb b o hb q) f0 f1 f3 f4 f5⟩
  self := fun A i s Q E st h => by
    obtain ⟨⟨_, he⟩, _⟩ := st
    exact wpAny_pyIter_enum he h
def iEnum1 (K : PySem.W.Frag) (ta : TA) : TI := fun σ H R => ta σ H fun vs H1 => ∃ a xs, vs = [.ref a, .int 1] ∧ SqL K H1 a xs ∧ R (Ite1 K a) H1
theorem pi_enum1 {X : Cx} {e e2 : Expr} {ta : TA} {p pos tpos : Pos} {elts : List Expr} {kk : Nat} (hg : Gl X "enumerate") (hm : X.mg "enumerate" = none) (ha : PA X [e, e2] ta)
    (hs : starEach [e, e2] X.env = (false, eval e X.env) :: starEach [e2] X.env := by rfl) (hpl : (backTo pos (starEach [e2] X.env)).any (·.1) = false := by rfl) :
    PI X (.Tuple elts kk tpos) (.Call (.Name "enumerate" p) [e, e2] [] pos) (iEnum1 X.K ta) := by
  refine ⟨fun pins s σ H R I h => ?_⟩
  refine Call_ (ld_blt I hg hm boot_enumerate (PyProof.Rows.callWith_type1 (thn (ha.run pos pins s σ H _ I h) fun us s1 ⟨vs, H1, I1, r1, q1⟩ => ?_) hs hpl))
  obtain ⟨a, xs, rfl, hq, q⟩ := q1
  cases r1 with
  | cons r rr =>
    cases rr with
    | cons r2 rr =>
      cases rr
      cases r
      obtain ⟨t, rfl⟩ := r2
      obtain ⟨its, rv, pl, hz⟩ := I1.list hq
      have hal : a < s1.heap.objs.size := by
        obtain ⟨o, ho, _⟩ := pl.isList
        exact Heap.lt_size ho
      refine enum_begins (begins_list a its.toArray) pl.isList (by decide) (by decide) fun h' he hit hsz hk => wpAny_pyIter_enum he ?_
      have I2 : Inv X pins σ H1 { s1 with heap := h' } := I1.kept (t' := s1.toks) hk
      refine ⟨s1.heap.objs.size + 1, [s1.heap.objs.size + 1, s1.heap.objs.size], _, _, H1, rfl, I2, turn_enum1 a (s1.heap.objs.size + 1) s1.heap.objs.size, ⟨⟨.none, he⟩, ⟨_, hit, rfl, rfl⟩, Nat.succ_ne_self _, fun z => ?_, Nat.ne_of_lt hal⟩, fun b hb => ?_, q⟩
      · rw [← z] at hal
        exact absurd hal (Nat.not_lt.mpr (Nat.le_succ _))
      · have hle : s1.heap.objs.size ≤ b := by
          rcases (show b = s1.heap.objs.size + 1 ∨ b = s1.heap.objs.size by simpa using hb) with z | z
          · rw [z]
            exact Nat.le_succ _
          · exact Nat.le_of_eq z.symm
        exact I1.fpOk hle (I1.hok.fresh hle)
/-- a comprehension over it -/
theorem lc_enum1 {K : PySem.W.Frag} {a : Addr} {xs : List V} {g : TG} {tt : TT} {te : TE} {vs : List Nat} {σ : L2.St} {H1 : Hp} {D : Addr} {Qd : Hp → Prop} (Pv : Nat → Hp → Prop) (h0 : Pv 0 (upd H1 D (.lst []))) (hl : ∀ i H, i ≤ xs.length → Pv i H → SqL K H a xs)
    (hs : ∀ i x H T, xs[i]? = some x → Pv i H → H T = none → g (.ref T) (wipe σ vs) (upd H T (.tup [.int (1 + (i : Int)), x])) fun σ2 H2 => wipe σ2 vs = wipe σ vs ∧ tt σ2 H2 fun b H3 =>
      if b = true then te σ2 H3 fun y H4 => ∃ acc, H4 D = some (.lst acc) ∧ acc.length < sizeLine ∧ Pv (i + 1) (upd H4 D (.lst (acc ++ [y]))) else Pv (i + 1) H3) (hd : ∀ H, Pv xs.length H → Qd H) :
    ∃ W : Nat → Nat → Hp → Prop, (∃ m, W 0 m (upd H1 D (.lst []))) ∧ ∀ i m H, W i m H →
      ((Ite1 K a).stop i H ∧ Qd H) ∨ ((Ite1 K a).go i H ∧ ∃ Nx : Hp → Prop, (∀ H', Nx H' → ∃ m', m' < m ∧ W (i + 1) m' H') ∧ ∀ x H', (Ite1 K a).yld i H x H' → g x (wipe σ vs) H' fun σ2 H2 => wipe σ2 vs = wipe σ vs ∧ tt σ2 H2 fun b H3 =>
        if b = true then te σ2 H3 fun y H4 => ∃ acc, H4 D = some (.lst acc) ∧ acc.length < sizeLine ∧ Nx (upd H4 D (.lst (acc ++ [y]))) else Nx H3) := by
  refine ⟨fun i m H => m = xs.length - i ∧ i ≤ xs.length ∧ Pv i H, ⟨xs.length, by simp, Nat.zero_le _, h0⟩, ?_⟩
  rintro i m H ⟨rfl, hi, p⟩
  have q := hl i H hi p
  by_cases hlt : i < xs.length
  · refine .inr ⟨⟨xs, xs[i], q, by simp [hlt]⟩, Pv (i + 1), fun H' p' => ⟨xs.length - (i + 1), by omega, rfl, hlt, p'⟩, fun x H' y => ?_⟩
    obtain ⟨T, x', rfl, hT, rfl, y⟩ := y
    exact hs i x' H T (y xs q) p hT
  · have e : i = xs.length := by omega
    subst e
    exact .inl ⟨⟨xs, q, rfl⟩, hd H p⟩
end Rt
/-! ## G7 -/
set_option Elab.async false
set_option linter.all false
set_option maxRecDepth 100000
set_option maxHeartbeats 4000000
namespace Rt
open PySem PySem.Spec PyProof.Rows L2
open L2H (RoomH roomH_of)
/-! ### a new tuple that is known to bear no dict of its own; dict() of one that holds pairs -/
/-- tuple(xs) of a list: new, and bare -/
def rTupBare (K : PySem.W.Frag) : List V → Hp → VK → Prop := fun xs H Q => ∃ (p : Addr) (ys : List V), xs = [.ref p] ∧ SqL K H p ys ∧ ∀ (l : Addr) (o : Obj), H l = none → o.dict = none → Q (.ref l) (upd H l (.frz o (.tup ys)))
/-- dict(t) of a bare tuple of pairs -/
def rDictPT (K : PySem.W.Frag) : List V → Hp → VK → Prop := fun xs H Q => ∃ (a : Addr) (o : Obj) (ps : List Addr) (kvs : List (Key × V)), xs = [.ref a] ∧ H a = some (.frz o (.tup (ps.map V.ref))) ∧ o.dict = none ∧ Paired (fun p kv => SqT K H p [kV kv.1, kv.2]) ps kvs ∧
    ∀ p, H p = none → Q (.ref p) (upd H p (.dK (mergeK [] kvs)))
section
variable {X : Cx}
theorem cr_tupBare : CallR X (.type "tuple") (rTupBare X.K) := by
  intro pins s σ H xs us Q I r h
  obtain ⟨p, ys, rfl, hq, q⟩ := h
  obtain ⟨u, rfl, rx⟩ := vals1 r
  cases rx
  obtain ⟨its, rv, pl, hz⟩ := I.list hq
  have hl := rv.length
  refine call_tuple_list pl.isList (fun h' kp => ?_) (by simp only [List.size_toArray] <;> omega)
  have I1 : Inv X pins σ H { s with heap := h' } := I.kept (t' := s.toks) kp
  have I2 : Inv X pins σ (upd H h'.objs.size (.frz { cls := .type "tuple", data := .seq its.toArray } (.tup ys))) { s with heap := h'.push { cls := .type "tuple", data := .seq its.toArray } } :=
    I1.laid (t' := s.toks) (fun b o e => Heap.get?_push_of_some _ e) (Nat.le_refl _) ⟨Heap.get?_push_size _ rfl, hz, its, rv, IsTup.new _ _⟩
  exact ⟨.ref h'.objs.size, _, I2, rfl, q _ _ (I1.hok.fresh (Nat.le_refl _)) rfl⟩
theorem vps_of {pins : List (Addr × Obj)} {σ : St} {H : Hp} {s : Shared} (I : L2.Inv X pins σ H s) : ∀ {ps : List Addr} {kvs : List (Key × V)}, Paired (fun p kv => SqT X.K H p [kV kv.1, kv.2]) ps kvs →
    ∃ (vps : List (Value × Value)) (prs : List (Key × Value)), KV kvs prs ∧ vps.length = ps.length ∧ prs.length = ps.length ∧ (∀ (j : Nat) (k v : Value), vps[j]? = some (k, v) → ∃ b, ps[j]? = some b ∧ IsTup s.heap b #[k, v]) ∧
      ∀ (j : Nat) (k v : Value), vps[j]? = some (k, v) → ∃ key, prs[j]? = some (key, v) ∧ keyIs key k = true
  | _, _, .nil => ⟨[], [], .nil, rfl, rfl, fun j k v e => by simp at e, fun j k v e => by simp at e⟩
  | _, _, .cons (a := p) (b := kv) h t => by
    obtain ⟨vps, prs, r, hv, hl, hp, hk⟩ := vps_of I t
    obtain ⟨its, rv, ht, _⟩ := I.tuple h
    obtain ⟨u, y, ei, ru, ry⟩ := vals2 rv
    subst ei
    refine ⟨(u, y) :: vps, (kv.1, y) :: prs, .cons ⟨rfl, ry⟩ r, by rw [List.length_cons, List.length_cons, hv], by rw [List.length_cons, List.length_cons, hl], fun j k v e => ?_, fun j k v e => ?_⟩
    · cases j with
      | zero =>
        have e' : (u, y) = (k, v) := Option.some.inj e
        cases e'
        exact ⟨p, rfl, ht⟩
      | succ j =>
        obtain ⟨b, e1, e2⟩ := hp j k v (by simpa using e)
        exact ⟨b, by simpa using e1, e2⟩
    · cases j with
      | zero =>
        have e' : (u, y) = (k, v) := Option.some.inj e
        cases e'
        exact ⟨kv.1, rfl, kV_is (P := X.prog) (w := X.w) ru⟩
      | succ j =>
        obtain ⟨key, e1, e2⟩ := hk j k v (by simpa using e)
        exact ⟨key, by simpa using e1, e2⟩
theorem cr_dictPT (hcalm : X.calm = true := by rfl) : CallR X (.type "dict") (rDictPT X.K) := by
  intro pins s σ H xs us Q I r q
  obtain ⟨a, o, ps, kvs, rfl, hq, hod, hp, q⟩ := q
  obtain ⟨u, rfl, rx⟩ := vals1 r
  cases rx
  obtain ⟨ho, hz, its, rv, o2, ho2, hc, n, hdat⟩ := (show ObjOk X.prog X.w H s.heap a (.frz o (.tup (ps.map V.ref))) from I.hok a _ hq)
  have ei := refs_at rv
  subst ei
  rw [ho] at ho2
  cases ho2
  rw [List.length_map] at hz
  obtain ⟨vps, prs, rel, hv, hl, hpr, hkey⟩ := vps_of I hp
  have P := PySem.PairArg.tuple (prog := X.prog) (w := X.w) a (ps.map Value.ref).toArray (fun j => ps.getD j 0) vps
  refine PySem.call_dict_pairs (knd := mixKind X.prog X.w) (kvs := prs) P (I.ok.hd hcalm) ⟨⟨o, n, ho, hc, hod, hdat⟩, by rw [List.size_toArray, List.length_map, hv], fun j k v e => ?_⟩ ⟨by rw [hl, hv], fun j k v e => hkey j k v e⟩ (by rw [hv]; exact hz) fun h' tk hd' k => ?_
  · obtain ⟨b, e1, e2⟩ := hpr j k v e
    have e3 : ps.getD j 0 = b := by rw [List.getD_eq_getElem?_getD, e1]; rfl
    refine ⟨?_, .inl ?_⟩
    · show (ps.map Value.ref).toArray[j]? = some (.ref (ps.getD j 0))
      rw [e3, List.getElem?_toArray, List.getElem?_map, e1]
      rfl
    · show s.heap.IsTuple (ps.getD j 0) #[k, v]
      rw [e3]
      exact e2
  · have hm : (s.heap.objs.size == sysModules) = false := beq_eq_false_iff_ne.mpr (Nat.ne_of_gt I.big)
    have hlen : (mergeK [] kvs).length ≤ sizeLine := by
      refine Nat.le_trans (length_mergeK kvs []) ?_
      rw [List.length_nil, Nat.zero_add, rel.length, hl]
      exact hz
    exact ⟨.ref s.heap.objs.size, upd H s.heap.objs.size (.dK (mergeK [] kvs)), I.laid (t' := tk) (fun b o e => k b o (by simp) e) (Nat.le_refl _) (show ObjOk X.prog X.w _ _ _ (.dK (mergeK [] kvs)) from ⟨hlen, hm, merged [] prs, KV.merge rel .nil, hd'⟩), rfl, q _ (I.hok.fresh (Nat.le_refl _))⟩
end
end Rt
/-! ## G8 -/
set_option Elab.async false
set_option linter.all false
set_option maxRecDepth 100000
set_option maxHeartbeats 4000000
namespace Rt
open PySem PySem.Spec PyProof.Rows
open L2H (RoomH roomH_of)
/-! ### dict(zip(a, b)), a and b each a list or a tuple -/
section
variable {prog : Program} {w : World} {A : Around} {E : Value → Shared → Prop} {s : Shared} {z TI TO T i1 i2 : Addr} {fp1 fp2 : List Addr} {n1 n2 i : Nat} {P1 P2 : Nat → Value → Prop} {St1 St2 : Nat → Heap → Prop} {f : Bool} {oT : Obj}
theorem zd_item {Q : Value → Shared → Prop} (S : ZipSep2 z TI TO i1 i2 fp1 fp2) (D1 : Draws prog w A i1 fp1 n1 P1 St1) (D2 : Draws prog w A i2 fp2 n2 P2 St2)
    (hz : IsZipHeld s.heap z TI TO T f) (hT : s.heap.get? T = some oT) (hTI : IsTupOf2 s.heap TI (.ref i1) (.ref i2)) (st1 : St1 i s.heap) (st2 : St2 i s.heap) (l1 : i < n1) (l2 : i < n2)
    (hQ : ∀ x1 x2 h' tk, P1 i x1 → P2 i x2 → IsZipHeld h' z TI TO T true → St1 (i + 1) h' → St2 (i + 1) h' → IsTupOf2 h' s.heap.objs.size x1 x2 → h'.objs.size = s.heap.objs.size + 1 →
      (∀ c o, c ≠ z → c ≠ i1 → c ≠ i2 → s.heap.get? c = some o → h'.get? c = some o) → Q (.ref s.heap.objs.size) { s with heap := h', toks := tk }) :
    wpAny (model prog w) A (Builtin.«zip.__next__» ⟨[.ref z], []⟩) (fun fin s' => ∃ v, fin = .done (.ret v) ∧ Q v s') E s := by
  obtain ⟨hp, g, d, tk0, os⟩ := s
  show wpAny _ _ (field (.ref z) 2 >>= _) _ _ _
  refine wpAny_bind (wpAny_field hz rfl (x := .bool false) rfl ?_)
  show wpAny _ _ (field (.ref z) 3 >>= _) _ _ _
  refine wpAny_bind (wpAny_field hz rfl (x := .ref TI) rfl ?_)
  refine wpAny_bind (wpAny_seqItems hTI rfl ?_)
  show wpAny _ _ (Builtin.SmallTypes.ownedTupleIsFree (.ref z) >>= _) _ _ _
  refine wpAny_bind (wpAny_tupleHeld_zip hz hT fun g0 hz0 hs0 => ?_)
  replace hs0 : Heap.SameBut z hp g0 := hs0
  simp only [Bool.false_eq_true, if_false]
  refine wpAny_bind ?_
  rw [← Array.forIn_toList]
  simp only [List.forIn_cons, List.forIn_nil]
  refine wpAny_bind (wpAny_bind (wpAny_holding ?_))
  show wpAny _ _ (Builtin.SmallTypes.nextOf (.ref i1) >>= _) _ _ ⟨g0, g, d, tk0, os⟩
  refine wpAny_bind (D1.item i _ _ _ l1 (D1.over st1 hs0 S.zf1) fun x1 p1 tk1 hx1 sn1 hp1 => wpAny_pure ?_)
  replace hp1 : Heap.SameBut i1 g0 p1 := hp1
  refine wpAny_pure ?_
  refine wpAny_bind (wpAny_bind (wpAny_holding ?_))
  show wpAny _ _ (Builtin.SmallTypes.nextOf (.ref i2) >>= _) _ _ ⟨p1, g, d, tk1, os⟩
  refine wpAny_bind (D2.item i _ _ _ l2 (D2.over (D2.over st2 hs0 S.zf2) hp1 S.sep1_2) fun x2 p2 tk2 hx2 sn2 hp2 => wpAny_pure ?_)
  replace hp2 : Heap.SameBut i2 p1 p2 := hp2
  refine wpAny_pure (wpAny_pure ?_)
  show wpAny _ _ (newTuple [x1, x2] >>= _) _ _ _
  refine wpAny_bind (wpAny_newTuple ?_)
  have hsz : p2.objs.size = hp.objs.size := by rw [hp2.1, hp1.1, hs0.1]
  have hz3 : IsZipHeld p2 z TI TO T true := hp2.extBut _ _ S.zi2 (hp1.extBut _ _ S.zi1 hz0)
  have hk : ∀ c o, c ≠ z → c ≠ i1 → c ≠ i2 → hp.get? c = some o → p2.get? c = some o := fun c o c1 c2 c3 e => hp2.extBut _ _ c3 (hp1.extBut _ _ c2 (hs0.extBut _ _ c1 e))
  have hj1 : St1 (i + 1) p2 := D1.over sn1 hp2 S.sep2_1
  refine wpAny_pure ⟨_, rfl, ?_⟩
  show Q (.ref p2.objs.size) ⟨p2.push { cls := .type "tuple", data := .seq #[x1, x2] }, g, d, tk2, os⟩
  have hpt : IsTupOf2 (p2.push { cls := .type "tuple", data := .seq #[x1, x2] }) p2.objs.size x1 x2 := Heap.get?_push_size _ rfl
  have hz4 : (p2.push { cls := .type "tuple", data := .seq #[x1, x2] }).objs.size = p2.objs.size + 1 := Heap.size_push ..
  rw [hsz] at hpt hz4 ⊢
  exact hQ x1 x2 _ tk2 hx1 hx2 (Heap.get?_push_of_some _ hz3) (D1.frame _ _ _ hj1 fun b _ o e => Heap.get?_push_of_some _ e) (D2.frame _ _ _ sn2 fun b _ o e => Heap.get?_push_of_some _ e) hpt hz4 fun c o c1 c2 c3 e => Heap.get?_push_of_some _ (hk c o c1 c2 c3 e)
theorem zd_end {Q : Fin → Shared → Prop} (S : ZipSep2 z TI TO i1 i2 fp1 fp2) (D1 : Draws prog w A i1 fp1 n1 P1 St1) (D2 : Draws prog w A i2 fp2 n2 P2 St2)
    (hz : IsZipHeld s.heap z TI TO T f) (hT : s.heap.get? T = some oT) (hTI : IsTupOf2 s.heap TI (.ref i1) (.ref i2)) (st1 : St1 i s.heap) (st2 : St2 i s.heap) (l1 : i ≤ n1) (l2 : i ≤ n2) (he : i = n1 ∨ i = n2)
    (hE : ∀ h' tk e, (∀ c o, c ≠ z → c ≠ i1 → c ≠ i2 → s.heap.get? c = some o → h'.get? c = some o) → (∃ o, h'.get? e = some o ∧ o.cls = .type "StopIteration") → E (.ref e) { s with heap := h', toks := tk }) :
    wpAny (model prog w) A (Builtin.«zip.__next__» ⟨[.ref z], []⟩) Q E s := by
  obtain ⟨hp, g, d, tk0, os⟩ := s
  show wpAny _ _ (field (.ref z) 2 >>= _) _ _ _
  refine wpAny_bind (wpAny_field hz rfl (x := .bool false) rfl ?_)
  show wpAny _ _ (field (.ref z) 3 >>= _) _ _ _
  refine wpAny_bind (wpAny_field hz rfl (x := .ref TI) rfl ?_)
  refine wpAny_bind (wpAny_seqItems hTI rfl ?_)
  show wpAny _ _ (Builtin.SmallTypes.ownedTupleIsFree (.ref z) >>= _) _ _ _
  refine wpAny_bind (wpAny_tupleHeld_zip hz hT fun g0 hz0 hs0 => ?_)
  replace hs0 : Heap.SameBut z hp g0 := hs0
  simp only [Bool.false_eq_true, if_false]
  refine wpAny_bind ?_
  rw [← Array.forIn_toList]
  simp only [List.forIn_cons, List.forIn_nil]
  refine wpAny_bind (wpAny_bind (wpAny_holding ?_))
  show wpAny _ _ (Builtin.SmallTypes.nextOf (.ref i1) >>= _) _ _ ⟨g0, g, d, tk0, os⟩
  by_cases h1 : i < n1
  · refine wpAny_bind (D1.item i _ _ _ h1 (D1.over st1 hs0 S.zf1) fun x1 p1 tk1 hx1 sn1 hp1 => wpAny_pure ?_)
    replace hp1 : Heap.SameBut i1 g0 p1 := hp1
    have hi2 : i = n2 := by omega
    refine wpAny_pure ?_
    refine wpAny_bind (wpAny_bind (wpAny_holding ?_))
    show wpAny _ _ (Builtin.SmallTypes.nextOf (.ref i2) >>= _) _ _ ⟨p1, g, d, tk1, os⟩
    refine wpAny_bind (D2.done ⟨p1, g, d, tk1, os⟩ _ _ (by rw [← hi2]; exact D2.over (D2.over st2 hs0 S.zf2) hp1 S.sep1_2) fun q e hq hx => ?_)
    exact hE q tk1 e (fun c o c1 c2 c3 x => hq _ _ c3 (hp1.extBut _ _ c2 (hs0.extBut _ _ c1 x))) hx
  · have hi1 : i = n1 := by omega
    refine wpAny_bind (D1.done ⟨g0, g, d, tk0, os⟩ _ _ (by rw [← hi1]; exact D1.over st1 hs0 S.zf1) fun q e hq hx => ?_)
    exact hE q tk0 e (fun c o c1 c2 _ x => hq _ _ c2 (hs0.extBut _ _ c1 x)) hx
theorem zd_nextItem {Q : Option Value → Shared → Prop} (S : ZipSep2 z TI TO i1 i2 fp1 fp2) (D1 : Draws prog w A.in1 i1 fp1 n1 P1 St1) (D2 : Draws prog w A.in1 i2 fp2 n2 P2 St2)
    (hz : IsZipHeld s.heap z TI TO T f) (hT : s.heap.get? T = some oT) (hTI : IsTupOf2 s.heap TI (.ref i1) (.ref i2)) (st1 : St1 i s.heap) (st2 : St2 i s.heap) (l1 : i < n1) (l2 : i < n2)
    (hQ : ∀ x1 x2 h' tk, P1 i x1 → P2 i x2 → IsZipHeld h' z TI TO T true → St1 (i + 1) h' → St2 (i + 1) h' → IsTupOf2 h' s.heap.objs.size x1 x2 → h'.objs.size = s.heap.objs.size + 1 →
      (∀ c o, c ≠ z → c ≠ i1 → c ≠ i2 → s.heap.get? c = some o → h'.get? c = some o) → Q (some (.ref s.heap.objs.size)) { s with heap := h', toks := tk }) :
    wpAny (model prog w) A (pyNext (.ref z)) Q E s := by
  have hTy : s.TypeIs (.ref z) "zip" := ⟨_, hz, rfl⟩
  unfold pyNext
  exact wpAny_bind (wpAny_attempt (wpAny_callSpecial?_slot (name := Str.ofString "__next__") hTy F.slot_zip_next
    (wpAny_call_entry F.slot_zip_next hTy F.entry_zip_next
      (zd_item S D1 D2 hz hT hTI st1 st2 l1 l2 fun x1 x2 h' tk y1 y2 b1 b2 b3 b4 b5 b6 => wpAny_pure (hQ x1 x2 h' tk y1 y2 b1 b2 b3 b4 b5 b6)) (F.args_zip_next_1 _))))
theorem zd_nextEnd {Q : Option Value → Shared → Prop} (S : ZipSep2 z TI TO i1 i2 fp1 fp2) (D1 : Draws prog w A.in1 i1 fp1 n1 P1 St1) (D2 : Draws prog w A.in1 i2 fp2 n2 P2 St2)
    (hz : IsZipHeld s.heap z TI TO T f) (hT : s.heap.get? T = some oT) (hTI : IsTupOf2 s.heap TI (.ref i1) (.ref i2)) (st1 : St1 i s.heap) (st2 : St2 i s.heap) (l1 : i ≤ n1) (l2 : i ≤ n2) (he : i = n1 ∨ i = n2)
    (hQ : ∀ h' tk, (∀ c o, c ≠ z → c ≠ i1 → c ≠ i2 → s.heap.get? c = some o → h'.get? c = some o) → Q none { s with heap := h', toks := tk }) : wpAny (model prog w) A (pyNext (.ref z)) Q E s := by
  have hTy : s.TypeIs (.ref z) "zip" := ⟨_, hz, rfl⟩
  unfold pyNext
  refine wpAny_bind (wpAny_attempt (wpAny_callSpecial?_slot (name := Str.ofString "__next__") hTy F.slot_zip_next
    (wpAny_call_entry F.slot_zip_next hTy F.entry_zip_next (zd_end S D1 D2 hz hT hTI st1 st2 l1 l2 he fun h' tk e hk hx => ?_) (F.args_zip_next_1 _))))
  obtain ⟨o, ho, hc⟩ := hx
  refine wpAny_bind (wpAny_isInstance (T := "StopIteration") (b := true) ⟨o, ho, hc⟩ isSubtype_stop ?_)
  exact wpAny_pure (hQ _ _ hk)
end
/-- what a side of the zip is: a's items, drawn by a new iterator o -/
structure ZSide (prog : Program) (w : World) (a : Addr) (items : Array Value) (o : Obj) (H : Heap → Prop) (St : Addr → Nat → Heap → Prop) : Prop where
  begins : Begins (.ref a) o H
  draws : ∀ (A : Around) (it : Addr), A.handled = none → a ≠ it → Draws prog w A it [it, a] items.size (fun i v => items[i]? = some v) (St it)
  start : ∀ it h, h.get? it = some o → H h → St it 0 h
  there : ∀ it i h, St it i h → (∃ u, h.get? it = some u) ∧ ∃ u, h.get? a = some u
  frame : ∀ it i h h', St it i h → (∀ c ∈ [it, a], ∀ u, h.get? c = some u → h'.get? c = some u) → St it i h'
theorem zside_list {prog : Program} {w : World} (a : Addr) (items : Array Value) : ZSide prog w a items { cls := .type "list_iterator", data := .fields #[.ref a, .int 0 0] } (fun h => h.IsList a items) (fun it i h => h.IsListIter it a i ∧ h.IsList a items) where
  begins := begins_list a items
  draws := fun A it hh hne => Draws.list hh it a hne items
  start := fun it h e l => ⟨⟨_, e, rfl, rfl⟩, l⟩
  there := fun it i h st => let ⟨⟨u, e, _⟩, ⟨v, e', _⟩⟩ := st; ⟨⟨u, e⟩, ⟨v, e'⟩⟩
  frame := fun it i h h' st k => ⟨st.1.at fun u e => k it (by simp) u e, st.2.at fun u e => k a (by simp) u e⟩
theorem zside_tuple {prog : Program} {w : World} (a : Addr) (items : Array Value) : ZSide prog w a items { cls := .type "tuple_iterator", data := .fields #[.ref a, .int 0 0] } (fun h => h.IsTuple a items) (fun it i h => h.IsTupleIter it a i ∧ h.IsTuple a items) where
  begins := begins_tuple a items
  draws := fun A it hh hne => Draws.tuple hh it a hne items
  start := fun it h e l => ⟨⟨_, e, rfl, rfl⟩, l⟩
  there := fun it i h st => let ⟨⟨u, e, _⟩, ⟨v, e', _⟩⟩ := st; ⟨⟨u, e⟩, ⟨v, e'⟩⟩
  frame := fun it i h h' st k => ⟨st.1.at fun u e => k it (by simp) u e, st.2.at fun u e => k a (by simp) u e⟩
theorem zd_arg {prog : Program} {w : World} {z TI TO i1 i2 a b : Addr} {xs ys : Array Value} {o1 o2 : Obj} {H1 H2 : Heap → Prop} {St1 St2 : Addr → Nat → Heap → Prop} (S : ZipSep2 z TI TO i1 i2 [i1, a] [i2, b]) (Z1 : ZSide prog w a xs o1 H1 St1) (Z2 : ZSide prog w b ys o2 H2 St2) (n1 : a ≠ i1) (n2 : b ≠ i2) :
    PairArg prog w "zip" z [z, TI, TO, i1, a, i2, b] [z, TO, i1, i2] (min xs.size ys.size) (fun i k v => xs[i]? = some k ∧ ys[i]? = some v)
      (fun h => IsZip h z TI TO .none ∧ IsTupOf2 h TI (.ref i1) (.ref i2) ∧ (∃ c d, IsTupOf2 h TO c d) ∧ St1 i1 0 h ∧ St2 i2 0 h) where
  type := fun s ok => ⟨_, ok.1, rfl⟩
  notDict := by decide
  keep := fun h h' ok hk => by
    obtain ⟨hz, hTI, ⟨c, d, hTO⟩, st1, st2⟩ := ok
    exact ⟨hk _ _ hz, hk _ _ hTI, ⟨c, d, hk _ _ hTO⟩, Z1.frame _ _ _ _ st1 fun c _ u e => hk c u e, Z2.frame _ _ _ _ st2 fun c _ u e => hk c u e⟩
  there := fun h ok c hc => by
    obtain ⟨hz, hTI, ⟨d, e, hTO⟩, st1, st2⟩ := ok
    obtain ⟨t1, t2⟩ := Z1.there _ _ _ st1
    obtain ⟨t3, t4⟩ := Z2.there _ _ _ st2
    simp only [List.mem_cons, List.not_mem_nil, or_false] at hc
    rcases hc with rfl | rfl | rfl | rfl | rfl | rfl | rfl
    · exact ⟨_, hz⟩
    · exact ⟨_, hTI⟩
    · exact ⟨_, hTO⟩
    · exact t1
    · exact t2
    · exact t3
    · exact t4
  sub := fun c hc => by simp at hc ⊢; rcases hc with rfl | rfl | rfl | rfl <;> simp
  noKeys := fun A s Q E hA ok h => getAttrOr_miss_zip ok.1 rfl rfl rfl zip_no_keys (by decide +kernel) hA h
  iter := fun A s d Q E hA ok hd hdf h => by
    obtain ⟨hz, hTI, ⟨c1, c2, hTO⟩, st1, st2⟩ := ok
    simp only [List.mem_cons, List.not_mem_nil, or_false, not_or] at hdf
    obtain ⟨dz, dTI, dTO, di1, da, di2, db⟩ := hdf
    have D1 := Z1.draws A.in1 i1 hA n1
    have D2 := Z2.draws A.in1 i2 hA n2
    have f1 : ∀ c ∈ [i1, a], c ≠ d := fun c hc e => by
      subst e
      simp only [List.mem_cons, List.not_mem_nil, or_false] at hc
      rcases hc with hc | hc
      · exact di1 hc
      · exact da hc
    have f2 : ∀ c ∈ [i2, b], c ≠ d := fun c hc e => by
      subst e
      simp only [List.mem_cons, List.not_mem_nil, or_false] at hc
      rcases hc with hc | hc
      · exact di2 hc
      · exact db hc
    refine wpAny_pyIter_zip hz (h z [z, TO, i1, i2] (fun i h => IsTupOf2 h TI (.ref i1) (.ref i2) ∧ St1 i1 i h ∧ St2 i2 i h ∧
      ((IsZip h z TI TO .none ∧ ∃ c d, IsTupOf2 h TO c d) ∨ ∃ T f oT, IsZipHeld h z TI TO T f ∧ h.get? T = some oT ∧ T ≠ z ∧ T ≠ i1 ∧ T ≠ i2 ∧ T ≠ d)) s.heap s.toks ?_
      ⟨hTI, st1, st2, .inl ⟨hz, c1, c2, hTO⟩⟩ (fun _ _ e => e) fun b hb => .inl hb)
    exact {
      off := fun hm => by
        simp only [List.mem_cons, List.not_mem_nil, or_false] at hm
        rcases hm with e | e | e | e
        · exact dz e
        · exact dTO e
        · exact di1 e
        · exact di2 e
      frame := fun i h₁ h₂ st hk => by
        obtain ⟨hTI, st1, st2, hz⟩ := st
        refine ⟨hk _ _ (Ne.symm dTI) hTI, Z1.frame _ _ _ _ st1 fun c hc u e => hk c u (f1 c hc) e, Z2.frame _ _ _ _ st2 fun c hc u e => hk c u (f2 c hc) e, ?_⟩
        rcases hz with ⟨hz, c, d', hTO⟩ | ⟨T, f, oT, hz, hT, r1, r2, r3, r4⟩
        · exact .inl ⟨hk _ _ (Ne.symm dz) hz, c, d', hk _ _ (Ne.symm dTO) hTO⟩
        · exact .inr ⟨T, f, oT, hk _ _ (Ne.symm dz) hz, hk _ _ r4 hT, r1, r2, r3, r4⟩
      item := fun i s₁ Q₁ E₁ hi st hds hQ => by
        obtain ⟨hTI, st1, st2, hz⟩ := st
        have hix : i < xs.size := Nat.lt_of_lt_of_le hi (Nat.min_le_left ..)
        have hiy : i < ys.size := Nat.lt_of_lt_of_le hi (Nat.min_le_right ..)
        have lt : ∀ {c o}, s₁.heap.get? c = some o → s₁.heap.objs.size ≠ c := fun e => Nat.ne_of_gt (Heap.lt_size e)
        have m1 : s₁.heap.objs.size ≠ i1 := let ⟨⟨_, e⟩, _⟩ := Z1.there _ _ _ st1; lt e
        have m2 : s₁.heap.objs.size ≠ i2 := let ⟨⟨_, e⟩, _⟩ := Z2.there _ _ _ st2; lt e
        rcases hz with ⟨hz, c, d', hTO⟩ | ⟨T, f, oT, hz, hT, r1, r2, r3, r4⟩
        · refine wpAny_pyNext_zipD2_item S D1 D2 hz hTI hTO st1 st2 hix hiy fun x1 x2 h' tk ex ey a1 a2 a3 a4 a5 a6 hk => ?_
          exact hQ s₁.heap.objs.size _ _ h' tk ⟨ex, ey⟩ (.inl ⟨_, a5, rfl, _, rfl⟩)
            ⟨hk _ _ S.TIz S.TITO S.TIi1 S.TIi2 hTI, a3, a4, .inr ⟨s₁.heap.objs.size, false, _, a1, a5, lt hz, m1, m2, Nat.ne_of_gt hds⟩⟩
            fun c o hc e => hk c o (fun x => hc (by simp [x])) (fun x => hc (by simp [x])) (fun x => hc (by simp [x])) (fun x => hc (by simp [x])) e
        · refine zd_nextItem S D1 D2 hz hT hTI st1 st2 hix hiy fun x1 x2 h' tk ex ey a1 a3 a4 a5 a6 hk => ?_
          exact hQ s₁.heap.objs.size _ _ h' tk ⟨ex, ey⟩ (.inl ⟨_, a5, rfl, _, rfl⟩)
            ⟨hk _ _ S.TIz S.TIi1 S.TIi2 hTI, a3, a4, .inr ⟨T, true, oT, a1, hk _ _ r1 r2 r3 hT, r1, r2, r3, r4⟩⟩
            fun c o hc e => hk c o (fun x => hc (by simp [x])) (fun x => hc (by simp [x])) (fun x => hc (by simp [x])) e
      done := fun s₁ Q₁ E₁ st hQ => by
        obtain ⟨hTI, st1, st2, hz⟩ := st
        have l1 : min xs.size ys.size ≤ xs.size := Nat.min_le_left ..
        have l2 : min xs.size ys.size ≤ ys.size := Nat.min_le_right ..
        have he : min xs.size ys.size = xs.size ∨ min xs.size ys.size = ys.size := by omega
        rcases hz with ⟨hz, c, d', hTO⟩ | ⟨T, f, oT, hz, hT, r1, r2, r3, r4⟩
        · exact wpAny_pyNext_zipD2_end S D1 D2 hz hTI hTO st1 st2 l1 l2 he fun h' tk hk => hQ h' tk fun c o hc e => hk c o (fun x => hc (by simp [x])) (fun x => hc (by simp [x])) (fun x => hc (by simp [x])) (fun x => hc (by simp [x])) e
        · exact zd_nextEnd S D1 D2 hz hT hTI st1 st2 l1 l2 he fun h' tk hk => hQ h' tk fun c o hc e => hk c o (fun x => hc (by simp [x])) (fun x => hc (by simp [x])) (fun x => hc (by simp [x])) e }
open L2
/-- a list or a tuple -/
def Sq (H : Hp) (a : Addr) (xs : List V) : Prop := H a = some (.lst xs) ∨ H a = some (.tup xs)
def tDictZ (ta : TA) : TE := fun σ H Q => ta σ H fun vs H1 => ∃ (a b : Addr) (ks : List Str) (us : List V), vs = [.ref a, .ref b] ∧ Sq H1 a (ks.map V.str) ∧ Sq H1 b us ∧ ks.length ≤ 1000 ∧ us.length ≤ 1000 ∧
  ∀ p, H1 p = none → Q (.ref p) (upd H1 p (.dK (mergeK [] ((ks.map Sum.inr).zip us))))
section
variable {X : Cx} {pins : List (Addr × Obj)} {σ : L2.St} {H : Hp} {s : Shared}
theorem zside_of (I : L2.Inv X pins σ H s) {a : Addr} {xs : List V} (h : Sq H a xs) : ∃ (its : List Value) (o : Obj) (Hh : Heap → Prop) (St : Addr → Nat → Heap → Prop), Vals xs its ∧ ZSide X.prog X.w a its.toArray o Hh St ∧ Hh s.heap ∧ a < s.heap.objs.size := by
  rcases h with h | h
  · obtain ⟨its, rv, p, _⟩ := I.list (SqL.of h)
    exact ⟨its, _, _, _, rv, zside_list a its.toArray, p.isList, p.lt⟩
  · obtain ⟨its, rv, p, _⟩ := I.tuple (SqT.of h)
    obtain ⟨o, ho, _⟩ := id p
    exact ⟨its, _, _, _, rv, zside_tuple a its.toArray, p, Heap.lt_size ho⟩
theorem kv_zip : ∀ {ks : List Str} {us : List V} {vs : List Value}, Vals us vs → KV ((ks.map (Sum.inr : Str → Key)).zip us) ((ks.map (Sum.inr : Str → Key)).zip vs)
  | [], _, _, _ => .nil
  | _ :: _, _, _, .nil => .nil
  | k :: ks, _, _, .cons r t => .cons ⟨rfl, r⟩ (kv_zip (ks := ks) t)
theorem strs_at (P : Program) (w : World) : ∀ {ks : List Str} {its : List Value}, Vals (ks.map V.str) its → its.length = ks.length ∧ ∀ (i : Nat) (v : Value), its[i]? = some v → ∃ k, ks[i]? = some k ∧ keyIs (Sum.inr k) v = true
  | [], _, .nil => ⟨rfl, fun i v e => by simp at e⟩
  | k :: ks, _, .cons (b := u) r t => by
    obtain ⟨h1, h2⟩ := strs_at P w t
    refine ⟨by rw [List.length_cons, List.length_cons, h1], fun i v e => ?_⟩
    cases i with
    | zero =>
      have e' : u = v := by simpa using e
      subst e'
      exact ⟨k, rfl, kV_is (P := P) (w := w) (k := Sum.inr k) r⟩
    | succ i =>
      obtain ⟨k', e1, e2⟩ := h2 i v (by simpa using e)
      exact ⟨k', by simpa using e1, e2⟩
end
section
variable {X : Cx}
theorem pe_dictZip {e1 e2 : Expr} {ta : TA} {p p2 q pos : Pos} (hg : Gl X "dict") (hm : X.mg "dict" = none) (hg2 : Gl X "zip") (hm2 : X.mg "zip" = none) (ha : PA X [e1, e2] ta) (hc : X.calm = true := by rfl)
    (hs : starEach [e1, e2] X.env = (false, eval e1 X.env) :: starEach [e2] X.env := by rfl) (hpl : (backTo q (starEach [e2] X.env)).any (·.1) = false := by rfl)
    (hd : starEach [.Call (.Name "zip" p2) [e1, e2] [] q] X.env = [(false, eval (.Call (.Name "zip" p2) [e1, e2] [] q) X.env)] := by rfl) :
    PE X (.Call (.Name "dict" p) [.Call (.Name "zip" p2) [e1, e2] [] q] [] pos) (tDictZ ta) := by
  refine ⟨fun pins s σ H Q I h => ?_⟩
  have hd2 : starEach [.Call (.Name "zip" p2) [e1, e2] [] q] X.env = (false, eval (.Call (.Name "zip" p2) [e1, e2] [] q) X.env) :: starEach [] X.env := hd
  refine Call_ (ld_blt I hg hm PyProof.Rows.boot_dict (PyProof.Rows.callWith_type1 (args_cons (Call_ (ld_blt I hg2 hm2 PyProof.Rows.boot_zip (PyProof.Rows.callWith_type1 (thn (ha.run q pins s σ H _ I h) fun us s1 ⟨vs, H1, I1, r1, q1⟩ => ?_) hs hpl))) hd2) hd2 rfl))
  obtain ⟨a, b, ks, us2, ev, ha', hb', hk1, hk2, q1⟩ := q1
  subst ev
  cases r1 with
  | cons r rr =>
    cases rr with
    | cons r' rr =>
      cases rr
      cases r
      cases r'
      obtain ⟨xs, o1, Hh1, St1, rv1, Z1, g1, la⟩ := zside_of I1 ha'
      obtain ⟨ys, o2, Hh2, St2, rv2, Z2, g2, lb⟩ := zside_of I1 hb'
      refine zip_begins2 Z1.begins Z2.begins g1 g2 fun h' hz hTI hTO n1 n2 hsz hk => args_nil ?_
      have S : ZipSep2 (s1.heap.objs.size + 4) (s1.heap.objs.size + 2) (s1.heap.objs.size + 3) s1.heap.objs.size (s1.heap.objs.size + 1) [s1.heap.objs.size, a] [s1.heap.objs.size + 1, b] :=
        zip_sep2 (fun c hc => by rw [List.mem_singleton.mp hc]; exact la) (fun c hc => by rw [List.mem_singleton.mp hc]; exact lb)
      have I2 : L2.Inv X pins σ H1 { s1 with heap := h' } := I1.kept (t' := s1.toks) hk
      obtain ⟨hl1, hky⟩ := strs_at X.prog X.w rv1
      have P := zd_arg (prog := X.prog) (w := X.w) S Z1 Z2 (Nat.ne_of_lt la) (Nat.ne_of_lt (Nat.lt_succ_of_lt lb))
      have hl2 : us2.length = ys.length := rv2.length
      have hcnt : ((ks.map (Sum.inr : Str → Key)).zip ys).length = min xs.toArray.size ys.toArray.size := by rw [List.length_zip, List.length_map, List.size_toArray, List.size_toArray, hl1]
      refine PySem.call_dict_pairs (knd := mixKind X.prog X.w) (kvs := (ks.map (Sum.inr : Str → Key)).zip ys) P (I2.ok.hd hc) ⟨hz, hTI, ⟨_, _, hTO⟩, Z1.start _ _ n1 (Z1.begins.keeps _ _ g1 hk), Z2.start _ _ n2 (Z2.begins.keeps _ _ g2 hk)⟩ ⟨hcnt, fun i k v e => ?_⟩ (by rw [← hcnt, List.length_zip, List.length_map, sizeLine_eq]; omega) fun h'' tk hd' k => ?_
      · obtain ⟨x1, x2⟩ := e
        obtain ⟨k', e1, e2⟩ := hky i k (by simpa using x1)
        refine ⟨Sum.inr k', List.getElem?_zip_eq_some.mpr ⟨by rw [List.getElem?_map, e1]; rfl, by simpa using x2⟩, e2⟩
      · have hm' : (h'.objs.size == sysModules) = false := beq_eq_false_iff_ne.mpr (Nat.ne_of_gt I2.big)
        have rel : KV ((ks.map (Sum.inr : Str → Key)).zip us2) ((ks.map (Sum.inr : Str → Key)).zip ys) := kv_zip rv2
        have hlen : (mergeK [] ((ks.map (Sum.inr : Str → Key)).zip us2)).length ≤ sizeLine := by
          refine Nat.le_trans (length_mergeK _ []) ?_
          rw [List.length_nil, List.length_zip, List.length_map, sizeLine_eq]
          omega
        have hle : s1.heap.objs.size ≤ h'.objs.size := by rw [hsz]; exact Nat.le_add_right _ _
        have kk : ∀ c o, s1.heap.get? c = some o → h''.get? c = some o := fun c o e => k c o (fun hm => by
          have hc := Heap.lt_size e
          simp only [List.mem_cons, List.not_mem_nil, or_false] at hm
          rcases hm with z | z | z | z
          · exact absurd hc (Nat.not_lt.mpr (z ▸ Nat.le_add_right _ _))
          · exact absurd hc (Nat.not_lt.mpr (z ▸ Nat.le_add_right _ _))
          · exact absurd hc (Nat.not_lt.mpr (z ▸ Nat.le_refl _))
          · exact absurd hc (Nat.not_lt.mpr (z ▸ Nat.le_add_right _ _))) (hk c o e)
        exact ⟨.ref h'.objs.size, upd H1 h'.objs.size (.dK (mergeK [] ((ks.map Sum.inr).zip us2))), I1.laid (t' := tk) kk hle (show ObjOk X.prog X.w _ _ _ (.dK (mergeK [] _)) from ⟨hlen, hm', merged [] _, KV.merge rel .nil, hd'⟩), rfl, q1 _ (I1.hok.fresh hle)⟩
end
end Rt
/-! ## G9 -/
set_option Elab.async false
set_option linter.all false
set_option maxRecDepth 100000
set_option maxHeartbeats 4000000
namespace Rt
open PySem PySem.Spec PyProof.Rows L2
open L2H (RoomH roomH_of)
/-! ### tuple(d.values()) -/
section
variable {prog : Program} {w : World} {A : Around} {E : Value → Shared → Prop} {s : Shared} {r d : Addr} {n : Nat} {V1 : Nat → Value → Prop} {OK : Heap → Prop}
theorem tv_code {Q₁ : Value → Shared → Prop} (K : PySem.W.KdlSrc prog w "dict_values" r d n V1 OK) (hh : A.handled = none) (hok : OK s.heap) (hn : n ≤ sizeLine)
    (h : ∀ (h' : Heap) (tk : Nat) (acc : Array Value), (∀ b o, s.heap.get? b = some o → h'.get? b = some o) → ItemsOf V1 acc n → Q₁ (.ref h'.objs.size) { s with heap := h'.push { cls := .type "tuple", data := .seq acc }, toks := tk }) :
    codeAny (model prog w) A (.call (.builtin "tuple.__new__") ⟨[.type "tuple", .ref r], []⟩) (wants Q₁ E) s := by
  refine codeAny_of_tree ?_
  show wpAny _ A.in1 (do checkBuiltinCall "tuple.__new__" ⟨[.type "tuple", .ref r], []⟩; again (.builtin "tuple.__new__" ⟨[.type "tuple", .ref r], []⟩)) _ _ s
  refine wpAny_bind (wpAny_of_eq (F.newCall_tuple_1 _) (wpAny_pure ⟨plainId_quiet F.plain_tuple_new _, codeAny_builtin F.entry_tuple_new ?_⟩))
  rw [Around.under_plainId F.plain_tuple_new _]
  have hsub := sub_tuple_self
  have hinit := init_tuple_lookup
  have hmh := madeHere_tuple
  have hTI : s.TypeIs (.ref r) "dict_values" := K.type s hok
  have hh1 : A.in1.handled = none := hh
  wp_walk using wpAny_typeOf hTI, PySem.W.kdu_collect (A := A.in1) K hh1 hok hn
  intro h' tk acc hk hacc
  show wpAny _ _ (Builtin.Tuple.tupleExact acc.toList.toArray >>= fun v => ret v) _ _ _
  unfold Builtin.Tuple.tupleExact
  refine wpAny_bind (wpAny_newObj_type ?_ (by show acc.toList.toArray.size ≤ sizeLine; simp only [Array.toArray_toList]; rw [hacc.1]; exact hn))
  refine wpAny_pure ?_
  have e : acc.toList.toArray = acc := by simp
  rw [e]
  exact h h' tk acc hk hacc
theorem tv_call {Q : Value → Shared → Prop} (K : PySem.W.KdlSrc prog w "dict_values" r d n V1 OK) (hh : A.handled = none) (hok : OK s.heap) (hn : n ≤ sizeLine)
    (hQ : ∀ (h' : Heap) (tk : Nat) (acc : Array Value), (∀ b o, s.heap.get? b = some o → h'.get? b = some o) → ItemsOf V1 acc n → Q (.ref h'.objs.size) { s with heap := h'.push { cls := .type "tuple", data := .seq acc }, toks := tk }) :
    wpAny (model prog w) A (call (.type "tuple") [.ref r]) Q E s := by
  refine callType_codes (Q₁ := fun obj s₁ => s₁.TypeIs obj "tuple" ∧ Q obj s₁) F.called_tuple (F.typeCall_tuple_1 _) F.entry_object_init
    (tv_code (A := A.in1) K hh hok hn fun h' tk acc hk hacc => ⟨⟨_, Heap.get?_push_size _ rfl, rfl⟩, hQ h' tk acc hk hacc⟩) fun obj s₁ h₁ => ?_
  exact ⟨h₁.1, F.args_object_init_2 obj _, object_init_meets F.called_tuple.init.lookup F.called_tuple.made (by decide) prog w A.in1 _ s₁ ⟨h₁.1, rfl, h₁.2⟩⟩
end
def tTupVals (td : TE) : TE := fun σ H Q => td σ H fun x H1 => ∃ (a : Addr) (kvs : List (Key × V)), x = .ref a ∧ H1 a = some (.dK kvs) ∧ kvs.length ≤ 1000 ∧ ∀ p, H1 p = none → Q (.ref p) (upd H1 p (.tup (kvs.map Prod.snd)))
theorem vals_snd : ∀ {kvs : List (Key × V)} {vs : List (Key × Value)}, KV kvs vs → Vals (kvs.map Prod.snd) (vs.map Prod.snd)
  | _, _, .nil => .nil
  | _, _, .cons r t => .cons r.2 (vals_snd t)
section
variable {X : Cx}
theorem pe_tupVals {e : Expr} {td : TE} {p p2 q pos : Pos} (hg : Gl X "tuple") (hm : X.mg "tuple" = none) (hd : PE X e td) (hc : X.calm = true := by rfl)
    (h1 : starEach [.Call (.Attribute e "values" p2) [] [] q] X.env = [(false, eval (.Call (.Attribute e "values" p2) [] [] q) X.env)] := by rfl)
    (h2 : attributeBase e "values" X.env (eval e X.env) = eval e X.env := by rfl) (h3 : (p2.endLine == q.line) = true := by rfl) : PE X (.Call (.Name "tuple" p) [.Call (.Attribute e "values" p2) [] [] q] [] pos) (tTupVals td) := by
  refine ⟨fun pins s σ H Q I h => ?_⟩
  have hs2 : starEach [.Call (.Attribute e "values" p2) [] [] q] X.env = (false, eval (.Call (.Attribute e "values" p2) [] [] q) X.env) :: starEach [] X.env := h1
  refine Call_ (ld_blt I hg hm boot_tuple (PyProof.Rows.callWith_type1 (args_cons (wpAny_Call_method0_late h2 h3 (thn (hd.run pins s σ H _ I h) fun v s1 ⟨x, H1, I1, r1, a, kvs, ex, ha, hl, q1⟩ => ?_)) hs2) hs2 rfl))
  subst ex
  obtain rfl : v = Value.ref a := r1
  obtain ⟨_, hsys, vs, rel, dof⟩ := dk_of I1.hok ha
  obtain ⟨ep, dat⟩ := dof.dictAt
  obtain ⟨ob, es, ho, ex, hdat, hko, hpr, hnd⟩ := id dat
  refine ⟨"dict", "dict.values", F.plainAttrs_dict, F.slot_dict_values, F.type_dict_values, ⟨ob, ho, ex.1⟩, fun b e => ?_, Calls.callWith_builtin rfl (PySem.evalArgs_none ?_)⟩
  · cases e
    exact ⟨ob, ho, ex.2.1⟩
  refine call_meetsIn F.slot_dict_values ⟨ob, ho, ex.1⟩ F.entry_dict_values (F.args_dict_values_1 _) (meets_dict_values (mixKind X.prog X.w) a hsys) ⟨⟨vs, dof⟩, args_nil ?_⟩
  have k1 : ∀ b u, s1.heap.get? b = some u → (s1.heap.push { cls := .type "dict_values", data := .fields #[.ref a] }).get? b = some u := fun b u e => Heap.get?_push_of_some _ e
  have dat1 : (s1.heap.push { cls := .type "dict_values", data := .fields #[.ref a] }).DictAt (mixKind X.prog X.w) a vs ep := dat.keep k1
  have I2 : L2.Inv X pins σ H1 { s1 with heap := s1.heap.push { cls := .type "dict_values", data := .fields #[.ref a] } } := I1.kept (t' := s1.toks) k1
  have hvl : kvs.length = vs.length := KV.length rel
  refine tv_call (PySem.W.kdl_values (knd := mixKind X.prog X.w) (r := s1.heap.objs.size) (d := a) (kvs := vs) (ep := ep)) (I2.ok.hd hc) ⟨⟨_, Heap.get?_push_size _ rfl, rfl, rfl⟩, dat1⟩ (by rw [← hvl, sizeLine_eq]; omega) fun h' tk acc hk hi => ?_
  have I3 : L2.Inv X pins σ H1 { s1 with heap := h', toks := tk } := I2.kept (t' := tk) hk
  have eacc : acc.toList = vs.map Prod.snd := by
    apply List.ext_getElem?
    intro j
    by_cases hj : j < vs.length
    · have hja : j < acc.toList.length := by rw [Array.length_toList, hi.1]; exact hj
      have e1 : acc.toList[j]? = some acc.toList[j] := List.getElem?_eq_getElem hja
      obtain ⟨k, hk2⟩ := hi.2 j acc.toList[j] (by rw [← Array.getElem?_toList]; exact e1)
      rw [e1, List.getElem?_map, hk2]
      rfl
    · rw [List.getElem?_eq_none (by rw [Array.length_toList, hi.1]; omega), List.getElem?_eq_none (by rw [List.length_map]; omega)]
  refine ⟨.ref h'.objs.size, upd H1 h'.objs.size (.tup (kvs.map Prod.snd)), I3.laid (t' := tk) (fun c o e => Heap.get?_push_of_some _ e) (Nat.le_refl _) (show ObjOk X.prog X.w _ _ _ (.tup (kvs.map Prod.snd)) from ⟨?_, acc.toList, ?_, ?_⟩), rfl, q1 _ (I3.hok.fresh (Nat.le_refl _))⟩
  · rw [List.length_map, sizeLine_eq]
    omega
  · rw [eacc]
    exact vals_snd rel
  · rw [Array.toArray_toList]
    exact IsTup.new _ _
end
end Rt
/-! ## G10 -/
set_option Elab.async false
set_option linter.all false
set_option maxRecDepth 100000
set_option maxHeartbeats 4000000
namespace Rt
open PySem PySem.Spec PyProof.Rows
open PySem.Froz (SD sObj TxOk addTx tailTx addTail_x add_x add_ok tail_ok is_str)
/-! ### sorted(set(xs)), xs a list of texts -/
def txt (e : Int × Value) : Str := strOf e.2
theorem tailTx_perm (ep : Nat) (es1 : Array (Int × Value)) (t2 : SetTable) (b : Bool) : (tailTx ep es1 t2 b).1.toList.Perm es1.toList := by
  unfold tailTx
  split
  · exact relayAll_perm _ _ _
  · exact .refl _
theorem tailTx_ris (ep : Nat) (es1 : Array (Int × Value)) (t2 : SetTable) (b : Bool) (r : L2.Ris t2.place.toList) : L2.Ris (tailTx ep es1 t2 b).2.2.place.toList := by
  unfold tailTx
  split
  · exact L2.relayAll_ris _ _ _
  · exact r
theorem tailTx_led (ep : Nat) (es1 : Array (Int × Value)) (t2 : SetTable) (b : Bool) : (tailTx ep es1 t2 b).2.2.led = t2.led := by
  unfold tailTx
  split
  · exact L2.relayAll_led _ _ _
  · rfl
theorem addTx_perm (h : Int) (v : Value) (D : SD) : (addTx h v D).1.toList.Perm (D.1.toList ++ [(h, v)]) := by
  have p := layNew_perm D.2.2 D.1 h v
  rw [Array.toList_push] at p
  exact (tailTx_perm _ _ _ _).trans p
theorem addTx_ris (h : Int) (v : Value) (D : SD) (r : L2.Ris D.2.2.place.toList) : L2.Ris (addTx h v D).2.2.place.toList := by
  have q := L2.layNew_ris D.2.2 D.1 h v r
  refine tailTx_ris _ _ _ _ ?_
  split
  · exact q
  · exact q
theorem addTx_led (h : Int) (v : Value) (D : SD) : (addTx h v D).2.2.led = D.2.2.led := by
  have q := L2.layNew_led D.2.2 D.1 h v
  refine (tailTx_led _ _ _ _).trans ?_
  split
  · exact q
  · exact q
/-- the set of the texts l at a -/
structure TxAt (P : Program) (w : World) (h : Heap) (a : Addr) (D : SD) (l : List Str) : Prop where
  at_ : h.get? a = some (sObj "set" D)
  ok : TxOk P w D l
  perm : (D.1.toList.map txt).Perm l
  ris : L2.Ris D.2.2.place.toList
  led : w.params.followText "set-order" = true ∨ D.2.2.led = true
  nd : l.Nodup
  str : ∀ e ∈ D.1.toList, ∃ k t, e.2 = Value.str k t
section
variable {P : Program} {w : World} {A : Around} {E : Value → Shared → Prop} {s : Shared} {a : Addr} {D : SD} {l : List Str} {k : Str} {u : Tok}
theorem TxAt.move {h h' : Heap} (T : TxAt P w h a D l) (e : ∀ o, h.get? a = some o → h'.get? a = some o) : TxAt P w h' a D l := ⟨e _ T.at_, T.ok, T.perm, T.ris, T.led, T.nd, T.str⟩
theorem TxAt.add {h : Heap} (T : TxAt P w h a D l) (hk : k ∉ l) (u : Tok) : TxAt P w (h.update a (fun _ => sObj "set" (addTx (hashStr w k) (.str k u) D))) a (addTx (hashStr w k) (.str k u) D) (k :: l) := by
  have p := addTx_perm (hashStr w k) (.str k u) D
  refine ⟨PySem.Froz.get_upd _ T.at_ rfl, add_ok u T.ok, ?_, addTx_ris _ _ _ T.ris, T.led.imp id fun z => by rw [addTx_led]; exact z, List.nodup_cons.mpr ⟨hk, T.nd⟩, fun e he => ?_⟩
  · have q := p.map txt
    rw [List.map_append] at q
    refine q.trans ((List.perm_append_singleton _ _).trans ?_)
    exact T.perm.cons k
  · rcases List.mem_append.mp (p.mem_iff.mp he) with h1 | h1
    · exact T.str e h1
    · rw [List.mem_singleton.mp h1]
      exact ⟨k, u, rfl⟩
theorem add_old {Q : Bool → Shared → Prop} (T : TxAt P w s.heap a D l) (hk : k ∈ l) (hb : l.length < scanBound) (h : Q false s) : wpAny (model P w) A (setAddHashed a (.str k u) (hashStr w k)) Q E s := by
  obtain ⟨ho, F, _⟩ := T
  obtain ⟨es, ep, t⟩ := D
  have hd : (sObj "set" (es, ep, t)).data = .set es ep t := rfl
  have hf : t.fits es.size = true := F.fit
  have hel : ElemsOf (strKind P w) es.toList := F.el
  have hsz : es.size = l.length := F.sz
  have hb0 : es.size < scanBound := by omega
  have hkey : (strKind P w).is k (.str k u) = true := is_str k u
  unfold setAddHashed setAddHashedIn
  refine wpAny_holding (wpAny_bind (wpAny_setState_of ho hd hf ?_))
  dsimp only
  rw [byScan_of rfl hb0 hel]
  simp only [↓reduceIte]
  unfold setAddByScan
  refine wpAny_bind ?_
  refine wpAny_bind (wpAny_rule ?_)
  refine wpAny_bind (wpAny_setScan_of (knd := strKind P w) (k := k) hkey ho hd hf hel ?_)
  cases hr : List.findIdx? (fun e => (strKind P w).is k e.2) es.toList with
  | none =>
    obtain ⟨e, he, q⟩ := (F.mem k).mp hk
    have c := List.findIdx?_eq_none_iff.mp hr e he
    rw [q] at c
    cases c
  | some j =>
    dsimp only
    exact wpAny_pure (wpAny_pure h)
/-- set.update over an iterator of texts -/
theorem tx_update {I : Addr} {fp wr : List Addr} {G : Array GenState → Array GenState → Prop} {n : Nat} {Pv : Nat → Value → Prop} {St : Nat → Shared → Prop} {R : Result → Shared → Prop}
    (W : WalksS P w A.in1 I fp wr G n Pv St) (S : Addr) (hSf : S ∉ fp) (ss : List Str) (hn : n = ss.length) (b : Nat) (hfew : ∀ l : List Str, l.Nodup → (∀ x ∈ l, x ∈ ss) → l.length ≤ b) (hb : b + 1 < scanBound) (hval : ∀ i v, Pv i v → ∃ k t, ss[i]? = some k ∧ v = .str k t) :
    ∀ (k i : Nat) (s : Shared), n - i = k → i ≤ n → St i s → (∃ D l, TxAt P w s.heap S D l ∧ ∀ x, x ∈ l ↔ x ∈ ss.take i) →
      (∀ s' D l, Moved (S :: wr) G s s' → TxAt P w s'.heap S D l → (∀ x, x ∈ l ↔ x ∈ ss) → R (.ok (.ret .none)) s') →
      codeAny (model P w) A (.builtin "set.update.loop" ⟨[.ref S, .ref I], []⟩) R s := by
  have hSw : S ∉ wr := fun h => hSf (W.sub _ h)
  have hsub : ∀ b ∈ wr, b ∈ S :: wr := fun b hb => List.mem_cons_of_mem _ hb
  intro k
  induction k with
  | zero =>
    intro i s hk' hi hst ⟨D, l, hS, hl⟩ hR
    have hin : i = n := by omega
    subst hin
    refine codeAny_builtin F.entry_set_update_loop ?_
    rw [Around.under_plainId F.plain_set_update_loop _]
    show wpAny _ A.in1 (pyNext (.ref I) >>= _) _ _ s
    refine wpAny_bind (W.done s _ _ hst fun s' hm => ?_)
    show wpAny _ A.in1 (ret Value.none) _ _ s'
    have e : ss.take i = ss := List.take_of_length_le (by omega)
    rw [e] at hl
    exact wpAny_pure (hR s' D l (hm.mono hsub) (hS.move fun o e => hm.heap S o hSw e) hl)
  | succ k ih =>
    intro i s hk' hi hst ⟨D, l, hS, hl⟩ hR
    have hlt : i < n := by omega
    refine codeAny_builtin F.entry_set_update_loop ?_
    rw [Around.under_plainId F.plain_set_update_loop _]
    show wpAny _ A.in1 (pyNext (.ref I) >>= _) _ _ s
    refine wpAny_bind (W.item i s _ _ hlt hst fun v s' hP hst' hm => ?_)
    obtain ⟨z, t, hz, rfl⟩ := hval i v hP
    have hS' : TxAt P w s'.heap S D l := hS.move fun o e => hm.heap S o hSw e
    have hzm : z ∈ ss := List.mem_of_getElem? hz
    have hll : l.length ≤ b := hfew l hS.nd fun x hx => List.mem_of_mem_take ((hl x).mp hx)
    have htk : ∀ x, x ∈ ss.take (i + 1) ↔ x ∈ ss.take i ∨ x = z := fun x => by
      rw [List.take_add_one, hz]
      simp [List.mem_append]
    show wpAny _ A.in1 (holding [Value.str z t] (setAdd S (.str z t)) >>= _) _ _ s'
    refine wpAny_bind (wpAny_holding ?_)
    unfold setAdd
    refine wpAny_holding ?_
    refine wpAny_bind ((strKind P w).pyHash (k := z) (is_str z t) ?_)
    show wpAny _ _ (setAddHashed S (.str z t) (hashStr w z)) _ _ _
    by_cases hzl : z ∈ l
    · refine add_old (s := { s' with toks := s'.toks + 1 }) hS' hzl (by omega) ?_
      refine wpAny_pure ⟨plainId_quiet F.plain_set_update_loop _, ih (i + 1) _ (by omega) hlt (W.frame _ s' _ _ hst' (Nat.le_succ _) fun b hb o e => e) ⟨D, l, hS', fun x => ?_⟩ fun s'' D2 l2 hm'' hS'' hl'' => ?_⟩
      · rw [htk, ← hl]
        exact ⟨.inl, fun z => z.elim id fun e => e ▸ hzl⟩
      · exact hR s'' D2 l2 (Moved.trans W.gtrans ((hm.mono hsub).then_heap (Nat.le_succ _) fun b o hb e => e) hm'') hS'' hl''
    · refine add_x (s := { s' with toks := s'.toks + 1 }) hS'.at_ hS'.ok hzl (by omega) ?_
      have hS3 := hS'.add hzl t
      have hsb := Heap.SameBut.update s'.heap S (fun _ => sObj "set" (addTx (hashStr w z) (.str z t) D))
      refine wpAny_pure ⟨plainId_quiet F.plain_set_update_loop _, ih (i + 1) _ (by omega) hlt (W.frame _ s' _ _ hst' (Nat.le_succ _) fun b hb o e => ?_) ⟨_, z :: l, hS3, fun x => ?_⟩ fun s'' D2 l2 hm'' hS'' hl'' => ?_⟩
      · rw [hsb.2 b (fun h : b = S => hSf (by rw [← h]; exact hb))]
        exact e
      · rw [htk, ← hl, List.mem_cons]
        exact Or.comm
      · refine hR s'' D2 l2 (Moved.trans W.gtrans ((hm.mono hsub).then_heap (Nat.le_succ _) fun b o hb e => ?_) hm'') hS'' hl''
        rw [hsb.2 b (fun h : b = S => hb (by rw [h]; exact List.mem_cons_self))]
        exact e
theorem strs_each : ∀ {us : List Value} {xs : List Str}, StrsAre us xs → ∀ (i : Nat) (v : Value), us[i]? = some v → ∃ k t, xs[i]? = some k ∧ v = Value.str k t
  | _, _, .nil, i, v, h => by simp at h
  | _, _, .cons y t r, 0, v, h => ⟨y, t, rfl, (Option.some.inj h).symm⟩
  | _, _, .cons y t r, i + 1, v, h => by
    obtain ⟨k, t', e1, e2⟩ := strs_each r i v (by simpa using h)
    exact ⟨k, t', by simpa using e1, e2⟩
/-- a set, as it is made -/
abbrev newSet (w : World) : Obj := { cls := .type "set", dict := none, data := .set #[] 0 (.fresh 0 0 (!w.params.followText "set-order")) }
theorem tx_nil {h : Heap} {a : Addr} (e : h.get? a = some (newSet w)) : TxAt P w h a (#[], 0, .fresh 0 0 (!w.params.followText "set-order")) [] where
  at_ := e
  ok := TxOk.nil rfl
  perm := .nil
  ris := List.Pairwise.nil
  led := by
    show _ ∨ (!w.params.followText "set-order") = true
    cases w.params.followText "set-order"
    · exact .inr rfl
    · exact .inl rfl
  nd := List.nodup_nil
  str := fun e he => by simp at he
theorem tx_call {l : Addr} {items : Array Value} (ss : List Str) {Q : Value → Shared → Prop} (hh : A.handled = none) (hl : s.heap.IsList l items) (hit : StrsAre items.toList ss) (b : Nat) (hfew : ∀ l : List Str, l.Nodup → (∀ x ∈ l, x ∈ ss) → l.length ≤ b) (hb : b + 1 < scanBound)
    (h : ∀ (h' : Heap) (tk : Nat) (D : SD) (m : List Str), TxAt P w h' s.heap.objs.size D m → (∀ x, x ∈ m ↔ x ∈ ss) → (∀ b o, s.heap.get? b = some o → h'.get? b = some o) → Q (.ref s.heap.objs.size) { s with heap := h', toks := tk }) :
    wpAny (model P w) A (call (.type "set") [.ref l]) Q E s := by
  have hisz : items.size = ss.length := by
    have q := hit.length
    rw [Array.length_toList] at q
    exact q
  obtain ⟨c, tl, hmro⟩ := F.called_set.mro
  have hmade := F.called_set.made
  have hsub := F.called_set.sub
  refine wpAny_call (codeAny_of_tree ?_)
  show wpAny _ _ (callAny (.type "set") _) _ _ _
  refine wpAny_pure ⟨Code.quiet_builtin _ (by decide +kernel), codeAny_builtin F.entry_type_call ?_⟩
  rw [Around.under_plain (weight_type_call_type "set" [.ref l] []) rfl]
  have h1 := F.called_set.notType
  have h2 := F.called_set.canCreate
  have hct := F.typeCall_set_1 (.ref l)
  repeat (any_goals (first | assumption | wp_step))

  refine codeAny_mono (L2.code_set_led1 (.ref l) (E := E) (Q₁ := fun obj s₁ => obj = .ref s.heap.objs.size ∧ s₁ = { s with heap := s.heap.push (newSet w) }) ⟨rfl, rfl⟩) fun r s₁ hr => ?_
  cases r with
  | error e => exact hr
  | ok fl =>
    cases fl with
    | ret obj =>
      obtain ⟨rfl, rfl⟩ := hr
      have hS : (s.heap.push (newSet w)).get? s.heap.objs.size = some (newSet w) := Heap.get?_push_size _ rfl
      have hT : Shared.TypeIs { s with heap := s.heap.push (newSet w) } (.ref s.heap.objs.size) "set" := ⟨_, hS, rfl⟩
      have hli := F.called_set.init.lookup
      have hbi := F.called_set.init.bind (.ref s.heap.objs.size)
      repeat (any_goals (first | assumption | wp_step))

      refine codeAny_mono (codeAny_call_builtin (R := wants (fun r s₂ => r = .none ∧ ∃ h' tk D m, s₂ = { s with heap := h', toks := tk } ∧ TxAt P w h' s.heap.objs.size D m ∧ (∀ x, x ∈ m ↔ x ∈ ss) ∧
          (∀ b o, s.heap.get? b = some o → h'.get? b = some o)) E) F.called_set.init.plain F.entry_set_init (check_set_init_1 hT ?_)) fun r₂ s₂ hr₂ => ?_
      · obtain ⟨ol, hol, hcl, nl, hdl⟩ := hl
        obtain ⟨ocls, odict, odata, oslots⟩ := ol
        simp only at hcl hdl
        subst hcl; subst hdl
        have hol' : (s.heap.push (newSet w)).get? l = some { cls := .type "list", dict := odict, data := .seq items nl, slots := oslots } := Heap.get?_push_of_some _ hol
        have hsls := F.sub_list_set
        have hslf := F.sub_list_frozenset
        have hne : (Value.type "list" == Value.type "dict") = false := by decide
        have hl1 : (s.heap.push (newSet w)).IsList l items := ⟨_, hol', rfl, nl, rfl⟩
        unfold Builtin.«set.__init__» noKeywords Builtin.Frozenset.updateFrom
        generalize hPI : pyIter = PI
        wp_walk
        subst hPI

        refine wpAny_pyIter_list hl1 ?_
        refine wpAny_bind (wpAny_runValue ?_)
        have hlS : l < s.heap.objs.size := Heap.lt_size hol
        have hh3 : A.in1.in1.in1.handled = none := by simp [hh]
        have hz1 : (s.heap.push (newSet w)).objs.size = s.heap.objs.size + 1 := Heap.size_push ..
        have hneI : l ≠ (s.heap.push (newSet w)).objs.size := by
          rw [Heap.size_push]; exact Nat.ne_of_lt (Nat.lt_succ_of_lt hlS)
        have hSf : s.heap.objs.size ∉ [(s.heap.push (newSet w)).objs.size, l] := by
          rw [Heap.size_push]; simp only [List.mem_cons, List.mem_singleton, List.not_mem_nil, or_false, not_or]
          exact ⟨Nat.ne_of_lt (Nat.lt_succ_self _), Nat.ne_of_gt hlS⟩
        have hval : ∀ (i : Nat) (v : Value), items[i]? = some v → ∃ k t, ss[i]? = some k ∧ v = .str k t := fun i v hv => strs_each hit i v (by rw [Array.getElem?_toList]; exact hv)
        refine tx_update ((Walks.list hh3 _ l hneI items).toS) s.heap.objs.size
          hSf ss hisz b hfew hb hval (items.size - 0) 0 _ (by omega) (Nat.zero_le _)
          ⟨⟨_, Heap.get?_push_size _ rfl, rfl, rfl⟩, (hl1.push _)⟩ ?hS0 ?hR
        case hS0 =>
          have hget : ((s.heap.push (newSet w)).push { cls := .type "list_iterator", data := .fields #[.ref l, .int 0 0] }).get? s.heap.objs.size
              = some (newSet w) := Heap.get?_push_of_some _ hS
          exact ⟨_, [], tx_nil hget, fun x => by simp⟩
        case hR =>
          intro s' D m hm hS' hl'
          obtain ⟨h', g2, d', tk', os'⟩ := s'
          have eg : g2 = s.gens := hm.gens
          have ed : d' = s.drawn := hm.drawn
          have eo : os' = s.os := hm.os
          subst eg; subst ed; subst eo
          show wpAny _ _ _ _ _ _
          refine wpAny_pure ?_
          show wpAny _ _ (ret Value.none) _ _ _
          refine wpAny_pure ⟨rfl, h', tk', D, m, rfl, hS', hl', fun b o e => ?_⟩
          have hb0 : b < s.heap.objs.size := Heap.lt_size e
          have hb1 : b ≠ s.heap.objs.size := Nat.ne_of_lt hb0
          have hb2 : b ≠ (s.heap.push (newSet w)).objs.size := by
            rw [Heap.size_push]; exact Nat.ne_of_lt (Nat.lt_succ_of_lt hb0)
          exact hm.heap b o (by simp only [List.mem_cons, List.mem_singleton, List.not_mem_nil, or_false, not_or]; exact ⟨hb1, hb2⟩) (Heap.get?_push_of_some _ (Heap.get?_push_of_some _ e))

      · cases r₂ with
        | error e => exact hr₂
        | ok fl₂ =>
          cases fl₂ with
          | ret r =>
            obtain ⟨rfl, h', tk, D, m, rfl, hS', hl', hk'⟩ := hr₂
            repeat (any_goals (first | assumption | wp_step))
            exact h _ _ _ _ hS' hl' hk'
          | _ => exact hr₂.elim
    | _ => exact hr.elim

end
end Rt
/-! ## G11 -/
set_option Elab.async false
set_option linter.all false
set_option maxRecDepth 100000
set_option maxHeartbeats 4000000
namespace Rt
open PySem PySem.Spec PyProof.Rows
open PySem.Froz (SD sObj TxOk)
theorem strs_are : ∀ {es : List (Int × Value)} {vs : List Value}, vs.Perm (es.map (·.2)) → (∀ e ∈ es, ∃ k t, e.2 = Value.str k t) → StrsAre vs (vs.map strOf)
  | es, vs, p, h => by
    have g : ∀ v ∈ vs, ∃ k t, v = Value.str k t := fun v hv => by
      obtain ⟨e, he, q⟩ := List.mem_map.mp (p.mem_iff.mp hv)
      obtain ⟨k, t, z⟩ := h e he
      exact ⟨k, t, by rw [← q]; exact z⟩
    clear p h
    induction vs with
    | nil => exact .nil
    | cons v vs ih =>
      obtain ⟨k, t, rfl⟩ := g v List.mem_cons_self
      exact .cons k t (ih fun u hu => g u (List.mem_cons_of_mem _ hu))
section
variable {P : Program} {w : World} {A : Around} {E : Value → Shared → Prop} {s : Shared} {a : Addr} {D : SD} {l : List Str}
theorem tx_sorted {Q : Value → Shared → Prop} (T : TxAt P w s.heap a D l) (hh : A.handled = none) (h64 : l.length < 64)
    (hQ : ∀ s' p (out : Array Value) (c : Nat) (ys : List Str), (∀ b o, s.heap.get? b = some o → s'.heap.get? b = some o) → s'.gens = s.gens → s'.os = s.os → s.heap.objs.size ≤ p →
      s'.heap.get? p = some (seqObj "list" out c) → StrsAre out.toList ys → ys.Perm l → Q (.ref p) s') :
    wpAny (model P w) A (call (.builtin "sorted") [.ref a]) Q E s := by
  obtain ⟨es, ep, t⟩ := D
  have hsz : es.size = l.length := T.ok.sz
  have hb : es.size < scanBound := Nat.lt_of_lt_of_le (by omega : es.size < 64) (by decide)
  refine Calls.call_function_entry kind_sorted plain_sorted entry_sorted (args_sorted1 _) ?_
  unfold Builtin.«sorted»
  refine wpAny_bind (m := checkCount "sorted" 1 1 _) (wpAny_pure ?_)
  refine wpAny_bind (L2.collect_set (A := A.in1) hh ⟨_, T.at_, rfl, rfl⟩ T.ok.fit hb T.ris T.led fun s1 vs k1 hz g1 o1 pm => ?_)
  have hvl : vs.length = l.length := by rw [pm.length_eq, List.length_map, Array.length_toList]; exact hsz
  have hS : StrsAre vs (vs.map strOf) := strs_are pm T.str
  have pk : (vs.map strOf).Perm l := by
    have q := pm.map strOf
    rw [List.map_map] at q
    exact q.trans T.perm
  refine wpAny_bind (wpAny_newList ?_ (by rw [hvl, sizeLine_eq]; omega))
  have hoL : (s1.heap.push (seqObj "list" vs.toArray 0)).get? s1.heap.objs.size = some (seqObj "list" vs.toArray 0) := Heap.get?_push_size _ rfl
  refine wpAny_bind (wpAny_holding (wpAny_call_entry slot_list_sort ⟨_, hoL, rfl⟩ entry_list_sort
    (list_sort_treeK strKind_oneLt (s := { s1 with heap := s1.heap.push (seqObj "list" vs.toArray 0) }) hoL hS.keysOf (fun v₁ v₂ rest e => keyKind_strs (by rw [← e]; exact hS)) (by rw [hvl]; exact h64) fun st' hp hs => ⟨_, rfl, ?_⟩) (args_list_sort _)))
  obtain ⟨ys, y1, y2, y3⟩ := sorted_out_str hS hp hs
  obtain ⟨c, hc⟩ := sortedHeap_at (vs := vs) (out := (arrOf st').map (·.2)) hoL
  refine wpAny_pure ⟨_, rfl, hQ _ s1.heap.objs.size ((arrOf st').map (·.2)) c ys (fun b u e => ?_) g1 o1 hz hc y1 (y2.trans pk)⟩
  have q := k1 b u e
  have hlt := Heap.lt_size q
  show (sortedHeap (s1.heap.push (seqObj "list" vs.toArray 0)) s1.heap.objs.size vs ((arrOf st').map (·.2))).get? b = some u
  rw [sortedHeap_old (Nat.ne_of_lt hlt) (by rw [size_push']; exact Nat.lt_succ_of_lt hlt)]
  exact Heap.get?_push_of_some _ q
end
/-- distinct members of L are no more than L's -/
theorem nodup_le : ∀ {l L : List Str}, l.Nodup → (∀ x ∈ l, x ∈ L) → l.length ≤ L.length
  | [], _, _, _ => Nat.zero_le _
  | x :: l, L, d, h => by
    obtain ⟨d1, d2⟩ := List.nodup_cons.mp d
    have hx := h x List.mem_cons_self
    have q := nodup_le (L := L.erase x) d2 fun y hy => (List.mem_erase_of_ne (fun e => d1 (by rw [← e]; exact hy))).mpr (h y (List.mem_cons_of_mem _ hy))
    have e := List.length_erase_of_mem hx
    have p : 0 < L.length := List.length_pos_of_mem hx
    rw [List.length_cons]
    omega
open L2
def tSortSet (ta : TE) : TE := fun σ H Q => ta σ H fun x H1 => ∃ (a : Addr) (ss L : List Str), x = .ref a ∧ H1 a = some (.lst (ss.map V.str)) ∧ (∀ s ∈ ss, s ∈ L) ∧ L.length < 60 ∧ ss.length ≤ 4000 ∧
  ∀ (p : Addr) (ys : List Str), H1 p = none → ys.Nodup → (∀ s, s ∈ ys ↔ s ∈ ss) → Q (.ref p) (upd H1 p (.lst (ys.map V.str)))
theorem strsAre_vals : ∀ {ss : List Str} {us : List Value}, Vals (ss.map V.str) us → StrsAre us ss
  | [], _, .nil => .nil
  | _ :: _, _, .cons r t => by
    obtain ⟨t', rfl⟩ := r
    exact .cons _ t' (strsAre_vals t)
section
variable {X : Cx}
theorem pe_sortSet {a : Expr} {ta : TE} {p p2 q pos : Pos} (hg : Gl X "sorted") (hm : X.mg "sorted" = none) (hg2 : Gl X "set") (hm2 : X.mg "set" = none) (ha : PE X a ta) (hc : X.calm = true := by rfl)
    (na : starEach [a] X.env = (false, eval a X.env) :: starEach [] X.env := by rfl)
    (h1 : starEach [.Call (.Name "set" p2) [a] [] q] X.env = [(false, eval (.Call (.Name "set" p2) [a] [] q) X.env)] := by rfl) :
    PE X (.Call (.Name "sorted" p) [.Call (.Name "set" p2) [a] [] q] [] pos) (tSortSet ta) := by
  refine ⟨fun pins s σ H Q I h => ?_⟩
  refine wpAny_Call_Name_kw (ld_blt I hg hm (u := .builtin "sorted") (by first | rfl | decide +kernel) ?_ (by first | decide +kernel | decide) (by first | decide +kernel | decide))
  rw [h1]
  refine PySem.callWith_builtin1 ?_
  refine Call_ (ld_blt I hg2 hm2 PyProof.Rows.boot_set (PyProof.Rows.callWith_type1 (args_cons (thn (ha.run pins s σ H _ I h) fun v s1 ⟨x, H1, I1, r1, b, ss, L, ex, hb, hL, h60, h4, q1⟩ => args_nil ?_) na) na rfl))
  subst ex
  obtain rfl : v = Value.ref b := r1
  obtain ⟨its, rv, pl, hz⟩ := I1.list (SqL.of hb)
  have hS : StrsAre its.toArray.toList ss := by simpa using strsAre_vals rv
  refine tx_call (P := X.prog) (w := X.w) ss (I1.ok.hd hc) pl.isList hS L.length (fun l d hl => nodup_le d fun x hx => hL x (hl x hx)) (Nat.lt_of_lt_of_le (by omega : L.length + 1 < 64) (by decide)) fun h' tk D m T hm' hk => ?_
  have I2 : L2.Inv X pins σ H1 { s1 with heap := h', toks := tk } := I1.kept (t' := tk) hk
  have hml : m.length < 64 := Nat.lt_of_le_of_lt (nodup_le T.nd fun x hx => hL x ((hm' x).mp hx)) (by omega)
  refine tx_sorted (s := { s1 with heap := h', toks := tk }) T (I2.ok.hd hc) hml fun s' p' out c ys k g o hp hgt hi pm => ?_
  have hyl : (ys.map V.str).length ≤ sizeLine := by rw [List.length_map, pm.length_eq, sizeLine_eq]; omega
  have hn : H1 p' = none := I2.hok.fresh hp
  have J : L2.Inv X pins σ (upd H1 p' (.lst (ys.map V.str))) { ({ s1 with heap := h', toks := tk } : Shared) with heap := s'.heap, gens := s'.gens, drawn := s'.drawn, toks := s'.toks } :=
    I2.call (ch := []) (Un.laid k hp hn) (I2.hok.laid k hp ⟨hyl, out.toList, c, vals_of_strs hi, hgt⟩) (by rw [g]; exact I2.bare) (fun _ z => nomatch z)
  have e : s' = { ({ s1 with heap := h', toks := tk } : Shared) with heap := s'.heap, gens := s'.gens, drawn := s'.drawn, toks := s'.toks } := by
    cases s'
    cases s1
    cases o
    rfl
  rw [e]
  exact ⟨.ref p', _, J, rfl, q1 p' ys hn (pm.nodup_iff.mpr T.nd) fun x => by rw [pm.mem_iff, hm']⟩
end
end Rt
/-! ## L1 -/
set_option Elab.async false
set_option linter.all false
set_option maxRecDepth 100000
set_option maxHeartbeats 4000000
namespace Rt
open PySem PySem.Spec PyProof.Rows L2
open L2H (RoomH roomH_of)
/-! ### the drawing state -/
def But (r : Addr) (H H' : Hp) : Prop := ∀ b o, b ≠ r → H b = some o → H' b = some o
def Tk (H H' : Hp) : Prop := ∀ b xs, H b = some (.tup xs) → H' b = some (.tup xs)
theorem But.refl {r : Addr} {H : Hp} : But r H H := fun _ _ _ e => e
theorem But.trans {r : Addr} {H H1 H2 : Hp} (a : But r H H1) (b : But r H1 H2) : But r H H2 := fun c o hc e => b c o hc (a c o hc e)
theorem Tk.refl {H : Hp} : Tk H H := fun _ _ e => e
theorem Tk.trans {H H1 H2 : Hp} (a : Tk H H1) (b : Tk H1 H2) : Tk H H2 := fun c o e => b c o (a c o e)
def mR : Int := 2147483629
/-- a drawing state stands at r -/
def Rng (H : Hp) (r : Addr) : Prop := ∃ n : Int, H r = some (.lst [.int n]) ∧ 0 ≤ n ∧ n < 2147483629
theorem Rng.tup {H : Hp} {r b : Addr} {xs : List V} (h : Rng H r) (e : H b = some (.tup xs)) : b ≠ r := by
  obtain ⟨n, hn, _⟩ := h
  exact ne_of e hn (by intro z; cases z)
theorem Rng.tk {H H' : Hp} {r : Addr} (h : Rng H r) (k : But r H H') : Tk H H' := fun b xs e => k b _ (h.tup e) e
def spNext : Sp := fun vs H Q _ => ∃ (r : Addr) (sz : Int), vs = [.ref r, .int sz] ∧ Rng H r ∧ 0 < sz ∧ ∀ H' k, Rng H' r → But r H H' → 0 ≤ k → k < sz → Q (.int k) H'
theorem at0 {x : V} {xs : List V} : atI (x :: xs) 0 = some x := by
  unfold atI ixN
  simp
theorem set0 {n : Nat} : ixN (n + 1) 0 = some 0 := by
  unfold ixN
  rw [if_pos (by omega), if_pos (by omega)]
  rfl
section
variable {P : Program} {w : World} {K : PySem.W.Frag} {mg : Str → Option Value} {base : Heap}
theorem ok_next (T : Txt K mg) : OkC P w K mg base CX0 1 (He.ga K "_law_next") ["_law_state_here", "_law_size"] spNext := by
  refine okC T.f__law_next sc__law_next (fun fd F => F.bindsN fun _ _ _ _ _ _ us hl => match us, hl with | [_, _], _ => rfl) (fun vs H Q E h => ?_) (fun cdv A outer s H vs Q E hr h => ?_)
  · obtain ⟨r, sz, rfl, _⟩ := h
    rfl
  · obtain ⟨r, sz, rfl, ⟨n, hn, n0, n1⟩, hsz, k⟩ := h
    refine ⟨_, (pss_cons
 (ps_asg (pe_op op_mod (pe_op op_add (pe_op op_mul (pe_ix ix_list (pv 0) pe_int (fun _ _ => rfl)) pe_int) pe_int) pe_int) (pg_sub (pv 0) pe_int set_list)) (pss_cons
 (ps_set (i := 2) sc__law_next.nd rfl (by first | exact Or.inl rfl | exact Or.inr rfl) (pe_op op_mod (pe_op op_mul (pe_ix ix_list (pv 0) pe_int (fun _ _ => rfl)) (pe_ix ix_list (pv 0) pe_int (fun _ _ => rfl))) pe_int)) (pss_one
 (ps_ret (pe_op op_mod (pe_op op_fdiv (pv 2) pe_int) (pv 1)))))), ?_⟩
    have h1 : 0 ≤ (n * 69621 + 11) % 2147483629 := Int.emod_nonneg _ (by decide)
    have h2 : (n * 69621 + 11) % 2147483629 < 2147483629 := Int.emod_lt_of_pos _ (by decide)
    refine ⟨_, rfl, r, _, _, _, rfl, rfl, SqL.of hn, at0, _, _, rfl, rfl, .inl ⟨by omega, by omega⟩, _, _, rfl, rfl, _, _, rfl, rfl, (show (0 : Int) < 2147483629 by decide), ?_⟩
    refine ⟨_, rfl, r, _, _, 0, rfl, rfl, hn, set0, ?_⟩
    refine ⟨_, rfl, r, _, _, _, rfl, rfl, SqL.of upd_same, at0, _, rfl, r, _, _, _, rfl, rfl, SqL.of upd_same, at0, _, _, rfl, rfl, .inl ⟨by omega, by omega⟩, _, _, rfl, rfl, (show (0 : Int) < 2147483587 by decide), ?_⟩
    refine ⟨_, rfl, _, _, rfl, rfl, ⟨by decide, by decide⟩, _, rfl, _, _, rfl, rfl, hsz, ?_⟩
    exact k _ _ ⟨_, upd_same, h1, h2⟩ (fun b o hb e => by rw [upd_ne hb]; exact e) (Int.emod_nonneg _ (by omega)) (Int.emod_lt_of_pos _ hsz)
end
end Rt
/-! ## L2 -/
set_option Elab.async false
set_option linter.all false
set_option maxRecDepth 100000
set_option maxHeartbeats 4000000
namespace Rt
open PySem PySem.Spec PyProof.Rows L2
open L2H (RoomH roomH_of)
/-! ### names -/
theorem ixN_nat {n j : Nat} (hj : j < n) : ixN n (j : Int) = some j := by
  unfold ixN
  rw [if_pos (by omega), if_pos (by omega)]
  simp
def ltr (j : Nat) : Str := ⟨#[97 + j % 26]⟩
def alphabet : Str := "abcdefghijklmnopqrstuvwxyz"
theorem alpha_at : ∀ j : Fin 26, alphabet.cps.toList[j.val]? = some (97 + j.val) := by decide +kernel
theorem alpha_len : alphabet.cps.toList.length = 26 := by decide +kernel
theorem alpha_len' : alphabet.length ≤ sizeLine := by
  have h : alphabet.length = 26 := by decide +kernel
  rw [h, sizeLine_eq]
  decide
theorem alpha_ix {s : Int} {i : Nat} (h0 : 0 ≤ s) : atI alphabet.cps.toList ((s + ((0 : Int) + (i : Int))) % 26) = some (97 + (s.toNat + i) % 26) := by
  have h1 : (s + ((0 : Int) + (i : Int))) % 26 = (((s.toNat + i) % 26 : Nat) : Int) := by omega
  rw [h1]
  have hlt : (s.toNat + i) % 26 < 26 := Nat.mod_lt _ (by decide)
  unfold atI
  rw [alpha_len, ixN_nat hlt]
  exact alpha_at ⟨_, hlt⟩
theorem ltr_len (j : Nat) : (ltr j).length = 1 := rfl
theorem ltr_inj {i j : Nat} (h : ltr i = ltr j) : i % 26 = j % 26 := by
  have h1 : (#[97 + i % 26] : Array Nat) = #[97 + j % 26] := congrArg Str.cps h
  have h2 : ([97 + i % 26] : List Nat) = [97 + j % 26] := congrArg Array.toList h1
  injection h2 with h3
  omega
/-- a name that may be told, not long -/
def SOk (x : Str) : Prop := PyData.strOk x = true ∧ x.length ≤ 10
/-- a drawn list of names: the j-th is the j-th letter or longer than one sign -/
structure NmOk (s : Nat) (xs : List Str) : Prop where
  nd : xs.Nodup
  frm : ∀ j x, xs[j]? = some x → x = ltr (s + j) ∨ 2 ≤ x.length
  ok2 : ∀ x ∈ xs, SOk x
theorem NmOk.ok {s : Nat} {xs : List Str} (h : NmOk s xs) : ∀ x ∈ xs, PyData.strOk x = true := fun x hx => (h.ok2 x hx).1
theorem ltr_ok (j : Nat) : SOk (ltr j) := by
  refine ⟨?_, by show 1 ≤ 10; decide⟩
  unfold PyData.strOk ltr
  simp
  omega
theorem aaaaa_ok (j : Nat) : SOk (("aaaaa" : Str) ++ (⟨#[97 + j % 26]⟩ : Str)) := by
  refine ⟨?_, by rw [Str.length_append]; show 5 + 1 ≤ 10; decide⟩
  unfold PyData.strOk
  rw [Str.cps_append, Array.all_append, Bool.and_eq_true]
  exact ⟨by decide +kernel, (ltr_ok j).1⟩
theorem NmOk.nil {s : Nat} : NmOk s [] := ⟨List.nodup_nil, fun j x h => by simp at h, fun x h => by cases h⟩
theorem NmOk.add {s : Nat} {xs : List Str} {y : Str} (h : NmOk s xs) (hy : y ∉ xs) (hf : y = ltr (s + xs.length) ∨ 2 ≤ y.length) (hs : SOk y) : NmOk s (xs ++ [y]) := by
  refine ⟨List.nodup_append.mpr ⟨h.nd, by simp, fun a ha b hb => ?_⟩, fun j x e => ?_, fun x hx => ?_⟩
  · have : b = y := by simpa using hb
    subst this
    exact fun e => hy (e ▸ ha)
  · by_cases hj : j < xs.length
    · rw [List.getElem?_append_left hj] at e
      exact h.frm j x e
    · have hj2 : j = xs.length := by
        have := (List.getElem?_eq_some_iff.mp e).1
        simp at this
        omega
      subst hj2
      simp at e
      subst e
      exact hf
  · rcases List.mem_append.mp hx with hx | hx
    · exact h.ok2 x hx
    · have e : x = y := by simpa using hx
      rw [e]
      exact hs
theorem NmOk.ltr_new {s : Nat} {xs : List Str} (h : NmOk s xs) (hl : xs.length < 26) : ltr (s + xs.length) ∉ xs := by
  intro hm
  obtain ⟨j, hj, e⟩ := List.mem_iff_getElem.mp hm
  have e2 : xs[j]? = some (ltr (s + xs.length)) := by rw [List.getElem?_eq_getElem hj, e]
  rcases h.frm j _ e2 with q | q
  · have := ltr_inj q
    omega
  · rw [ltr_len] at q
    omega
theorem NmOk.pos {s : Nat} {xs : List Str} (h : NmOk s xs) {x : Str} (hm : x ∈ xs) : 0 < x.length := by
  obtain ⟨j, hj, e⟩ := List.mem_iff_getElem.mp hm
  have e2 : xs[j]? = some x := by rw [List.getElem?_eq_getElem hj, e]
  rcases h.frm j _ e2 with q | q
  · rw [q, ltr_len]
    decide
  · omega
theorem inV_str (x : Str) (xs : List Str) : inV (.str x) (xs.map V.str) = decide (x ∈ xs) := by
  unfold inV
  induction xs with
  | nil => simp
  | cons a r ih =>
    rw [List.map_cons, List.any_cons, ih]
    show ((a == x) || decide (x ∈ r)) = decide (x ∈ a :: r)
    by_cases e : a = x
    · subst e
      simp
    · have e1 : (a == x) = false := beq_eq_false_iff_ne.mpr e
      rw [e1, Bool.false_or]
      have e2 : (x ∈ a :: r) ↔ x ∈ r := by
        rw [List.mem_cons]
        exact ⟨fun h => h.resolve_left (Ne.symm e), Or.inr⟩
      exact decide_eq_decide.mpr e2.symm
/-- a new thing at p -/
theorem But.new {r p : Addr} {H : Hp} {o : HO} (h : H p = none) : But r H (upd H p o) := fun b u _ e => by
  rw [upd_ne (ne_of_none e h)]
  exact e
/-- a thing changes that H0 did not know -/
theorem But.mut {r p : Addr} {H H' : Hp} {o : HO} (e : But r H H') (h : H p = none) : But r H (upd H' p o) := fun b u hb hu => by
  rw [upd_ne (ne_of_none hu h)]
  exact e b u hb hu
theorem Rng.upd {H : Hp} {r p : Addr} {o : HO} (h : Rng H r) (n : p ≠ r) : Rng (upd H p o) r := by
  obtain ⟨m, hm, h1⟩ := h
  exact ⟨m, by rw [upd_ne (Ne.symm n)]; exact hm, h1⟩
theorem Rng.new {H : Hp} {r p : Addr} {o : HO} (h : Rng H r) (n : H p = none) : Rng (L2.upd H p o) r := by
  obtain ⟨m, hm, h1⟩ := id h
  exact h.upd (Ne.symm (ne_of_none hm n))
theorem Rng.ne {H : Hp} {r p : Addr} (h : Rng H r) (n : H p = none) : p ≠ r := by
  obtain ⟨m, hm, h1⟩ := id h
  exact Ne.symm (ne_of_none hm n)
/-- what a new thing's address was ahead -/
theorem But.free {r p : Addr} {H H' : Hp} (e : But r H H') (h : H' p = none) (n : p ≠ r) : H p = none := by
  cases q : H p with
  | none => rfl
  | some o =>
    rw [e p o n q] at h
    cases h
def wordsL : List Str := ["box", "list", "def", "end", "else", "catch", "own", "set", "push", "try", "size", "item"]
theorem words_at : ∀ j : Fin 12, ∃ x, wordsL[j.val]? = some x ∧ 2 ≤ x.length ∧ SOk x := by
  have h : ∀ j : Fin 12, (match wordsL[j.val]? with
    | some x => decide (2 ≤ x.length) && (PyData.strOk x && decide (x.length ≤ 10))
    | none => false) = true := by decide +kernel
  intro j
  have h1 := h j
  cases e : wordsL[j.val]? with
  | none =>
    rw [e] at h1
    cases h1
  | some x =>
    rw [e] at h1
    exact ⟨x, rfl, of_decide_eq_true (Bool.and_eq_true_iff.mp h1).1, (Bool.and_eq_true_iff.mp (Bool.and_eq_true_iff.mp h1).2).1, of_decide_eq_true (Bool.and_eq_true_iff.mp (Bool.and_eq_true_iff.mp h1).2).2⟩
theorem at_k {xs : List V} {k : Int} {v : V} (h0 : 0 ≤ k) (h : xs[k.toNat]? = some v) : atI xs k = some v := by
  have hlt := (List.getElem?_eq_some_iff.mp h).1
  unfold atI
  have e : k = ((k.toNat : Nat) : Int) := by omega
  rw [e, ixN_nat hlt]
  exact h
def spNames : Sp := fun vs H Q _ => ∃ (r : Addr) (n : Int), vs = [.ref r, .int n] ∧ Rng H r ∧ 0 ≤ n ∧ n ≤ 20 ∧
  ∀ H' p s xs, Rng H' r → But r H H' → H p = none → H' p = some (.lst (xs.map V.str)) → xs.length = n.toNat → NmOk s xs → Q (.ref p) H'
section
variable {P : Program} {w : World} {K : PySem.W.Frag} {mg : Str → Option Value} {base : Heap}
theorem ok_names (T : Txt K mg) : OkC P w K mg base CX0 2 (He.ga K "_law_names") ["_law_state_here", "_law_amount"] spNames := by
  have G__law_next := ok_next (P := P) (w := w) (base := base) T
  refine okC T.f__law_names sc__law_names (fun fd F => F.bindsN fun _ _ _ _ _ _ us hl => match us, hl with | [_, _], _ => rfl) (fun vs H Q E h => ?_) (fun cdv A outer s H vs Q E hr h => ?_)
  · obtain ⟨r, n, rfl, _⟩ := h
    rfl
  · obtain ⟨r, n, rfl, hR, n0, n1, k⟩ := h
    refine ⟨_, (pss_cons
 (ps_set (i := 2) sc__law_names.nd rfl (by first | exact Or.inl rfl | exact Or.inr rfl) pe_str) (pss_cons
 (ps_set (i := 3) sc__law_names.nd rfl (by first | exact Or.inl rfl | exact Or.inr rfl) (pe_lst (pa_cons pe_str (pa_cons pe_str (pa_cons pe_str (pa_cons pe_str (pa_cons pe_str (pa_cons pe_str (pa_cons pe_str (pa_cons pe_str (pa_cons pe_str (pa_cons pe_str (pa_cons pe_str (pa_cons pe_str pa_nil)))))))))))))) (pss_cons
 (ps_set (i := 4) sc__law_names.nd rfl (by first | exact Or.inl rfl | exact Or.inr rfl) (ce_call G__law_next (hr.mono (by omega)) T.g__law_next T.p__law_next pass0 (pa_cons (pv 0) (pa_cons pe_int pa_nil)))) (pss_cons
 (ps_set (i := 5) sc__law_names.nd rfl (by first | exact Or.inl rfl | exact Or.inr rfl) (pe_lst pa_nil)) (pss_cons
 (ps_for PassesOwn.never rfl (pi_range1 rfl T.b_range (pa_cons (pv 1) pa_nil)) (pg_name (i := 6) sc__law_names.nd rfl (by first | exact Or.inl rfl | exact Or.inr rfl)) (pss_cons
 (ps_set (i := 7) sc__law_names.nd rfl (by first | exact Or.inl rfl | exact Or.inr rfl) (pe_ix ix_str (pv 2) (pe_op op_mod (pe_op op_add (pv 4) (pv 6)) pe_int) (fun _ _ => rfl))) (pss_cons
 (ps_set (i := 8) sc__law_names.nd rfl (by first | exact Or.inl rfl | exact Or.inr rfl) (ce_call G__law_next (hr.mono (by omega)) T.g__law_next T.p__law_next pass0 (pa_cons (pv 0) (pa_cons pe_int pa_nil)))) (C8.pss_cut
 (ps_if (pt_cmpR op_lt (pv 8) pe_int (nomark _)) (pss_one
 (ps_set (i := 7) sc__law_names.nd rfl (by first | exact Or.inl rfl | exact Or.inr rfl) (pe_ix ix_list (pe_lst (pa_cons (pe_ix ix_list (pv 3) (ce_call G__law_next (hr.mono (by omega)) T.g__law_next T.p__law_next pass0 (pa_cons (pv 0) (pa_cons pe_int pa_nil))) (fun _ _ => rfl)) (pa_cons (pe_op op_add_str pe_str (pv 7)) pa_nil))) (pv 8) (fun _ _ => rfl)))) pss_nil) (C8.pss_cut
 (ps_if (pt_cmpR op_in_seq (pv 7) (pv 5) (by rfl)) (pss_one
 (ps_set (i := 7) sc__law_names.nd rfl (by first | exact Or.inl rfl | exact Or.inr rfl) (pe_ix ix_str (pv 2) (pe_op op_mod (pe_op op_add (pv 4) (pv 6)) pe_int) (fun _ _ => rfl)))) pss_nil) (pss_one
 (ps_expr (pe_bm PySem.F.plainAttrs_list PySem.F.slot_list_append PySem.F.type_list_append mt_append (pv 5) (pa_cons (pv 7) pa_nil))))))))) (pss_one
 (ps_ret (pv 5)))))))), ?_⟩
    refine ⟨by show 12 ≤ sizeLine; rw [sizeLine_eq]; decide, fun wl hwl => ?_⟩
    have R1 := hR.new (o := .lst (wordsL.map V.str)) hwl
    refine ⟨_, rfl, r, 26, rfl, R1, by decide, fun H1 sh R2 B2 s0 s1 => ?_⟩
    have B2' : But r H H1 := (But.new hwl).trans B2
    have w1 : H1 wl = some (.lst (wordsL.map V.str)) := B2 wl _ (hR.ne hwl) upd_same
    refine ⟨Nat.zero_le _, fun p hp => ?_⟩
    have hp0 : H p = none := B2'.free hp (R2.ne hp)
    have npw : wl ≠ p := ne_of_none w1 hp
    have hpr : p ≠ r := R2.ne hp
    have hwr : wl ≠ r := hR.ne hwl
    refine ⟨_, rfl, n, rfl, by omega, by omega, for_range (lo := 0) (n := n.toNat) (fun i σ H' => ∃ (a b c : Option V) (xs : List Str), σ = [some (.ref r), some (.int n), some (.str alphabet), some (.ref wl), some (.int sh), some (.ref p), a, b, c] ∧ Rng H' r ∧ But r H H' ∧
      H' wl = some (.lst (wordsL.map V.str)) ∧ H' p = some (.lst (xs.map V.str)) ∧ xs.length = i ∧ NmOk sh.toNat xs) ?_ ?_ ?_⟩
    · exact ⟨none, none, none, [], rfl, R2.new hp, B2'.mut hp0, by rw [upd_ne npw]; exact w1, upd_same, rfl, NmOk.nil⟩
    · rintro i σ H2 hi ⟨a, b, c, xs, rfl, R, B, hw, hL, hlen, hN⟩
      have hl26 : xs.length < 26 := by omega
      have hc := alpha_ix (s := sh) (i := i) s0
      refine ⟨_, rfl, _, rfl, _, rfl, _, _, rfl, rfl, _, _, rfl, rfl, (show (0 : Int) < 26 by decide), alphabet, _, _, rfl, rfl, alpha_len', hc, ?_⟩
      refine ⟨_, rfl, r, 6, rfl, R, by decide, fun H3 kd R3 B3 k0 k1 => ?_⟩
      have w3 : H3 wl = some (.lst (wordsL.map V.str)) := B3 _ _ hwr hw
      have p3 : H3 p = some (.lst (xs.map V.str)) := B3 _ _ hpr hL
      have B03 : But r H H3 := B.trans B3
      -- the draw
      refine ⟨fun σ H4 => ∃ y : Str, σ = [some (.ref r), some (.int n), some (.str alphabet), some (.ref wl), some (.int sh), some (.ref p), some (.int (0 + (i : Int))), some (.str y), some (.int kd)] ∧ Rng H4 r ∧ But r H H4 ∧ H4 wl = some (.lst (wordsL.map V.str)) ∧
        H4 p = some (.lst (xs.map V.str)) ∧ (y = ltr (sh.toNat + xs.length) ∨ 2 ≤ y.length) ∧ SOk y, ?_, ?_⟩
      · refine ⟨_, rfl, _, _, rfl, rfl, _, rfl, ?_⟩
        refine ite2 (fun hk => ?_) (fun hk => ?_)
        · have hk2 : kd < 2 := of_decide_eq_true hk
          refine ⟨_, rfl, _, rfl, r, 12, rfl, R3, by decide, fun H4 j R4 B4 j0 j1 => ?_⟩
          obtain ⟨x, hx, hx2, hx3⟩ := words_at ⟨j.toNat, by omega⟩
          have w4 : H4 wl = some (.lst (wordsL.map V.str)) := B4 _ _ hwr w3
          have p4 : H4 p = some (.lst (xs.map V.str)) := B4 _ _ hpr p3
          have B04 : But r H H4 := B03.trans B4
          refine ⟨wl, _, _, .str x, rfl, rfl, SqL.of w4, at_k j0 (by rw [List.getElem?_map, hx]; rfl), ?_⟩
          refine ⟨_, rfl, _, _, rfl, rfl, by show 5 + 1 ≤ sizeLine; rw [sizeLine_eq]; decide, ?_⟩
          refine ⟨by show 2 ≤ sizeLine; rw [sizeLine_eq]; decide, fun q hq => ?_⟩
          have hq0 : H q = none := B04.free hq (R4.ne hq)
          have key : ∀ y : Str, 2 ≤ y.length → SOk y → ∃ y' : Str, ([some (.ref r), some (.int n), some (.str alphabet), some (.ref wl), some (.int sh), some (.ref p), some (.int (0 + (i : Int))), some (.str y), some (.int kd)] : St) = [some (.ref r), some (.int n), some (.str alphabet), some (.ref wl), some (.int sh), some (.ref p), some (.int (0 + (i : Int))), some (.str y'), some (.int kd)] ∧ Rng (upd H4 q (.lst [.str x, .str ("aaaaa" ++ (⟨#[97 + (sh.toNat + i) % 26]⟩ : Str))])) r ∧ But r H (upd H4 q (.lst [.str x, .str ("aaaaa" ++ (⟨#[97 + (sh.toNat + i) % 26]⟩ : Str))])) ∧
              upd H4 q (.lst [.str x, .str ("aaaaa" ++ (⟨#[97 + (sh.toNat + i) % 26]⟩ : Str))]) wl = some (.lst (wordsL.map V.str)) ∧ upd H4 q (.lst [.str x, .str ("aaaaa" ++ (⟨#[97 + (sh.toNat + i) % 26]⟩ : Str))]) p = some (.lst (xs.map V.str)) ∧ (y' = ltr (sh.toNat + xs.length) ∨ 2 ≤ y'.length) ∧ SOk y' :=
            fun y hy hs => ⟨y, rfl, R4.new hq, B04.mut hq0, by rw [upd_ne (ne_of_none w4 hq)]; exact w4, by rw [upd_ne (ne_of_none p4 hq)]; exact p4, .inr hy, hs⟩
          have hl6 : 2 ≤ (("aaaaa" : Str) ++ (⟨#[97 + (sh.toNat + i) % 26]⟩ : Str)).length := by
            rw [Str.length_append]
            show 2 ≤ 5 + 1
            decide
          rcases (show kd = 0 ∨ kd = 1 by omega) with rfl | rfl
          · exact ⟨_, rfl, q, _, _, _, rfl, rfl, SqL.of upd_same, at_k (by decide) rfl, key x hx2 hx3⟩
          · exact ⟨_, rfl, q, _, _, _, rfl, rfl, SqL.of upd_same, at_k (by decide) rfl, key _ hl6 (aaaaa_ok _)⟩
        · exact ⟨_, rfl, R3, B03, w3, p3, .inl (by rw [hlen]; rfl), ltr_ok (sh.toNat + i)⟩
      · rintro σ H4 ⟨y, rfl, R4, B4, w4, p4, hy, hs⟩
        refine ⟨fun σ H5 => ∃ y : Str, σ = [some (.ref r), some (.int n), some (.str alphabet), some (.ref wl), some (.int sh), some (.ref p), some (.int (0 + (i : Int))), some (.str y), some (.int kd)] ∧ H5 = H4 ∧ y ∉ xs ∧ (y = ltr (sh.toNat + xs.length) ∨ 2 ≤ y.length) ∧ SOk y, ?_, ?_⟩
        · refine ⟨_, rfl, _, rfl, p, _, rfl, .inl (SqL.of p4), rfl, flat_strs xs, _, rfl, ?_⟩
          refine ite2 (fun hk => ?_) (fun hk => ?_)
          · refine ⟨_, rfl, _, rfl, _, rfl, _, _, rfl, rfl, _, _, rfl, rfl, (show (0 : Int) < 26 by decide), alphabet, _, _, rfl, rfl, alpha_len', hc, ?_⟩
            have e : (⟨#[97 + (sh.toNat + i) % 26]⟩ : Str) = ltr (sh.toNat + xs.length) := by rw [hlen]; rfl
            exact ⟨_, rfl, rfl, by rw [e]; exact hN.ltr_new hl26, .inl e, ltr_ok (sh.toNat + i)⟩
          · have hk2 : inV (.str y) (xs.map V.str) = false := by
              cases q : inV (.str y) (xs.map V.str) with
              | false => rfl
              | true => exact absurd (by simpa using q) hk
            rw [inV_str] at hk2
            exact ⟨y, rfl, rfl, of_decide_eq_false hk2, hy, hs⟩
        · rintro σ H5 ⟨y, rfl, rfl, hyn, hy, hs⟩
          refine ⟨_, rfl, .inl ⟨rfl, _, SqL.of p4⟩, _, rfl, p, _, _, rfl, rfl, p4, by rw [List.length_map, sizeLine_eq]; omega, ?_⟩
          refine ⟨_, _, _, xs ++ [y], rfl, R4.upd hpr, B4.mut hp0, by rw [upd_ne npw]; exact w4, by rw [List.map_append]; exact upd_same, by rw [List.length_append, hlen]; rfl, hN.add hyn hy hs⟩
    · rintro σ H2 ⟨a, b, c, xs, rfl, R, B, hw, hL, hlen, hN⟩
      exact ⟨_, rfl, k H2 p sh.toNat xs R B hp0 hL hlen hN⟩
end
end Rt
/-! ## L3 -/
set_option Elab.async false
set_option linter.all false
set_option maxRecDepth 100000
set_option maxHeartbeats 4000000
namespace Rt
open PySem PySem.Spec PyProof.Rows L2
open L2H (RoomH roomH_of)
/-! ### values -/
def binW : List Str := ["plus", "minus", "less", "same", "times", "over", "rest"]
/-- a value of the program's, so many deep at most: B the boxes that may stand in it, L the lists -/
inductive WVal (B L : List Str) (H : Hp) : Nat → V → Prop
  | num {d : Nat} {a : Addr} {n : Int} (h : H a = some (.tup [.str "number", .int n])) (h0 : 0 ≤ n) (h1 : n < 1000000) : WVal B L H (d + 1) (.ref a)
  | box {d : Nat} {a : Addr} {x : Str} (h : H a = some (.tup [.str "box", .str x])) (hx : x ∈ B) : WVal B L H (d + 1) (.ref a)
  | size {d : Nat} {a : Addr} {x : Str} (h : H a = some (.tup [.str "size", .str x])) (hx : x ∈ L) : WVal B L H (d + 1) (.ref a)
  | item {d : Nat} {a : Addr} {x : Str} {v : V} (h : H a = some (.tup [.str "item", .str x, v])) (hx : x ∈ L) (hv : WVal B L H d v) : WVal B L H (d + 1) (.ref a)
  | neg {d : Nat} {a : Addr} {v : V} (h : H a = some (.tup [.str "not", v])) (hv : WVal B L H d v) : WVal B L H (d + 1) (.ref a)
  | two {d : Nat} {a : Addr} {x : Str} {v u : V} (h : H a = some (.tup [.str x, v, u])) (hx : x ∈ binW) (hv : WVal B L H d v) (hu : WVal B L H d u) : WVal B L H (d + 1) (.ref a)
theorem WVal.tk {B L : List Str} {H H' : Hp} {d : Nat} {v : V} (h : WVal B L H d v) (k : Tk H H') : WVal B L H' d v := by
  induction h with
  | num h h0 h1 => exact .num (k _ _ h) h0 h1
  | box h hx => exact .box (k _ _ h) hx
  | size h hx => exact .size (k _ _ h) hx
  | item h hx _ ih => exact .item (k _ _ h) hx ih
  | neg h _ ih => exact .neg (k _ _ h) ih
  | two h hx _ _ ih1 ih2 => exact .two (k _ _ h) hx ih1 ih2
theorem WVal.up {B L : List Str} {H : Hp} {d : Nat} {v : V} (h : WVal B L H d v) : WVal B L H (d + 1) v := by
  induction h with
  | num h h0 h1 => exact .num h h0 h1
  | box h hx => exact .box h hx
  | size h hx => exact .size h hx
  | item h hx _ ih => exact .item h hx ih
  | neg h _ ih => exact .neg h ih
  | two h hx _ _ ih1 ih2 => exact .two h hx ih1 ih2
theorem WVal.le {B L : List Str} {H : Hp} {d e : Nat} {v : V} (h : WVal B L H d v) (he : d ≤ e) : WVal B L H e v := by
  obtain ⟨j, rfl⟩ := Nat.exists_eq_add_of_le he
  clear he
  induction j with
  | zero => exact h
  | succ j ih => exact ih.up
theorem Tk.new {H : Hp} {p : Addr} {o : HO} (h : H p = none) : Tk H (upd H p o) := fun b xs e => by
  rw [upd_ne (ne_of_none e h)]
  exact e
/-- a list of names isn't the drawing state -/
theorem Rng.names {H : Hp} {r b : Addr} {B : List Str} (h : Rng H r) (e : H b = some (.lst (B.map V.str))) : b ≠ r := by
  obtain ⟨n, hn, _⟩ := h
  refine ne_of e hn fun z => ?_
  have z2 := HO.lst.inj z
  cases B with
  | nil => cases z2
  | cons y ys =>
    rw [List.map_cons] at z2
    injection z2 with h1 _
    cases h1
theorem str_at {B : List Str} {k : Int} (h0 : 0 ≤ k) (h1 : k < (B.length : Int)) : ∃ x, x ∈ B ∧ atI (B.map V.str) k = some (.str x) := by
  have hlt : k.toNat < B.length := by omega
  refine ⟨B[k.toNat], List.getElem_mem hlt, at_k h0 ?_⟩
  rw [List.getElem?_map, List.getElem?_eq_getElem hlt]
  rfl
def spValue (d : Nat) : Sp := fun vs H Q _ => ∃ (r : Addr) (deep : Int) (bs ls : Addr) (B L : List Str), vs = [.ref r, .int deep, .ref bs, .ref ls] ∧ Rng H r ∧ deep ≤ (d : Int) + 1 ∧ H bs = some (.lst (B.map V.str)) ∧ H ls = some (.lst (L.map V.str)) ∧
  ∀ H' v, Rng H' r → But r H H' → WVal B L H' (d + 1) v → Q v H'
theorem sz2 : ([V.non, V.non] : List V).length ≤ sizeLine := by show 2 ≤ sizeLine; rw [sizeLine_eq]; decide
theorem szn {n : Nat} (h : n ≤ 1000) : n ≤ sizeLine := by rw [sizeLine_eq]; omega
theorem or_rd {A B P1 P2 X : Prop} [Decidable A] [Decidable B] (hB : (if decide B = true then P1 else P2) → X) (h1 : A ∨ B → P1) (h2 : ¬ (A ∨ B) → P2) : if decide A = true then (if true = true then P1 else P2) else X := by
  refine ite2 (fun h => iteT (h1 (.inl (of_decide_eq_true h)))) (fun h => hB (ite2 (fun q => h1 (.inr (of_decide_eq_true q))) (fun q => h2 fun z => ?_)))
  rcases z with z | z
  · exact h (decide_eq_true z)
  · exact q (decide_eq_true z)
section
variable {P : Program} {w : World} {K : PySem.W.Frag} {mg : Str → Option Value} {base : Heap}
/-- one turn; with G where deep is 2 or more -/
theorem value_step (T : Txt K mg) (d : Nat) (kk : Nat) (G__law_value : OkC P w K mg base CX0 (kk + 1) (He.ga K "_law_value") ["_law_state_here", "_law_deep", "_law_boxes", "_law_lists"] (fun vs H Q E => 1 ≤ d ∧ spValue (d - 1) vs H Q E)) :
    OkC P w K mg base CX0 (kk + 2) (He.ga K "_law_value") ["_law_state_here", "_law_deep", "_law_boxes", "_law_lists"] (spValue d) := by
  have G__law_next := ok_next (P := P) (w := w) (base := base) T
  refine okC T.f__law_value sc__law_value (fun fd F => F.bindsN fun _ _ _ _ _ _ us hl => match us, hl with | [_, _, _, _], _ => rfl) (fun vs H Q E h => ?_) (fun cdv A outer s H vs Q E hr h => ?_)
  · obtain ⟨r, deep, bs, ls, B, L, rfl, _⟩ := h
    rfl
  · obtain ⟨r, deep, bs, ls, B, L, rfl, hR, hd, hbs, hls, k⟩ := h
    refine ⟨_, (pss_cons
 (ps_set (i := 4) sc__law_value.nd rfl (by first | exact Or.inl rfl | exact Or.inr rfl) (ce_call G__law_next (hr.mono (by omega)) T.g__law_next T.p__law_next pass0 (pa_cons (pv 0) (pa_cons pe_int pa_nil)))) (pss_cons
 (ps_if (PW.pt (pw_or (pt_cmpR op_lt (pv 1) pe_int (nomark _)) (pw_or1 (pt_cmpR op_lt (pv 4) pe_int (nomark _))))) (C8.pss_cut
 (ps_if (PW.pt (pw_and (pt_cmpR op_gt (pe_callB call_len_seq (by rfl) T.b_len (by decide +kernel) (pa_cons (pv 2) pa_nil)) pe_int (nomark _)) (pw_and1 (pt_cmpR op_gt (ce_call G__law_next (hr.mono (by omega)) T.g__law_next T.p__law_next pass0 (pa_cons (pv 0) (pa_cons pe_int pa_nil))) pe_int (nomark _))))) (pss_one
 (ps_ret (pe_tup (pa_cons pe_str (pa_cons (pe_ix ix_list (pv 2) (ce_call G__law_next (hr.mono (by omega)) T.g__law_next T.p__law_next pass0 (pa_cons (pv 0) (pa_cons (pe_callB call_len_seq (by rfl) T.b_len (by decide +kernel) (pa_cons (pv 2) pa_nil)) pa_nil))) (fun _ _ => rfl)) pa_nil))))) pss_nil) (C8.pss_cut
 (ps_if (PW.pt (pw_and (pt_cmpR op_gt (pe_callB call_len_seq (by rfl) T.b_len (by decide +kernel) (pa_cons (pv 3) pa_nil)) pe_int (nomark _)) (pw_and1 (pt_cmpR op_eq (ce_call G__law_next (hr.mono (by omega)) T.g__law_next T.p__law_next pass0 (pa_cons (pv 0) (pa_cons pe_int pa_nil))) pe_int (nomark _))))) (pss_one
 (ps_ret (pe_tup (pa_cons pe_str (pa_cons (pe_ix ix_list (pv 3) (ce_call G__law_next (hr.mono (by omega)) T.g__law_next T.p__law_next pass0 (pa_cons (pv 0) (pa_cons (pe_callB call_len_seq (by rfl) T.b_len (by decide +kernel) (pa_cons (pv 3) pa_nil)) pa_nil))) (fun _ _ => rfl)) pa_nil))))) pss_nil) (pss_one
 (ps_ret (pe_tup (pa_cons pe_str (pa_cons (pe_ix ix_list (pe_lst (pa_cons (ce_call G__law_next (hr.mono (by omega)) T.g__law_next T.p__law_next pass0 (pa_cons (pv 0) (pa_cons pe_int pa_nil))) (pa_cons (ce_call G__law_next (hr.mono (by omega)) T.g__law_next T.p__law_next pass0 (pa_cons (pv 0) (pa_cons pe_int pa_nil))) pa_nil))) (pe_op op_fdiv (ce_call G__law_next (hr.mono (by omega)) T.g__law_next T.p__law_next pass0 (pa_cons (pv 0) (pa_cons pe_int pa_nil))) pe_int) (fun _ _ => rfl)) pa_nil))))))) pss_nil) (pss_cons
 (ps_set (i := 5) sc__law_value.nd rfl (by first | exact Or.inl rfl | exact Or.inr rfl) (ce_call G__law_value (hr.mono (by omega)) T.g__law_value T.p__law_value pass0 (pa_cons (pv 0) (pa_cons (pe_op op_sub (pv 1) pe_int) (pa_cons (pv 2) (pa_cons (pv 3) pa_nil)))))) (pss_cons
 (ps_if (pt_cmpR op_eq (pv 4) pe_int (nomark _)) (pss_one
 (ps_ret (pe_tup (pa_cons pe_str (pa_cons (pv 5) pa_nil))))) pss_nil) (C8.pss_cut
 (ps_if (PW.pt (pw_and (pt_cmpR op_eq (pv 4) pe_int (nomark _)) (pw_and1 (pt_cmpR op_gt (pe_callB call_len_seq (by rfl) T.b_len (by decide +kernel) (pa_cons (pv 3) pa_nil)) pe_int (nomark _))))) (pss_one
 (ps_ret (pe_tup (pa_cons pe_str (pa_cons (pe_ix ix_list (pv 3) (ce_call G__law_next (hr.mono (by omega)) T.g__law_next T.p__law_next pass0 (pa_cons (pv 0) (pa_cons (pe_callB call_len_seq (by rfl) T.b_len (by decide +kernel) (pa_cons (pv 3) pa_nil)) pa_nil))) (fun _ _ => rfl)) (pa_cons (pv 5) pa_nil)))))) pss_nil) (pss_cons
 (ps_set (i := 6) sc__law_value.nd rfl (by first | exact Or.inl rfl | exact Or.inr rfl) (pe_ix ix_list (pe_lst (pa_cons pe_int (pa_cons pe_int (pa_cons pe_int (pa_cons pe_int (pa_cons (ce_call G__law_next (hr.mono (by omega)) T.g__law_next T.p__law_next pass0 (pa_cons (pv 0) (pa_cons pe_int pa_nil))) pa_nil)))))) (ce_call G__law_next (hr.mono (by omega)) T.g__law_next T.p__law_next pass0 (pa_cons (pv 0) (pa_cons pe_int pa_nil))) (fun _ _ => rfl))) (pss_cons
 (ps_set (i := 7) sc__law_value.nd rfl (by first | exact Or.inl rfl | exact Or.inr rfl) (pe_ix ix_list (pe_lst (pa_cons pe_str (pa_cons pe_str (pa_cons pe_str (pa_cons pe_str (pa_cons pe_str (pa_cons pe_str (pa_cons pe_str pa_nil)))))))) (pv 6) (fun _ _ => rfl))) (pss_one
 (ps_ret (pe_tup (pa_cons (pv 7) (pa_cons (pv 5) (pa_cons (ce_call G__law_value (hr.mono (by omega)) T.g__law_value T.p__law_value pass0 (pa_cons (pv 0) (pa_cons (pe_op op_sub (pv 1) pe_int) (pa_cons (pv 2) (pa_cons (pv 3) pa_nil))))) pa_nil))))))))))))), ?_⟩
    have nbs := hR.names hbs
    have nls := hR.names hls
    refine ⟨_, rfl, r, 10, rfl, hR, by decide, fun H1 kd R1 B1 k0 k1 => ?_⟩
    have h2 : 0 < 1 := by decide
    refine ⟨_, rfl, _, _, rfl, rfl, _, rfl, ?_⟩
    refine or_rd (B := kd < 4) (fun q => ⟨_, rfl, _, _, rfl, rfl, _, rfl, q⟩) (fun h => ?_) (fun h => ?_)
    · -- a leaf
      have hb1 : H1 bs = some (.lst (B.map V.str)) := B1 _ _ nbs hbs
      refine ⟨fun σ H2 => σ = [some (.ref r), some (.int deep), some (.ref bs), some (.ref ls), some (.int kd), none, none, none] ∧ Rng H2 r ∧ But r H H2, ?_, ?_⟩
      · refine ⟨_, rfl, bs, _, rfl, .inl (SqL.of hb1), _, _, rfl, rfl, _, rfl, ite2 (fun hl => ?_) (fun hl => iteF ⟨rfl, R1, B1⟩)⟩
        have hl2 : 0 < ((B.map V.str).length : Int) := of_decide_eq_true hl
        refine ⟨_, rfl, r, 3, rfl, R1, by decide, fun H2 a R2 B2 a0 a1 => ⟨_, _, rfl, rfl, _, rfl, ite2 (fun ha => ?_) (fun ha => ⟨rfl, R2, B1.trans B2⟩)⟩⟩
        have hb2 := B2 _ _ nbs hb1
        refine ⟨_, rfl, _, rfl, _, rfl, bs, _, rfl, .inl (SqL.of hb2), r, _, rfl, R2, hl2, fun H3 j R3 B3 j0 j1 => ?_⟩
        have hb3 := B3 _ _ nbs hb2
        rw [List.length_map] at j1
        obtain ⟨x, hx, ex⟩ := str_at j0 j1
        refine ⟨bs, _, _, _, rfl, rfl, SqL.of hb3, ex, szn (by decide : 2 ≤ 1000), fun p hp => ?_⟩
        exact k _ _ (R3.new hp) (((B1.trans B2).trans B3).trans (But.new hp)) (.box upd_same hx)
      · rintro σ H2 ⟨rfl, R2, B2⟩
        have hl2 : H2 ls = some (.lst (L.map V.str)) := B2 _ _ nls hls
        refine ⟨fun σ H3 => σ = [some (.ref r), some (.int deep), some (.ref bs), some (.ref ls), some (.int kd), none, none, none] ∧ Rng H3 r ∧ But r H H3, ?_, ?_⟩
        · refine ⟨_, rfl, ls, _, rfl, .inl (SqL.of hl2), _, _, rfl, rfl, _, rfl, ite2 (fun hl => ?_) (fun hl => iteF ⟨rfl, R2, B2⟩)⟩
          have hl3 : 0 < ((L.map V.str).length : Int) := of_decide_eq_true hl
          refine ⟨_, rfl, r, 6, rfl, R2, by decide, fun H3 a R3 B3 a0 a1 => ⟨rfl, _, rfl, ite2 (fun ha => ?_) (fun ha => ⟨rfl, R3, B2.trans B3⟩)⟩⟩
          have hb2 := B3 _ _ nls hl2
          refine ⟨_, rfl, _, rfl, _, rfl, ls, _, rfl, .inl (SqL.of hb2), r, _, rfl, R3, hl3, fun H4 j R4 B4 j0 j1 => ?_⟩
          have hb3 := B4 _ _ nls hb2
          rw [List.length_map] at j1
          obtain ⟨x, hx, ex⟩ := str_at j0 j1
          refine ⟨ls, _, _, _, rfl, rfl, SqL.of hb3, ex, szn (by decide : 2 ≤ 1000), fun p hp => ?_⟩
          exact k _ _ (R4.new hp) (((B2.trans B3).trans B4).trans (But.new hp)) (.size upd_same hx)
        · rintro σ H3 ⟨rfl, R3, B3⟩
          -- ('number', [a, b][c // 5])
          refine ⟨_, rfl, r, 4, rfl, R3, by decide, fun H4 a R4 B4 a0 a1 => ⟨_, rfl, r, 1000000, rfl, R4, by decide, fun H5 b R5 B5 b0 b1 => ⟨szn (by decide : 2 ≤ 1000), fun q hq => ?_⟩⟩⟩
          refine ⟨_, rfl, r, 6, rfl, R5.new hq, by decide, fun H6 c R6 B6 c0 c1 => ⟨_, _, rfl, rfl, ⟨by decide, by decide⟩, ?_⟩⟩
          have q6 : H6 q = some (.lst [.int a, .int b]) := B6 _ _ (R5.ne hq) upd_same
          have B06 := (((B3.trans B4).trans B5).trans (But.new (o := .lst [.int a, .int b]) hq)).trans B6
          rcases (show c / 5 = 0 ∨ c / 5 = 1 by omega) with e | e
          · refine ⟨q, _, _, .int a, rfl, rfl, SqL.of q6, at_k (by rw [e]; decide) (by rw [e]; rfl), szn (by decide : 2 ≤ 1000), fun p hp => ?_⟩
            exact k _ _ (R6.new hp) (B06.trans (But.new hp)) (.num upd_same a0 (by omega))
          · refine ⟨q, _, _, .int b, rfl, rfl, SqL.of q6, at_k (by rw [e]; decide) (by rw [e]; rfl), szn (by decide : 2 ≤ 1000), fun p hp => ?_⟩
            exact k _ _ (R6.new hp) (B06.trans (But.new hp)) (.num upd_same b0 b1)
    · -- a value within
      have hdd : 1 ≤ d := by omega
      have hb1 : H1 bs = some (.lst (B.map V.str)) := B1 _ _ nbs hbs
      have hl1 : H1 ls = some (.lst (L.map V.str)) := B1 _ _ nls hls
      have ed : ((d - 1 : Nat) : Int) + 1 = (d : Int) := by omega
      refine ⟨_, rfl, _, rfl, _, _, rfl, rfl, _, rfl, _, rfl, hdd, r, _, bs, ls, B, L, rfl, R1, by omega, hb1, hl1, fun H2 v R2 B2 hv => ?_⟩
      have hv : WVal B L H2 d v := by
        have e : d - 1 + 1 = d := by omega
        rw [e] at hv
        exact hv
      have B02 := B1.trans B2
      refine ⟨_, rfl, rfl, _, rfl, ite2 (fun h4 => ?_) (fun h4 => ?_)⟩
      · refine ⟨_, rfl, szn (by decide : 2 ≤ 1000), fun p hp => ?_⟩
        exact k _ _ (R2.new hp) (B02.trans (But.new hp)) (.neg upd_same (hv.tk (Tk.new hp)))
      · have hl2 : H2 ls = some (.lst (L.map V.str)) := B02 _ _ nls hls
        refine ⟨fun σ H3 => σ = [some (.ref r), some (.int deep), some (.ref bs), some (.ref ls), some (.int kd), some v, none, none] ∧ Rng H3 r ∧ But r H H3 ∧ WVal B L H3 d v, ?_, ?_⟩
        · refine ⟨_, rfl, rfl, _, rfl, ite2 (fun h5 => ?_) (fun h5 => iteF ⟨rfl, R2, B02, hv⟩)⟩
          refine ⟨_, rfl, ls, _, rfl, .inl (SqL.of hl2), _, _, rfl, rfl, _, rfl, ite2 (fun hl => ?_) (fun hl => ⟨rfl, R2, B02, hv⟩)⟩
          have hl3 : 0 < ((L.map V.str).length : Int) := of_decide_eq_true hl
          refine ⟨_, rfl, _, rfl, _, rfl, ls, _, rfl, .inl (SqL.of hl2), r, _, rfl, R2, hl3, fun H3 j R3 B3 j0 j1 => ?_⟩
          have hb3 := B3 _ _ nls hl2
          rw [List.length_map] at j1
          obtain ⟨x, hx, ex⟩ := str_at j0 j1
          refine ⟨ls, _, _, _, rfl, rfl, SqL.of hb3, ex, _, rfl, szn (by decide : 3 ≤ 1000), fun p hp => ?_⟩
          exact k _ _ (R3.new hp) ((B02.trans B3).trans (But.new hp)) (.item upd_same hx ((hv.tk (R2.tk B3)).tk (Tk.new hp)))
        · rintro σ H3 ⟨rfl, R3, B3, hv3⟩
          refine ⟨_, rfl, r, 7, rfl, R3, by decide, fun H4 a R4 B4 a0 a1 => ⟨szn (by decide : 5 ≤ 1000), fun q hq => ?_⟩⟩
          refine ⟨_, rfl, r, 5, rfl, R4.new hq, by decide, fun H5 b R5 B5 b0 b1 => ?_⟩
          have q5 : H5 q = some (.lst [.int 0, .int 1, .int 2, .int 3, .int a]) := B5 _ _ (R4.ne hq) upd_same
          have B05 := ((B3.trans B4).trans (But.new (o := .lst [.int 0, .int 1, .int 2, .int 3, .int a]) hq)).trans B5
          have hv5 : WVal B L H5 d v := ((hv3.tk (R3.tk B4)).tk (Tk.new hq)).tk ((R4.new hq).tk B5)
          obtain ⟨g, hg, g0, g1⟩ : ∃ g : Int, atI [V.int 0, V.int 1, V.int 2, V.int 3, V.int a] b = some (.int g) ∧ 0 ≤ g ∧ g < 7 := by
            rcases (show b = 0 ∨ b = 1 ∨ b = 2 ∨ b = 3 ∨ b = 4 by omega) with rfl | rfl | rfl | rfl | rfl
            · exact ⟨0, rfl, by decide, by decide⟩
            · exact ⟨1, rfl, by decide, by decide⟩
            · exact ⟨2, rfl, by decide, by decide⟩
            · exact ⟨3, rfl, by decide, by decide⟩
            · exact ⟨a, rfl, a0, a1⟩
          refine ⟨q, _, _, _, rfl, rfl, SqL.of q5, hg, ?_⟩
          refine ⟨szn (by decide : 7 ≤ 1000), fun p hp => ?_⟩
          obtain ⟨x, hx, ex⟩ := str_at (B := binW) (k := g) g0 (by show g < 7; exact g1)
          refine ⟨_, rfl, p, _, _, _, rfl, rfl, SqL.of upd_same, ex, ?_⟩
          have R6 := R5.new (o := .lst (binW.map V.str)) hp
          have B06 := B05.trans (But.new (o := .lst (binW.map V.str)) hp)
          have hv6 := hv5.tk (Tk.new (o := .lst (binW.map V.str)) hp)
          refine ⟨_, rfl, _, rfl, _, rfl, _, rfl, _, _, rfl, rfl, _, rfl, _, rfl, hdd, r, _, bs, ls, B, L, rfl, R6, by omega, B06 _ _ nbs hbs, B06 _ _ nls hls, fun H7 u R7 B7 hu => ?_⟩
          have hu : WVal B L H7 d u := by
            have e : d - 1 + 1 = d := by omega
            rw [e] at hu
            exact hu
          refine ⟨szn (by decide : 3 ≤ 1000), fun p2 hp2 => ?_⟩
          exact k _ _ (R7.new hp2) ((B06.trans B7).trans (But.new hp2)) (.two upd_same hx ((hv6.tk (R6.tk B7)).tk (Tk.new hp2)) (hu.tk (Tk.new hp2)))
theorem ok_value (T : Txt K mg) : ∀ d : Nat, OkC P w K mg base CX0 (d + 2) (He.ga K "_law_value") ["_law_state_here", "_law_deep", "_law_boxes", "_law_lists"] (spValue d)
  | 0 => value_step T 0 0 (by
      obtain ⟨fd, F⟩ := T.f__law_value
      refine ⟨fd, ⟨fun vs H Q E h => absurd h.1 (by decide), fun A outer s H args us vs Q E _ _ _ _ h => absurd h.1 (by decide)⟩, F.bindsN fun _ _ _ _ _ _ us hl => match us, hl with | [_, _, _, _], _ => rfl⟩)
  | d + 1 => value_step T (d + 1) (d + 1) ((ok_value T d).imp fun vs H Q E h => h.2)
end
end Rt
/-! ## L4 -/
set_option Elab.async false
set_option linter.all false
set_option maxRecDepth 100000
set_option maxHeartbeats 4000000
namespace Rt
open PySem PySem.Spec PyProof.Rows L2
open L2H (RoomH roomH_of)
/-! ### rows -/
/-- what may stand in a row -/
structure Sc where
  B : List Str
  L : List Str
  F : List (Str × Nat)
  inside : Bool
def doorsL : List Str := ["door", "a", "zz"]
inductive Plain (G : Sc) (H : Hp) : List V → Prop
  | set {x : Str} {v : V} (hx : x ∈ G.B) (hv : WVal G.B G.L H 3 v) : Plain G H [.str "set", .str x, v]
  | push {l : Str} {v : V} (hl : l ∈ G.L) (hv : WVal G.B G.L H 3 v) : Plain G H [.str "push", .str l, v]
  | pop {x l : Str} (hx : x ∈ G.B) (hl : l ∈ G.L) : Plain G H [.str "pop", .str x, .str l]
  | put {l : Str} {u v : V} (hl : l ∈ G.L) (hu : WVal G.B G.L H 3 u) (hv : WVal G.B G.L H 3 v) : Plain G H [.str "put", .str l, u, v]
  | ask {x d : Str} (hx : x ∈ G.B) (hd : d ∈ doorsL) : Plain G H [.str "ask", .str x, .str d]
  | tell {v : V} (hv : WVal G.B G.L H 3 v) : Plain G H [.str "tell", v]
  | fail {v : V} (hv : WVal G.B G.L H 3 v) : Plain G H [.str "fail", v]
  | call {x f : Str} {a : Addr} {vs : List V} (hx : x ∈ G.B) (hf : (f, vs.length) ∈ G.F) (ha : H a = some (.tup vs)) (hv : ∀ v ∈ vs, WVal G.B G.L H 3 v) : Plain G H [.str "call", .str x, .str f, .ref a]
  | ret {v : V} (hi : G.inside = true) (hv : WVal G.B G.L H 3 v) : Plain G H [.str "return", v]
theorem Plain.tk {G : Sc} {H H' : Hp} {xs : List V} (h : Plain G H xs) (k : Tk H H') : Plain G H' xs := by
  cases h with
  | set hx hv => exact .set hx (hv.tk k)
  | push hx hv => exact .push hx (hv.tk k)
  | pop hx hl => exact .pop hx hl
  | put hl hu hv => exact .put hl (hu.tk k) (hv.tk k)
  | ask hx hd => exact .ask hx hd
  | tell hv => exact .tell (hv.tk k)
  | fail hv => exact .fail (hv.tk k)
  | call hx hf ha hv => exact .call hx hf (k _ _ ha) fun v hm => (hv v hm).tk k
  | ret hi hv => exact .ret hi (hv.tk k)
/-- all but lists of one number stays -/
def Ki (H H' : Hp) : Prop := ∀ b o, (∀ n : Int, o ≠ .lst [.int n]) → H b = some o → H' b = some o
theorem Ki.tk {H H' : Hp} (k : Ki H H') : Tk H H' := fun b xs e => k b _ (fun n z => by cases z) e
theorem Ki.refl {H : Hp} : Ki H H := fun _ _ _ e => e
theorem Ki.trans {H H1 H2 : Hp} (a : Ki H H1) (b : Ki H1 H2) : Ki H H2 := fun c o hc e => b c o hc (a c o hc e)
theorem Rng.ki {H H' : Hp} {r : Addr} (h : Rng H r) (k : But r H H') : Ki H H' := fun b o ho e => by
  obtain ⟨n, hn, _⟩ := h
  exact k b o (fun z => by rw [z, hn] at e; exact ho n (Option.some.inj e).symm) e
theorem ki_strs {B : List Str} (n : Int) : HO.lst (B.map V.str) ≠ .lst [.int n] := fun z => by
  have z2 := HO.lst.inj z
  cases B with
  | nil => cases z2
  | cons y ys =>
    rw [List.map_cons] at z2
    injection z2 with h1 _
    cases h1
theorem ki_refs {B : List Addr} (n : Int) : HO.lst (B.map V.ref) ≠ .lst [.int n] := fun z => by
  have z2 := HO.lst.inj z
  cases B with
  | nil => cases z2
  | cons y ys =>
    rw [List.map_cons] at z2
    injection z2 with h1 _
    cases h1
structure FunsAt (H : Hp) (fs : Addr) (F : List (Str × Nat)) : Prop where
  ex : ∃ fas : List Addr, H fs = some (.lst (fas.map V.ref)) ∧ fas.length = F.length ∧ ∀ (i : Nat) (a : Addr), fas[i]? = some a → ∃ p : Str × Nat, F[i]? = some p ∧ H a = some (.tup [.str p.1, .int (p.2 : Int)])
theorem FunsAt.ki {H H' : Hp} {fs : Addr} {F : List (Str × Nat)} (h : FunsAt H fs F) (k : Ki H H') : FunsAt H' fs F := by
  obtain ⟨fas, h1, h2, h3⟩ := h.ex
  exact ⟨fas, k _ _ ki_refs h1, h2, fun i a e => let ⟨p, e1, e2⟩ := h3 i a e; ⟨p, e1, k.tk _ _ e2⟩⟩
structure NamesAt (H : Hp) (t bs ls fs : Addr) (G : Sc) : Prop where
  tup : H t = some (.tup [.ref bs, .ref ls, .ref fs, .bl G.inside])
  boxes : H bs = some (.lst (G.B.map V.str))
  lists : H ls = some (.lst (G.L.map V.str))
  funs : FunsAt H fs G.F
theorem NamesAt.ki {H H' : Hp} {t bs ls fs : Addr} {G : Sc} (h : NamesAt H t bs ls fs G) (k : Ki H H') : NamesAt H' t bs ls fs G :=
  ⟨k.tk _ _ h.tup, k _ _ ki_strs h.boxes, k _ _ ki_strs h.lists, h.funs.ki k⟩
def spPlain : Sp := fun vs H Q _ => ∃ (r t bs ls fs : Addr) (G : Sc), vs = [.ref r, .ref t] ∧ Rng H r ∧ NamesAt H t bs ls fs G ∧ (∀ p ∈ G.F, p.2 ≤ 2) ∧ G.B.length ≤ 100 ∧
  ∀ H' a xs, Rng H' r → But r H H' → H' a = some (.tup xs) → Plain G H' xs → Q (.ref a) H'
theorem tyes {σ : St} {H : Hp} {A B : Hp → Prop} (h : A H) : tYes σ H (fun b H3 => if b = true then A H3 else B H3) := iteT (A := A H) (B := B H) h
theorem Ki.new {H : Hp} {p : Addr} {o : HO} (h : H p = none) : Ki H (upd H p o) := fun b xs _ e => by
  rw [upd_ne (ne_of_none e h)]
  exact e
section
variable {P : Program} {w : World} {K : PySem.W.Frag} {mg : Str → Option Value} {base : Heap}
theorem ok_plain (T : Txt K mg) : OkC P w K mg base CX0 5 (He.ga K "_law_plain") ["_law_state_here", "_law_names_here"] spPlain := by
  have G__law_next := ok_next (P := P) (w := w) (base := base) T
  have G__law_value := ok_value (P := P) (w := w) (base := base) T 2
  refine okC T.f__law_plain sc__law_plain (fun fd F => F.bindsN fun _ _ _ _ _ _ us hl => match us, hl with | [_, _], _ => rfl) (fun vs H Q E h => ?_) (fun cdv A outer s H vs Q E hr h => ?_)
  · obtain ⟨r, t, bs, ls, fs, G, rfl, _⟩ := h
    rfl
  · obtain ⟨r, t, bs, ls, fs, G, rfl, hR, hN, h2, hBl, k⟩ := h
    refine ⟨_, (pss_cons
 (ps_asg (pv 1) (pg_tup rfl (pgs_cons (pg_name (i := 2) sc__law_plain.nd rfl (by first | exact Or.inl rfl | exact Or.inr rfl)) (pgs_cons (pg_name (i := 3) sc__law_plain.nd rfl (by first | exact Or.inl rfl | exact Or.inr rfl)) (pgs_cons (pg_name (i := 4) sc__law_plain.nd rfl (by first | exact Or.inl rfl | exact Or.inr rfl)) (pgs_cons (pg_name (i := 5) sc__law_plain.nd rfl (by first | exact Or.inl rfl | exact Or.inr rfl)) pgs_nil)))))) (pss_cons
 (ps_set (i := 6) sc__law_plain.nd rfl (by first | exact Or.inl rfl | exact Or.inr rfl) (ce_call G__law_next (hr.mono (by omega)) T.g__law_next T.p__law_next pass0 (pa_cons (pv 0) (pa_cons pe_int pa_nil)))) (pss_cons
 (ps_set (i := 7) sc__law_plain.nd rfl (by first | exact Or.inl rfl | exact Or.inr rfl) (ce_call G__law_value (hr.mono (by omega)) T.g__law_value T.p__law_value pass0 (pa_cons (pv 0) (pa_cons (pe_op op_add pe_int (ce_call G__law_next (hr.mono (by omega)) T.g__law_next T.p__law_next pass0 (pa_cons (pv 0) (pa_cons pe_int pa_nil)))) (pa_cons (pv 2) (pa_cons (pv 3) pa_nil)))))) (pss_cons
 (ps_set (i := 8) sc__law_plain.nd rfl (by first | exact Or.inl rfl | exact Or.inr rfl) (pe_ix ix_list (pe_op op_cat (pv 2) (pe_lst (pa_cons pe_str pa_nil))) (ce_call G__law_next (hr.mono (by omega)) T.g__law_next T.p__law_next pass0 (pa_cons (pv 0) (pa_cons (pe_callB (call_max2 rfl) (by rfl) T.b_max (by decide +kernel) (pa_cons pe_int (pa_cons (pe_callB call_len_seq (by rfl) T.b_len (by decide +kernel) (pa_cons (pv 2) pa_nil)) pa_nil))) pa_nil))) (fun _ _ => rfl))) (C8.pss_cut
 (ps_if (PW.pt (pw_or (pt_cmpR op_eq (pv 8) pe_str (nomark _)) (pw_or1 (pt_cmpR op_eq (pv 6) pe_int (nomark _))))) (pss_one
 (ps_ret (pe_tup (pa_cons pe_str (pa_cons (pv 7) pa_nil))))) pss_nil) (C8.pss_cut
 (ps_if (PW.pt (pw_and (pt_cmpR op_lt (pv 6) pe_int (nomark _)) (pw_and1 (pt_cmpR op_gt (pe_callB call_len_seq (by rfl) T.b_len (by decide +kernel) (pa_cons (pv 3) pa_nil)) pe_int (nomark _))))) (pss_cons
 (ps_set (i := 9) sc__law_plain.nd rfl (by first | exact Or.inl rfl | exact Or.inr rfl) (pe_ix ix_list (pv 3) (ce_call G__law_next (hr.mono (by omega)) T.g__law_next T.p__law_next pass0 (pa_cons (pv 0) (pa_cons (pe_callB call_len_seq (by rfl) T.b_len (by decide +kernel) (pa_cons (pv 3) pa_nil)) pa_nil))) (fun _ _ => rfl))) (pss_cons
 (ps_set (i := 10) sc__law_plain.nd rfl (by first | exact Or.inl rfl | exact Or.inr rfl) (pe_ix ix_list (pe_lst (pa_cons (pe_tup (pa_cons pe_str (pa_cons (ce_call G__law_next (hr.mono (by omega)) T.g__law_next T.p__law_next pass0 (pa_cons (pv 0) (pa_cons pe_int pa_nil))) pa_nil))) (pa_cons (ce_call G__law_value (hr.mono (by omega)) T.g__law_value T.p__law_value pass0 (pa_cons (pv 0) (pa_cons pe_int (pa_cons (pv 2) (pa_cons (pv 3) pa_nil))))) pa_nil))) (ce_call G__law_next (hr.mono (by omega)) T.g__law_next T.p__law_next pass0 (pa_cons (pv 0) (pa_cons pe_int pa_nil))) (fun _ _ => rfl))) (pss_cons
 (ps_set (i := 6) sc__law_plain.nd rfl (by first | exact Or.inl rfl | exact Or.inr rfl) (pe_ix ix_list (pe_lst (pa_cons pe_int (pa_cons pe_int (pa_cons pe_int (pa_cons pe_int pa_nil))))) (ce_call G__law_next (hr.mono (by omega)) T.g__law_next T.p__law_next pass0 (pa_cons (pv 0) (pa_cons pe_int pa_nil))) (fun _ _ => rfl))) (pss_one
 (ps_ret (pe_ix ix_list (pe_lst (pa_cons (pe_tup (pa_cons pe_str (pa_cons (pv 9) (pa_cons (pv 7) pa_nil)))) (pa_cons (pe_tup (pa_cons pe_str (pa_cons (pv 8) (pa_cons (pv 9) pa_nil)))) (pa_cons (pe_tup (pa_cons pe_str (pa_cons (pv 9) (pa_cons (pv 10) (pa_cons (pv 7) pa_nil))))) pa_nil)))) (pv 6) (fun _ _ => rfl))))))) pss_nil) (C8.pss_cut
 (ps_if (PW.pt (pw_and (pt_cmpR op_lt (pv 6) pe_int (nomark _)) (pw_and1 (pt_cmpR op_gt (pe_callB call_len_seq (by rfl) T.b_len (by decide +kernel) (pa_cons (pv 4) pa_nil)) pe_int (nomark _))))) (pss_cons
 (ps_asg (pe_ix ix_list (pv 4) (ce_call G__law_next (hr.mono (by omega)) T.g__law_next T.p__law_next pass0 (pa_cons (pv 0) (pa_cons (pe_callB call_len_seq (by rfl) T.b_len (by decide +kernel) (pa_cons (pv 4) pa_nil)) pa_nil))) (fun _ _ => rfl)) (pg_tup rfl (pgs_cons (pg_name (i := 9) sc__law_plain.nd rfl (by first | exact Or.inl rfl | exact Or.inr rfl)) (pgs_cons (pg_name (i := 11) sc__law_plain.nd rfl (by first | exact Or.inl rfl | exact Or.inr rfl)) pgs_nil)))) (pss_one
 (ps_ret (pe_tup (pa_cons pe_str (pa_cons (pv 8) (pa_cons (pv 9) (pa_cons (pe_callTy call_tuple_of (by rfl) T.b_tuple (by decide +kernel) (pa_cons (pe_lc (own := [("_law_k", 12)]) rfl sc__law_plain.nd (pi_range1 rfl T.b_range (pa_cons (pv 11) pa_nil)) (blkOk_by (N := N__law_plain) (sc := defScope s__law_plain) (by decide +kernel)) (fun _ _ _ _ _ => (pg_name (i := 12) sc__law_plain.nd rfl (by first | exact Or.inl rfl | exact Or.inr rfl))) (fun _ _ _ _ _ => pts_nil) (fun _ _ _ _ _ => (ce_call G__law_value (hr.mono (by omega)) T.g__law_value T.p__law_value pass0 (pa_cons (pv 0) (pa_cons pe_int (pa_cons (pv 2) (pa_cons (pv 3) pa_nil))))))) pa_nil)) pa_nil)))))))) pss_nil) (pss_cons
 (ps_if (pt_cmpR op_eq (pv 6) pe_int (nomark _)) (pss_one
 (ps_ret (pe_tup (pa_cons pe_str (pa_cons (pv 8) (pa_cons (pe_ix ix_list (pe_lst (pa_cons pe_str (pa_cons pe_str (pa_cons pe_str pa_nil)))) (ce_call G__law_next (hr.mono (by omega)) T.g__law_next T.p__law_next pass0 (pa_cons (pv 0) (pa_cons pe_int pa_nil))) (fun _ _ => rfl)) pa_nil)))))) pss_nil) (C8.pss_cut
 (ps_if (PW.pt (pw_and (pt_cmpR op_eq (pv 6) pe_int (nomark _)) (pw_and1 (pt_val (pv 5))))) (pss_one
 (ps_ret (pe_tup (pa_cons pe_str (pa_cons (pv 7) pa_nil))))) pss_nil) (pss_cons
 (ps_if (pt_cmpR op_eq (pv 6) pe_int (nomark _)) (pss_one
 (ps_ret (pe_tup (pa_cons pe_str (pa_cons (pe_ix ix_list (pe_lst (pa_cons (pe_tup (pa_cons pe_str (pa_cons (ce_call G__law_next (hr.mono (by omega)) T.g__law_next T.p__law_next pass0 (pa_cons (pv 0) (pa_cons pe_int pa_nil))) pa_nil))) (pa_cons (pv 7) pa_nil))) (ce_call G__law_next (hr.mono (by omega)) T.g__law_next T.p__law_next pass0 (pa_cons (pv 0) (pa_cons pe_int pa_nil))) (fun _ _ => rfl)) pa_nil))))) pss_nil) (pss_one
 (ps_ret (pe_tup (pa_cons pe_str (pa_cons (pv 8) (pa_cons (pv 7) pa_nil)))))))))))))))), ?_⟩
    refine ⟨_, rfl, t, _, rfl, SqT.of hN.tup, rfl, _, _, rfl, _, _, rfl, _, _, rfl, _, _, rfl, rfl, ?_⟩
    refine ⟨_, rfl, r, 16, rfl, hR, by decide, fun H1 kd R1 B1 k0 k1 => ?_⟩
    have N1 := hN.ki (hR.ki B1)
    refine ⟨_, rfl, _, rfl, r, 3, rfl, R1, by decide, fun H2 j R2 B2 j0 j1 => ?_⟩
    have N2 := N1.ki (R1.ki B2)
    refine ⟨_, _, rfl, rfl, _, rfl, _, rfl, r, _, bs, ls, G.B, G.L, rfl, R2, by omega, N2.boxes, N2.lists, fun H3 v R3 B3 hv => ?_⟩
    have N3 := N2.ki (R2.ki B3)
    refine ⟨_, rfl, szn (by decide : 1 ≤ 1000), fun q hq => ?_⟩
    have R4 := R3.new (o := .lst [.str "-"]) hq
    have N4 := N3.ki (Ki.new (o := .lst [.str "-"]) hq)
    refine ⟨bs, q, _, _, rfl, rfl, N4.boxes, upd_same, szn (by rw [List.length_map, List.length_singleton]; omega), fun p hp => ?_⟩
    have R5 := R4.new (o := .lst (G.B.map V.str ++ [.str "-"])) hp
    have N5 := N4.ki (Ki.new (o := .lst (G.B.map V.str ++ [.str "-"])) hp)
    refine ⟨_, rfl, _, rfl, bs, _, rfl, .inl (SqL.of N5.boxes), _, _, rfl, r, _, rfl, R5, (by split <;> omega), fun H6 j' R6 B6 g0 g1 => ?_⟩
    have N6 := N5.ki (R5.ki B6)
    have p6 : H6 p = some (.lst (G.B.map V.str ++ [.str "-"])) := B6 _ _ (R4.ne hp) upd_same
    obtain ⟨x, ex, hx⟩ : ∃ x, atI (G.B.map V.str ++ [.str "-"]) j' = some (.str x) ∧ (x ∈ G.B ∨ x = "-") := by
      by_cases hlt : j'.toNat < G.B.length
      · refine ⟨G.B[j'.toNat], at_k g0 ?_, .inl (List.getElem_mem hlt)⟩
        rw [List.getElem?_append_left (by rw [List.length_map]; exact hlt), List.getElem?_map, List.getElem?_eq_getElem hlt]
        rfl
      · have hj : j'.toNat = G.B.length := by
          rw [List.length_map] at g1
          split at g1 <;> omega
        refine ⟨"-", at_k g0 ?_, .inr rfl⟩
        rw [List.getElem?_append_right (by rw [List.length_map]; omega), List.length_map, hj, Nat.sub_self]
        rfl
    refine ⟨p, _, _, _, rfl, rfl, SqL.of p6, ex, ?_⟩
    have hv6 : WVal G.B G.L H6 3 v := (((hv.tk (Tk.new hq)).tk (Tk.new hp)).tk (R5.tk B6))
    have B06 : But r H H6 := ((((B1.trans B2).trans B3).trans (But.new (o := .lst [.str "-"]) hq)).trans (But.new (o := .lst (G.B.map V.str ++ [.str "-"])) hp)).trans B6
    clear R1 R2 R3 R4 R5 N1 N2 N3 N4 N5 B1 B2 B3 B6 hv ex p6 g0 g1 hp hq
    -- from here: v is the value, x the box
    refine ⟨fun σ H' => σ = [some (.ref r), some (.ref t), some (.ref bs), some (.ref ls), some (.ref fs), some (.bl G.inside), some (.int kd), some v, some (.str x), none, none, none, none] ∧ H6 = H' ∧ x ∈ G.B, ?_, ?_⟩
    · refine ⟨_, rfl, rfl, _, rfl, ?_⟩
      refine or_rd (B := V.int kd = V.int 7) (fun q => ⟨_, rfl, rfl, _, rfl, q⟩) (fun h => ?_) (fun h => ⟨rfl, rfl, ?_⟩)
      · refine ⟨_, rfl, szn (by decide : 2 ≤ 1000), fun p hp => ?_⟩
        exact k _ _ _ (R6.new hp) (B06.trans (But.new hp)) upd_same (.tell (hv6.tk (Tk.new hp)))
      · rcases hx with hx | hx
        · exact hx
        · exact absurd (.inl (by rw [hx])) h
    rintro σ H' ⟨rfl, rfl, hxB⟩
    clear hx
    refine ⟨fun σ H' => σ = [some (.ref r), some (.ref t), some (.ref bs), some (.ref ls), some (.ref fs), some (.bl G.inside), some (.int kd), some v, some (.str x), none, none, none, none] ∧ H6 = H', ?_, ?_⟩
    · refine ⟨_, rfl, _, _, rfl, rfl, _, rfl, ite2 (fun h3 => ?_) (fun h3 => iteF ⟨rfl, rfl⟩)⟩
      refine ⟨_, rfl, ls, _, rfl, .inl (SqL.of N6.lists), _, _, rfl, rfl, _, rfl, ite2 (fun hl => ?_) (fun hl => ⟨rfl, rfl⟩)⟩
      have hl2 : 0 < ((G.L.map V.str).length : Int) := of_decide_eq_true hl
      refine ⟨_, rfl, _, rfl, _, rfl, ls, _, rfl, .inl (SqL.of N6.lists), r, _, rfl, R6, hl2, fun H7 a R7 B7 a0 a1 => ?_⟩
      have N7 := N6.ki (R6.ki B7)
      rw [List.length_map] at a1
      obtain ⟨l, hl, el⟩ := str_at a0 a1
      refine ⟨ls, _, _, _, rfl, rfl, SqL.of N7.lists, el, ?_⟩
      have hv7 := hv6.tk (R6.tk B7)
      have B07 := B06.trans B7
      -- the place
      refine ⟨_, rfl, r, 4, rfl, R7, by decide, fun H8 b R8 B8 b0 b1 => ⟨szn (by decide : 2 ≤ 1000), fun p1 hp1 => ?_⟩⟩
      have R9 := R8.new (o := .tup [.str "number", .int b]) hp1
      have N9 := (N7.ki (R7.ki B8)).ki (Ki.new (o := .tup [.str "number", .int b]) hp1)
      have t1 : upd H8 p1 (.tup [.str "number", .int b]) p1 = some (.tup [.str "number", .int b]) := upd_same
      have hv9 := (hv7.tk (R7.tk B8)).tk (Tk.new (o := .tup [.str "number", .int b]) hp1)
      have B09 := (B07.trans B8).trans (But.new (o := .tup [.str "number", .int b]) hp1)
      generalize upd H8 p1 (.tup [.str "number", .int b]) = H9 at *
      refine ⟨_, rfl, _, rfl, _, rfl, r, 2, bs, ls, G.B, G.L, rfl, R9, by decide, N9.boxes, N9.lists, fun H10 u R10 B10 hu => ⟨szn (by decide : 2 ≤ 1000), fun q hq => ?_⟩⟩
      have t2 := R9.tk B10 _ _ t1
      have t3 := Tk.new (o := .lst [.ref p1, u]) hq _ _ t2
      refine ⟨_, rfl, r, 2, rfl, R10.new hq, by decide, fun H11 c R11 B11 c0 c1 => ?_⟩
      have q11 : H11 q = some (.lst [.ref p1, u]) := B11 _ _ (R10.ne hq) upd_same
      have t4 := (R10.new hq).tk B11 _ _ t3
      have K11 : Tk H9 H11 := ((R9.tk B10).trans (Tk.new hq)).trans ((R10.new hq).tk B11)
      have B011 := ((B09.trans B10).trans (But.new (o := .lst [.ref p1, u]) hq)).trans B11
      have hv11 := hv9.tk K11
      have hu11 := (hu.tk (Tk.new (o := .lst [.ref p1, u]) hq)).tk ((R10.new hq).tk B11)
      obtain ⟨y, hy, wy⟩ : ∃ y, atI [V.ref p1, u] c = some y ∧ WVal G.B G.L H11 3 y := by
        rcases (show c = 0 ∨ c = 1 by omega) with rfl | rfl
        · exact ⟨_, rfl, .num t4 b0 (by omega)⟩
        · exact ⟨_, rfl, hu11⟩
      refine ⟨q, _, _, _, rfl, rfl, SqL.of q11, hy, ?_⟩
      refine ⟨szn (by decide : 4 ≤ 1000), fun q2 hq2 => ?_⟩
      refine ⟨_, rfl, r, 4, rfl, R11.new hq2, by decide, fun H12 e R12 B12 e0 e1 => ?_⟩
      have q12 : H12 q2 = some (.lst [.int 0, .int 0, .int 1, .int 2]) := B12 _ _ (R11.ne hq2) upd_same
      have K12 : Tk H11 H12 := (Tk.new hq2).trans ((R11.new hq2).tk B12)
      have B012 := (B011.trans (But.new (o := .lst [.int 0, .int 0, .int 1, .int 2]) hq2)).trans B12
      have hv12 := hv11.tk K12
      have wy12 := wy.tk K12
      obtain ⟨g, hg, g0, g1⟩ : ∃ g : Int, atI [V.int 0, V.int 0, V.int 1, V.int 2] e = some (.int g) ∧ 0 ≤ g ∧ g < 3 := by
        rcases (show e = 0 ∨ e = 1 ∨ e = 2 ∨ e = 3 by omega) with rfl | rfl | rfl | rfl
        · exact ⟨0, rfl, by decide, by decide⟩
        · exact ⟨0, rfl, by decide, by decide⟩
        · exact ⟨1, rfl, by decide, by decide⟩
        · exact ⟨2, rfl, by decide, by decide⟩
      refine ⟨q2, _, _, _, rfl, rfl, SqL.of q12, hg, ?_⟩
      refine ⟨_, rfl, _, rfl, szn (by decide : 3 ≤ 1000), fun a1 ha1 => ?_⟩
      refine ⟨_, rfl, _, rfl, szn (by decide : 3 ≤ 1000), fun a2 ha2 => ?_⟩
      refine ⟨_, rfl, _, rfl, _, rfl, szn (by decide : 4 ≤ 1000), fun a3 ha3 => ?_⟩
      refine ⟨szn (by decide : 3 ≤ 1000), fun a4 ha4 => ?_⟩
      have K1 := Tk.new (o := .tup [.str "push", .str l, v]) ha1
      have K2 := Tk.new (o := .tup [.str "pop", .str x, .str l]) ha2
      have K3 := Tk.new (o := .tup [.str "put", .str l, y, v]) ha3
      have K4 := Tk.new (o := .lst [.ref a1, .ref a2, .ref a3]) ha4
      have KK := ((K1.trans K2).trans K3).trans K4
      have RR := (((R12.new (o := .tup [.str "push", .str l, v]) ha1).new (o := .tup [.str "pop", .str x, .str l]) ha2).new (o := .tup [.str "put", .str l, y, v]) ha3).new (o := .lst [.ref a1, .ref a2, .ref a3]) ha4
      have BB := (((B012.trans (But.new (o := .tup [.str "push", .str l, v]) ha1)).trans (But.new (o := .tup [.str "pop", .str x, .str l]) ha2)).trans (But.new (o := .tup [.str "put", .str l, y, v]) ha3)).trans (But.new (o := .lst [.ref a1, .ref a2, .ref a3]) ha4)
      rcases (show g = 0 ∨ g = 1 ∨ g = 2 by omega) with rfl | rfl | rfl
      · exact ⟨_, rfl, a4, _, _, .ref a1, rfl, rfl, SqL.of upd_same, rfl, k _ _ _ RR BB (K4 _ _ (K3 _ _ (K2 _ _ upd_same))) (.push hl (hv12.tk KK))⟩
      · exact ⟨_, rfl, a4, _, _, .ref a2, rfl, rfl, SqL.of upd_same, rfl, k _ _ _ RR BB (K4 _ _ (K3 _ _ upd_same)) (.pop hxB hl)⟩
      · exact ⟨_, rfl, a4, _, _, .ref a3, rfl, rfl, SqL.of upd_same, rfl, k _ _ _ RR BB (K4 _ _ upd_same) (.put hl (wy12.tk KK) (hv12.tk KK))⟩
    rintro σ H' ⟨rfl, rfl⟩
    refine ⟨fun σ H' => σ = [some (.ref r), some (.ref t), some (.ref bs), some (.ref ls), some (.ref fs), some (.bl G.inside), some (.int kd), some v, some (.str x), none, none, none, none] ∧ H6 = H', ?_, ?_⟩
    · obtain ⟨fas, f1, f2, f3⟩ := N6.funs.ex
      refine ⟨_, rfl, _, _, rfl, rfl, _, rfl, ite2 (fun h3 => ?_) (fun h3 => iteF ⟨rfl, rfl⟩)⟩
      refine ⟨_, rfl, fs, _, rfl, .inl (SqL.of f1), _, _, rfl, rfl, _, rfl, ite2 (fun hl => ?_) (fun hl => ⟨rfl, rfl⟩)⟩
      have hl2 : 0 < ((fas.map V.ref).length : Int) := of_decide_eq_true hl
      refine ⟨_, rfl, _, rfl, _, rfl, fs, _, rfl, .inl (SqL.of f1), r, _, rfl, R6, hl2, fun H7 a R7 B7 a0 a1 => ?_⟩
      have N7 := N6.ki (R6.ki B7)
      rw [List.length_map] at a1
      have hlt : a.toNat < fas.length := by omega
      obtain ⟨pr, e1, e2⟩ := f3 a.toNat fas[a.toNat] (List.getElem?_eq_getElem hlt)
      have f7 : H7 fs = some (.lst (fas.map V.ref)) := R6.ki B7 _ _ ki_refs f1
      have e7 := R6.tk B7 _ _ e2
      have hprF : pr ∈ G.F := List.mem_of_getElem? e1
      have hp2 := h2 pr hprF
      have hv7 := hv6.tk (R6.tk B7)
      refine ⟨fs, _, _, .ref fas[a.toNat], rfl, rfl, SqL.of f7, at_k a0 (by rw [List.getElem?_map, List.getElem?_eq_getElem hlt]; rfl), fas[a.toNat], _, rfl, SqT.of e7, rfl, _, _, rfl, _, _, rfl, rfl, ?_⟩
      refine ⟨_, rfl, _, rfl, _, rfl, _, rfl, by omega, by omega, fun D hD => ?_⟩
      refine lc_range (lo := 0) (n := (pr.2 : Int).toNat) (fun i H' => Rng H' r ∧ But r H7 H' ∧ ∃ vs, H' D = some (.lst vs) ∧ vs.length = i ∧ ∀ u ∈ vs, WVal G.B G.L H' 3 u) ⟨R7.new hD, But.new hD, [], upd_same, rfl, fun u hu => by cases hu⟩ ?_ ?_
      · rintro i H8 hi ⟨R8, B8, vs, hvs, hlen, hall⟩
        have N8 := N7.ki (R7.ki B8)
        refine ⟨rfl, ?_⟩
        refine tyes ?_
        refine ⟨_, rfl, _, rfl, _, rfl, r, 2, bs, ls, G.B, G.L, rfl, R8, by decide, N8.boxes, N8.lists, fun H9 u R9 B9 hu => ?_⟩
        have hDr := R7.ne hD
        have d9 := B9 _ _ hDr hvs
        refine ⟨vs, d9, by rw [hlen]; exact Nat.lt_of_lt_of_le (show i < 1000 by omega) (szn (Nat.le_refl _)), R9.upd hDr, (B8.trans B9).mut hD, vs ++ [u], upd_same, by rw [List.length_append, hlen]; rfl, fun z hz => ?_⟩
        have K9 : Tk H9 (upd H9 D (.lst (vs ++ [u]))) := fun b xs e => by
          rw [upd_ne (ne_of e d9 (by intro z; cases z))]
          exact e
        rcases List.mem_append.mp hz with hz | hz
        · exact ((hall z hz).tk (R8.tk B9)).tk K9
        · have ez : z = u := by simpa using hz
          rw [ez]
          exact hu.tk K9
      · rintro H8 ⟨R8, B8, vs, hvs, hlen, hall⟩
        refine ⟨D, _, rfl, .inl ⟨SqL.of hvs, fun ta hta => ⟨szn (by decide : 4 ≤ 1000), fun p hp => ?_⟩⟩⟩
        have K8 := (Tk.new (o := .tup vs) hta).trans (Tk.new (o := .tup [.str "call", .str x, .str pr.1, .ref ta]) hp)
        refine k _ _ _ ((R8.new hta).new hp) ((((B06.trans B7).trans B8).trans (But.new hta)).trans (But.new hp)) upd_same (.call hxB ?_ (Tk.new hp _ _ upd_same) fun z hz => (hall z hz).tk K8)
        have el : vs.length = pr.2 := by rw [hlen]; exact Int.toNat_natCast _
        rw [el]
        exact hprF
    rintro σ H' ⟨rfl, rfl⟩
    refine ⟨_, rfl, rfl, _, rfl, ite2 (fun h6 => ?_) (fun h6 => ?_)⟩
    · refine ⟨_, rfl, szn (by decide : 3 ≤ 1000), fun q hq => ?_⟩
      refine ⟨_, rfl, r, 3, rfl, R6.new hq, by decide, fun H7 a R7 B7 a0 a1 => ?_⟩
      have q7 : H7 q = some (.lst [.str "door", .str "a", .str "zz"]) := B7 _ _ (R6.ne hq) upd_same
      obtain ⟨y, hyd, hy⟩ := str_at (B := doorsL) (k := a) a0 (by show a < 3; exact a1)
      refine ⟨q, _, _, _, rfl, rfl, SqL.of q7, hy, szn (by decide : 3 ≤ 1000), fun p hp => ?_⟩
      exact k _ _ _ (R7.new hp) (((B06.trans (But.new hq)).trans B7).trans (But.new hp)) upd_same (.ask hxB hyd)
    refine ⟨fun σ H' => σ = [some (.ref r), some (.ref t), some (.ref bs), some (.ref ls), some (.ref fs), some (.bl G.inside), some (.int kd), some v, some (.str x), none, none, none, none] ∧ H6 = H', ?_, ?_⟩
    · refine ⟨_, rfl, rfl, _, rfl, ite2 (fun h8 => ?_) (fun h8 => iteF ⟨rfl, rfl⟩)⟩
      refine ⟨_, rfl, _, rfl, ite2 (fun hi => ?_) (fun hi => ⟨rfl, rfl⟩)⟩
      refine ⟨_, rfl, szn (by decide : 2 ≤ 1000), fun p hp => ?_⟩
      exact k _ _ _ (R6.new hp) (B06.trans (But.new hp)) upd_same (.ret hi (hv6.tk (Tk.new hp)))
    rintro σ H' ⟨rfl, rfl⟩
    refine ⟨_, rfl, rfl, _, rfl, ite2 (fun h9 => ?_) (fun h9 => ?_)⟩
    · refine ⟨_, rfl, r, 9, rfl, R6, by decide, fun H7 a R7 B7 a0 a1 => ⟨szn (by decide : 2 ≤ 1000), fun p1 hp1 => ⟨_, rfl, szn (by decide : 2 ≤ 1000), fun q hq => ?_⟩⟩⟩
      have t1 := Tk.new (o := .lst [.ref p1, v]) hq _ _ (upd_same (H := H7) (a := p1) (o := .tup [.str "number", .int a]))
      have R8 := (R7.new (o := .tup [.str "number", .int a]) hp1).new (o := .lst [.ref p1, v]) hq
      refine ⟨_, rfl, r, 2, rfl, R8, by decide, fun H9 c R9 B9 c0 c1 => ?_⟩
      have q9 : H9 q = some (.lst [.ref p1, v]) := B9 _ _ ((R7.new (o := .tup [.str "number", .int a]) hp1).ne hq) upd_same
      have K9 := R8.tk B9
      have hv9 := (((hv6.tk (R6.tk B7)).tk (Tk.new (o := .tup [.str "number", .int a]) hp1)).tk (Tk.new (o := .lst [.ref p1, v]) hq)).tk K9
      obtain ⟨y, hy, wy⟩ : ∃ y, atI [V.ref p1, v] c = some y ∧ WVal G.B G.L H9 3 y := by
        rcases (show c = 0 ∨ c = 1 by omega) with rfl | rfl
        · exact ⟨_, rfl, .num (K9 _ _ t1) a0 (by omega)⟩
        · exact ⟨_, rfl, hv9⟩
      refine ⟨q, _, _, _, rfl, rfl, SqL.of q9, hy, szn (by decide : 2 ≤ 1000), fun p hp => ?_⟩
      exact k _ _ _ (R9.new hp) (((((B06.trans B7).trans (But.new hp1)).trans (But.new hq)).trans B9).trans (But.new hp)) upd_same (.fail (wy.tk (Tk.new hp)))
    · refine ⟨_, rfl, _, rfl, szn (by decide : 3 ≤ 1000), fun p hp => ?_⟩
      exact k _ _ _ (R6.new hp) (B06.trans (But.new hp)) upd_same (.set hxB (hv6.tk (Tk.new hp)))
end
end Rt
/-! ## L5 -/
set_option Elab.async false
set_option linter.all false
set_option maxRecDepth 100000
set_option maxHeartbeats 4000000
namespace Rt
open PySem PySem.Spec PyProof.Rows L2
open L2H (RoomH roomH_of)
/-! ### an if whose test has several ways: what holds on each side -/
def tIfM (tc : TT) (t u : TS) : TS := fun D σ H => ∃ M N : Hp → Prop, tc σ H (fun b H1 => if b = true then M H1 else N H1) ∧ (∀ H1, M H1 → t D σ H1) ∧ ∀ H1, N H1 → u D σ H1
theorem ps_ifM {X : Cx} {c : Expr} {a b : List Stmt} {pos : Pos} {tc : TT} {t u : TS} (hc : PT X c tc) (ha : PSs X a t) (hb : PSs X b u) : PS X (.If c a b pos) (tIfM tc t u) := by
  refine ⟨fun pins s σ H D I h => ?_⟩
  obtain ⟨M, N, h, h1, h2⟩ := h
  refine wpAny_If (thn (hc.run pins s σ H _ I h) fun d s1 ⟨H1, I1, q⟩ => ?_)
  cases d with
  | true => exact ha.run pins s1 σ H1 D I1 (h1 H1 q)
  | false => exact hb.run pins s1 σ H1 D I1 (h2 H1 q)
/-! ### rows of the program's -/
def SumL (R : Nat → V → Prop) : Nat → List V → Prop
  | n, [] => n = 0
  | n, x :: xs => ∃ m k, R m x ∧ SumL R k xs ∧ n = m + k
theorem SumL.imp {R S : Nat → V → Prop} (h : ∀ n x, R n x → S n x) : ∀ {n : Nat} {xs : List V}, SumL R n xs → SumL S n xs
  | _, [], q => q
  | _, x :: xs, ⟨m, k, h1, h2, e⟩ => ⟨m, k, h _ _ h1, SumL.imp h h2, e⟩
theorem SumL.app {R : Nat → V → Prop} : ∀ {n m : Nat} {xs ys : List V}, SumL R n xs → SumL R m ys → SumL R (n + m) (xs ++ ys)
  | _, _, [], _, q, s => by
    have e : _ = 0 := q
    subst e
    rw [Nat.zero_add]
    exact s
  | _, _, x :: xs, _, ⟨m, k, h1, h2, e⟩, s => ⟨m, k + _, h1, SumL.app h2 s, by rw [e, Nat.add_assoc]⟩
theorem SumL.one {R : Nat → V → Prop} {n : Nat} {x : V} (h : R n x) : SumL R n [x] := ⟨n, 0, h, rfl, rfl⟩
theorem SumL.len {R : Nat → V → Prop} (h : ∀ n x, R n x → 1 ≤ n) : ∀ {n : Nat} {xs : List V}, SumL R n xs → xs.length ≤ n
  | _, [], _ => Nat.zero_le _
  | _, x :: xs, ⟨m, k, h1, h2, e⟩ => by
    have a := h _ _ h1
    have b := SumL.len h h2
    rw [List.length_cons]
    omega
/-- a row at v, so many deep at most, with n rows in all -/
def WRow (G : Sc) (H : Hp) : Nat → Nat → V → Prop
  | 0, _, _ => False
  | d + 1, n, v => ∃ a, v = .ref a ∧ ((∃ xs, H a = some (.tup xs) ∧ Plain G H xs ∧ n = 1) ∨
      (∃ c r1 r2 xs ys n1 n2, H a = some (.tup [.str "if", c, .ref r1, .ref r2]) ∧ WVal G.B G.L H 3 c ∧ H r1 = some (.tup xs) ∧ SumL (fun m x => WRow G H d m x) n1 xs ∧ H r2 = some (.tup ys) ∧ SumL (fun m x => WRow G H d m x) n2 ys ∧ n = n1 + n2 + 1) ∨
      (∃ c r1 xs n1, H a = some (.tup [.str "while", c, .ref r1]) ∧ WVal G.B G.L H 3 c ∧ H r1 = some (.tup xs) ∧ SumL (fun m x => WRow G H d m x) n1 xs ∧ n = n1 + 1) ∨
      (∃ x r1 r2 xs ys n1 n2, H a = some (.tup [.str "try", .ref r1, .str x, .ref r2]) ∧ x ∈ G.B ∧ H r1 = some (.tup xs) ∧ SumL (fun m x => WRow G H d m x) n1 xs ∧ H r2 = some (.tup ys) ∧ SumL (fun m x => WRow G H d m x) n2 ys ∧ n = n1 + n2 + 1))
theorem WRow.tk {G : Sc} {H H' : Hp} (k : Tk H H') : ∀ {d n : Nat} {v : V}, WRow G H d n v → WRow G H' d n v
  | 0, _, _, h => h
  | d + 1, n, v, ⟨a, e, h⟩ => by
    refine ⟨a, e, ?_⟩
    rcases h with ⟨xs, h1, h2, h3⟩ | ⟨c, r1, r2, xs, ys, n1, n2, h1, h2, h3, h4, h5, h6, h7⟩ | ⟨c, r1, xs, n1, h1, h2, h3, h4, h5⟩ | ⟨x, r1, r2, xs, ys, n1, n2, h1, h2, h3, h4, h5, h6, h7⟩
    · exact .inl ⟨xs, k _ _ h1, h2.tk k, h3⟩
    · exact .inr (.inl ⟨c, r1, r2, xs, ys, n1, n2, k _ _ h1, h2.tk k, k _ _ h3, h4.imp fun m x q => WRow.tk k q, k _ _ h5, h6.imp fun m x q => WRow.tk k q, h7⟩)
    · exact .inr (.inr (.inl ⟨c, r1, xs, n1, k _ _ h1, h2.tk k, k _ _ h3, h4.imp fun m x q => WRow.tk k q, h5⟩))
    · exact .inr (.inr (.inr ⟨x, r1, r2, xs, ys, n1, n2, k _ _ h1, h2, k _ _ h3, h4.imp fun m x q => WRow.tk k q, k _ _ h5, h6.imp fun m x q => WRow.tk k q, h7⟩))
theorem WRow.pos {G : Sc} {H : Hp} : ∀ {d n : Nat} {v : V}, WRow G H d n v → 1 ≤ n
  | 0, _, _, h => h.elim
  | d + 1, n, v, ⟨a, e, h⟩ => by
    rcases h with ⟨xs, h1, h2, h3⟩ | ⟨c, r1, r2, xs, ys, n1, n2, h1, h2, h3, h4, h5, h6, h7⟩ | ⟨c, r1, xs, n1, h1, h2, h3, h4, h5⟩ | ⟨x, r1, r2, xs, ys, n1, n2, h1, h2, h3, h4, h5, h6, h7⟩ <;> omega
/-- rows at a, so many deep, n in all -/
def WRows (G : Sc) (H : Hp) (d n : Nat) (a : Addr) : Prop := ∃ xs, H a = some (.tup xs) ∧ SumL (fun m x => WRow G H d m x) n xs
theorem WRows.tk {G : Sc} {H H' : Hp} {d n : Nat} {a : Addr} (h : WRows G H d n a) (k : Tk H H') : WRows G H' d n a := by
  obtain ⟨xs, h1, h2⟩ := h
  exact ⟨xs, k _ _ h1, h2.imp fun m x q => WRow.tk k q⟩
theorem sumL_len {G : Sc} {H : Hp} {d n : Nat} {xs : List V} (h : SumL (fun m x => WRow G H d m x) n xs) : xs.length ≤ n := SumL.len (fun _ _ q => WRow.pos q) h
/-! ### the two drawing lists -/
def IntL (H : Hp) (l : Addr) : Prop := ∃ n : Int, H l = some (.lst [.int n])
/-- what holds all along: from H0 on all but the two lists stays -/
structure DS (r l : Addr) (H0 H : Hp) : Prop where
  rng : Rng H r
  left : IntL H l
  but : ∀ b o, b ≠ r → b ≠ l → H0 b = some o → H b = some o
theorem DS.ki {r l : Addr} {H0 H : Hp} (h0 : Rng H0 r) (l0 : IntL H0 l) (h : DS r l H0 H) : Ki H0 H := fun b o ho e => by
  obtain ⟨n, hn, _⟩ := h0
  obtain ⟨m, hm⟩ := l0
  exact h.but b o (fun z => by rw [z, hn] at e; exact ho n (Option.some.inj e).symm) (fun z => by rw [z, hm] at e; exact ho m (Option.some.inj e).symm) e
theorem DS.same {r l : Addr} {H0 H H' : Hp} (h : DS r l H0 H) (s : Same H H') : DS r l H0 H' := by
  obtain ⟨n, hn, h1⟩ := h.rng
  obtain ⟨m, hm⟩ := h.left
  exact ⟨⟨n, s _ _ hn, h1⟩, ⟨m, s _ _ hm⟩, fun b o x y e => s _ _ (h.but b o x y e)⟩
theorem DS.next {r l : Addr} {H0 H H' : Hp} (h : DS r l H0 H) (n : l ≠ r) (R : Rng H' r) (B : But r H H') : DS r l H0 H' := by
  obtain ⟨m, hm⟩ := h.left
  exact ⟨R, ⟨m, B _ _ n hm⟩, fun b o x y e => B _ _ x (h.but b o x y e)⟩
theorem DS.trans {r l : Addr} {H0 H H' : Hp} (h : DS r l H0 H) (h' : DS r l H H') : DS r l H0 H' := ⟨h'.rng, h'.left, fun b o x y e => h'.but b o x y (h.but b o x y e)⟩
theorem DS.dec {r l : Addr} {H0 H : Hp} (h : DS r l H0 H) (n : l ≠ r) (m : Int) : DS r l H0 (upd H l (.lst [.int m])) := by
  obtain ⟨k, hk, h1⟩ := h.rng
  exact ⟨⟨k, by rw [upd_ne (Ne.symm n)]; exact hk, h1⟩, ⟨m, upd_same⟩, fun b o x y e => by rw [upd_ne y]; exact h.but b o x y e⟩
theorem same_tk {H H' : Hp} (s : Same H H') : Tk H H' := fun b xs e => s b _ e
theorem same_ki {H H' : Hp} (s : Same H H') : Ki H H' := fun b o _ e => s b _ e
theorem ki_dec {H : Hp} {l : Addr} (h : IntL H l) (m : Int) : Ki H (upd H l (.lst [.int m])) := fun b o ho e => by
  obtain ⟨n, hn⟩ := h
  rw [upd_ne fun z => by rw [z, hn] at e; exact ho n (Option.some.inj e).symm]
  exact e
def cR : Nat → Nat
  | 0 => 1
  | j + 1 => 3 + 5 * cR j
theorem cR_le : ∀ j, j ≤ 3 → cR j ≤ 218 := by
  intro j hj
  rcases (show j = 0 ∨ j = 1 ∨ j = 2 ∨ j = 3 by omega) with rfl | rfl | rfl | rfl <;> decide
theorem cR_pos (j : Nat) : 1 ≤ cR j := by cases j <;> simp [cR] <;> omega
def spRows (j : Nat) : Sp := fun vs H Q _ => ∃ (r t bs ls fs l : Addr) (G : Sc) (deep most : Int), vs = [.ref r, .ref t, .int deep, .int most, .ref l] ∧ Rng H r ∧ IntL H l ∧ l ≠ r ∧ NamesAt H t bs ls fs G ∧ (∀ p ∈ G.F, p.2 ≤ 2) ∧ G.B.length ≤ 100 ∧ (∀ x ∈ G.B, PyData.strOk x = true) ∧ (∀ x ∈ G.L, PyData.strOk x = true) ∧
  deep = 4 - (j : Int) ∧ j ≤ 3 ∧ 0 ≤ most ∧ most ≤ 8 ∧ ∀ H' a n, DS r l H H' → WRows G H' (j + 1) n a → n ≤ cR j * most.toNat → Q (.ref a) H'
theorem eqv_strs : ∀ B : List Str, PyData.eqv (.list (B.map PyData.str)) (.list []) = decide (B = [])
  | [] => rfl
  | _ :: _ => rfl
theorem dp_strs {K : PySem.W.Frag} {H : Hp} : ∀ B : List Str, DpAll K H (B.map V.str) (B.map PyData.str)
  | [] => .nil
  | x :: B => .cons (.str x) (dp_strs B)
theorem can_strs : ∀ B : List Str, (∀ x ∈ B, PyData.strOk x = true) → PyData.canLayAll0 (B.map PyData.str) = true ∧ PyData.depthAll (B.map PyData.str) ≤ 1
  | [], _ => ⟨rfl, Nat.zero_le _⟩
  | x :: B, h => by
    obtain ⟨h1, h2⟩ := can_strs B fun y hy => h y (List.mem_cons_of_mem _ hy)
    refine ⟨Bool.and_eq_true_iff.mpr ⟨h x List.mem_cons_self, h1⟩, ?_⟩
    simp only [List.map_cons, PyData.depthAll, PyData.depth]
    omega
theorem sh_strs {B : List Str} (h : ∀ x ∈ B, PyData.strOk x = true) : SeqAt.shaped (.list (B.map PyData.str)) = true := by
  obtain ⟨h1, h2⟩ := can_strs B h
  refine Bool.and_eq_true_iff.mpr ⟨h1, decide_eq_true ?_⟩
  simp only [PyData.depth]
  omega
end Rt
/-! ## L6 -/
set_option Elab.async false
set_option linter.all false
set_option maxRecDepth 100000
set_option maxHeartbeats 4000000
namespace Rt
open PySem PySem.Spec PyProof.Rows L2
open L2H (RoomH roomH_of)
/-- both lists and the names -/
structure LS (r l : Addr) (H0 : Hp) (t bs ls fs : Addr) (G : Sc) (H : Hp) : Prop where
  d : DS r l H0 H
  n : NamesAt H t bs ls fs G
theorem LS.same {r l t bs ls fs : Addr} {H0 H H' : Hp} {G : Sc} (h : LS r l H0 t bs ls fs G H) (s : Same H H') : LS r l H0 t bs ls fs G H' := ⟨h.d.same s, h.n.ki (same_ki s)⟩
theorem LS.next {r l t bs ls fs : Addr} {H0 H H' : Hp} {G : Sc} (h : LS r l H0 t bs ls fs G H) (n : l ≠ r) (R : Rng H' r) (B : But r H H') : LS r l H0 t bs ls fs G H' := ⟨h.d.next n R B, h.n.ki (h.d.rng.ki B)⟩
theorem LS.sub {r l t bs ls fs : Addr} {H0 H H' : Hp} {G : Sc} (h : LS r l H0 t bs ls fs G H) (D : DS r l H H') : LS r l H0 t bs ls fs G H' := ⟨h.d.trans D, h.n.ki (D.ki h.d.rng h.d.left)⟩
theorem LS.dec {r l t bs ls fs : Addr} {H0 H : Hp} {G : Sc} (h : LS r l H0 t bs ls fs G H) (n : l ≠ r) (m : Int) : LS r l H0 t bs ls fs G (upd H l (.lst [.int m])) := ⟨h.d.dec n m, h.n.ki (ki_dec h.d.left m)⟩
theorem LS.subtk {r l t bs ls fs : Addr} {H0 H H' : Hp} {G : Sc} (h : LS r l H0 t bs ls fs G H) (D : DS r l H H') : Tk H H' := (D.ki h.d.rng h.d.left).tk
theorem WRow.plain {G : Sc} {H : Hp} {d : Nat} {a : Addr} {xs : List V} (hd : 1 ≤ d) (h : H a = some (.tup xs)) (p : Plain G H xs) : WRow G H d 1 (.ref a) := by
  cases d with
  | zero => cases hd
  | succ d => exact ⟨a, rfl, .inl ⟨xs, h, p, rfl⟩⟩
/-- found grows by a row -/
theorem WRows.add {G : Sc} {H : Hp} {d n m : Nat} {a p : Addr} {xs : List V} {x : V} (h : WRows G H d n a) (ha : H a = some (.tup xs)) (hp : H p = some (.tup (xs ++ [x]))) (hx : WRow G H d m x) : WRows G H d (n + m) p := by
  obtain ⟨ys, e, q⟩ := h
  rw [ha] at e
  cases HO.tup.inj (Option.some.inj e)
  exact ⟨_, hp, q.app (SumL.one hx)⟩
theorem mul_step {c i m k : Nat} (h : m ≤ c * i) (hk : k ≤ c) : m + k ≤ c * (i + 1) := by
  rw [Nat.mul_add, Nat.mul_one]
  omega
theorem cR_step {j : Nat} (h : 1 ≤ j) : cR j = 3 + 5 * cR (j - 1) := by
  obtain ⟨i, rfl⟩ := Nat.exists_eq_add_of_le h
  rw [Nat.add_comm 1 i]
  rfl
section
variable {P : Program} {w : World} {K : PySem.W.Frag} {mg : Str → Option Value} {base : Heap}
theorem rows_step (T : Txt K mg) (j kk : Nat) (hkk : 4 ≤ kk) (G__law_rows : OkC P w K mg base CX0 (kk + 1) (He.ga K "_law_rows") ["_law_state_here", "_law_names_here", "_law_deep", "_law_most", "_law_left"] (fun vs H Q E => 1 ≤ j ∧ spRows (j - 1) vs H Q E)) :
    OkC P w K mg base CX0 (kk + 2) (He.ga K "_law_rows") ["_law_state_here", "_law_names_here", "_law_deep", "_law_most", "_law_left"] (spRows j) := by
  have G__law_next := ok_next (P := P) (w := w) (base := base) T
  have G__law_value := ok_value (P := P) (w := w) (base := base) T 1
  have G__law_plain := ok_plain (P := P) (w := w) (base := base) T
  refine okC T.f__law_rows sc__law_rows (fun fd F => F.bindsN fun _ _ _ _ _ _ us hl => match us, hl with | [_, _, _, _, _], _ => rfl) (fun vs H Q E h => ?_) (fun cdv A outer s H vs Q E hr h => ?_)
  · obtain ⟨r, t, bs, ls, fs, l, G, deep, most, rfl, _⟩ := h
    rfl
  · obtain ⟨r, t, bs, ls, fs, l, G, deep, most, rfl, hR, hL, nlr, hN, h2, hBl, hsB, hsL, hd, hj, m0, m1, k⟩ := h
    refine ⟨_, (pss_cons
 (ps_set (i := 5) sc__law_rows.nd rfl (by first | exact Or.inl rfl | exact Or.inr rfl) (pe_tup pa_nil)) (pss_cons
 (ps_for PassesOwn.never rfl (pi_range1 rfl T.b_range (pa_cons (ce_call G__law_next (hr.mono (by omega)) T.g__law_next T.p__law_next pass0 (pa_cons (pv 0) (pa_cons (pe_op op_add (pv 3) pe_int) pa_nil))) pa_nil)) (pg_name (i := 6) sc__law_rows.nd rfl (by first | exact Or.inl rfl | exact Or.inr rfl)) (pss_cons
 (ps_set (i := 7) sc__law_rows.nd rfl (by first | exact Or.inl rfl | exact Or.inr rfl) (ce_call G__law_next (hr.mono (by omega)) T.g__law_next T.p__law_next pass0 (pa_cons (pv 0) (pa_cons pe_int pa_nil)))) (pss_cons
 (ps_asg (pe_op op_sub (pe_ix ix_list (pv 4) pe_int (fun _ _ => rfl)) pe_int) (pg_sub (pv 4) pe_int set_list)) (C8.pss_cut
 (ps_ifM (PW.pt (pw_or (pt_cmpR op_gt (pv 2) pe_int (nomark _)) (pw_or (pt_cmpR op_gt (pv 7) pe_int (nomark _)) (pw_or (pt_cmpR (op_eqD hr.units) (pe_ix ix_tup (pv 1) pe_int (fun _ _ => rfl)) (pe_lst pa_nil) (nomark _)) (pw_or1 (pt_cmpR op_lt (pe_ix ix_list (pv 4) pe_int (fun _ _ => rfl)) pe_int (nomark _))))))) (pss_cons
 (ps_set (i := 5) sc__law_rows.nd rfl (by first | exact Or.inl rfl | exact Or.inr rfl) (pe_op op_catS (pv 5) (pe_op op_repS (pe_tup (pa_cons (ce_call G__law_plain (hr.mono (by omega)) T.g__law_plain T.p__law_plain pass0 (pa_cons (pv 0) (pa_cons (pv 1) pa_nil))) pa_nil)) (pe_callTy call_int1 (by rfl) T.b_int (by decide +kernel) (pa_cons (pe_cmpR op_ge (pe_ix ix_list (pv 4) pe_int (fun _ _ => rfl)) pe_int (nomark _)) pa_nil))))) (pss_one
 ps_continue)) pss_nil) (pss_cons
 (ps_asg (pe_op op_sub (pe_ix ix_list (pv 4) pe_int (fun _ _ => rfl)) (pe_op op_mul pe_int (pe_callTy call_int1 (by rfl) T.b_int (by decide +kernel) (pa_cons (pe_cmpR op_gt (pv 7) pe_int (nomark _)) pa_nil)))) (pg_sub (pv 4) pe_int set_list)) (pss_cons
 (ps_set (i := 8) sc__law_rows.nd rfl (by first | exact Or.inl rfl | exact Or.inr rfl) (pe_tup (pa_cons (pe_tup (pa_cons pe_str (pa_cons (pe_tup (pa_cons pe_str (pa_cons (ce_call G__law_next (hr.mono (by omega)) T.g__law_next T.p__law_next pass0 (pa_cons (pv 0) (pa_cons pe_int pa_nil))) pa_nil))) pa_nil))) pa_nil))) (pss_cons
 (ps_set (i := 9) sc__law_rows.nd rfl (by first | exact Or.inl rfl | exact Or.inr rfl) (pe_ix ix_list (pe_ix ix_tup (pv 1) pe_int (fun _ _ => rfl)) (ce_call G__law_next (hr.mono (by omega)) T.g__law_next T.p__law_next pass0 (pa_cons (pv 0) (pa_cons (pe_callB call_len_seq (by rfl) T.b_len (by decide +kernel) (pa_cons (pe_ix ix_tup (pv 1) pe_int (fun _ _ => rfl)) pa_nil)) pa_nil))) (fun _ _ => rfl))) (pss_cons
 (ps_set (i := 10) sc__law_rows.nd rfl (by first | exact Or.inl rfl | exact Or.inr rfl) (ce_call G__law_rows (hr.mono (by omega)) T.g__law_rows T.p__law_rows pass0 (pa_cons (pv 0) (pa_cons (pv 1) (pa_cons (pe_op op_add (pv 2) pe_int) (pa_cons pe_int (pa_cons (pv 4) pa_nil))))))) (pss_cons
 (ps_set (i := 11) sc__law_rows.nd rfl (by first | exact Or.inl rfl | exact Or.inr rfl) (ce_call G__law_rows (hr.mono (by omega)) T.g__law_rows T.p__law_rows pass0 (pa_cons (pv 0) (pa_cons (pv 1) (pa_cons (pe_op op_add (pv 2) pe_int) (pa_cons pe_int (pa_cons (pv 4) pa_nil))))))) (pss_one
 (ps_if (pt_cmpR op_eq (pv 7) pe_int (nomark _)) (pss_cons
 (ps_set (i := 12) sc__law_rows.nd rfl (by first | exact Or.inl rfl | exact Or.inr rfl) (ce_call G__law_value (hr.mono (by omega)) T.g__law_value T.p__law_value pass0 (pa_cons (pv 0) (pa_cons pe_int (pa_cons (pe_ix ix_tup (pv 1) pe_int (fun _ _ => rfl)) (pa_cons (pe_ix ix_tup (pv 1) pe_int (fun _ _ => rfl)) pa_nil)))))) (pss_one
 (ps_set (i := 5) sc__law_rows.nd rfl (by first | exact Or.inl rfl | exact Or.inr rfl) (pe_op op_catS (pv 5) (pe_tup (pa_cons (pe_tup (pa_cons pe_str (pa_cons (pv 12) (pa_cons (pv 10) (pa_cons (pv 11) pa_nil))))) pa_nil)))))) (pss_one
 (ps_if (pt_cmpR op_eq (pv 7) pe_int (nomark _)) (pss_cons
 (ps_set (i := 13) sc__law_rows.nd rfl (by first | exact Or.inl rfl | exact Or.inr rfl) (pe_tup (pa_cons (pe_tup (pa_cons pe_str (pa_cons (pv 9) (pa_cons (pe_tup (pa_cons pe_str (pa_cons (pe_tup (pa_cons pe_str (pa_cons (pv 9) pa_nil))) (pa_cons (pe_tup (pa_cons pe_str (pa_cons pe_int pa_nil))) pa_nil)))) pa_nil)))) pa_nil))) (pss_cons
 (ps_set (i := 5) sc__law_rows.nd rfl (by first | exact Or.inl rfl | exact Or.inr rfl) (pe_op op_catS (pv 5) (pe_tup (pa_cons (pe_tup (pa_cons pe_str (pa_cons (pv 9) (pa_cons (pe_tup (pa_cons pe_str (pa_cons (ce_call G__law_next (hr.mono (by omega)) T.g__law_next T.p__law_next pass0 (pa_cons (pv 0) (pa_cons pe_int pa_nil))) pa_nil))) pa_nil)))) pa_nil)))) (pss_cons
 (ps_set (i := 14) sc__law_rows.nd rfl (by first | exact Or.inl rfl | exact Or.inr rfl) (pe_ix ix_list (pe_lst (pa_cons (pe_op op_catS (pv 10) (pv 13)) (pa_cons (pe_op op_catS (pv 13) (pv 10)) pa_nil))) (ce_call G__law_next (hr.mono (by omega)) T.g__law_next T.p__law_next pass0 (pa_cons (pv 0) (pa_cons pe_int pa_nil))) (fun _ _ => rfl))) (pss_cons
 (ps_set (i := 15) sc__law_rows.nd rfl (by first | exact Or.inl rfl | exact Or.inr rfl) (pe_tup (pa_cons pe_str (pa_cons (pv 9) pa_nil)))) (pss_cons
 (ps_set (i := 16) sc__law_rows.nd rfl (by first | exact Or.inl rfl | exact Or.inr rfl) (ce_call G__law_next (hr.mono (by omega)) T.g__law_next T.p__law_next pass0 (pa_cons (pv 0) (pa_cons pe_int pa_nil)))) (C8.pss_cut
 (ps_if (pt_cmpR op_eq (pv 16) pe_int (nomark _)) (pss_one
 (ps_set (i := 15) sc__law_rows.nd rfl (by first | exact Or.inl rfl | exact Or.inr rfl) (pe_tup (pa_cons pe_str (pa_cons (pe_tup (pa_cons pe_str (pa_cons pe_int pa_nil))) (pa_cons (pv 15) pa_nil)))))) (pss_one
 (ps_if (PW.pt (pw_and (pt_cmpR op_eq (pv 16) pe_int (nomark _)) (pw_and1 (pt_cmpR (op_neD hr.units) (pe_ix ix_tup (pv 1) pe_int (fun _ _ => rfl)) (pe_lst pa_nil) (nomark _))))) (pss_one
 (ps_set (i := 15) sc__law_rows.nd rfl (by first | exact Or.inl rfl | exact Or.inr rfl) (pe_tup (pa_cons pe_str (pa_cons (pe_ix ix_list (pe_ix ix_tup (pv 1) pe_int (fun _ _ => rfl)) pe_int (fun _ _ => rfl)) (pa_cons (pv 15) pa_nil)))))) pss_nil))) (pss_one
 (ps_set (i := 5) sc__law_rows.nd rfl (by first | exact Or.inl rfl | exact Or.inr rfl) (pe_op op_catS (pv 5) (pe_tup (pa_cons (pe_tup (pa_cons pe_str (pa_cons (pv 15) (pa_cons (pv 14) pa_nil)))) pa_nil))))))))))) (pss_cons
 (ps_set (i := 10) sc__law_rows.nd rfl (by first | exact Or.inl rfl | exact Or.inr rfl) (pe_op op_catS (pv 10) (pe_op op_repS (pv 8) (ce_call G__law_next (hr.mono (by omega)) T.g__law_next T.p__law_next pass0 (pa_cons (pv 0) (pa_cons pe_int pa_nil)))))) (pss_one
 (ps_set (i := 5) sc__law_rows.nd rfl (by first | exact Or.inl rfl | exact Or.inr rfl) (pe_op op_catS (pv 5) (pe_tup (pa_cons (pe_tup (pa_cons pe_str (pa_cons (pv 10) (pa_cons (pv 9) (pa_cons (pe_op op_catS (pv 11) (pe_op op_repS (pv 8) (ce_call G__law_next (hr.mono (by omega)) T.g__law_next T.p__law_next pass0 (pa_cons (pv 0) (pa_cons pe_int pa_nil))))) pa_nil))))) pa_nil))))))))))))))))))) (pss_one
 (ps_ret (pv 5))))), ?_⟩
    have L0 : LS r l H t bs ls fs G H := ⟨⟨hR, hL, fun _ _ _ _ e => e⟩, hN⟩
    refine ⟨Nat.zero_le _, fun p0 hp0 => ?_⟩
    have L1 := L0.same (same_new (o := .tup []) hp0)
    have t1 : upd H p0 (.tup []) p0 = some (.tup []) := upd_same
    generalize upd H p0 (.tup []) = H1 at L1 t1 ⊢
    refine ⟨_, rfl, _, rfl, _, _, rfl, rfl, r, _, rfl, L1.d.rng, by omega, fun H2 n R2 B2 n0 n1 => ?_⟩
    have L2 := L1.next nlr R2 B2
    have t2 := L1.d.rng.tk B2 _ _ t1
    refine ⟨n, rfl, by omega, by omega, for_range (lo := 0) (n := n.toNat) (fun i σ H' => ∃ (a : Addr) (m : Nat) (o6 o7 o8 o9 o10 o11 o12 o13 o14 o15 o16 : Option V), σ = [some (.ref r), some (.ref t), some (.int deep), some (.int most), some (.ref l), some (.ref a), o6, o7, o8, o9, o10, o11, o12, o13, o14, o15, o16] ∧
      LS r l H t bs ls fs G H' ∧ WRows G H' (j + 1) m a ∧ m ≤ cR j * i) ?_ ?_ ?_⟩
    · exact ⟨p0, 0, none, none, none, none, none, none, none, none, none, none, none, rfl, L2, ⟨[], t2, rfl⟩, Nat.zero_le _⟩
    · rintro i σ H3 hi ⟨a, m, o6, o7, o8, o9, o10, o11, o12, o13, o14, o15, o16, rfl, L3, W3, hm⟩
      have hi8 : i ≤ 7 := by omega
      have hm2 : m ≤ 1600 := by
        have a1 : cR j * i ≤ 218 * 7 := Nat.mul_le_mul (cR_le j hj) hi8
        omega
      refine ⟨_, rfl, r, 9, rfl, L3.d.rng, by decide, fun H4 kd R4 B4 k0 k1 => ?_⟩
      have L4 := L3.next nlr R4 B4
      have W4 := W3.tk (L3.d.rng.tk B4)
      obtain ⟨y, hy⟩ := L4.d.left
      refine ⟨_, rfl, l, _, _, _, rfl, rfl, SqL.of hy, at0, _, _, rfl, rfl, _, rfl, l, _, _, 0, rfl, rfl, hy, set0, ?_⟩
      have L5 := L4.dec nlr (y - 1)
      have W5 := W4.tk (ki_dec L4.d.left (y - 1)).tk
      have l5 : upd H4 l (.lst [.int (y - 1)]) l = some (.lst [.int (y - 1)]) := upd_same
      show C8.tCut _ _ _ _ (upd H4 l (.lst [.int (y - 1)]))
      generalize upd H4 l (.lst [.int (y - 1)]) = H5 at L5 W5 l5 ⊢
      clear hy L4 W4 R4 B4 L3 W3
      refine ⟨fun σ H' => σ = [some (.ref r), some (.ref t), some (.int deep), some (.int most), some (.ref l), some (.ref a), some (.int (0 + (i : Int))), some (.int kd), o8, o9, o10, o11, o12, o13, o14, o15, o16] ∧ LS r l H t bs ls fs G H' ∧ WRows G H' (j + 1) m a ∧ 1 ≤ j ∧ kd ≤ 2 ∧ G.B ≠ [], ?_, ?_⟩
      · refine ⟨fun H' => LS r l H t bs ls fs G H' ∧ WRows G H' (j + 1) m a, fun H' => LS r l H t bs ls fs G H' ∧ WRows G H' (j + 1) m a ∧ 1 ≤ j ∧ kd ≤ 2 ∧ G.B ≠ [], ?_, ?_, ?_⟩
        · refine ⟨_, rfl, _, _, rfl, rfl, _, rfl, ite2 (fun q => iteT ⟨L5, W5⟩) (fun q1 => ?_)⟩
          refine ⟨_, rfl, _, _, rfl, rfl, _, rfl, ite2 (fun q => iteT ⟨L5, W5⟩) (fun q2 => ?_)⟩
          refine ⟨_, rfl, t, _, _, _, rfl, rfl, SqT.of L5.n.tup, at0, Nat.zero_le _, fun q hq => ?_⟩
          have L6 := L5.same (same_new (o := .lst []) hq)
          have W6 := W5.tk (Tk.new (o := .lst []) hq)
          refine ⟨.list (G.B.map PyData.str), .list [], .lst (SqL.of L6.n.boxes) (dp_strs _), .lst (SqL.of upd_same) .nil, sh_strs hsB, rfl, _, rfl, ?_⟩
          rw [eqv_strs]
          refine ite2 (fun q => iteT ⟨L6, W6⟩) (fun q3 => ?_)
          have l6 := same_new (o := .lst []) hq _ _ l5
          have hq1 : ¬ (3 < deep) := fun z => q1 (decide_eq_true z)
          have hq2 : ¬ (2 < kd) := fun z => q2 (decide_eq_true z)
          refine ⟨_, rfl, l, _, _, _, rfl, rfl, SqL.of l6, at0, _, _, rfl, rfl, _, rfl, ite2 (fun q => ⟨L6, W6⟩) (fun q4 => ⟨L6, W6, by omega, by omega, fun e => q3 (decide_eq_true e)⟩)⟩
        · rintro H6 ⟨L6, W6⟩
          obtain ⟨z, hz⟩ := L6.d.left
          refine ⟨_, rfl, _, rfl, _, rfl, r, t, bs, ls, fs, G, rfl, L6.d.rng, L6.n, h2, hBl, fun H7 a1 xs R7 B7 ha hp => ?_⟩
          refine ⟨szn (by decide : 1 ≤ 1000), fun p hpn => ?_⟩
          have L7 := (L6.next nlr R7 B7).same (same_new (o := .tup [.ref a1]) hpn)
          have W7 := (W6.tk (L6.d.rng.tk B7)).tk (Tk.new (o := .tup [.ref a1]) hpn)
          have a7 := Tk.new (o := .tup [.ref a1]) hpn _ _ ha
          have p7 := hp.tk (Tk.new (o := .tup [.ref a1]) hpn)
          have t7 : upd H7 p (.tup [.ref a1]) p = some (.tup [.ref a1]) := upd_same
          generalize upd H7 p (.tup [.ref a1]) = H8 at L7 W7 a7 p7 t7 ⊢
          obtain ⟨z', hz'⟩ := L7.d.left
          refine ⟨_, rfl, l, _, _, _, rfl, rfl, SqL.of hz', at0, _, _, rfl, rfl, .inr ⟨_, rfl, ?_⟩⟩
          refine ⟨p, _, _, rfl, rfl, t7, by simp, by split <;> simp, fun q H9 ys s9 hq hys => ?_⟩
          obtain ⟨xs0, hx0, hs0⟩ := W7.tk (same_tk s9)
          have hlen := sumL_len hs0
          have hyl : ys.length ≤ 1 := by rcases hys with e | e <;> rw [e] <;> simp
          refine ⟨a, q, _, _, rfl, rfl, hx0, hq, by rw [sizeLine_eq]; omega, fun p2 H10 s10 hp2 => ?_⟩
          have sum : ∃ m', SumL (fun m x => WRow G H10 (j + 1) m x) m' (xs0 ++ ys) ∧ m' ≤ m + 1 := by
            have q0 := hs0.imp fun _ _ q => WRow.tk (same_tk s10) q
            rcases hys with e | e
            · rw [e, List.append_nil]
              exact ⟨m, q0, by omega⟩
            · rw [e]
              exact ⟨m + 1, q0.app (SumL.one ⟨a1, rfl, .inl ⟨xs, s10 _ _ (s9 _ _ a7), p7.tk ((same_tk s9).trans (same_tk s10)), rfl⟩⟩), Nat.le_refl _⟩
          obtain ⟨m', hsum, hm'⟩ := sum
          exact ⟨p2, m', _, _, _, _, _, _, _, _, _, _, _, rfl, (L7.same s9).same s10, ⟨_, hp2, hsum⟩, Nat.le_trans hm' (mul_step hm (cR_pos j))⟩
        · rintro H6 ⟨L6, W6, c1, c2, c3⟩
          exact ⟨rfl, L6, W6, c1, c2, c3⟩
      · rintro σ H6 ⟨rfl, L6, W6, hj1, hkd, hBn⟩
        clear L5 W5 l5
        obtain ⟨y6, hy6⟩ := L6.d.left
        refine ⟨_, rfl, l, _, _, _, rfl, rfl, SqL.of hy6, at0, _, rfl, _, _, rfl, rfl, .inr ⟨_, rfl, ?_⟩⟩
        refine ⟨_, _, rfl, rfl, .inl ⟨by decide, by decide⟩, _, _, rfl, rfl, _, rfl, l, _, _, 0, rfl, rfl, hy6, set0, ?_⟩
        have L7 := fun z : Int => L6.dec nlr z
        have W7 := fun z : Int => W6.tk (ki_dec L6.d.left z).tk
        show tSeq _ _ _ _ (upd H6 l (.lst [.int (y6 - 2 * if decide (0 < kd) = true then 1 else 0)]))
        generalize (y6 - 2 * if decide (0 < kd) = true then 1 else 0) = z7
        have L7 := L7 z7
        have W7 := W7 z7
        generalize upd H6 l (.lst [.int z7]) = H7 at L7 W7 ⊢
        clear L6 W6 hy6
        -- fails
        refine ⟨_, rfl, r, 9, rfl, L7.d.rng, by decide, fun H8 x R8 B8 x0 x1 => ⟨szn (by decide : 2 ≤ 1000), fun p1 hp1 => ⟨szn (by decide : 2 ≤ 1000), fun p2 hp2 => ⟨szn (by decide : 1 ≤ 1000), fun p3 hp3 => ?_⟩⟩⟩⟩
        have s8 := ((same_new (o := .tup [.str "number", .int x]) hp1).trans (same_new (o := .tup [.str "fail", .ref p1]) hp2)).trans (same_new (o := .tup [.ref p2]) hp3)
        have L9 := (L7.next nlr R8 B8).same s8
        have W9 := (W7.tk (L7.d.rng.tk B8)).tk (same_tk s8)
        have f1 := same_new (o := .tup [.ref p2]) hp3 _ _ (same_new (o := .tup [.str "fail", .ref p1]) hp2 _ _ (upd_same (H := H8) (a := p1) (o := .tup [.str "number", .int x])))
        have f2 := same_new (o := .tup [.ref p2]) hp3 _ _ (upd_same (H := upd H8 p1 (.tup [.str "number", .int x])) (a := p2) (o := .tup [.str "fail", .ref p1]))
        have f3 : upd (upd (upd H8 p1 (.tup [.str "number", .int x])) p2 (.tup [.str "fail", .ref p1])) p3 (.tup [.ref p2]) p3 = some (.tup [.ref p2]) := upd_same
        generalize upd (upd (upd H8 p1 (.tup [.str "number", .int x])) p2 (.tup [.str "fail", .ref p1])) p3 (.tup [.ref p2]) = H9 at L9 W9 f1 f2 f3 ⊢
        have hfail : ∀ H', Tk H9 H' → WRow G H' j 1 (.ref p2) := fun H' k' => .plain hj1 (k' _ _ f2) (.fail (.num (k' _ _ f1) x0 (by omega)))
        clear L7 W7 R8 B8 hp1 hp2 hp3 s8
        -- box
        have hBl0 : 0 < G.B.length := List.length_pos_iff.mpr hBn
        refine ⟨_, rfl, t, _, _, _, rfl, rfl, SqT.of L9.n.tup, at0, _, rfl, _, rfl, t, _, _, _, rfl, rfl, SqT.of L9.n.tup, at0, bs, _, rfl, .inl (SqL.of L9.n.boxes), r, _, rfl, L9.d.rng, by rw [List.length_map]; omega, fun H10 b R10 B10 b0 b1 => ?_⟩
        have L10 := L9.next nlr R10 B10
        have W10 := W9.tk (L9.d.rng.tk B10)
        have K10 : Tk H9 H10 := L9.d.rng.tk B10
        rw [List.length_map] at b1
        obtain ⟨bx, hbx, ebx⟩ := str_at b0 b1
        refine ⟨bs, _, _, _, rfl, rfl, SqL.of L10.n.boxes, ebx, ?_⟩
        -- first, second
        refine ⟨_, rfl, _, rfl, _, rfl, _, _, rfl, rfl, _, rfl, hj1, r, t, bs, ls, fs, l, G, _, 3, rfl, L10.d.rng, L10.d.left, nlr, L10.n, h2, hBl, hsB, hsL, by omega, by omega, by decide, by decide, fun H11 g1 n1' D11 Wg1 hn1 => ?_⟩
        have L11 := L10.sub D11
        have W11 := W10.tk (L10.subtk D11)
        have K11 := K10.trans (L10.subtk D11)
        refine ⟨_, rfl, _, rfl, _, rfl, _, _, rfl, rfl, _, rfl, hj1, r, t, bs, ls, fs, l, G, _, 2, rfl, L11.d.rng, L11.d.left, nlr, L11.n, h2, hBl, hsB, hsL, by omega, by omega, by decide, by decide, fun H12 g2 n2' D12 Wg2 hn2 => ?_⟩
        have L12 := L11.sub D12
        have W12 := W11.tk (L11.subtk D12)
        have K12 := K11.trans (L11.subtk D12)
        have Wg1 := Wg1.tk (L11.subtk D12)
        have ej : j - 1 + 1 = j := by omega
        rw [ej] at Wg1 Wg2
        have hc := cR_step hj1
        have hn1' : n1' ≤ 3 * cR (j - 1) := by
          have e3 : (3 : Int).toNat = 3 := rfl
          rw [e3] at hn1
          omega
        have hn2' : n2' ≤ 2 * cR (j - 1) := by
          have e3 : (2 : Int).toNat = 2 := rfl
          rw [e3] at hn2
          omega
        have hcl : cR (j - 1) ≤ 218 := cR_le _ (by omega)
        clear L9 W9 L10 W10 L11 W11 D11 D12 R10 B10 K10 K11 hn1 hn2
        simp only [List.set_cons_succ, List.set_cons_zero]
        obtain ⟨xs1, hx1, hs1⟩ := Wg1
        obtain ⟨xs2, hx2, hs2⟩ := Wg2
        have len1 := sumL_len hs1
        have len2 := sumL_len hs2
        refine ⟨_, rfl, rfl, _, rfl, ite2 (fun e0 => ?_) (fun e0 => ?_)⟩
        · -- an if
          refine ⟨_, rfl, _, rfl, t, _, _, _, rfl, rfl, SqT.of L12.n.tup, at0, _, rfl, t, _, _, _, rfl, rfl, SqT.of L12.n.tup, rfl, r, 2, bs, ls, G.B, G.L, rfl, L12.d.rng, by decide, L12.n.boxes, L12.n.lists, fun H13 v R13 B13 hv => ?_⟩
          have L13 := L12.next nlr R13 B13
          have K13 := L12.d.rng.tk B13
          obtain ⟨xs0, hx0, hs0⟩ := W12.tk K13
          have len0 := sumL_len hs0
          refine ⟨_, rfl, _, rfl, _, rfl, _, rfl, szn (by decide : 4 ≤ 1000), fun p1 hp1 => ⟨szn (by decide : 1 ≤ 1000), fun p2 hp2 => ?_⟩⟩
          have s2 := (same_new (o := .tup [.str "if", v, .ref g1, .ref g2]) hp1).trans (same_new (o := .tup [.ref p1]) hp2)
          refine ⟨a, p2, _, _, rfl, rfl, s2 _ _ hx0, upd_same, by rw [sizeLine_eq, List.length_singleton]; omega, fun p3' H14 s14 hp3' => ?_⟩
          have s13 := s2.trans s14
          have K14 := K13.trans (same_tk s13)
          have e1 := s14 _ _ (same_new (o := .tup [.ref p1]) hp2 _ _ (upd_same (H := H13) (a := p1) (o := .tup [.str "if", v, .ref g1, .ref g2])))
          refine ⟨p3', m + (n1' + n2' + 1), _, _, _, _, _, _, _, _, _, _, _, rfl, L13.same s13, ?_, mul_step hm (by omega)⟩
          exact WRows.add ⟨xs0, s13 _ _ hx0, hs0.imp fun _ _ q => WRow.tk (same_tk s13) q⟩ (s13 _ _ hx0) hp3' ⟨p1, rfl, .inr (.inl ⟨v, g1, g2, xs1, xs2, n1', n2', e1, (hv.le (by decide)).tk (same_tk s13), K14 _ _ hx1, hs1.imp fun _ _ q => WRow.tk K14 q, K14 _ _ hx2, hs2.imp fun _ _ q => WRow.tk K14 q, rfl⟩)⟩
        refine ⟨_, rfl, rfl, _, rfl, ite2 (fun e1 => ?_) (fun e1 => ?_)⟩
        · -- a while
          refine ⟨_, rfl, _, rfl, szn (by decide : 2 ≤ 1000), fun b1 hb1 => ⟨szn (by decide : 2 ≤ 1000), fun b2 hb2 => ⟨szn (by decide : 3 ≤ 1000), fun b3 hb3 => ⟨szn (by decide : 3 ≤ 1000), fun b4 hb4 => ⟨szn (by decide : 1 ≤ 1000), fun b5 hb5 => ?_⟩⟩⟩⟩⟩
          have s1 := same_new (o := .tup [.str "box", .str bx]) hb1
          have s2 := same_new (o := .tup [.str "number", .int 1]) hb2
          have s3 := same_new (o := .tup [.str "minus", .ref b1, .ref b2]) hb3
          have s4 := same_new (o := .tup [.str "set", .str bx, .ref b3]) hb4
          have s5 := same_new (o := .tup [.ref b4]) hb5
          have E1 := s5 _ _ (s4 _ _ (s3 _ _ (s2 _ _ (upd_same (H := H12) (a := b1) (o := .tup [.str "box", .str bx])))))
          have E2 := s5 _ _ (s4 _ _ (s3 _ _ (upd_same (a := b2) (o := .tup [.str "number", .int 1]) (H := upd H12 b1 (.tup [.str "box", .str bx])))))
          have E3 := s5 _ _ (s4 _ _ (upd_same (a := b3) (o := .tup [.str "minus", .ref b1, .ref b2]) (H := upd (upd H12 b1 (.tup [.str "box", .str bx])) b2 (.tup [.str "number", .int 1]))))
          have E4 := s5 _ _ (upd_same (a := b4) (o := .tup [.str "set", .str bx, .ref b3]) (H := upd (upd (upd H12 b1 (.tup [.str "box", .str bx])) b2 (.tup [.str "number", .int 1])) b3 (.tup [.str "minus", .ref b1, .ref b2])))
          have E5 : upd (upd (upd (upd (upd H12 b1 (.tup [.str "box", .str bx])) b2 (.tup [.str "number", .int 1])) b3 (.tup [.str "minus", .ref b1, .ref b2])) b4 (.tup [.str "set", .str bx, .ref b3])) b5 (.tup [.ref b4]) b5 = some (.tup [.ref b4]) := upd_same
          have s15 := (((s1.trans s2).trans s3).trans s4).trans s5
          generalize upd (upd (upd (upd (upd H12 b1 (.tup [.str "box", .str bx])) b2 (.tup [.str "number", .int 1])) b3 (.tup [.str "minus", .ref b1, .ref b2])) b4 (.tup [.str "set", .str bx, .ref b3])) b5 (.tup [.ref b4]) = H13 at E1 E2 E3 E4 E5 s15 ⊢
          clear s1 s2 s3 s4 s5 hb1 hb2 hb3 hb4 hb5
          have L13 := L12.same s15
          have less : ∀ H', Tk H13 H' → WRow G H' j 1 (.ref b4) := fun H' k' => .plain hj1 (k' _ _ E4) (.set hbx (.two (k' _ _ E3) (by decide) (.box (d := 1) (k' _ _ E1) hbx) (.num (d := 1) (k' _ _ E2) (by decide) (by decide))))
          -- found grows by a set
          refine ⟨_, rfl, _, rfl, _, rfl, r, 5, rfl, L13.d.rng, by decide, fun H14 x5 R14 B14 x50 x51 => ⟨szn (by decide : 2 ≤ 1000), fun c1 hc1 => ⟨szn (by decide : 3 ≤ 1000), fun c2 hc2 => ⟨szn (by decide : 1 ≤ 1000), fun c3 hc3 => ?_⟩⟩⟩⟩
          have K14 : Tk H12 H14 := (same_tk s15).trans (L13.d.rng.tk B14)
          have K14' : Tk H13 H14 := L13.d.rng.tk B14
          obtain ⟨xs0, hx0, hs0⟩ := W12.tk K14
          have len0 := sumL_len hs0
          have t1 := same_new (o := .tup [.str "number", .int x5]) hc1
          have t2 := same_new (o := .tup [.str "set", .str bx, .ref c1]) hc2
          have t3 := same_new (o := .tup [.ref c2]) hc3
          have t123 := (t1.trans t2).trans t3
          refine ⟨a, c3, _, _, rfl, rfl, t123 _ _ hx0, upd_same, by rw [sizeLine_eq, List.length_singleton]; omega, fun a2 H15 s15' ha2 => ?_⟩
          have F1 := s15' _ _ (t3 _ _ (t2 _ _ (upd_same (H := H14) (a := c1) (o := .tup [.str "number", .int x5]))))
          have F2 := s15' _ _ (t3 _ _ (upd_same (a := c2) (o := .tup [.str "set", .str bx, .ref c1]) (H := upd H14 c1 (.tup [.str "number", .int x5]))))
          have s14 := t123.trans s15'
          have L15 := (L13.next nlr R14 B14).same s14
          have K15 := K14.trans (same_tk s14)
          have K15' := K14'.trans (same_tk s14)
          have W15 : WRows G H15 (j + 1) (m + 1) a2 := WRows.add ⟨xs0, s14 _ _ hx0, hs0.imp fun _ _ q => WRow.tk (same_tk s14) q⟩ (s14 _ _ hx0) ha2 (.plain (by omega) F2 (.set hbx (.num (d := 2) F1 x50 (by omega))))
          clear s14 s15' t123 t1 t2 t3 hc1 hc2 hc3 F1 F2 R14 B14 hx0 hs0 len0
          -- the rows within
          refine ⟨_, rfl, _, rfl, g1, b5, _, _, rfl, rfl, K15 _ _ hx1, K15' _ _ E5, by rw [sizeLine_eq, List.length_singleton]; omega, fun q1 H16 s16 hq1 => ?_⟩
          refine ⟨_, rfl, _, rfl, b5, g1, _, _, rfl, rfl, s16 _ _ (K15' _ _ E5), s16 _ _ (K15 _ _ hx1), by rw [sizeLine_eq, List.length_singleton]; omega, fun q2 H17 s17 hq2 => ?_⟩
          refine ⟨szn (by decide : 2 ≤ 1000), fun ql hql => ?_⟩
          have u1 := (s16.trans s17).trans (same_new (o := .lst [.ref q1, .ref q2]) hql)
          have L18 := L15.same u1
          refine ⟨_, rfl, r, 2, rfl, L18.d.rng, by decide, fun H19 c R19 B19 c0 c1 => ?_⟩
          have hqr : ql ≠ r := (L15.same (s16.trans s17)).d.rng.ne hql
          have ql19 : H19 ql = some (.lst [.ref q1, .ref q2]) := B19 _ _ hqr upd_same
          have K19 := (same_tk u1).trans (L18.d.rng.tk B19)
          have hq1' := L18.d.rng.tk B19 _ _ (same_tk (same_new (o := .lst [.ref q1, .ref q2]) hql) _ _ (s17 _ _ hq1))
          have hq2' := L18.d.rng.tk B19 _ _ (same_tk (same_new (o := .lst [.ref q1, .ref q2]) hql) _ _ hq2)
          have L19 := L18.next nlr R19 B19
          have less19 := less H19 (K15'.trans K19)
          have hs19 := hs1.imp fun _ _ q => WRow.tk (K15.trans K19) q
          obtain ⟨qi, ys, ei, hqi, hsi⟩ : ∃ qi ys, atI [V.ref q1, V.ref q2] c = some (.ref qi) ∧ H19 qi = some (.tup ys) ∧ SumL (fun m x => WRow G H19 j m x) (n1' + 1) ys := by
            rcases (show c = 0 ∨ c = 1 by omega) with rfl | rfl
            · exact ⟨q1, _, rfl, hq1', hs19.app (SumL.one less19)⟩
            · refine ⟨q2, _, rfl, hq2', ?_⟩
              rw [Nat.add_comm]
              exact (SumL.one less19).app hs19
          refine ⟨ql, _, _, _, rfl, rfl, SqL.of ql19, ei, ?_⟩
          have W19 := W15.tk K19
          clear u1 L18 R19 B19 hqr K19 hq1' hq2' hq1 hq2 s16 s17 less19 hs19 hql W15 L15 K15 K15' ei ql19
          -- until, way
          refine ⟨_, rfl, szn (by decide : 2 ≤ 1000), fun u1 hu1 => ?_⟩
          have s20 := same_new (o := .tup [.str "box", .str bx]) hu1
          have L20 := L19.same s20
          refine ⟨_, rfl, r, 8, rfl, L20.d.rng, by decide, fun H21 wy R21 B21 wy0 wy1 => ?_⟩
          have K21 := (same_tk s20).trans (L20.d.rng.tk B21)
          have L21 := L20.next nlr R21 B21
          have W21 := W19.tk K21
          have U21 := L20.d.rng.tk B21 _ _ (upd_same (H := H19) (a := u1) (o := .tup [.str "box", .str bx]))
          have hqi := K21 _ _ hqi
          have hsi := hsi.imp fun _ _ q => WRow.tk K21 q
          clear L19 W19 L20 R21 B21 K21 s20 hu1
          simp only [List.set_cons_succ, List.set_cons_zero]
          refine ⟨fun σ H' => ∃ u : V, σ = [some (.ref r), some (.ref t), some (.int deep), some (.int most), some (.ref l), some (.ref a2), some (.int (0 + (i : Int))), some (.int kd), some (.ref p3), some (.str bx), some (.ref g1), some (.ref g2), o12, some (.ref b5), some (.ref qi), some u, some (.int wy)] ∧ Same H21 H' ∧ WVal G.B G.L H' 3 u, ?_, ?_⟩
          · refine ⟨_, rfl, rfl, _, rfl, ite2 (fun w0 => ?_) (fun w0 => ?_)⟩
            · refine ⟨szn (by decide : 2 ≤ 1000), fun v1 hv1 => ⟨_, rfl, szn (by decide : 3 ≤ 1000), fun v2 hv2 => ?_⟩⟩
              have z1 := same_new (o := .tup [.str "number", .int 3]) hv1
              have z2 := same_new (o := .tup [.str "over", .ref v1, .ref u1]) hv2
              exact ⟨_, rfl, z1.trans z2, .two upd_same (by decide) (.num (d := 1) (z2 _ _ upd_same) (by decide) (by decide)) (.box (d := 1) (z2 _ _ (z1 _ _ U21)) hbx)⟩
            refine ⟨_, rfl, rfl, _, rfl, ite2 (fun w1 => ?_) (fun w1 => iteF ⟨_, rfl, Same.refl _, .box (d := 2) U21 hbx⟩)⟩
            refine ⟨_, rfl, t, _, _, _, rfl, rfl, SqT.of L21.n.tup, rfl, Nat.zero_le _, fun q hq => ?_⟩
            have z1 := same_new (o := .lst []) hq
            have L22 := L21.same z1
            refine ⟨.list (G.L.map PyData.str), .list [], .lst (SqL.of L22.n.lists) (dp_strs _), .lst (SqL.of upd_same) .nil, sh_strs hsL, rfl, _, rfl, ?_⟩
            rw [eqv_strs]
            refine ite2 (fun hne => ?_) (fun hne => ⟨_, rfl, z1, .box (d := 2) (z1 _ _ U21) hbx⟩)
            have hLn : 0 < G.L.length := List.length_pos_iff.mpr fun e => by
              rw [e] at hne
              cases hne
            obtain ⟨lx, hlx, elx⟩ := str_at (B := G.L) (k := 0) (by decide) (by omega)
            refine ⟨_, rfl, t, _, _, _, rfl, rfl, SqT.of L22.n.tup, rfl, ls, _, _, _, rfl, rfl, SqL.of L22.n.lists, elx, _, rfl, szn (by decide : 3 ≤ 1000), fun v2 hv2 => ?_⟩
            have z2 := same_new (o := .tup [.str "item", .str lx, .ref u1]) hv2
            exact ⟨_, rfl, z1.trans z2, .item upd_same hlx (.box (d := 1) (z2 _ _ (z1 _ _ U21)) hbx)⟩
          · rintro σ H22 ⟨u, rfl, s22, hu⟩
            have K22 := same_tk s22
            have L22 := L21.same s22
            obtain ⟨xs0, hx0, hs0⟩ := W21.tk K22
            have len0 := sumL_len hs0
            refine ⟨_, rfl, _, rfl, _, rfl, szn (by decide : 3 ≤ 1000), fun p1 hp1 => ⟨szn (by decide : 1 ≤ 1000), fun p2 hp2 => ?_⟩⟩
            have z2 := (same_new (o := .tup [.str "while", u, .ref qi]) hp1).trans (same_new (o := .tup [.ref p1]) hp2)
            refine ⟨a2, p2, _, _, rfl, rfl, z2 _ _ hx0, upd_same, by rw [sizeLine_eq, List.length_singleton]; omega, fun p3' H23 s23 hp3' => ?_⟩
            have z3 := z2.trans s23
            have E := s23 _ _ (same_new (o := .tup [.ref p1]) hp2 _ _ (upd_same (H := H22) (a := p1) (o := .tup [.str "while", u, .ref qi])))
            have K23 := K22.trans (same_tk z3)
            refine ⟨p3', m + 1 + (n1' + 1 + 1), _, _, _, _, _, _, _, _, _, _, _, rfl, L22.same z3, ?_, ?_⟩
            · exact WRows.add ⟨xs0, z3 _ _ hx0, hs0.imp fun _ _ q => WRow.tk (same_tk z3) q⟩ (z3 _ _ hx0) hp3' ⟨p1, rfl, .inr (.inr (.inl ⟨u, qi, ys, n1' + 1, E, hu.tk (same_tk z3), K23 _ _ hqi, hsi.imp fun _ _ q => WRow.tk K23 q, rfl⟩))⟩
            · have q := mul_step (k := 1 + (n1' + 1 + 1)) hm (by omega)
              omega
        · -- a try
          refine ⟨_, rfl, _, rfl, _, rfl, r, 2, rfl, L12.d.rng, by decide, fun H13 c R13 B13 c0 c1 => ?_⟩
          have L13 := L12.next nlr R13 B13
          have K13 := L12.d.rng.tk B13
          refine ⟨p3, c, _, rfl, rfl, K13 _ _ (K12 _ _ f3), by simp, by omega, fun q1 H14 zs s14 hq1 hzs => ?_⟩
          have K14 := K13.trans (same_tk s14)
          have lz : zs.length ≤ 1 := by rcases hzs with e | e <;> rw [e] <;> simp
          refine ⟨g1, q1, _, _, rfl, rfl, K14 _ _ hx1, hq1, by rw [sizeLine_eq]; omega, fun q2 H15 s15 hq2 => ?_⟩
          have K15 := K14.trans (same_tk s15)
          have L15 := (L13.same s14).same s15
          have sum1 : ∃ m1, SumL (fun m x => WRow G H15 j m x) m1 (xs1 ++ zs) ∧ m1 ≤ n1' + 1 := by
            have q0 := hs1.imp fun _ _ q => WRow.tk K15 q
            rcases hzs with e | e
            · rw [e, List.append_nil]
              exact ⟨n1', q0, by omega⟩
            · rw [e]
              exact ⟨n1' + 1, q0.app (SumL.one (hfail _ (K12.trans K15))), Nat.le_refl _⟩
          obtain ⟨m1, sum1, hm1⟩ := sum1
          refine ⟨_, rfl, _, rfl, _, rfl, _, rfl, _, rfl, _, rfl, r, 2, rfl, L15.d.rng, by decide, fun H16 d R16 B16 d0 d1 => ?_⟩
          have L16 := L15.next nlr R16 B16
          have K16' := L15.d.rng.tk B16
          have K16 := K15.trans K16'
          refine ⟨p3, d, _, rfl, rfl, K16 _ _ (K12 _ _ f3), by simp, by omega, fun q3 H17 zs2 s17 hq3 hzs2 => ?_⟩
          have lz2 : zs2.length ≤ 1 := by rcases hzs2 with e | e <;> rw [e] <;> simp
          have K17 := K16.trans (same_tk s17)
          refine ⟨g2, q3, _, _, rfl, rfl, K17 _ _ hx2, hq3, by rw [sizeLine_eq]; omega, fun q4 H18 s18 hq4 => ?_⟩
          have K18' := (K16'.trans (same_tk s17)).trans (same_tk s18)
          have K18 := K17.trans (same_tk s18)
          have L18 := (L16.same s17).same s18
          have sum2 : ∃ m2, SumL (fun m x => WRow G H18 j m x) m2 (xs2 ++ zs2) ∧ m2 ≤ n2' + 1 := by
            have q0 := hs2.imp fun _ _ q => WRow.tk K18 q
            rcases hzs2 with e | e
            · rw [e, List.append_nil]
              exact ⟨n2', q0, by omega⟩
            · rw [e]
              exact ⟨n2' + 1, q0.app (SumL.one (hfail _ (K12.trans K18))), Nat.le_refl _⟩
          obtain ⟨m2, sum2, hm2'⟩ := sum2
          obtain ⟨xs0, hx0, hs0⟩ := W12.tk K18
          have len0 := sumL_len hs0
          refine ⟨szn (by decide : 4 ≤ 1000), fun p1 hp1 => ⟨szn (by decide : 1 ≤ 1000), fun p2 hp2 => ?_⟩⟩
          have z2 := (same_new (o := .tup [.str "try", .ref q2, .str bx, .ref q4]) hp1).trans (same_new (o := .tup [.ref p1]) hp2)
          refine ⟨a, p2, _, _, rfl, rfl, z2 _ _ hx0, upd_same, by rw [sizeLine_eq, List.length_singleton]; omega, fun p3' H23 s23 hp3' => ?_⟩
          have z3 := z2.trans s23
          have E := s23 _ _ (same_new (o := .tup [.ref p1]) hp2 _ _ (upd_same (H := H18) (a := p1) (o := .tup [.str "try", .ref q2, .str bx, .ref q4])))
          have K23 := K18'.trans (same_tk z3)
          refine ⟨p3', m + (m1 + m2 + 1), _, _, _, _, _, _, _, _, _, _, _, rfl, L18.same z3, ?_, mul_step hm (by omega)⟩
          exact WRows.add ⟨xs0, z3 _ _ hx0, hs0.imp fun _ _ q => WRow.tk (same_tk z3) q⟩ (z3 _ _ hx0) hp3' ⟨p1, rfl, .inr (.inr (.inr ⟨bx, q2, q4, _, _, m1, m2, E, hbx, K23 _ _ hq2, sum1.imp fun _ _ q => WRow.tk K23 q, z3 _ _ hq4, sum2.imp fun _ _ q => WRow.tk (same_tk z3) q, rfl⟩))⟩
    · rintro σ H3 ⟨a, m, o6, o7, o8, o9, o10, o11, o12, o13, o14, o15, o16, rfl, L3, W3, hm⟩
      refine ⟨_, rfl, k H3 a m L3.d W3 (Nat.le_trans hm (Nat.mul_le_mul_left _ ?_))⟩
      omega
theorem ok_rows (T : Txt K mg) : ∀ j : Nat, OkC P w K mg base CX0 (j + 6) (He.ga K "_law_rows") ["_law_state_here", "_law_names_here", "_law_deep", "_law_most", "_law_left"] (spRows j)
  | 0 => rows_step T 0 4 (Nat.le_refl _) (by
      obtain ⟨fd, F⟩ := T.f__law_rows
      refine ⟨fd, ⟨fun vs H Q E h => absurd h.1 (by decide), fun A outer s H args us vs Q E _ _ _ _ h => absurd h.1 (by decide)⟩, F.bindsN fun _ _ _ _ _ _ us hl => match us, hl with | [_, _, _, _, _], _ => rfl⟩)
  | j + 1 => rows_step T (j + 1) (j + 5) (by omega) ((ok_rows T j).imp fun vs H Q E h => h.2)
end
end Rt
/-! ## L7 -/
set_option Elab.async false
set_option linter.all false
set_option maxRecDepth 100000
set_option maxHeartbeats 4000000
namespace Rt
open PySem PySem.Spec PyProof.Rows L2
open L2H (RoomH roomH_of)
/-! ### two lists side by side -/
inductive All2 {α β : Type} (R : α → β → Prop) : List α → List β → Prop
  | nil : All2 R [] []
  | cons {a : α} {b : β} {xs : List α} {ys : List β} (h : R a b) (t : All2 R xs ys) : All2 R (a :: xs) (b :: ys)
theorem All2.len {α β : Type} {R : α → β → Prop} {xs : List α} {ys : List β} (h : All2 R xs ys) : xs.length = ys.length := by
  induction h with
  | nil => rfl
  | cons _ _ ih => rw [List.length_cons, List.length_cons, ih]
theorem All2.imp {α β : Type} {R S : α → β → Prop} (k : ∀ a b, R a b → S a b) {xs : List α} {ys : List β} (h : All2 R xs ys) : All2 S xs ys := by
  induction h with
  | nil => exact .nil
  | cons q _ ih => exact .cons (k _ _ q) ih
theorem All2.add {α β : Type} {R : α → β → Prop} {xs : List α} {ys : List β} {a : α} {b : β} (h : All2 R xs ys) (q : R a b) : All2 R (xs ++ [a]) (ys ++ [b]) := by
  induction h with
  | nil => exact .cons q .nil
  | cons r _ ih => exact .cons r ih
theorem All2.get {α β : Type} {R : α → β → Prop} {xs : List α} {ys : List β} (h : All2 R xs ys) : ∀ {i : Nat} {a : α} {b : β}, xs[i]? = some a → ys[i]? = some b → R a b := by
  induction h with
  | nil => intro i a b e; simp at e
  | cons r _ ih =>
    intro i a b e1 e2
    cases i with
    | zero =>
      simp at e1 e2
      subst e1 e2
      exact r
    | succ i => exact ih (by simpa using e1) (by simpa using e2)
/-! ### slices of names -/
def sl (xs : List Str) (a k : Nat) : List Str := (xs.drop a).take k
theorem sl_mem {xs : List Str} {a k : Nat} {x : Str} (h : x ∈ sl xs a k) : x ∈ xs := List.mem_of_mem_drop (List.mem_of_mem_take h)
theorem sl_nodup {xs : List Str} {a k : Nat} (h : xs.Nodup) : (sl xs a k).Nodup := (h.sublist (List.drop_sublist _ _)).sublist (List.take_sublist _ _)
theorem sl_len {xs : List Str} {a k : Nat} : (sl xs a k).length ≤ k := by
  unfold sl
  rw [List.length_take]
  omega
theorem sl_ix {xs : List Str} {a k : Nat} {x : Str} (h : x ∈ sl xs a k) : ∃ i, a ≤ i ∧ i < a + k ∧ xs[i]? = some x := by
  obtain ⟨j, hj, e⟩ := List.mem_iff_getElem.mp h
  have hk := Nat.lt_of_lt_of_le hj sl_len
  refine ⟨a + j, by omega, by omega, ?_⟩
  have e2 : (sl xs a k)[j]? = some x := by rw [List.getElem?_eq_getElem hj, e]
  unfold sl at e2
  rw [List.getElem?_take, if_pos hk, List.getElem?_drop] at e2
  exact e2
theorem sl_apart {xs : List Str} {a k b m : Nat} {x : Str} (h : xs.Nodup) (h1 : x ∈ sl xs a k) (h2 : x ∈ sl xs b m) (hab : a + k ≤ b) : False := by
  obtain ⟨i, i0, i1, e1⟩ := sl_ix h1
  obtain ⟨j, j0, j1, e2⟩ := sl_ix h2
  have hi := (List.getElem?_eq_some_iff.mp e1).1
  have q : i = j := (List.getElem?_inj hi h).mp (e1.trans e2.symm)
  omega
theorem cut_sl {xs : List Str} {a k : Nat} (h : a + k ≤ xs.length) : cutV (xs.map V.str) (some (a : Int)) (some ((a : Int) + (k : Int))) = (sl xs a k).map V.str := by
  unfold cutV sl
  have e : (a : Int) + (k : Int) = ((a + k : Nat) : Int) := by omega
  rw [e, HT.sIx_nat, HT.sIx_nat, List.length_map, Nat.min_eq_left (show a ≤ xs.length by omega), Nat.min_eq_left h, Nat.add_sub_cancel_left, ← List.map_drop, ← List.map_take]
theorem cut_sl0 {xs : List Str} {k : Int} (h0 : 0 ≤ k) (h : k.toNat ≤ xs.length) : cutV (xs.map V.str) none (some k) = (sl xs 0 k.toNat).map V.str := by
  unfold cutV sl
  have e : k = ((k.toNat : Nat) : Int) := by omega
  rw [HT.sIx_none, e, HT.sIx_nat, List.length_map, Int.toNat_natCast, Nat.min_eq_left h, Nat.sub_zero, ← List.map_drop, ← List.map_take]
/-! ### programs -/
def PairAt (H : Hp) (b : Str) (v : V) : Prop := ∃ (p : Addr) (n : Int), v = .ref p ∧ H p = some (.tup [.str b, .int n]) ∧ 0 ≤ n ∧ n < 1000000
def NumsAt (H : Hp) (t : Addr) : Prop := ∃ ns : List Int, H t = some (.tup (ns.map V.int)) ∧ ns.length ≤ 12 ∧ ∀ n ∈ ns, 0 ≤ n ∧ n < 1000000
def ThingAt (H : Hp) (b : Str) (v : V) : Prop := ∃ (p t : Addr), v = .ref p ∧ H p = some (.tup [.str b, .ref t]) ∧ NumsAt H t
/-- a program's names: its boxes, its lists, its functions' titles and amounts, their params and owns -/
structure PI where
  B : List Str
  L : List Str
  F : List (Str × Nat)
  fs : List (Str × List Str × List Str)
  /-- what is known of its rows' addresses -/
  P : Addr → Prop
def scF (B L : List Str) (F : List (Str × Nat)) (f : Str × List Str × List Str) : Sc := ⟨f.2.1 ++ f.2.2 ++ B, L, F, true⟩
def WFun (B L : List Str) (F : List (Str × Nat)) (H : Hp) (f : Str × List Str × List Str) (v : V) : Prop :=
  ∃ (p pa oa ra : Addr) (n : Nat), v = .ref p ∧ H p = some (.tup [.str f.1, .ref pa, .ref oa, .ref ra]) ∧ H pa = some (.tup (f.2.1.map V.str)) ∧ H oa = some (.tup (f.2.2.map V.str)) ∧ WRows (scF B L F f) H 4 n ra ∧ n ≤ 900
theorem WFun.tk {B L : List Str} {F : List (Str × Nat)} {H H' : Hp} {f : Str × List Str × List Str} {v : V} (h : WFun B L F H f v) (k : Tk H H') : WFun B L F H' f v := by
  obtain ⟨p, pa, oa, ra, n, e, h1, h2, h3, h4, h5⟩ := h
  exact ⟨p, pa, oa, ra, n, e, k _ _ h1, k _ _ h2, k _ _ h3, h4.tk k, h5⟩
/-- what the names are to each other -/
structure PI.Ok (I : PI) : Prop where
  b : I.B.Nodup
  l : I.L.Nodup
  bl : I.B.length ≤ 3
  ll : I.L.length ≤ 2
  t : (I.fs.map Prod.fst).Nodup
  fl : I.fs.length ≤ 2
  f : I.F.map Prod.fst = I.fs.map Prod.fst
  f2 : ∀ p ∈ I.F, p.2 ≤ 2
  tp : ∀ f ∈ I.fs, 0 < f.1.length
  tl : ∀ f ∈ I.fs, f.1.length ≤ 10
  n : ∀ f ∈ I.fs, (f.2.1 ++ f.2.2 ++ I.B).Nodup
  nl : ∀ f ∈ I.fs, f.2.1.length ≤ 2 ∧ f.2.2.length ≤ 2
  ok : ∀ x, (x ∈ I.B ∨ x ∈ I.L ∨ ∃ f ∈ I.fs, x = f.1 ∨ x ∈ f.2.1 ∨ x ∈ f.2.2) → PyData.strOk x = true
structure WProg (I : PI) (H : Hp) (a : Addr) : Prop where
  ex : ∃ (pa ta fa ra : Addr) (ps ts us : List V) (n : Nat), H a = some (.tup [.ref pa, .ref ta, .ref fa, .ref ra]) ∧ H pa = some (.tup ps) ∧ All2 (PairAt H) I.B ps ∧ H ta = some (.tup ts) ∧ All2 (ThingAt H) I.L ts ∧
    H fa = some (.tup us) ∧ All2 (WFun I.B I.L I.F H) I.fs us ∧ WRows ⟨I.B, I.L, I.F, false⟩ H 4 n ra ∧ n ≤ 1800
theorem PairAt.tk {H H' : Hp} {b : Str} {v : V} (h : PairAt H b v) (k : Tk H H') : PairAt H' b v := by
  obtain ⟨p, n, e, h1, h2⟩ := h
  exact ⟨p, n, e, k _ _ h1, h2⟩
theorem NumsAt.tk {H H' : Hp} {t : Addr} (h : NumsAt H t) (k : Tk H H') : NumsAt H' t := by
  obtain ⟨ns, h1, h2⟩ := h
  exact ⟨ns, k _ _ h1, h2⟩
theorem ThingAt.tk {H H' : Hp} {b : Str} {v : V} (h : ThingAt H b v) (k : Tk H H') : ThingAt H' b v := by
  obtain ⟨p, t, e, h1, h2⟩ := h
  exact ⟨p, t, e, k _ _ h1, h2.tk k⟩
theorem WProg.tk {I : PI} {H H' : Hp} {a : Addr} (h : WProg I H a) (k : Tk H H') : WProg I H' a := by
  obtain ⟨pa, ta, fa, ra, ps, ts, us, n, h1, h2, h3, h4, h5, h6, h7, h8, h9⟩ := h.ex
  exact ⟨pa, ta, fa, ra, ps, ts, us, n, k _ _ h1, k _ _ h2, h3.imp fun _ _ q => q.tk k, k _ _ h4, h5.imp fun _ _ q => q.tk k, k _ _ h6, h7.imp fun _ _ q => q.tk k, h8.tk k, h9⟩
theorem FunsAt.get {H : Hp} {fs : Addr} {F : List (Str × Nat)} {fas : List Addr} (h : ∀ (i : Nat) (a : Addr), fas[i]? = some a → ∃ p : Str × Nat, F[i]? = some p ∧ H a = some (.tup [.str p.1, .int (p.2 : Int)])) {i : Nat} (hi : i < fas.length) :
    ∃ p : Str × Nat, F[i]? = some p ∧ H fas[i] = some (.tup [.str p.1, .int (p.2 : Int)]) := h i _ (List.getElem?_eq_getElem hi)
def spCell (K : PySem.W.Frag) : Sp := fun vs H Q _ => ∃ (a : Addr) (ns : List Int) (k : Int), vs = [.ref a, .int k] ∧ SqL K H a (ns.map V.int) ∧ 0 ≤ k ∧ ∀ n, Q (.int n) H
def spState : Sp := fun vs H Q _ => ∃ c k : Int, vs = [.int c, .int k] ∧ 0 ≤ k ∧ k ≤ 100 ∧ ∀ p n, H p = none → 0 ≤ n → n < 2147483629 → Q (.ref p) (upd H p (.lst [.int n]))
section
variable {P : Program} {w : World} {K : PySem.W.Frag} {mg : Str → Option Value} {base : Heap}
theorem ok_cell_at (T : Txt K mg) : OkC P w K mg base CX0 1 (He.ga K "_law_cell_at") ["_law_script", "_law_k"] (spCell K) := by
  refine okC T.f__law_cell_at sc__law_cell_at (fun fd F => F.bindsN fun _ _ _ _ _ _ us hl => match us, hl with | [_, _], _ => rfl) (fun vs H Q E h => ?_) (fun cdv A outer s H vs Q E hr h => ?_)
  · obtain ⟨a, ns, k, rfl, _⟩ := h
    rfl
  · obtain ⟨a, ns, k, rfl, hS, k0, q⟩ := h
    refine ⟨_, (pss_cons
 (ps_if (pt_cmpR op_lt (pv 1) (pe_callB call_len_seq (by rfl) T.b_len (by decide +kernel) (pa_cons (pv 0) pa_nil)) (nomark _)) (pss_one
 (ps_ret (pe_ix ix_list (pv 0) (pv 1) (fun _ _ => rfl)))) pss_nil) (pss_one
 (ps_ret pe_int))), ?_⟩
    refine ⟨_, rfl, _, rfl, a, _, rfl, .inl hS, _, _, rfl, rfl, _, rfl, ite2 (fun h => ?_) (fun h => q 0)⟩
    have hlt : k < ((ns.map V.int).length : Int) := of_decide_eq_true h
    rw [List.length_map] at hlt
    have hk : k.toNat < ns.length := by omega
    exact ⟨_, rfl, _, rfl, a, _, _, _, rfl, rfl, hS, at_k k0 (by rw [List.getElem?_map, List.getElem?_eq_getElem hk]; rfl), q _⟩
theorem ok_state (T : Txt K mg) : OkC P w K mg base CX0 1 (He.ga K "_law_state") ["_law_cell", "_law_k"] spState := by
  refine okC T.f__law_state sc__law_state (fun fd F => F.bindsN fun _ _ _ _ _ _ us hl => match us, hl with | [_, _], _ => rfl) (fun vs H Q E h => ?_) (fun cdv A outer s H vs Q E hr h => ?_)
  · obtain ⟨c, k, rfl, _⟩ := h
    rfl
  · obtain ⟨c, k, rfl, k0, k1, q⟩ := h
    refine ⟨_, (pss_cons
 (ps_set (i := 2) sc__law_state.nd rfl (by first | exact Or.inl rfl | exact Or.inr rfl) (pe_op op_mod (pe_op op_mul (pe_op op_add (pe_op op_add (pv 0) (pe_op op_mul pe_int (pv 1))) pe_int) pe_int) pe_int)) (pss_one
 (ps_ret (pe_lst (pa_cons (pe_op op_mod (pe_op op_add (pe_op op_add (pe_op op_mul (pv 2) (pv 2)) (pe_op op_mul pe_int (pv 2))) (pv 1)) pe_int) pa_nil))))), ?_⟩
    refine ⟨_, rfl, _, rfl, _, _, rfl, rfl, .inl ⟨by decide, by decide⟩, _, _, rfl, rfl, _, _, rfl, rfl, _, _, rfl, rfl, .inr ⟨by decide, by decide⟩, _, _, rfl, rfl, (show (0 : Int) < 2147483647 by decide), ?_⟩
    generalize hd : (c + 7919 * k + 1) * 48271 % 2147483647 = d
    have d0 : 0 ≤ d := by rw [← hd]; exact Int.emod_nonneg _ (by decide)
    have d1 : d < 2147483647 := by rw [← hd]; exact Int.emod_lt_of_pos _ (by decide)
    refine ⟨_, rfl, _, rfl, _, _, rfl, rfl, .inl ⟨by omega, by omega⟩, _, rfl, _, _, rfl, rfl, .inl ⟨by decide, by decide⟩, _, _, rfl, rfl, _, rfl, _, _, rfl, rfl, _, _, rfl, rfl, (show (0 : Int) < 2147483629 by decide), szn (by decide : 1 ≤ 1000), fun p hp => ?_⟩
    exact q p _ hp (Int.emod_nonneg _ (by decide)) (Int.emod_lt_of_pos _ (by decide))
end
end Rt
/-! ## L8 -/
set_option Elab.async false
set_option linter.all false
set_option maxRecDepth 100000
set_option maxHeartbeats 4000000
namespace Rt
open PySem PySem.Spec PyProof.Rows L2
open L2H (RoomH roomH_of)
theorem cut_ints (ns : List Int) (lo hi : Option Int) : ∃ ms : List Int, cutV (ns.map V.int) lo hi = ms.map V.int ∧ ms.length ≤ ns.length ∧ ∀ m ∈ ms, m ∈ ns := by
  unfold cutV
  refine ⟨(ns.drop (HT.sIx (ns.map V.int).length 0 lo)).take (HT.sIx (ns.map V.int).length (ns.map V.int).length hi - HT.sIx (ns.map V.int).length 0 lo), ?_, ?_, fun m hm => List.mem_of_mem_drop (List.mem_of_mem_take hm)⟩
  · rw [List.map_take, List.map_drop]
  · rw [List.length_take, List.length_drop]
    omega
theorem IntL.upd {H : Hp} {l p : Addr} {o : HO} (h : IntL H l) (n : p ≠ l) : IntL (L2.upd H p o) l := by
  obtain ⟨m, hm⟩ := h
  exact ⟨m, by rw [upd_ne (Ne.symm n)]; exact hm⟩
def spProgram : Sp := fun vs H Q _ => ∃ (r : Addr) (most : Int), vs = [.ref r, .int most] ∧ Rng H r ∧ 0 ≤ most ∧ most ≤ 8 ∧ ∀ H' a I, Rng H' r → But r H H' → PI.Ok I → WProg I H' a → Q (.ref a) H'
section
variable {P : Program} {w : World} {K : PySem.W.Frag} {mg : Str → Option Value} {base : Heap}
theorem ok_program (T : Txt K mg) : OkC P w K mg base CX0 10 (He.ga K "_law_program") ["_law_state_here", "_law_most"] spProgram := by
  have G__law_next := ok_next (P := P) (w := w) (base := base) T
  have G__law_names := ok_names (P := P) (w := w) (base := base) T
  have G__law_value := ok_value (P := P) (w := w) (base := base) T 1
  have G__law_rows := ok_rows (P := P) (w := w) (base := base) T 3
  refine okC T.f__law_program sc__law_program (fun fd F => F.bindsN fun _ _ _ _ _ _ us hl => match us, hl with | [_, _], _ => rfl) (fun vs H Q E h => ?_) (fun cdv A outer s H vs Q E hr h => ?_)
  · obtain ⟨r, most, rfl, _⟩ := h
    rfl
  · obtain ⟨r, most, rfl, hR, m0, m1, k⟩ := h
    refine ⟨_, (pss_cons
 (ps_set (i := 2) sc__law_program.nd rfl (by first | exact Or.inl rfl | exact Or.inr rfl) (ce_call G__law_names (hr.mono (by omega)) T.g__law_names T.p__law_names pass0 (pa_cons (pv 0) (pa_cons pe_int pa_nil)))) (pss_cons
 (ps_set (i := 3) sc__law_program.nd rfl (by first | exact Or.inl rfl | exact Or.inr rfl) (pe_slice sl_list (pv 2) po_none (po_some (pe_ix ix_list (pe_lst (pa_cons pe_int (pa_cons pe_int (pa_cons pe_int (pa_cons pe_int pa_nil))))) (ce_call G__law_next (hr.mono (by omega)) T.g__law_next T.p__law_next pass0 (pa_cons (pv 0) (pa_cons pe_int pa_nil))) (fun _ _ => rfl))))) (pss_cons
 (ps_set (i := 4) sc__law_program.nd rfl (by first | exact Or.inl rfl | exact Or.inr rfl) (pe_slice sl_list (pv 2) (po_some pe_int) (po_some (pe_op op_add pe_int (ce_call G__law_next (hr.mono (by omega)) T.g__law_next T.p__law_next pass0 (pa_cons (pv 0) (pa_cons pe_int pa_nil))))))) (pss_cons
 (ps_setLc (i := 5) (own := [("_law_title", 8)]) rfl sc__law_program.nd rfl rfl (sw_true rfl rfl rfl (by decide +kernel)) (pi_list (pe_slice sl_list (ce_call G__law_names (hr.mono (by omega)) T.g__law_names T.p__law_names pass0 (pa_cons (pv 0) (pa_cons pe_int pa_nil))) po_none (po_some (ce_call G__law_next (hr.mono (by omega)) T.g__law_next T.p__law_next pass0 (pa_cons (pv 0) (pa_cons pe_int pa_nil)))))) (blkOk_by (N := N__law_program) (sc := defScope s__law_program) (by decide +kernel)) (fun _ _ _ _ _ => (pg_name (i := 8) sc__law_program.nd rfl (by first | exact Or.inl rfl | exact Or.inr rfl))) (fun _ _ _ _ _ => pts_nil) (fun _ _ _ _ _ => (pe_tup (pa_cons (pv 8) (pa_cons (ce_call G__law_next (hr.mono (by omega)) T.g__law_next T.p__law_next pass0 (pa_cons (pv 0) (pa_cons pe_int pa_nil))) pa_nil))))) (C8.pss_cut
 (ps_set (i := 6) sc__law_program.nd rfl (by first | exact Or.inl rfl | exact Or.inr rfl) (pe_lst (pa_cons pe_int pa_nil))) (pss_cons
 (ps_set (i := 7) sc__law_program.nd rfl (by first | exact Or.inl rfl | exact Or.inr rfl) (pe_tup pa_nil)) (pss_cons
 (ps_for PassesOwn.never rfl (pi_list (pv 5)) (pg_tup rfl (pgs_cons (pg_name (i := 8) sc__law_program.nd rfl (by first | exact Or.inl rfl | exact Or.inr rfl)) (pgs_cons (pg_name (i := 9) sc__law_program.nd rfl (by first | exact Or.inl rfl | exact Or.inr rfl)) pgs_nil))) (pss_cons
 (ps_set (i := 10) sc__law_program.nd rfl (by first | exact Or.inl rfl | exact Or.inr rfl) (pe_slice sl_list (pv 2) (po_some pe_int) (po_some (pe_op op_add pe_int (pv 9))))) (pss_cons
 (ps_set (i := 11) sc__law_program.nd rfl (by first | exact Or.inl rfl | exact Or.inr rfl) (pe_slice sl_list (pv 2) (po_some pe_int) (po_some (pe_op op_add pe_int (ce_call G__law_next (hr.mono (by omega)) T.g__law_next T.p__law_next pass0 (pa_cons (pv 0) (pa_cons pe_int pa_nil))))))) (pss_cons
 (ps_set (i := 12) sc__law_program.nd rfl (by first | exact Or.inl rfl | exact Or.inr rfl) (pe_op op_cat (pe_op op_cat (pv 10) (pv 11)) (pv 3))) (pss_cons
 (ps_set (i := 13) sc__law_program.nd rfl (by first | exact Or.inl rfl | exact Or.inr rfl) (ce_call G__law_rows (hr.mono (by omega)) T.g__law_rows T.p__law_rows pass0 (pa_cons (pv 0) (pa_cons (pe_tup (pa_cons (pv 12) (pa_cons (pv 4) (pa_cons (pv 5) (pa_cons pe_bl pa_nil))))) (pa_cons pe_int (pa_cons pe_int (pa_cons (pv 6) pa_nil))))))) (C8.pss_cut
 (ps_if (pt_cmpR op_gt (ce_call G__law_next (hr.mono (by omega)) T.g__law_next T.p__law_next pass0 (pa_cons (pv 0) (pa_cons pe_int pa_nil))) pe_int (nomark _)) (pss_one
 (ps_set (i := 13) sc__law_program.nd rfl (by first | exact Or.inl rfl | exact Or.inr rfl) (pe_op op_catS (pv 13) (pe_tup (pa_cons (pe_tup (pa_cons pe_str (pa_cons (ce_call G__law_value (hr.mono (by omega)) T.g__law_value T.p__law_value pass0 (pa_cons (pv 0) (pa_cons pe_int (pa_cons (pv 12) (pa_cons (pv 4) pa_nil))))) pa_nil))) pa_nil))))) pss_nil) (pss_one
 (ps_set (i := 7) sc__law_program.nd rfl (by first | exact Or.inl rfl | exact Or.inr rfl) (pe_op op_catS (pv 7) (pe_tup (pa_cons (pe_tup (pa_cons (pv 8) (pa_cons (pe_callTy call_tuple_of (by rfl) T.b_tuple (by decide +kernel) (pa_cons (pv 10) pa_nil)) (pa_cons (pe_callTy call_tuple_of (by rfl) T.b_tuple (by decide +kernel) (pa_cons (pv 11) pa_nil)) (pa_cons (pv 13) pa_nil))))) pa_nil))))))))))) (C8.pss_cut
 (ps_set (i := 13) sc__law_program.nd rfl (by first | exact Or.inl rfl | exact Or.inr rfl) (ce_call G__law_rows (hr.mono (by omega)) T.g__law_rows T.p__law_rows pass0 (pa_cons (pv 0) (pa_cons (pe_tup (pa_cons (pv 3) (pa_cons (pv 4) (pa_cons (pv 5) (pa_cons pe_bl pa_nil))))) (pa_cons pe_int (pa_cons (pv 1) (pa_cons (pv 6) pa_nil))))))) (pss_cons
 (ps_set (i := 14) sc__law_program.nd rfl (by first | exact Or.inl rfl | exact Or.inr rfl) (pe_callTy call_tuple_of (by rfl) T.b_tuple (by decide +kernel) (pa_cons (pe_lc (own := [("_law_box", 17)]) rfl sc__law_program.nd (pi_list (pv 3)) (blkOk_by (N := N__law_program) (sc := defScope s__law_program) (by decide +kernel)) (fun _ _ _ _ _ => (pg_name (i := 17) sc__law_program.nd rfl (by first | exact Or.inl rfl | exact Or.inr rfl))) (fun _ _ _ _ _ => pts_nil) (fun _ _ _ _ _ => (pe_tup (pa_cons (pv 17) (pa_cons (ce_call G__law_next (hr.mono (by omega)) T.g__law_next T.p__law_next pass0 (pa_cons (pv 0) (pa_cons pe_int pa_nil))) pa_nil))))) pa_nil))) (pss_cons
 (ps_setLc (i := 15) (own := [("_law_name", 18)]) rfl sc__law_program.nd rfl rfl (sw_true rfl rfl rfl (by decide +kernel)) (pi_list (pv 4)) (blkOk_by (N := N__law_program) (sc := defScope s__law_program) (by decide +kernel)) (fun _ _ _ _ _ => (pg_name (i := 18) sc__law_program.nd rfl (by first | exact Or.inl rfl | exact Or.inr rfl))) (fun _ _ _ _ _ => pts_nil) (fun _ _ _ _ _ => (ce_call G__law_next (hr.mono (by omega)) T.g__law_next T.p__law_next pass0 (pa_cons (pv 0) (pa_cons (pe_ix (ix_listK (K := K)) (pe_lst (pa_cons pe_int (pa_cons pe_int pa_nil))) (ce_call G__law_next (hr.mono (by omega)) T.g__law_next T.p__law_next pass0 (pa_cons (pv 0) (pa_cons pe_int pa_nil))) (fun _ _ => rfl)) pa_nil))))) (pss_cons
 (ps_setLc (i := 16) (own := [("_law_name", 18), ("_law_size", 19)]) rfl sc__law_program.nd rfl rfl (sw_true rfl rfl rfl (by decide +kernel)) (pi_zip (by rfl) T.b_zip (pa_cons (pv 4) (pa_cons (pv 15) pa_nil))) (blkOk_by (N := N__law_program) (sc := defScope s__law_program) (by decide +kernel)) (fun _ _ _ _ _ => (pg_tupK (K := K) (n := 2) (pgs_cons (pg_name (i := 18) sc__law_program.nd rfl (by first | exact Or.inl rfl | exact Or.inr rfl)) (pgs_cons (pg_name (i := 19) sc__law_program.nd rfl (by first | exact Or.inl rfl | exact Or.inr rfl)) pgs_nil)))) (fun _ _ _ _ _ => pts_nil) (fun _ _ _ _ _ => (pe_tup (pa_cons (pv 18) (pa_cons (pe_slice sl_tupS (pe_op op_repTS (pe_tup (pa_cons pe_int (pa_cons pe_int (pa_cons pe_int pa_nil)))) pe_int) po_none (po_some (pv 19))) pa_nil))))) (pss_one
 (ps_ret (pe_tup (pa_cons (pv 14) (pa_cons (pe_callTy call_tuple_of (by rfl) T.b_tuple (by decide +kernel) (pa_cons (pv 16) pa_nil)) (pa_cons (pv 7) (pa_cons (pv 13) pa_nil)))))))))))))))))), ?_⟩
    refine ⟨_, rfl, r, 9, rfl, hR, by decide, by decide, fun H1 np s0 xs R1 B1 hnp e1 hlen hN => ?_⟩
    have xl : xs.length = 9 := hlen
    have np1 : H1 np = some (.lst (xs.map V.str)) := e1
    -- boxes
    refine ⟨_, rfl, szn (by decide : 4 ≤ 1000), fun q1 hq1 => ?_⟩
    have R2 := R1.new (o := .lst [.int 1, .int 2, .int 3, .int 3]) hq1
    refine ⟨_, rfl, r, 4, rfl, R2, by decide, fun H3 c R3 B3 c0 c1 => ?_⟩
    have q3 : H3 q1 = some (.lst [.int 1, .int 2, .int 3, .int 3]) := B3 _ _ (R1.ne hq1) upd_same
    have K3 := (Ki.new (o := .lst [.int 1, .int 2, .int 3, .int 3]) hq1).trans (R2.ki B3)
    have B03 := (B1.trans (But.new (o := .lst [.int 1, .int 2, .int 3, .int 3]) hq1)).trans B3
    have np3 := K3 _ _ ki_strs np1
    obtain ⟨kb, ekb, hkb⟩ : ∃ kb : Nat, atI [V.int 1, V.int 2, V.int 3, V.int 3] c = some (.int (kb : Int)) ∧ kb ≤ 3 := by
      rcases (show c = 0 ∨ c = 1 ∨ c = 2 ∨ c = 3 by omega) with rfl | rfl | rfl | rfl
      · exact ⟨1, rfl, by decide⟩
      · exact ⟨2, rfl, by decide⟩
      · exact ⟨3, rfl, by decide⟩
      · exact ⟨3, rfl, by decide⟩
    refine ⟨q1, _, _, _, rfl, rfl, SqL.of q3, ekb, _, rfl, np, _, rfl, SqL.of np3, fun pb hpb => ?_⟩
    rw [cut_sl0 (xs := xs) (k := (kb : Int)) (by omega) (by omega), Int.toNat_natCast]
    have R4 := R3.new (o := .lst ((sl xs 0 kb).map V.str)) hpb
    have K4 := Ki.new (o := .lst ((sl xs 0 kb).map V.str)) hpb
    have B04 := B03.trans (But.new (o := .lst ((sl xs 0 kb).map V.str)) hpb)
    have pb4 : upd H3 pb (.lst ((sl xs 0 kb).map V.str)) pb = some (.lst ((sl xs 0 kb).map V.str)) := upd_same
    have np4 := K4 _ _ ki_strs np3
    generalize upd H3 pb (.lst ((sl xs 0 kb).map V.str)) = H4 at R4 B04 pb4 np4 ⊢
    clear R3 B3 q3 K3 B03 np3 ekb K4 R2 R1 B1 hnp e1 np1 hpb hq1
    -- lists
    refine ⟨_, rfl, _, rfl, _, rfl, r, 3, rfl, R4, by decide, fun H5 j R5 B5 j0 j1 => ?_⟩
    obtain ⟨jl, rfl⟩ := Int.eq_ofNat_of_zero_le j0
    have K5 := R4.ki B5
    have np5 := K5 _ _ ki_strs np4
    have eL : cutV (xs.map V.str) (some 3) (some (3 + (jl : Int))) = (sl xs 3 jl).map V.str := cut_sl (a := 3) (by omega)
    refine ⟨_, _, rfl, rfl, _, rfl, np, _, rfl, SqL.of np5, fun pl hpl => ?_⟩
    rw [eL]
    have R6 := R5.new (o := .lst ((sl xs 3 jl).map V.str)) hpl
    have K6 := K5.trans (Ki.new (o := .lst ((sl xs 3 jl).map V.str)) hpl)
    have B06 := (B04.trans B5).trans (But.new (o := .lst ((sl xs 3 jl).map V.str)) hpl)
    have pl6 : upd H5 pl (.lst ((sl xs 3 jl).map V.str)) pl = some (.lst ((sl xs 3 jl).map V.str)) := upd_same
    have np6 := K6 _ _ ki_strs np4
    have pb6 := K6 _ _ ki_strs pb4
    generalize upd H5 pl (.lst ((sl xs 3 jl).map V.str)) = H6 at R6 B06 pl6 np6 pb6 ⊢
    clear R4 B04 R5 B5 np4 np5 pb4 K5 K6 hpl eL
    -- amounts
    refine ⟨_, rfl, r, 4, rfl, R6, by decide, by decide, fun H7 tp s1 ts R7 B7 htp e7 htl hT => ?_⟩
    refine ⟨_, rfl, r, 3, rfl, R7, by decide, fun H8 c R8 B8 c0 c1 => ?_⟩
    obtain ⟨ct, rfl⟩ := Int.eq_ofNat_of_zero_le c0
    have K8 := (R6.ki B7).trans (R7.ki B8)
    have tp8 := R7.ki B8 _ _ ki_strs e7
    have htl : ts.length = 4 := htl
    refine ⟨_, rfl, tp, _, rfl, SqL.of tp8, fun pt hpt => ?_⟩
    rw [cut_sl0 (xs := ts) (k := (ct : Int)) (by omega) (by omega), Int.toNat_natCast]
    have R9 := R8.new (o := .lst ((sl ts 0 ct).map V.str)) hpt
    have K9 := K8.trans (Ki.new (o := .lst ((sl ts 0 ct).map V.str)) hpt)
    have B09 := ((B06.trans B7).trans B8).trans (But.new (o := .lst ((sl ts 0 ct).map V.str)) hpt)
    have pt9 : upd H8 pt (.lst ((sl ts 0 ct).map V.str)) pt = some (.lst ((sl ts 0 ct).map V.str)) := upd_same
    have np9 := K9 _ _ ki_strs np6
    have pb9 := K9 _ _ ki_strs pb6
    have pl9 := K9 _ _ ki_strs pl6
    generalize upd H8 pt (.lst ((sl ts 0 ct).map V.str)) = H9 at R9 B09 pt9 np9 pb9 pl9 ⊢
    clear R6 B06 R7 B7 R8 B8 np6 pb6 pl6 K8 K9 hpt tp8 e7 htp
    have ctl : (sl ts 0 ct).length ≤ 2 := Nat.le_trans sl_len (by omega)
    refine ⟨pt, rfl, ⟨_, SqL.of pt9⟩, fun D hD => ?_⟩
    refine lc_list (xs := (sl ts 0 ct).map V.str) (fun i H' => Rng H' r ∧ But r H9 H' ∧ ∃ (fas : List Addr) (F : List (Str × Nat)), H' D = some (.lst (fas.map V.ref)) ∧ fas.length = F.length ∧ F.map Prod.fst = (sl ts 0 ct).take i ∧ (∀ p ∈ F, p.2 ≤ 2) ∧
      ∀ (i : Nat) (a : Addr), fas[i]? = some a → ∃ p : Str × Nat, F[i]? = some p ∧ H' a = some (.tup [.str p.1, .int (p.2 : Int)])) ?_ ?_ ?_ ?_
    · exact ⟨R9.new hD, But.new hD, [], [], upd_same, rfl, rfl, (fun p hp => by cases hp), fun i a e => by simp at e⟩
    · rintro i H' _ ⟨R, B, _⟩
      exact SqL.of (R9.ki B _ _ ki_strs pt9)
    · rintro i x H' hx ⟨R, B, fas, F, hDl, hl, hF, h2, hall⟩
      rw [List.getElem?_map] at hx
      obtain ⟨t, et, rfl⟩ := Option.map_eq_some_iff.mp hx
      refine ⟨rfl, tyes ?_⟩
      refine ⟨_, rfl, _, rfl, r, 3, rfl, R, by decide, fun H2 a R2 B2 a0 a1 => ⟨szn (by decide : 2 ≤ 1000), fun p hp => ?_⟩⟩
      obtain ⟨am, rfl⟩ := Int.eq_ofNat_of_zero_le a0
      have hDr : D ≠ r := R9.ne hD
      have d2 := B2 _ _ hDr hDl
      have d3 : upd H2 p (.tup [.str t, .int (am : Int)]) D = some (.lst (fas.map V.ref)) := by rw [upd_ne (ne_of_none d2 hp)]; exact d2
      have fl2 : F.length ≤ 2 := by
        have e := congrArg List.length hF
        rw [List.length_map, List.length_take] at e
        omega
      refine ⟨_, d3, by rw [List.length_map, hl, sizeLine_eq]; omega, ?_⟩
      refine ⟨(R2.new hp).upd hDr, (((B.trans B2).trans (But.new hp))).mut hD, fas ++ [p], F ++ [(t, am)], by rw [List.map_append]; exact upd_same, by rw [List.length_append, List.length_append, hl]; rfl, ?_, ?_, ?_⟩
      · rw [List.map_append, hF, List.take_add_one, et]
        rfl
      · intro q hq
        rcases List.mem_append.mp hq with hq | hq
        · exact h2 q hq
        · have e : q = (t, am) := by simpa using hq
          rw [e]
          show am ≤ 2
          omega
      · intro n a e
        have hpD : p ≠ D := fun z => by rw [z, d2] at hp; cases hp
        by_cases hn : n < fas.length
        · rw [List.getElem?_append_left hn] at e
          obtain ⟨q, e1, e2⟩ := hall n a e
          have e3 : H2 a = some (.tup [.str q.1, .int (q.2 : Int)]) := R.tk B2 _ _ e2
          refine ⟨q, by rw [List.getElem?_append_left (by omega)]; exact e1, ?_⟩
          rw [upd_ne (ne_of (Tk.new hp _ _ e3) d3 (by intro z; cases z)), upd_ne (ne_of_none e3 hp)]
          exact e3
        · have hn2 : n = fas.length := by
            have := (List.getElem?_eq_some_iff.mp e).1
            rw [List.length_append, List.length_singleton] at this
            omega
          subst hn2
          rw [List.getElem?_append_right (Nat.le_refl _), Nat.sub_self] at e
          simp at e
          subst e
          refine ⟨(t, am), by rw [List.getElem?_append_right (by omega), hl, Nat.sub_self]; rfl, ?_⟩
          rw [upd_ne hpD]
          exact upd_same
    · rintro H10 ⟨R10, B10, fas, F, hDl, hl, hF, h2, hall⟩
      have hF : F.map Prod.fst = sl ts 0 ct := by
        rw [hF, List.length_map, List.take_length]
      have K10 := R9.ki B10
      have np10 := K10 _ _ ki_strs np9
      have pb10 := K10 _ _ ki_strs pb9
      have pl10 := K10 _ _ ki_strs pl9
      have B010 := B09.trans B10
      have hFA : FunsAt H10 D F := ⟨⟨fas, hDl, hl, hall⟩⟩
      clear R9 B09 np9 pb9 pl9 pt9 K10 B10 hDl hall
      -- left
      refine ⟨fun σ H' => ∃ lf : Addr, σ = [some (.ref r), some (.int most), some (.ref np), some (.ref pb), some (.ref pl), some (.ref D), some (.ref lf), none, none, none, none, none, none, none, none, none, none, none, none, none] ∧ Rng H' r ∧ IntL H' lf ∧ H lf = none ∧ But r H H' ∧
        H' np = some (.lst (xs.map V.str)) ∧ H' pb = some (.lst ((sl xs 0 kb).map V.str)) ∧ H' pl = some (.lst ((sl xs 3 jl).map V.str)) ∧ FunsAt H' D F, ⟨szn (by decide : 1 ≤ 1000), fun lf hlf => ?_⟩, ?_⟩
      · have Kl := Ki.new (o := .lst [.int 52]) hlf
        exact ⟨lf, rfl, R10.new hlf, ⟨52, upd_same⟩, B010.free hlf (R10.ne hlf), B010.trans (But.new hlf), Kl _ _ ki_strs np10, Kl _ _ ki_strs pb10, Kl _ _ ki_strs pl10, hFA.ki Kl⟩
      rintro σ H11 ⟨lf, rfl, R11, L11, lf0, B011, np11, pb11, pl11, FA11⟩
      clear R10 np10 pb10 pl10 B010 hFA hD
      have nlr : lf ≠ r := fun z => by
        obtain ⟨n, hn, _⟩ := hR
        rw [z, hn] at lf0
        cases lf0
      have okx : ∀ x ∈ xs, PyData.strOk x = true := hN.ok
      have Blen : (sl xs 0 kb).length ≤ 3 := Nat.le_trans sl_len hkb
      have Llen : (sl xs 3 jl).length ≤ 2 := Nat.le_trans sl_len (by omega)
      generalize hB : sl xs 0 kb = B at pb11 Blen ⊢
      generalize hL : sl xs 3 jl = L at pl11 Llen ⊢
      have okB : ∀ x ∈ B, PyData.strOk x = true := fun x hx => okx x (by rw [← hB] at hx; exact sl_mem hx)
      have okL : ∀ x ∈ L, PyData.strOk x = true := fun x hx => okx x (by rw [← hL] at hx; exact sl_mem hx)
      -- functions
      refine ⟨Nat.zero_le _, fun f0 hf0 => ?_⟩
      have D0 : DS r lf H11 (upd H11 f0 (.tup [])) := DS.same ⟨R11, L11, fun _ _ _ _ e => e⟩ (same_new hf0)
      obtain ⟨fas, fa1, fa2, fa3⟩ := FA11.ex
      refine ⟨_, rfl, D, rfl, ⟨_, SqL.of (same_new hf0 _ _ fa1)⟩, for_list (xs := fas.map V.ref) (fun i σ H' => ∃ (fa : Addr) (o8 o9 o10 o11 o12 o13 : Option V) (fs : List (Str × List Str × List Str)) (us : List V),
        σ = [some (.ref r), some (.int most), some (.ref np), some (.ref pb), some (.ref pl), some (.ref D), some (.ref lf), some (.ref fa), o8, o9, o10, o11, o12, o13, none, none, none, none, none, none] ∧ DS r lf H11 H' ∧ H' fa = some (.tup us) ∧ All2 (WFun B L F H') fs us ∧
        fs.map Prod.fst = (F.map Prod.fst).take i ∧ ∀ f ∈ fs, ∃ a b, a ≤ 2 ∧ b ≤ 2 ∧ f.2.1 = sl xs 5 a ∧ f.2.2 = sl xs 7 b) ?_ ?_ ?_ ?_⟩
      · exact ⟨f0, none, none, none, none, none, none, [], [], rfl, D0, upd_same, .nil, rfl, fun f hf => by cases hf⟩
      · rintro i σ H' _ ⟨fa, o8, o9, o10, o11, o12, o13, fs, us, rfl, DD, _⟩
        exact SqL.of (DD.ki R11 L11 _ _ ki_refs fa1)
      · rintro i v σ H12 hv ⟨fa, o8, o9, o10, o11, o12, o13, fs, us, rfl, D12, hfa, hus, hfs, hsl⟩
        rw [List.getElem?_map] at hv
        obtain ⟨ta, eta, rfl⟩ := Option.map_eq_some_iff.mp hv
        obtain ⟨pr, epr, hpr⟩ := fa3 i ta eta
        have hprF : pr ∈ F := List.mem_of_getElem? epr
        have hpr2 := h2 pr hprF
        have K12 := D12.ki R11 L11
        have hpr12 := K12.tk _ _ hpr
        have hil : i < F.length := (List.getElem?_eq_some_iff.mp epr).1
        have hFl : F.length ≤ 2 := by
          have e := congrArg List.length hF
          rw [List.length_map] at e
          omega
        have ul : us.length ≤ 2 := by
          have e1 := hus.len
          have e2 := congrArg List.length hfs
          rw [List.length_map, List.length_take, List.length_map] at e2
          omega
        refine ⟨ta, _, rfl, SqT.of hpr12, rfl, _, _, rfl, _, _, rfl, rfl, ?_⟩
        -- params
        have np12 := K12 _ _ ki_strs np11
        have eP : cutV (xs.map V.str) (some 5) (some (5 + (pr.2 : Int))) = (sl xs 5 pr.2).map V.str := cut_sl (a := 5) (by omega)
        refine ⟨_, rfl, _, rfl, _, rfl, _, _, rfl, rfl, _, rfl, np, _, rfl, SqL.of np12, fun pp hpp => ?_⟩
        rw [eP]
        have D13 := D12.same (same_new (o := .lst ((sl xs 5 pr.2).map V.str)) hpp)
        have pp13 : upd H12 pp (.lst ((sl xs 5 pr.2).map V.str)) pp = some (.lst ((sl xs 5 pr.2).map V.str)) := upd_same
        have T13 := Tk.new (o := .lst ((sl xs 5 pr.2).map V.str)) hpp
        generalize upd H12 pp (.lst ((sl xs 5 pr.2).map V.str)) = H13 at D13 pp13 T13 ⊢
        -- owns
        refine ⟨_, rfl, _, rfl, _, rfl, r, 3, rfl, D13.rng, by decide, fun H14 c R14 B14 c0 c1 => ?_⟩
        obtain ⟨on, rfl⟩ := Int.eq_ofNat_of_zero_le c0
        have D14 := D13.next nlr R14 B14
        have pp14 := D13.rng.ki B14 _ _ ki_strs pp13
        have T14 := T13.trans (D13.rng.tk B14)
        have np14 := D14.ki R11 L11 _ _ ki_strs np11
        have eO : cutV (xs.map V.str) (some 7) (some (7 + (on : Int))) = (sl xs 7 on).map V.str := cut_sl (a := 7) (by omega)
        refine ⟨_, _, rfl, rfl, _, rfl, np, _, rfl, SqL.of np14, fun po hpo => ?_⟩
        rw [eO]
        have D15 := D14.same (same_new (o := .lst ((sl xs 7 on).map V.str)) hpo)
        have po15 : upd H14 po (.lst ((sl xs 7 on).map V.str)) po = some (.lst ((sl xs 7 on).map V.str)) := upd_same
        have pp15 := same_new (o := .lst ((sl xs 7 on).map V.str)) hpo _ _ pp14
        have T15 := T14.trans (Tk.new (o := .lst ((sl xs 7 on).map V.str)) hpo)
        generalize upd H14 po (.lst ((sl xs 7 on).map V.str)) = H15 at D15 po15 pp15 T15 ⊢
        clear D13 pp13 T13 D14 pp14 T14 np14 R14 B14 hpp hpo np12 eP eO
        have lP : (sl xs 5 pr.2).length ≤ 2 := Nat.le_trans sl_len hpr2
        have lO : (sl xs 7 on).length ≤ 2 := Nat.le_trans sl_len (by omega)
        have okP : ∀ x ∈ sl xs 5 pr.2, PyData.strOk x = true := fun x hx => okx x (sl_mem hx)
        have okO : ∀ x ∈ sl xs 7 on, PyData.strOk x = true := fun x hx => okx x (sl_mem hx)
        generalize hPs : sl xs 5 pr.2 = Ps at pp15 lP okP ⊢
        generalize hOs : sl xs 7 on = Os at po15 lO okO ⊢
        -- inner
        have pb15 := D15.ki R11 L11 _ _ ki_strs pb11
        refine ⟨_, rfl, _, rfl, pp, po, _, _, rfl, rfl, pp15, po15, szn (by rw [List.length_map, List.length_map]; omega), fun q hq => ?_⟩
        rw [← List.map_append]
        refine ⟨_, rfl, q, pb, _, _, rfl, rfl, upd_same, same_new hq _ _ pb15, szn (by rw [List.length_map, List.length_map, List.length_append]; omega), fun pi hpi => ?_⟩
        rw [← List.map_append]
        have s16 := (same_new (o := .lst ((Ps ++ Os).map V.str)) hq).trans (same_new (o := .lst ((Ps ++ Os ++ B).map V.str)) hpi)
        have D16 := D15.same s16
        have pi16 : upd (upd H15 q (.lst ((Ps ++ Os).map V.str))) pi (.lst ((Ps ++ Os ++ B).map V.str)) pi = some (.lst ((Ps ++ Os ++ B).map V.str)) := upd_same
        have pp16 := s16 _ _ pp15
        have po16 := s16 _ _ po15
        have T16 := T15.trans (same_tk s16)
        generalize upd (upd H15 q (.lst ((Ps ++ Os).map V.str))) pi (.lst ((Ps ++ Os ++ B).map V.str)) = H16 at D16 pi16 pp16 po16 T16 ⊢
        clear D15 pp15 po15 pb15 T15 s16 hq hpi
        -- rows
        have hG : scF B L F (pr.1, Ps, Os) = ⟨Ps ++ Os ++ B, L, F, true⟩ := rfl
        refine ⟨_, rfl, _, rfl, _, rfl, _, rfl, szn (by decide : 4 ≤ 1000), fun t ht => ?_⟩
        have D17 := D16.same (same_new (o := .tup [.ref pi, .ref pl, .ref D, .bl true]) ht)
        have K17 := (D17.ki R11 L11)
        have s17 := same_new (o := .tup [.ref pi, .ref pl, .ref D, .bl true]) ht
        have n17 : NamesAt (upd H16 t (.tup [.ref pi, .ref pl, .ref D, .bl true])) t pi pl D (scF B L F (pr.1, Ps, Os)) := ⟨upd_same, s17 _ _ pi16, K17 _ _ ki_strs pl11, FA11.ki K17⟩
        refine ⟨_, rfl, r, t, pi, pl, D, lf, scF B L F (pr.1, Ps, Os), 1, 4, rfl, D17.rng, D17.left, nlr, n17, h2, ?_, ?_, okL, by decide, by decide, by decide, by decide, fun H18 ra n D18 W18 hn => ?_⟩
        · show (Ps ++ Os ++ B).length ≤ 100
          rw [List.length_append, List.length_append]
          omega
        · intro x hx
          rcases List.mem_append.mp hx with hx | hx
          · rcases List.mem_append.mp hx with hx | hx
            · exact okP x hx
            · exact okO x hx
          · exact okB x hx
        have k18 := D18.ki D17.rng D17.left
        have D018 := D17.trans D18
        have pi18 := k18 _ _ ki_strs (s17 _ _ pi16)
        have pp18 := k18 _ _ ki_strs (s17 _ _ pp16)
        have po18 := k18 _ _ ki_strs (s17 _ _ po16)
        have T18 := (T16.trans (same_tk s17)).trans k18.tk
        have hn : n ≤ 899 := by
          have e : cR 3 * (4 : Int).toNat = 872 := by decide
          omega
        clear D16 pi16 pp16 po16 T16 D17 K17 s17 n17 D18 k18 ht
        refine ⟨fun σ H' => ∃ (ra : Addr) (n : Nat), σ = [some (.ref r), some (.int most), some (.ref np), some (.ref pb), some (.ref pl), some (.ref D), some (.ref lf), some (.ref fa), some (.str pr.1), some (.int (pr.2 : Int)), some (.ref pp), some (.ref po), some (.ref pi), some (.ref ra), none, none, none, none, none, none] ∧
          DS r lf H11 H' ∧ WRows (scF B L F (pr.1, Ps, Os)) H' 4 n ra ∧ n ≤ 900 ∧ H' pp = some (.lst (Ps.map V.str)) ∧ H' po = some (.lst (Os.map V.str)) ∧ Tk H12 H', ?_, ?_⟩
        · refine ⟨_, rfl, r, 3, rfl, D018.rng, by decide, fun H19 c R19 B19 c0 c1 => ⟨_, _, rfl, rfl, _, rfl, ite2 (fun _ => ?_) (fun _ => ?_)⟩⟩
          · have D19 := D018.next nlr R19 B19
            have k19 := D018.rng.ki B19
            refine ⟨_, rfl, _, rfl, _, rfl, _, rfl, r, 2, pi, pl, Ps ++ Os ++ B, L, rfl, D19.rng, by decide, k19 _ _ ki_strs pi18, D19.ki R11 L11 _ _ ki_strs pl11, fun H20 v R20 B20 hv => ?_⟩
            have D20 := D19.next nlr R20 B20
            have k20 := k19.trans (D19.rng.ki B20)
            refine ⟨szn (by decide : 2 ≤ 1000), fun p1 hp1 => ⟨szn (by decide : 1 ≤ 1000), fun p2 hp2 => ?_⟩⟩
            have z2 := (same_new (o := .tup [.str "return", v]) hp1).trans (same_new (o := .tup [.ref p1]) hp2)
            obtain ⟨xs0, hx0, hs0⟩ := W18.tk k20.tk
            have len0 := sumL_len hs0
            refine ⟨ra, p2, _, _, rfl, rfl, z2 _ _ hx0, upd_same, by rw [sizeLine_eq, List.length_singleton]; omega, fun p3 H21 s21 hp3 => ?_⟩
            have z3 := z2.trans s21
            have E := s21 _ _ (same_new (o := .tup [.ref p1]) hp2 _ _ (upd_same (H := H20) (a := p1) (o := .tup [.str "return", v])))
            have kk := k20.trans (same_ki z3)
            exact ⟨p3, n + 1, rfl, D20.same z3, WRows.add ⟨xs0, z3 _ _ hx0, hs0.imp fun _ _ q => WRow.tk (same_tk z3) q⟩ (z3 _ _ hx0) hp3 (.plain (by decide) E (.ret rfl ((hv.le (by decide)).tk (same_tk z3)))), by omega, kk _ _ ki_strs pp18, kk _ _ ki_strs po18, T18.trans kk.tk⟩
          · have kk := D018.rng.ki B19
            exact ⟨ra, n, rfl, D018.next nlr R19 B19, W18.tk kk.tk, by omega, kk _ _ ki_strs pp18, kk _ _ ki_strs po18, T18.trans kk.tk⟩
        · clear W18 hn D018 pi18 pp18 po18 T18
          rintro σ H19 ⟨ra, n, rfl, D19, W19, hn, pp19, po19, T19⟩
          refine ⟨_, rfl, _, rfl, _, rfl, pp, _, rfl, .inl ⟨SqL.of pp19, fun tp2 htp2 => ?_⟩⟩
          have s1 := same_new (o := .tup (Ps.map V.str)) htp2
          refine ⟨_, rfl, po, _, rfl, .inl ⟨SqL.of (s1 _ _ po19), fun to2 hto2 => ?_⟩⟩
          have s2 := same_new (o := .tup (Os.map V.str)) hto2
          refine ⟨_, rfl, szn (by decide : 4 ≤ 1000), fun p1 hp1 => ⟨szn (by decide : 1 ≤ 1000), fun p2 hp2 => ?_⟩⟩
          have s3 := same_new (o := .tup [.str pr.1, .ref tp2, .ref to2, .ref ra]) hp1
          have s4 := same_new (o := .tup [.ref p1]) hp2
          have z4 := ((s1.trans s2).trans s3).trans s4
          refine ⟨fa, p2, _, _, rfl, rfl, z4 _ _ (T19 _ _ hfa), upd_same, by rw [sizeLine_eq, List.length_singleton]; omega, fun p3 H20 s20 hp3 => ?_⟩
          have z5 := z4.trans s20
          have E1 := s20 _ _ (s4 _ _ (s3 _ _ (s2 _ _ (upd_same (H := H19) (a := tp2) (o := .tup (Ps.map V.str))))))
          have E2 := s20 _ _ (s4 _ _ (s3 _ _ (upd_same (H := upd H19 tp2 (.tup (Ps.map V.str))) (a := to2) (o := .tup (Os.map V.str)))))
          have E3 := s20 _ _ (s4 _ _ (upd_same (H := upd (upd H19 tp2 (.tup (Ps.map V.str))) to2 (.tup (Os.map V.str))) (a := p1) (o := .tup [.str pr.1, .ref tp2, .ref to2, .ref ra])))
          have T20 := T19.trans (same_tk z5)
          refine ⟨p3, _, _, _, _, _, _, fs ++ [(pr.1, Ps, Os)], us ++ [.ref p1], rfl, D19.same z5, hp3, ?_, ?_, ?_⟩
          · exact (hus.imp fun _ _ q => q.tk T20).add ⟨p1, tp2, to2, ra, n, rfl, E3, E1, E2, W19.tk (same_tk z5), hn⟩
          · rw [List.map_append, hfs, List.take_add_one, List.getElem?_map, epr]
            rfl
          · intro f hf
            rcases List.mem_append.mp hf with hf | hf
            · exact hsl f hf
            · have e : f = (pr.1, Ps, Os) := by simpa using hf
              rw [e]
              exact ⟨pr.2, on, hpr2, by omega, hPs.symm, hOs.symm⟩
      · rintro σ H12 ⟨fa, o8, o9, o10, o11, o12, o13, fs, us, rfl, D12, hfa, hus, hfs, hsl⟩
        have hfs : fs.map Prod.fst = sl ts 0 ct := by
          rw [hfs, hF, List.length_map, fa2]
          have e : F.length = (sl ts 0 ct).length := by rw [← hF, List.length_map]
          rw [e, List.take_length]
        have K12 := D12.ki R11 L11
        -- the main rows
        refine ⟨fun σ H' => ∃ (ra : Addr) (n : Nat), σ = [some (.ref r), some (.int most), some (.ref np), some (.ref pb), some (.ref pl), some (.ref D), some (.ref lf), some (.ref fa), o8, o9, o10, o11, o12, some (.ref ra), none, none, none, none, none, none] ∧
          DS r lf H11 H' ∧ WRows ⟨B, L, F, false⟩ H' 4 n ra ∧ n ≤ 1800 ∧ Tk H12 H', ?_, ?_⟩
        · refine ⟨_, rfl, _, rfl, _, rfl, _, rfl, szn (by decide : 4 ≤ 1000), fun t ht => ?_⟩
          have s17 := same_new (o := .tup [.ref pb, .ref pl, .ref D, .bl false]) ht
          have D17 := D12.same s17
          have K17 := D17.ki R11 L11
          have n17 : NamesAt (upd H12 t (.tup [.ref pb, .ref pl, .ref D, .bl false])) t pb pl D ⟨B, L, F, false⟩ := ⟨upd_same, K17 _ _ ki_strs pb11, K17 _ _ ki_strs pl11, FA11.ki K17⟩
          refine ⟨_, rfl, _, rfl, r, t, pb, pl, D, lf, ⟨B, L, F, false⟩, 1, most, rfl, D17.rng, D17.left, nlr, n17, h2, (show B.length ≤ 100 by omega), okB, okL, by decide, by decide, m0, m1, fun H18 ra n D18 W18 hn => ?_⟩
          have k18 := D18.ki D17.rng D17.left
          refine ⟨ra, n, rfl, D17.trans D18, W18, ?_, (same_tk s17).trans k18.tk⟩
          have e : cR 3 * most.toNat ≤ 218 * 8 := Nat.mul_le_mul (cR_le 3 (by decide)) (by omega)
          omega
        rintro σ H13 ⟨ra, n, rfl, D13, W13, hn, T13⟩
        have hfa := T13 _ _ hfa
        have hus := hus.imp fun _ _ q => q.tk T13
        clear D12 T13 K12
        -- pairs
        have K13 := D13.ki R11 L11
        have pb13 := K13 _ _ ki_strs pb11
        refine ⟨_, rfl, pb, rfl, ⟨_, SqL.of pb13⟩, fun D1 hD1 => ?_⟩
        have nD1r : D1 ≠ r := D13.rng.ne hD1
        have nD1l : D1 ≠ lf := fun z => by
          obtain ⟨m, hm⟩ := D13.left
          rw [← z, hD1] at hm
          cases hm
        refine lc_list (xs := B.map V.str) (fun i H' => DS r lf H13 H' ∧ ∃ ps, H' D1 = some (.lst ps) ∧ All2 (PairAt H') (B.take i) ps) ?_ ?_ ?_ ?_
        · exact ⟨DS.same ⟨D13.rng, D13.left, fun _ _ _ _ e => e⟩ (same_new hD1), [], upd_same, .nil⟩
        · rintro i H' _ ⟨DD, _⟩
          exact SqL.of (DD.ki D13.rng D13.left _ _ ki_strs pb13)
        · rintro i x H' hx ⟨DD, ps, hps, hall⟩
          rw [List.getElem?_map] at hx
          obtain ⟨b, eb, rfl⟩ := Option.map_eq_some_iff.mp hx
          refine ⟨rfl, tyes ?_⟩
          refine ⟨_, rfl, _, rfl, r, 6, rfl, DD.rng, by decide, fun H2 a R2 B2 a0 a1 => ⟨szn (by decide : 2 ≤ 1000), fun p hp => ?_⟩⟩
          have d2 := B2 _ _ nD1r hps
          have s3 := same_new (o := .tup [.str b, .int a]) hp
          have DD3 := (DD.next nlr R2 B2).same s3
          have pl2 : ps.length ≤ 3 := by
            have e := hall.len
            rw [List.length_take] at e
            omega
          refine ⟨ps, s3 _ _ d2, by rw [sizeLine_eq]; omega, ⟨DD3.rng.upd nD1r, (IntL.upd DD3.left nD1l), fun b' o x y e => ?_⟩, ps ++ [.ref p], upd_same, ?_⟩
          · rw [upd_ne (fun z => by rw [z, hD1] at e; cases e)]
            exact DD3.but _ _ x y e
          · have K4 : Tk H' (upd (upd H2 p (.tup [.str b, .int a])) D1 (.lst (ps ++ [.ref p]))) := fun c xs e => by
              have e2 := s3 _ _ (DD.rng.tk B2 _ _ e)
              rw [upd_ne (ne_of e2 (s3 _ _ d2) (by intro z; cases z))]
              exact e2
            rw [List.take_add_one, eb]
            refine (hall.imp fun _ _ q => q.tk K4).add ⟨p, a, rfl, ?_, a0, by omega⟩
            rw [upd_ne (ne_of (upd_same (H := H2) (a := p) (o := .tup [.str b, .int a])) (s3 _ _ d2) (by intro z; cases z))]
            exact upd_same
        rintro H14 ⟨D14, ps, hps, hpairs⟩
        rw [List.length_map, List.take_length] at hpairs
        refine ⟨D1, _, rfl, .inl ⟨SqL.of hps, fun pa hpa => ?_⟩⟩
        have s15 := same_new (o := .tup ps) hpa
        have D15 := D13.trans (D14.same s15)
        have K15 := ((D14.same s15).ki D13.rng D13.left).tk
        have hpairs := hpairs.imp fun _ _ q => q.tk (same_tk s15)
        have hpa15 : upd H14 pa (.tup ps) pa = some (.tup ps) := upd_same
        have hfa := K15 _ _ hfa
        have hus := hus.imp fun _ _ q => q.tk K15
        have W15 := W13.tk K15
        generalize upd H14 pa (.tup ps) = H15 at D15 hpairs hpa15 hfa hus W15 ⊢
        clear D13 W13 D14 s15 K15 hps hpa hD1 nD1r nD1l pb13 K13
        -- sizes
        have pl15 := D15.ki R11 L11 _ _ ki_strs pl11
        refine ⟨_, rfl, pl, rfl, ⟨_, SqL.of pl15⟩, fun D2 hD2 => ?_⟩
        have nD2r : D2 ≠ r := D15.rng.ne hD2
        have nD2l : D2 ≠ lf := fun z => by
          obtain ⟨m, hm⟩ := D15.left
          rw [← z, hD2] at hm
          cases hm
        refine lc_list (xs := L.map V.str) (fun i H' => DS r lf H15 H' ∧ ∃ ns : List Int, H' D2 = some (.lst (ns.map V.int)) ∧ ns.length = i) ?_ ?_ ?_ ?_
        · exact ⟨DS.same ⟨D15.rng, D15.left, fun _ _ _ _ e => e⟩ (same_new hD2), [], upd_same, rfl⟩
        · rintro i H' _ ⟨DD, _⟩
          exact SqL.of (DD.ki D15.rng D15.left _ _ ki_strs pl15)
        · rintro i x H' hx ⟨DD, ns, hns, hl⟩
          have hi := (List.getElem?_eq_some_iff.mp hx).1
          rw [List.length_map] at hi
          refine ⟨rfl, tyes ?_⟩
          refine ⟨_, rfl, szn (by decide : 2 ≤ 1000), fun q hq => ?_⟩
          have s1 := same_new (o := .lst [.int 3, .int 13]) hq
          have DD1 := DD.same s1
          refine ⟨_, rfl, r, 2, rfl, DD1.rng, by decide, fun H2 a R2 B2 a0 a1 => ?_⟩
          have q2 : H2 q = some (.lst [.int 3, .int 13]) := B2 _ _ (DD.rng.ne hq) upd_same
          have DD2 := DD1.next nlr R2 B2
          obtain ⟨sz, esz, hsz⟩ : ∃ sz : Int, atI [V.int 3, V.int 13] a = some (.int sz) ∧ 0 < sz := by
            rcases (show a = 0 ∨ a = 1 by omega) with rfl | rfl
            · exact ⟨3, rfl, by decide⟩
            · exact ⟨13, rfl, by decide⟩
          refine ⟨q, _, _, _, rfl, rfl, SqL.of q2, esz, r, sz, rfl, R2, hsz, fun H3 g R3 B3 g0 g1 => ?_⟩
          have d3 := B3 _ _ nD2r (B2 _ _ nD2r (s1 _ _ hns))
          have DD3 := DD2.next nlr R3 B3
          refine ⟨_, d3, by rw [List.length_map, hl, sizeLine_eq]; omega, ⟨DD3.rng.upd nD2r, (IntL.upd DD3.left nD2l), fun b' o x y e => ?_⟩, ns ++ [g], ?_, ?_⟩
          · rw [upd_ne (fun z => by rw [z, hD2] at e; cases e)]
            exact DD3.but _ _ x y e
          · rw [List.map_append]
            exact upd_same
          · rw [List.length_append, hl]
            rfl
        rintro H16 ⟨D16, ns, hns, hnl⟩
        rw [List.length_map] at hnl
        have K16 := D16.ki D15.rng D15.left
        have pl16 := K16 _ _ ki_strs pl15
        have hpairs := hpairs.imp fun _ _ q => q.tk K16.tk
        have hpa16 := K16.tk _ _ hpa15
        have hfa := K16.tk _ _ hfa
        have hus := hus.imp fun _ _ q => q.tk K16.tk
        have W16 := W15.tk K16.tk
        have D16 := D15.trans D16
        clear D15 W15 K16 hpa15 pl15 hD2 nD2r nD2l
        -- things
        refine ⟨_, rfl, _, rfl, pl, D2, _, _, rfl, SqL.of pl16, SqL.of hns, fun D3 hD3 => ?_⟩
        have nD3r : D3 ≠ r := D16.rng.ne hD3
        have nD3l : D3 ≠ lf := fun z => by
          obtain ⟨m, hm⟩ := D16.left
          rw [← z, hD3] at hm
          cases hm
        refine lc_it (walk_zip (xs := L.map V.str) (ys := ns.map V.int) (n := min (L.map V.str).length (ns.map V.int).length) rfl) (fun i H' => Same H16 H' ∧ ∃ ts, H' D3 = some (.lst ts) ∧ All2 (ThingAt H') (L.take i) ts) ?_ ?_ ?_ ?_
        · exact ⟨same_new hD3, [], upd_same, .nil⟩
        · rintro i H' _ ⟨S, _⟩
          exact ⟨SqL.of (S _ _ pl16), SqL.of (S _ _ hns)⟩
        · rintro i v H' H'' hi ⟨S, ts, hts, hall⟩ ⟨T0, x, y, rfl, hT0, rfl, ex, ey⟩
          have ex : (L.map V.str)[i]? = some x := ex
          have ey : (ns.map V.int)[i]? = some y := ey
          rw [List.getElem?_map] at ex ey
          obtain ⟨l, el, rfl⟩ := Option.map_eq_some_iff.mp ex
          obtain ⟨sz, esz, rfl⟩ := Option.map_eq_some_iff.mp ey
          have s0 := same_new (o := .tup [.str l, .int sz]) hT0
          refine ⟨T0, _, rfl, SqT.of upd_same, rfl, _, _, rfl, _, _, rfl, rfl, rfl, tyes ?_⟩
          refine ⟨_, rfl, szn (by decide : 3 ≤ 1000), fun t0 ht0 => ?_⟩
          have s1 := same_new (o := .tup [.int 7, .int 0, .int 3]) ht0
          refine ⟨t0, 4, _, rfl, rfl, upd_same, by simp, by decide, by decide, by simp, fun p1 H1 s2 hp1 => ?_⟩
          refine ⟨_, rfl, _, rfl, p1, _, rfl, hp1, fun p2 H2 s3 hp2 => ⟨szn (by decide : 2 ≤ 1000), fun p3 hp3 => ?_⟩⟩
          have s4 := same_new (o := .tup [.str l, .ref p2]) hp3
          have z := (((s0.trans s1).trans s2).trans s3).trans s4
          have d3 := z _ _ hts
          have tl : ts.length ≤ 2 := by
            have e := hall.len
            rw [List.length_take] at e
            omega
          refine ⟨ts, d3, by rw [sizeLine_eq]; omega, fun b o e => ?_, ts ++ [.ref p3], upd_same, ?_⟩
          · rw [upd_ne (fun z => by rw [z, hD3] at e; cases e)]
            exact z _ _ (S _ _ e)
          · have up : ∀ c zs, upd H2 p3 (.tup [.str l, .ref p2]) c = some (.tup zs) → upd (upd H2 p3 (.tup [.str l, .ref p2])) D3 (.lst (ts ++ [.ref p3])) c = some (.tup zs) := fun c zs e => by
              rw [upd_ne (ne_of e d3 (by intro z; cases z))]
              exact e
            have K4 : Tk H' (upd (upd H2 p3 (.tup [.str l, .ref p2])) D3 (.lst (ts ++ [.ref p3]))) := fun c zs e => up c zs (z _ _ e)
            rw [List.take_add_one, el]
            refine (hall.imp fun _ _ q => q.tk K4).add ⟨p3, p2, rfl, up _ _ upd_same, ?_⟩
            obtain ⟨ms, e1, e2, e3⟩ := cut_ints [7, 0, 3, 7, 0, 3, 7, 0, 3, 7, 0, 3] none (some sz)
            refine ⟨ms, ?_, Nat.le_trans e2 (by decide), fun m hm => ?_⟩
            · rw [← e1]
              exact up _ _ (s4 _ _ hp2)
            · have q := e3 m hm
              simp at q
              omega
        rintro H17 ⟨S17, ts, hts, hth⟩
        have hlen : min (L.map V.str).length (ns.map V.int).length = L.length := by rw [List.length_map, List.length_map, hnl]; omega
        rw [hlen, List.take_length] at hth
        refine ⟨_, rfl, _, rfl, D3, _, rfl, .inl ⟨SqL.of hts, fun ta hta => ⟨_, rfl, _, rfl, szn (by decide : 4 ≤ 1000), fun pr hpr => ?_⟩⟩⟩
        have s1 := same_new (o := .tup ts) hta
        have s2 := same_new (o := .tup [.ref pa, .ref ta, .ref fa, .ref ra]) hpr
        have z := (S17.trans s1).trans s2
        have D18 := D16.same z
        have K18 := same_tk z
        refine k _ pr ⟨B, L, F, fs, fun _ => True⟩ D18.rng (fun b o hb e => D18.but b o hb (fun z => by rw [z, lf0] at e; cases e) (B011 b o hb e)) ?_ ⟨pa, ta, fa, ra, ps, ts, us, n, upd_same, K18 _ _ hpa16, hpairs.imp fun _ _ q => q.tk K18, s2 _ _ upd_same, hth.imp fun _ _ q => q.tk (same_tk (s1.trans s2)), K18 _ _ hfa, hus.imp fun _ _ q => q.tk K18, W16.tk K18, hn⟩
        have hnd := hN.nd
        have apart : ∀ f ∈ fs, (f.2.1 ++ f.2.2 ++ B).Nodup := by
          intro f hf
          obtain ⟨a, b, ha, hb, e1, e2⟩ := hsl f hf
          rw [e1, e2, ← hB]
          refine List.nodup_append.mpr ⟨List.nodup_append.mpr ⟨sl_nodup hnd, sl_nodup hnd, fun x hx y hy e => ?_⟩, sl_nodup hnd, fun x hx y hy e => ?_⟩
          · subst e
            exact sl_apart hnd hx hy (by omega)
          · subst e
            rcases List.mem_append.mp hx with hx | hx
            · exact sl_apart hnd hy hx (by omega)
            · exact sl_apart hnd hy hx (by omega)
        refine ⟨by rw [← hB]; exact sl_nodup hnd, by rw [← hL]; exact sl_nodup hnd, Blen, Llen, by show (fs.map Prod.fst).Nodup; rw [hfs]; exact sl_nodup hT.nd, ?_, hF.trans hfs.symm, h2, fun f hf => ?_, fun f hf => ?_, apart, fun f hf => ?_, fun x hx => ?_⟩
        · have e := congrArg List.length hfs
          rw [List.length_map] at e
          show fs.length ≤ 2
          omega
        · have hm : f.1 ∈ fs.map Prod.fst := List.mem_map_of_mem hf
          rw [hfs] at hm
          exact hT.pos (sl_mem hm)
        · have hm : f.1 ∈ fs.map Prod.fst := List.mem_map_of_mem hf
          rw [hfs] at hm
          exact (hT.ok2 _ (sl_mem hm)).2
        · obtain ⟨a, b, ha, hb, e1, e2⟩ := hsl f hf
          rw [e1, e2]
          exact ⟨Nat.le_trans sl_len ha, Nat.le_trans sl_len hb⟩
        · rcases hx with hx | hx | ⟨f, hf, hx⟩
          · exact okB x hx
          · exact okL x hx
          · obtain ⟨a, b, ha, hb, e1, e2⟩ := hsl f hf
            rcases hx with hx | hx | hx
            · have hm : f.1 ∈ fs.map Prod.fst := List.mem_map_of_mem hf
              rw [hfs] at hm
              rw [hx]
              exact hT.ok _ (sl_mem hm)
            · rw [e1] at hx
              exact okx x (sl_mem hx)
            · rw [e2] at hx
              exact okx x (sl_mem hx)
end
end Rt
/-! ## L9 -/
set_option Elab.async false
set_option linter.all false
set_option maxRecDepth 100000
set_option maxHeartbeats 4000000
namespace Rt
open PySem PySem.Spec PyProof.Rows L2
open L2H (RoomH roomH_of)
/-! ### a world -/
theorem cutV_mem {xs : List V} {lo hi : Option Int} {v : V} (h : v ∈ cutV xs lo hi) : v ∈ xs := by
  unfold cutV at h
  exact List.mem_of_mem_drop (List.mem_of_mem_take h)
def WWorld (H : Hp) (a : Addr) : Prop := ∃ (o : Obj) (vs : List V), H a = some (.frz o (.tup vs)) ∧ o.dict = none ∧ vs.length ≤ 3 ∧ ∀ v ∈ vs, ∃ d : Str, d ∈ doorsL ∧ ThingAt H d v
theorem WWorld.keep {H H' : Hp} {a : Addr} (h : WWorld H a) (ka : ∀ u, (∀ C dx fs, u ≠ .ins C dx fs) → H a = some u → H' a = some u) (k : Tk H H') : WWorld H' a := by
  obtain ⟨o, vs, h1, h2, h3, h4⟩ := h
  exact ⟨o, vs, ka _ (fun _ _ _ z => by cases z) h1, h2, h3, fun v hv => let ⟨d, hd, q⟩ := h4 v hv; ⟨d, hd, q.tk k⟩⟩
def spWorld : Sp := fun vs H Q _ => ∃ r : Addr, vs = [.ref r] ∧ Rng H r ∧ ∀ H' a, Rng H' r → But r H H' → WWorld H' a → Q (.ref a) H'
/-! ### rows, one by one -/
theorem SumL.at {R : Nat → V → Prop} : ∀ {i k : Nat} {xs : List V} {x : V}, SumL R k (xs.drop i) → xs[i]? = some x → ∃ m k', R m x ∧ SumL R k' (xs.drop (i + 1)) ∧ k = m + k' := by
  intro i k xs x h e
  have hi := (List.getElem?_eq_some_iff.mp e).1
  have e2 : xs.drop i = x :: xs.drop (i + 1) := by
    rw [List.drop_eq_getElem_cons hi]
    congr 1
    have := (List.getElem?_eq_some_iff.mp e).2
    exact this
  rw [e2] at h
  exact h
theorem SumL.done {R : Nat → V → Prop} {k : Nat} {xs : List V} (h : SumL R k (xs.drop xs.length)) : k = 0 := by
  rw [List.drop_length] at h
  exact h
def plainW : List Str := ["set", "push", "pop", "put", "ask", "tell", "fail", "call", "return"]
theorem Plain.head {G : Sc} {H : Hp} {xs : List V} (h : Plain G H xs) : ∃ s rest, xs = .str s :: rest ∧ s ∈ plainW := by
  cases h with
  | set hx hv => exact ⟨_, _, rfl, by decide⟩
  | push hl hv => exact ⟨_, _, rfl, by decide⟩
  | pop hx hl => exact ⟨_, _, rfl, by decide⟩
  | put hl hu hv => exact ⟨_, _, rfl, by decide⟩
  | ask hx hd => exact ⟨_, _, rfl, by decide⟩
  | tell hv => exact ⟨_, _, rfl, by decide⟩
  | fail hv => exact ⟨_, _, rfl, by decide⟩
  | call hx hf ha hv => exact ⟨_, _, rfl, by decide⟩
  | ret hi hv => exact ⟨_, _, rfl, by decide⟩
/-- rows at an address, told of its value -/
def WRowsV (G : Sc) (H : Hp) (d n : Nat) (v : V) : Prop := ∃ a, v = .ref a ∧ WRows G H d n a
theorem WRowsV.tk {G : Sc} {H H' : Hp} {d n : Nat} {v : V} (h : WRowsV G H d n v) (k : Tk H H') : WRowsV G H' d n v := by
  obtain ⟨a, e, q⟩ := h
  exact ⟨a, e, q.tk k⟩
def spWithin : Sp := fun vs H Q _ => ∃ (v : V) (G : Sc) (d n : Nat), vs = [v] ∧ WRow G H (d + 1) n v ∧ ∀ H' q ws k, Same H H' → H' q = some (.tup ws) → n = k + 1 → SumL (fun m x => WRowsV G H' d m x) k ws → Q (.ref q) H'
def spWalk (d : Nat) : Sp := fun vs H Q _ => ∃ (a l : Addr) (ar : Int) (G : Sc) (n : Nat) (xs : List V), vs = [.ref a, .int ar, .ref l] ∧ WRows G H d n a ∧ H l = some (.lst xs) ∧ xs.length + n ≤ 4000 ∧
  ∀ H' ys, But l H H' → H' l = some (.lst (xs ++ ys)) → ys.length = n → Q .non H'
def spListed : Sp := fun vs H Q _ => ∃ (a : Addr) (I : PI), vs = [.ref a] ∧ WProg I H a ∧ I.fs.length ≤ 2 ∧ ∀ H' l xs, Same H H' → H l = none → H' l = some (.lst xs) → xs.length ≤ 4000 → Q (.ref l) H'
section
variable {P : Program} {w : World} {K : PySem.W.Frag} {mg : Str → Option Value} {base : Heap}
theorem ok_world (T : Txt K mg) : OkC P w K mg base CX0 2 (He.ga K "_law_world") ["_law_state_here"] spWorld := by
  have G__law_next := ok_next (P := P) (w := w) (base := base) T
  refine okC T.f__law_world sc__law_world (fun fd F => F.bindsN fun _ _ _ _ _ _ us hl => match us, hl with | [_], _ => rfl) (fun vs H Q E h => ?_) (fun cdv A outer s H vs Q E hr h => ?_)
  · obtain ⟨r, rfl, _⟩ := h
    rfl
  · obtain ⟨r, rfl, hR, k⟩ := h
    refine ⟨_, (pss_cons
 (ps_set (i := 1) sc__law_world.nd rfl (by first | exact Or.inl rfl | exact Or.inr rfl) (pe_lst pa_nil)) (pss_cons
 (ps_for PassesOwn.never rfl (pi_list (pe_lst (pa_cons pe_str (pa_cons pe_str (pa_cons pe_str pa_nil))))) (pg_name (i := 2) sc__law_world.nd rfl (by first | exact Or.inl rfl | exact Or.inr rfl)) (pss_one
 (ps_expr (pe_bm PySem.F.plainAttrs_list PySem.F.slot_list_append PySem.F.type_list_append mt_append (pv 1) (pa_cons (pe_tup (pa_cons (pv 2) (pa_cons (pe_callTy call_tuple_of (by rfl) T.b_tuple (by decide +kernel) (pa_cons (pe_lc (own := [("_law_k", 3)]) rfl sc__law_world.nd (pi_range1 rfl T.b_range (pa_cons (ce_call G__law_next (hr.mono (by omega)) T.g__law_next T.p__law_next pass0 (pa_cons (pv 0) (pa_cons pe_int pa_nil))) pa_nil)) (blkOk_by (N := N__law_world) (sc := defScope s__law_world) (by decide +kernel)) (fun _ _ _ _ _ => (pg_name (i := 3) sc__law_world.nd rfl (by first | exact Or.inl rfl | exact Or.inr rfl))) (fun _ _ _ _ _ => pts_nil) (fun _ _ _ _ _ => (ce_call G__law_next (hr.mono (by omega)) T.g__law_next T.p__law_next pass0 (pa_cons (pv 0) (pa_cons pe_int pa_nil))))) pa_nil)) pa_nil))) pa_nil))))) (pss_one
 (ps_ret (pe_callTy cr_tupBare (by rfl) T.b_tuple (by decide +kernel) (pa_cons (pe_slice sl_list (pv 1) (po_some (pe_op op_fdiv (ce_call G__law_next (hr.mono (by omega)) T.g__law_next T.p__law_next pass0 (pa_cons (pv 0) (pa_cons pe_int pa_nil))) pe_int)) po_none) pa_nil)))))), ?_⟩
    refine ⟨Nat.zero_le _, fun l hl => ⟨szn (by decide : 3 ≤ 1000), fun q hq => ?_⟩⟩
    have R1 := (hR.new (o := .lst []) hl).new (o := .lst ([.str "a", .str "door", .str "zz"])) hq
    have B1 := (But.new (r := r) (o := .lst []) hl).trans (But.new (o := .lst ([.str "a", .str "door", .str "zz"])) hq)
    have nlr : l ≠ r := hR.ne hl
    have nqr : q ≠ r := (hR.new (o := .lst []) hl).ne hq
    have nql : q ≠ l := fun z => by rw [z, upd_same] at hq; cases hq
    have q1 : upd (upd H l (.lst [])) q (.lst ([.str "a", .str "door", .str "zz"])) q = some (.lst ([.str "a", .str "door", .str "zz"])) := upd_same
    refine ⟨q, rfl, ⟨_, SqL.of q1⟩, for_list (xs := [.str "a", .str "door", .str "zz"]) (fun i σ H' => ∃ (o2 o3 : Option V) (vs : List V), σ = [some (.ref r), some (.ref l), o2, o3] ∧ Rng H' r ∧ But r H H' ∧ H' q = some (.lst ([.str "a", .str "door", .str "zz"])) ∧
      H' l = some (.lst vs) ∧ vs.length = i ∧ ∀ v ∈ vs, ∃ d : Str, d ∈ doorsL ∧ ThingAt H' d v) ?_ ?_ ?_ ?_⟩
    · exact ⟨none, none, [], rfl, R1, B1, q1, by rw [upd_ne (Ne.symm nql)]; exact upd_same, rfl, fun v hv => by cases hv⟩
    · rintro i σ H' _ ⟨o2, o3, vs, rfl, _, _, h, _⟩
      exact SqL.of h
    · rintro i x σ H2 hx ⟨o2, o3, vs, rfl, R2, B2, q2, l2, hlen, hall⟩
      obtain ⟨d, hd, rfl⟩ : ∃ d : Str, d ∈ doorsL ∧ x = .str d := by
        have hm := List.mem_of_getElem? hx
        simp at hm
        rcases hm with rfl | rfl | rfl
        · exact ⟨_, by decide, rfl⟩
        · exact ⟨_, by decide, rfl⟩
        · exact ⟨_, by decide, rfl⟩
      have i3 : i < 3 := (List.getElem?_eq_some_iff.mp hx).1
      refine ⟨_, rfl, .inl ⟨rfl, _, SqL.of l2⟩, _, rfl, ?_⟩
      refine ⟨_, rfl, r, 6, rfl, R2, by decide, fun H3 n R3 B3 n0 n1 => ⟨n, rfl, by omega, by omega, fun D hD => ?_⟩⟩
      have nDr : D ≠ r := R3.ne hD
      have q3 := B3 _ _ nqr q2
      have l3 := B3 _ _ nlr l2
      refine lc_range (lo := 0) (n := n.toNat) (fun i H' => Rng H' r ∧ But r H3 H' ∧ ∃ ns : List Int, H' D = some (.lst (ns.map V.int)) ∧ ns.length = i ∧ ∀ m ∈ ns, 0 ≤ m ∧ m < 1000000) ⟨R3.new hD, But.new hD, [], upd_same, rfl, fun u hu => by cases hu⟩ ?_ ?_
      · rintro i H4 hi ⟨R4, B4, ns, hns, hl4, hn4⟩
        refine ⟨rfl, tyes ?_⟩
        refine ⟨_, rfl, r, 6, rfl, R4, by decide, fun H5 m R5 B5 m0 m1 => ?_⟩
        have d5 := B5 _ _ nDr hns
        refine ⟨_, d5, by rw [List.length_map, sizeLine_eq]; omega, R5.upd nDr, (B4.trans B5).mut hD, ns ++ [m], by rw [List.map_append]; exact upd_same, by rw [List.length_append, hl4]; rfl, fun u hu => ?_⟩
        rcases List.mem_append.mp hu with hu | hu
        · exact hn4 u hu
        · have e : u = m := by simpa using hu
          rw [e]
          exact ⟨m0, by omega⟩
      · rintro H4 ⟨R4, B4, ns, hns, hl4, hn4⟩
        refine ⟨D, _, rfl, .inl ⟨SqL.of hns, fun t ht => ⟨szn (by decide : 2 ≤ 1000), fun p hp => ?_⟩⟩⟩
        have s5 := (same_new (o := .tup (ns.map V.int)) ht).trans (same_new (o := .tup [.str d, .ref t]) hp)
        have l5 := s5 _ _ (B4 _ _ nlr l3)
        have q5 := s5 _ _ (B4 _ _ nqr q3)
        have R5 := (R4.new (o := .tup (ns.map V.int)) ht).new (o := .tup [.str d, .ref t]) hp
        refine ⟨l, _, _, rfl, rfl, l5, by rw [sizeLine_eq]; omega, ?_⟩
        have up : ∀ c zs, upd (upd H4 t (.tup (ns.map V.int))) p (.tup [.str d, .ref t]) c = some (.tup zs) → upd (upd (upd H4 t (.tup (ns.map V.int))) p (.tup [.str d, .ref t])) l (.lst (vs ++ [.ref p])) c = some (.tup zs) := fun c zs e => by
          rw [upd_ne (ne_of e l5 (by intro z; cases z))]
          exact e
        have K5 : Tk H2 (upd (upd (upd H4 t (.tup (ns.map V.int))) p (.tup [.str d, .ref t])) l (.lst (vs ++ [.ref p]))) := fun c zs e => up c zs (s5 _ _ (R3.tk B4 _ _ (R2.tk B3 _ _ e)))
        refine ⟨_, _, vs ++ [.ref p], rfl, R5.upd nlr, ?_, by rw [upd_ne nql]; exact q5, upd_same, by rw [List.length_append, hlen]; rfl, fun v hv => ?_⟩
        · exact (((B2.trans B3).trans B4).trans (fun b o _ e => s5 b o e)).mut hl
        · rcases List.mem_append.mp hv with hv | hv
          · obtain ⟨d', e1, e2⟩ := hall v hv
            exact ⟨d', e1, e2.tk K5⟩
          · have e : v = .ref p := by simpa using hv
            rw [e]
            exact ⟨d, hd, p, t, rfl, up _ _ upd_same, ns, up _ _ ((same_new (o := .tup [.str d, .ref t]) hp) _ _ upd_same), by omega, hn4⟩
    · rintro σ H2 ⟨o2, o3, vs, rfl, R2, B2, q2, l2, hlen, hall⟩
      have hlen : vs.length = 3 := hlen
      refine ⟨_, rfl, _, rfl, r, 4, rfl, R2, by decide, fun H3 c R3 B3 c0 c1 => ⟨_, _, rfl, rfl, ⟨by decide, by decide⟩, _, rfl, l, _, rfl, SqL.of (B3 _ _ nlr l2), fun p hp => ⟨p, _, rfl, SqL.of upd_same, fun a ob ha hob => ?_⟩⟩⟩
      have s4 := (same_new (o := .lst (cutV vs (some (c / 3)) none)) hp).trans (same_new (o := .frz ob (.tup (cutV vs (some (c / 3)) none))) ha)
      refine k _ a ((R3.new hp).new ha) ((B2.trans B3).trans (fun b o _ e => s4 b o e)) ⟨ob, _, upd_same, hob, Nat.le_trans (cutV_length _ _ _) (by omega), fun v hv => ?_⟩
      obtain ⟨d, e1, e2⟩ := hall v (cutV_mem hv)
      exact ⟨d, e1, (e2.tk (R2.tk B3)).tk (same_tk s4)⟩
end
end Rt
/-! ## L10 -/
set_option Elab.async false
set_option linter.all false
set_option maxRecDepth 100000
set_option maxHeartbeats 4000000
namespace Rt
open PySem PySem.Spec PyProof.Rows L2
open L2H (RoomH roomH_of)
def wKeys (a b c : V) : List (Key × V) := [(.inr "if", a), (.inr "while", b), (.inr "try", c)]
theorem wk_if (a b c : V) : valV (mergeK [] (wKeys a b c)) (.inr "if") = some a := rfl
theorem wk_while (a b c : V) : valV (mergeK [] (wKeys a b c)) (.inr "while") = some b := rfl
theorem wk_try (a b c : V) : valV (mergeK [] (wKeys a b c)) (.inr "try") = some c := rfl
theorem wk_plain (a b c : V) {s : Str} (h : s ∈ plainW) : valV (mergeK [] (wKeys a b c)) (.inr s) = none := by
  unfold plainW at h
  simp only [List.mem_cons, List.not_mem_nil, or_false] at h
  rcases h with rfl | rfl | rfl | rfl | rfl | rfl | rfl | rfl | rfl <;> rfl
section
variable {P : Program} {w : World} {K : PySem.W.Frag} {mg : Str → Option Value} {base : Heap}
theorem ok_within (T : Txt K mg) : OkC P w K mg base CX0 1 (He.ga K "_law_within") ["_law_row"] spWithin := by
  refine okC T.f__law_within sc__law_within (fun fd F => F.bindsN fun _ _ _ _ _ _ us hl => match us, hl with | [_], _ => rfl) (fun vs H Q E h => ?_) (fun cdv A outer s H vs Q E hr h => ?_)
  · obtain ⟨v, G, d, n, rfl, _⟩ := h
    rfl
  · obtain ⟨v, G, d, n, rfl, hW, k⟩ := h
    refine ⟨_, (pss_one
 (ps_ret (pe_dget2 (hu_of hr) (pe_disp (pps_cons pe_str (pe_slice sl_tupS (pv 0) (po_some pe_int) po_none) (pps_cons pe_str (pe_slice sl_tupS (pv 0) (po_some pe_int) po_none) (pps_cons pe_str (pe_op op_catS (pe_slice sl_tupS (pv 0) (po_some pe_int) (po_some pe_int)) (pe_slice sl_tupS (pv 0) (po_some pe_int) po_none)) pps_nil))) (by rfl) (by rfl) (fun z => by cases z) (by decide)) (pe_ix ix_tup (pv 0) pe_int (fun _ _ => rfl)) (pe_tup pa_nil) ⟨rfl, rfl, rfl, rfl⟩))), ?_⟩
    obtain ⟨a, rfl, hW⟩ := hW
    obtain ⟨xs, hx, hl4⟩ : ∃ xs, H a = some (.tup xs) ∧ xs.length ≤ 4 := by
      rcases hW with ⟨xs, h1, h2, h3⟩ | ⟨c, r1, r2, xs, ys, n1, n2, h1, _⟩ | ⟨c, r1, xs, n1, h1, _⟩ | ⟨x, r1, r2, xs, ys, n1, n2, h1, _⟩
      · exact ⟨xs, h1, by cases h2 <;> simp⟩
      · exact ⟨_, h1, by simp⟩
      · exact ⟨_, h1, by simp⟩
      · exact ⟨_, h1, by simp⟩
    intro p hp
    have s1 := same_new (o := .dK []) hp
    have p1 : upd H p (.dK []) p = some (.dK []) := upd_same
    generalize upd H p (.dK []) = H1 at s1 p1 ⊢
    refine ⟨_, rfl, _, rfl, a, _, rfl, s1 _ _ hx, fun t1 H2 s2 ht1 => ?_⟩
    refine ⟨_, rfl, _, rfl, a, _, rfl, s2 _ _ (s1 _ _ hx), fun t2 H3 s3 ht2 => ?_⟩
    refine ⟨_, rfl, _, rfl, _, rfl, a, _, rfl, s3 _ _ (s2 _ _ (s1 _ _ hx)), fun t3 H4 s4 ht3 => ?_⟩
    refine ⟨_, rfl, _, rfl, a, _, rfl, s4 _ _ (s3 _ _ (s2 _ _ (s1 _ _ hx))), fun t4 H5 s5 ht4 => ?_⟩
    refine ⟨t3, t4, _, _, rfl, rfl, s5 _ _ ht3, ht4, ?_, fun t5 H6 s6 ht5 => ?_⟩
    · have e1 := cutV_length xs (some 1) (some 2)
      have e2 := cutV_length xs (some 3) none
      rw [sizeLine_eq]
      omega
    have s26 := (((s2.trans s3).trans s4).trans s5).trans s6
    have p6 := s26 _ _ p1
    have s16 := s1.trans s26
    have t16 := s6 _ _ (s5 _ _ (s4 _ _ (s3 _ _ ht1)))
    have t26 := s6 _ _ (s5 _ _ (s4 _ _ ht2))
    refine ⟨p6, wKeys (.ref t1) (.ref t2) (.ref t5), rfl, Nat.le_of_ble_eq_true rfl, p, rfl, .inl ⟨_, .inl upd_same⟩, ?_⟩
    have up : ∀ c zs, H6 c = some (.tup zs) → upd H6 p (.dK (mergeK [] (wKeys (.ref t1) (.ref t2) (.ref t5)))) c = some (.tup zs) := fun c zs e => by
      rw [upd_ne (ne_of e p6 (by intro z; cases z))]
      exact e
    have S7 : Same H (upd H6 p (.dK (mergeK [] (wKeys (.ref t1) (.ref t2) (.ref t5))))) := fun b o e => by
      rw [upd_ne (fun z => by rw [z, hp] at e; cases e)]
      exact s16 _ _ e
    have g7 : upd H6 p (.dK (mergeK [] (wKeys (.ref t1) (.ref t2) (.ref t5)))) p = some (.dK (mergeK [] (wKeys (.ref t1) (.ref t2) (.ref t5)))) := upd_same
    have a7 := up _ _ t16
    have b7 := up _ _ t26
    have c7 := up _ _ ht5
    generalize upd H6 p (.dK (mergeK [] (wKeys (.ref t1) (.ref t2) (.ref t5)))) = H7 at S7 g7 a7 b7 c7 ⊢
    have K7 := same_tk S7
    have ax := S7 _ _ hx
    refine ⟨_, rfl, a, xs, 0, ?_⟩
    rcases hW with ⟨xs', h1, h2, h3⟩ | ⟨c, r1, r2, xs', ys, n1, n2, h1, hc, h3, h4, h5, h6, h7⟩ | ⟨c, r1, xs', n1, h1, hc, h3, h4, h5⟩ | ⟨x, r1, r2, xs', ys, n1, n2, h1, hx2, h3, h4, h5, h6, h7⟩
    · cases HO.tup.inj (Option.some.inj (hx.symm.trans h1))
      obtain ⟨s, rest, rfl, hs⟩ := h2.head
      refine ⟨_, rfl, rfl, SqT.of ax, at0, Nat.zero_le _, fun q hq => ⟨_, DGet.k (k := .inr s) (same_new hq _ _ g7), ?_⟩⟩
      rw [wk_plain _ _ _ hs]
      exact k _ q [] 0 (S7.trans (same_new hq)) upd_same h3 rfl
    · cases HO.tup.inj (Option.some.inj (hx.symm.trans h1))
      refine ⟨_, rfl, rfl, SqT.of ax, rfl, Nat.zero_le _, fun q hq => ⟨_, DGet.k (k := .inr "if") (same_new hq _ _ g7), ?_⟩⟩
      rw [wk_if]
      have z := same_new (o := .tup []) hq
      have K8 := K7.trans (same_tk z)
      exact k _ t1 [.ref r1, .ref r2] (n1 + n2) (S7.trans z) (z _ _ a7) h7 ⟨n1, n2, ⟨r1, rfl, _, K8 _ _ h3, h4.imp fun _ _ q => WRow.tk K8 q⟩, ⟨n2, 0, ⟨r2, rfl, _, K8 _ _ h5, h6.imp fun _ _ q => WRow.tk K8 q⟩, rfl, rfl⟩, rfl⟩
    · cases HO.tup.inj (Option.some.inj (hx.symm.trans h1))
      refine ⟨_, rfl, rfl, SqT.of ax, rfl, Nat.zero_le _, fun q hq => ⟨_, DGet.k (k := .inr "while") (same_new hq _ _ g7), ?_⟩⟩
      rw [wk_while]
      have z := same_new (o := .tup []) hq
      have K8 := K7.trans (same_tk z)
      exact k _ t2 [.ref r1] n1 (S7.trans z) (z _ _ b7) h5 ⟨n1, 0, ⟨r1, rfl, _, K8 _ _ h3, h4.imp fun _ _ q => WRow.tk K8 q⟩, rfl, rfl⟩
    · cases HO.tup.inj (Option.some.inj (hx.symm.trans h1))
      refine ⟨_, rfl, rfl, SqT.of ax, rfl, Nat.zero_le _, fun q hq => ⟨_, DGet.k (k := .inr "try") (same_new hq _ _ g7), ?_⟩⟩
      rw [wk_try]
      have z := same_new (o := .tup []) hq
      have K8 := K7.trans (same_tk z)
      exact k _ t5 [.ref r1, .ref r2] (n1 + n2) (S7.trans z) (z _ _ c7) h7 ⟨n1, n2, ⟨r1, rfl, _, K8 _ _ h3, h4.imp fun _ _ q => WRow.tk K8 q⟩, ⟨n2, 0, ⟨r2, rfl, _, K8 _ _ h5, h6.imp fun _ _ q => WRow.tk K8 q⟩, rfl, rfl⟩, rfl⟩
theorem walk_step (T : Txt K mg) (d kk : Nat) (hkk : 1 ≤ kk) (G__law_walk : OkC P w K mg base CX0 (kk + 1) (He.ga K "_law_walk") ["_law_rows_here", "_law_around", "_law_found"] (fun vs H Q E => 1 ≤ d ∧ spWalk (d - 1) vs H Q E)) :
    OkC P w K mg base CX0 (kk + 2) (He.ga K "_law_walk") ["_law_rows_here", "_law_around", "_law_found"] (spWalk d) := by
  have G__law_within := ok_within (P := P) (w := w) (base := base) T
  refine okC T.f__law_walk sc__law_walk (fun fd F => F.bindsN fun _ _ _ _ _ _ us hl => match us, hl with | [_, _, _], _ => rfl) (fun vs H Q E h => ?_) (fun cdv A outer s H vs Q E hr h => ?_)
  · obtain ⟨a, l, ar, G, n, xs, rfl, _⟩ := h
    rfl
  · obtain ⟨a, l, ar, G, n, xs, rfl, ⟨rs, hrs, hsum⟩, hl, hz, k⟩ := h
    refine ⟨_, (pss_one
 (ps_for PassesOwn.never rfl (pi_tup (pv 0)) (pg_name (i := 3) sc__law_walk.nd rfl (by first | exact Or.inl rfl | exact Or.inr rfl)) (pss_cons
 (ps_set (i := 4) sc__law_walk.nd rfl (by first | exact Or.inl rfl | exact Or.inr rfl) (pe_callB call_len_seq (by rfl) T.b_len (by decide +kernel) (pa_cons (pv 2) pa_nil))) (pss_cons
 (ps_expr (pe_bm PySem.F.plainAttrs_list PySem.F.slot_list_append PySem.F.type_list_append mt_append (pv 2) (pa_cons (pe_tup (pa_cons (pv 4) (pa_cons (pv 3) (pa_cons (pv 1) pa_nil)))) pa_nil))) (pss_one
 (ps_for PassesOwn.never rfl (pi_tup (ce_call G__law_within (hr.mono (by omega)) T.g__law_within T.p__law_within pass0 (pa_cons (pv 3) pa_nil))) (pg_name (i := 5) sc__law_walk.nd rfl (by first | exact Or.inl rfl | exact Or.inr rfl)) (pss_one
 (ps_expr (ce_call G__law_walk (hr.mono (by omega)) T.g__law_walk T.p__law_walk pass0 (pa_cons (pv 5) (pa_cons (pv 4) (pa_cons (pv 2) pa_nil)))))))))))), ?_⟩
    have hT : ∀ H', But l H H' → Tk H H' := fun H' B b zs e => B b _ (ne_of e hl (by intro z; cases z)) e
    refine ⟨_, rfl, a, rfl, ⟨_, SqT.of hrs⟩, for_tup (xs := rs) (fun i σ H' => ∃ (o3 o4 o5 : Option V) (ys : List V) (m : Nat), σ = [some (.ref a), some (.int ar), some (.ref l), o3, o4, o5] ∧ But l H H' ∧ H' l = some (.lst (xs ++ ys)) ∧ SumL (fun m x => WRow G H d m x) m (rs.drop i) ∧ ys.length + m = n) ?_ ?_ ?_ ?_⟩
    · exact ⟨none, none, none, [], n, rfl, But.refl, by rw [List.append_nil]; exact hl, hsum, Nat.zero_add _⟩
    · rintro i σ H' _ ⟨o3, o4, o5, ys, m, rfl, B, _⟩
      exact SqT.of (hT _ B _ _ hrs)
    · rintro i v σ H2 hv ⟨o3, o4, o5, ys, m, rfl, B2, l2, hm, hlen⟩
      obtain ⟨m1, m2, hw, hm2, rfl⟩ := hm.at hv
      have hpos := WRow.pos hw
      obtain ⟨d, rfl⟩ : ∃ d', d = d' + 1 := by
        cases d with
        | zero => exact hw.elim
        | succ d => exact ⟨d, rfl⟩
      have hw2 := WRow.tk (hT _ B2) hw
      refine ⟨_, rfl, l, _, rfl, .inl (SqL.of l2), ?_⟩
      refine ⟨_, rfl, .inl ⟨rfl, _, SqL.of l2⟩, _, rfl, _, rfl, _, rfl, szn (by decide : 3 ≤ 1000), fun p hp => ?_⟩
      refine ⟨l, _, _, rfl, rfl, same_new hp _ _ l2, by rw [List.length_append, sizeLine_eq]; omega, ?_⟩
      have B3 := (B2.trans (But.new hp)).trans (fun b o hb e => by rw [upd_ne hb]; exact e : But l _ (upd (upd H2 p (.tup [.int ((xs ++ ys).length : Nat), v, .int ar])) l (.lst (xs ++ ys ++ [.ref p]))))
      have l3 : upd (upd H2 p (.tup [.int ((xs ++ ys).length : Nat), v, .int ar])) l (.lst (xs ++ ys ++ [.ref p])) l = some (.lst (xs ++ (ys ++ [.ref p]))) := by
        rw [← List.append_assoc]
        exact upd_same
      generalize upd (upd H2 p (.tup [.int ((xs ++ ys).length : Nat), v, .int ar])) l (.lst (xs ++ ys ++ [.ref p])) = H3 at B3 l3 ⊢
      have hw3 := WRow.tk (hT _ B3) hw
      refine ⟨_, rfl, v, G, d, m1, rfl, hw3, fun H4 q ws k1 s4 hq e1 hws => ?_⟩
      have l4 := s4 _ _ l3
      have B4 := B3.trans (r := l) (fun b o _ e => s4 b o e)
      refine ⟨q, rfl, ⟨_, SqT.of hq⟩, for_tup (xs := ws) (fun i σ H' => ∃ (o5 : Option V) (zs : List V) (m : Nat), σ = [some (.ref a), some (.int ar), some (.ref l), some v, some (.int ((xs ++ ys).length : Nat)), o5] ∧ But l H4 H' ∧ H' l = some (.lst (xs ++ zs)) ∧ SumL (fun m x => WRowsV G H4 d m x) m (ws.drop i) ∧ zs.length + m = ys.length + 1 + k1) ?_ ?_ ?_ ?_⟩
      · exact ⟨o5, ys ++ [.ref p], k1, rfl, But.refl, l4, hws, by rw [List.length_append]; rfl⟩
      · rintro i σ H' _ ⟨o5, zs, m, rfl, B, _⟩
        exact SqT.of (B _ _ (ne_of hq l4 (by intro z; cases z)) hq)
      · rintro i u σ H5 hu ⟨o5, zs, m, rfl, B5, l5, hm5, hlen5⟩
        obtain ⟨n1, n2, ⟨b, rfl, hb⟩, hn2, rfl⟩ := hm5.at hu
        have hb5 : WRows G H5 d n1 b := hb.tk fun b zs e => B5 b _ (ne_of e l4 (by intro z; cases z)) e
        refine ⟨_, rfl, _, rfl, _, rfl, Nat.le_add_left 1 d, b, l, _, G, n1, _, rfl, hb5, l5, ?_, fun H6 us B6 l6 hus => ?_⟩
        · rw [List.length_append]
          omega
        · rw [List.append_assoc] at l6
          exact ⟨_, zs ++ us, n2, rfl, B5.trans B6, l6, hn2, by rw [List.length_append, hus]; omega⟩
      · rintro σ H5 ⟨o5, zs, m, rfl, B5, l5, hm5, hlen5⟩
        have em := SumL.done hm5
        exact ⟨_, _, _, zs, m2, rfl, B4.trans B5, l5, hm2, by omega⟩
    · rintro σ H2 ⟨o3, o4, o5, ys, m, rfl, B2, l2, hm, hlen⟩
      have em := SumL.done hm
      exact k H2 ys B2 l2 (by omega)
theorem ok_walk (T : Txt K mg) : ∀ d : Nat, OkC P w K mg base CX0 (d + 3) (He.ga K "_law_walk") ["_law_rows_here", "_law_around", "_law_found"] (spWalk d)
  | 0 => walk_step T 0 1 (Nat.le_refl _) (by
      obtain ⟨fd, F⟩ := T.f__law_walk
      refine ⟨fd, ⟨fun vs H Q E h => absurd h.1 (by decide), fun A outer s H args us vs Q E _ _ _ _ h => absurd h.1 (by decide)⟩, F.bindsN fun _ _ _ _ _ _ us hl => match us, hl with | [_, _, _], _ => rfl⟩)
  | d + 1 => walk_step T (d + 1) (d + 2) (by omega) ((ok_walk T d).imp fun vs H Q E h => h.2)
theorem ok_listed (T : Txt K mg) : OkC P w K mg base CX0 8 (He.ga K "_law_listed") ["_law_program_here"] spListed := by
  have G__law_walk := ok_walk (P := P) (w := w) (base := base) T 4
  refine okC T.f__law_listed sc__law_listed (fun fd F => F.bindsN fun _ _ _ _ _ _ us hl => match us, hl with | [_], _ => rfl) (fun vs H Q E h => ?_) (fun cdv A outer s H vs Q E hr h => ?_)
  · obtain ⟨a, I, rfl, _⟩ := h
    rfl
  · obtain ⟨a, I, rfl, hW, hfl, k⟩ := h
    obtain ⟨pa, ta, fa, ra, ps, ts, us, n, h1, h2, h3, h4, h5, h6, h7, h8, h9⟩ := hW.ex
    refine ⟨_, (pss_cons
 (ps_set (i := 1) sc__law_listed.nd rfl (by first | exact Or.inl rfl | exact Or.inr rfl) (pe_lst pa_nil)) (pss_cons
 (ps_for PassesOwn.never rfl (pi_tup (pe_ix ix_tup (pv 0) pe_int (fun _ _ => rfl))) (pg_tup rfl (pgs_cons (pg_name (i := 2) sc__law_listed.nd rfl (by first | exact Or.inl rfl | exact Or.inr rfl)) (pgs_cons (pg_name (i := 3) sc__law_listed.nd rfl (by first | exact Or.inl rfl | exact Or.inr rfl)) (pgs_cons (pg_name (i := 4) sc__law_listed.nd rfl (by first | exact Or.inl rfl | exact Or.inr rfl)) (pgs_cons (pg_name (i := 5) sc__law_listed.nd rfl (by first | exact Or.inl rfl | exact Or.inr rfl)) pgs_nil))))) (pss_cons
 (ps_set (i := 6) sc__law_listed.nd rfl (by first | exact Or.inl rfl | exact Or.inr rfl) (pe_callB call_len_seq (by rfl) T.b_len (by decide +kernel) (pa_cons (pv 1) pa_nil))) (pss_cons
 (ps_expr (pe_bm PySem.F.plainAttrs_list PySem.F.slot_list_append PySem.F.type_list_append mt_append (pv 1) (pa_cons (pe_tup (pa_cons (pv 6) (pa_cons (pe_tup (pa_cons pe_str (pa_cons (pv 2) pa_nil))) (pa_cons (pe_un un_neg pe_int) pa_nil)))) pa_nil))) (pss_one
 (ps_expr (ce_call G__law_walk (hr.mono (by omega)) T.g__law_walk T.p__law_walk pass0 (pa_cons (pv 5) (pa_cons (pv 6) (pa_cons (pv 1) pa_nil))))))))) (pss_cons
 (ps_expr (ce_call G__law_walk (hr.mono (by omega)) T.g__law_walk T.p__law_walk pass0 (pa_cons (pe_ix ix_tup (pv 0) pe_int (fun _ _ => rfl)) (pa_cons (pe_un un_neg pe_int) (pa_cons (pv 1) pa_nil))))) (pss_one
 (ps_ret (pv 1)))))), ?_⟩
    refine ⟨Nat.zero_le _, fun l hl => ?_⟩
    have s1 := same_new (o := .lst []) hl
    have l1 : upd H l (.lst []) l = some (.lst []) := upd_same
    generalize upd H l (.lst []) = H1 at s1 l1 ⊢
    have hul := h7.len
    refine ⟨_, rfl, a, _, _, _, rfl, rfl, SqT.of (s1 _ _ h1), rfl, fa, rfl, ⟨_, SqT.of (s1 _ _ h6)⟩, for_tup (xs := us) (fun i σ H' => ∃ (o2 o3 o4 o5 o6 : Option V) (xs : List V), σ = [some (.ref a), some (.ref l), o2, o3, o4, o5, o6] ∧ But l H1 H' ∧ H' l = some (.lst xs) ∧ xs.length ≤ 901 * i) ?_ ?_ ?_ ?_⟩
    · exact ⟨none, none, none, none, none, [], rfl, But.refl, l1, Nat.le_refl _⟩
    · rintro i σ H' _ ⟨o2, o3, o4, o5, o6, xs, rfl, B, _⟩
      exact SqT.of (B _ _ (ne_of (s1 _ _ h6) l1 (by intro z; cases z)) (s1 _ _ h6))
    · rintro i v σ H2 hv ⟨o2, o3, o4, o5, o6, xs, rfl, B2, l2, hxs⟩
      have hi := (List.getElem?_eq_some_iff.mp hv).1
      have K2 : Tk H H2 := fun b zs e => B2 b _ (ne_of (s1 _ _ e) l1 (by intro z; cases z)) (s1 _ _ e)
      obtain ⟨p, pp, po, pr, m, rfl, e1, e2, e3, e4, e5⟩ := h7.get (List.getElem?_eq_getElem (show i < I.fs.length by omega)) hv
      refine ⟨p, _, rfl, SqT.of (K2 _ _ e1), rfl, _, _, rfl, _, _, rfl, _, _, rfl, _, _, rfl, rfl, ?_⟩
      refine ⟨_, rfl, l, _, rfl, .inl (SqL.of l2), ?_⟩
      refine ⟨_, rfl, .inl ⟨rfl, _, SqL.of l2⟩, _, rfl, _, rfl, szn (by decide : 2 ≤ 1000), fun q hq => ⟨_, rfl, szn (by decide : 3 ≤ 1000), fun q2 hq2 => ?_⟩⟩
      have s3 := (same_new (o := .tup [.str "def", .str I.fs[i].1]) hq).trans (same_new (o := .tup [.int (xs.length : Nat), .ref q, .int (-1)]) hq2)
      have hxl : xs.length ≤ 901 := by
        have : i ≤ 1 := by omega
        have e := Nat.mul_le_mul_left 901 this
        omega
      refine ⟨l, _, _, rfl, rfl, s3 _ _ l2, by rw [sizeLine_eq]; omega, ?_⟩
      have B3 := B2.trans (r := l) (H2 := upd (upd (upd H2 q (.tup [.str "def", .str I.fs[i].1])) q2 (.tup [.int (xs.length : Nat), .ref q, .int (-1)])) l (.lst (xs ++ [.ref q2]))) fun b o hb e => by rw [upd_ne hb]; exact s3 _ _ e
      have K3 : Tk H _ := fun b zs e => B3 b _ (ne_of (s1 _ _ e) l1 (by intro z; cases z)) (s1 _ _ e)
      refine ⟨_, rfl, _, rfl, _, rfl, pr, l, _, _, m, _, rfl, e4.tk K3, upd_same, by rw [List.length_append, List.length_singleton]; omega, fun H4 ys B4 l4 hy => ?_⟩
      refine ⟨_, _, _, _, _, _, rfl, B3.trans B4, l4, ?_⟩
      rw [List.length_append, List.length_append, hy, List.length_singleton]
      omega
    · rintro σ H2 ⟨o2, o3, o4, o5, o6, xs, rfl, B2, l2, hxs⟩
      have K2 : Tk H H2 := fun b zs e => B2 b _ (ne_of (s1 _ _ e) l1 (by intro z; cases z)) (s1 _ _ e)
      have hxl : xs.length ≤ 1802 := by
        have : us.length ≤ 2 := by omega
        have e := Nat.mul_le_mul_left 901 this
        omega
      refine ⟨_, rfl, a, _, _, _, rfl, rfl, SqT.of (K2 _ _ h1), rfl, _, rfl, _, rfl, ra, l, _, _, n, _, rfl, h8.tk K2, l2, by omega, fun H4 ys B4 l4 hy => ?_⟩
      refine ⟨_, rfl, k H4 l _ (fun b o e => ?_) hl l4 (by rw [List.length_append]; omega)⟩
      exact (B2.trans B4) b o (fun z => by rw [z, hl] at e; cases e) (s1 _ _ e)
end
end Rt
/-! ## M1 -/
set_option Elab.async false
set_option linter.all false
set_option maxRecDepth 100000
set_option maxHeartbeats 4000000
namespace Rt
open PySem PySem.Spec PyProof.Rows L2
open L2H (RoomH roomH_of)
theorem plain_ne {s : Str} (h : s ∈ plainW) : V.str s ≠ V.str "if" ∧ V.str s ≠ V.str "while" ∧ V.str s ≠ V.str "try" ∧ V.str s ≠ V.str "def" := by
  unfold plainW at h
  simp only [List.mem_cons, List.not_mem_nil, or_false] at h
  rcases h with rfl | rfl | rfl | rfl | rfl | rfl | rfl | rfl | rfl <;> exact ⟨by decide, by decide, by decide, by decide⟩
theorem nodec {A : Prop} {x y : V} (h : x ≠ y) {X : Prop} (q : decide (x = y) = true) : X := absurd (of_decide_eq_true q) h
theorem isdec {x : V} {X : Prop} (q : ¬ decide (x = x) = true) : X := absurd (decide_eq_true rfl) q
theorem WRow.ref {G : Sc} {H : Hp} {d n : Nat} {v : V} (h : WRow G H (d + 1) n v) : ∃ r, v = .ref r := by
  obtain ⟨r, e, _⟩ := h
  exact ⟨r, e⟩
/-- what doors_of asks of a row -/
def RowD (H : Hp) (r : V) : Prop := ∃ (a : Addr) (s : Str) (rest : List V), r = .ref a ∧ H a = some (.tup (.str s :: rest)) ∧ (s = "ask" → ∃ (x d : Str), rest = [.str x, .str d] ∧ d ∈ doorsL)
def RowT (H : Hp) (v : V) : Prop := ∃ (p : Addr) (n b : Int) (r : V), v = .ref p ∧ H p = some (.tup [.int n, r, .int b]) ∧ RowD H r
theorem RowD.tk {H H' : Hp} {r : V} (h : RowD H r) (k : Tk H H') : RowD H' r := by
  obtain ⟨a, s, rest, e, h1, h2⟩ := h
  exact ⟨a, s, rest, e, k _ _ h1, h2⟩
theorem RowT.tk {H H' : Hp} {v : V} (h : RowT H v) (k : Tk H H') : RowT H' v := by
  obtain ⟨p, n, b, r, e, h1, h2⟩ := h
  exact ⟨p, n, b, r, e, k _ _ h1, h2.tk k⟩
theorem WRow.rowD {G : Sc} {H : Hp} {d n : Nat} {v : V} (h : WRow G H (d + 1) n v) : RowD H v := by
  obtain ⟨a, rfl, h⟩ := h
  rcases h with ⟨xs, h1, h2, h3⟩ | ⟨c, r1, r2, xs, ys, n1, n2, h1, _⟩ | ⟨c, r1, xs, n1, h1, _⟩ | ⟨x, r1, r2, xs, ys, n1, n2, h1, _⟩
  · cases h2 with
    | set hx hv => exact ⟨a, _, _, rfl, h1, fun e => by cases e⟩
    | push hl hv => exact ⟨a, _, _, rfl, h1, fun e => by cases e⟩
    | pop hx hl => exact ⟨a, _, _, rfl, h1, fun e => by cases e⟩
    | put hl hu hv => exact ⟨a, _, _, rfl, h1, fun e => by cases e⟩
    | ask hx hd => exact ⟨a, _, _, rfl, h1, fun _ => ⟨_, _, rfl, hd⟩⟩
    | tell hv => exact ⟨a, _, _, rfl, h1, fun e => by cases e⟩
    | fail hv => exact ⟨a, _, _, rfl, h1, fun e => by cases e⟩
    | call hx hf ha hv => exact ⟨a, _, _, rfl, h1, fun e => by cases e⟩
    | ret hi hv => exact ⟨a, _, _, rfl, h1, fun e => by cases e⟩
  · exact ⟨a, _, _, rfl, h1, fun e => by cases e⟩
  · exact ⟨a, _, _, rfl, h1, fun e => by cases e⟩
  · exact ⟨a, _, _, rfl, h1, fun e => by cases e⟩
/-- the rows at q stand within the row at p -/
def Child (H : Hp) (p q : Addr) : Prop := (∃ (c : V) (r1 r2 : Addr), H p = some (.tup [.str "if", c, .ref r1, .ref r2]) ∧ (q = r1 ∨ q = r2)) ∨ (∃ c : V, H p = some (.tup [.str "while", c, .ref q])) ∨
  ∃ (r1 : Addr) (x : Str) (r2 : Addr), H p = some (.tup [.str "try", .ref r1, .str x, .ref r2]) ∧ (q = r1 ∨ q = r2)
theorem Child.tk {H H' : Hp} {p q : Addr} (h : Child H p q) (k : Tk H H') : Child H' p q := by
  rcases h with ⟨c, r1, r2, h, e⟩ | ⟨c, h⟩ | ⟨r1, x, r2, h, e⟩
  · exact .inl ⟨c, r1, r2, k _ _ h, e⟩
  · exact .inr (.inl ⟨c, k _ _ h⟩)
  · exact .inr (.inr ⟨r1, x, r2, k _ _ h, e⟩)
theorem child_plain {H : Hp} {p q : Addr} {s : Str} {rest : List V} (h : H p = some (.tup (.str s :: rest))) (hs : s ∈ plainW) (c : Child H p q) : False := by
  obtain ⟨e1, e2, e3, _⟩ := plain_ne hs
  rcases c with ⟨c, r1, r2, h2, _⟩ | ⟨c, h2⟩ | ⟨r1, x, r2, h2, _⟩ <;> rw [h] at h2 <;> injection h2 with h2 <;> injection h2 with h2 <;> injection h2 with h2 _
  · exact e1 h2
  · exact e2 h2
  · exact e3 h2
theorem child_if {H : Hp} {p q r1 r2 : Addr} {c : V} (h : H p = some (.tup [.str "if", c, .ref r1, .ref r2])) (k : Child H p q) : q = r1 ∨ q = r2 := by
  rcases k with ⟨c', a, b, h2, e⟩ | ⟨c', h2⟩ | ⟨a, x, b, h2, e⟩ <;> rw [h] at h2
  · cases h2
    exact e
  · cases h2
  · cases h2
theorem child_while {H : Hp} {p q r1 : Addr} {c : V} (h : H p = some (.tup [.str "while", c, .ref r1])) (k : Child H p q) : q = r1 := by
  rcases k with ⟨c', a, b, h2, e⟩ | ⟨c', h2⟩ | ⟨a, x, b, h2, e⟩ <;> rw [h] at h2
  · cases h2
  · cases h2
    rfl
  · cases h2
theorem child_try {H : Hp} {p q r1 r2 : Addr} {x : Str} (h : H p = some (.tup [.str "try", .ref r1, .str x, .ref r2])) (k : Child H p q) : q = r1 ∨ q = r2 := by
  rcases k with ⟨c', a, b, h2, e⟩ | ⟨c', h2⟩ | ⟨a, x, b, h2, e⟩ <;> rw [h] at h2
  · cases h2
  · cases h2
  · cases h2
    exact e
/-- the row at r is one of the rows at a, or within one -/
inductive InRows (H : Hp) : Addr → Addr → Prop
  | here {a r : Addr} {xs : List V} (h : H a = some (.tup xs)) (hr : V.ref r ∈ xs) : InRows H a r
  | sub {a p q r : Addr} {xs : List V} (h : H a = some (.tup xs)) (hp : V.ref p ∈ xs) (c : Child H p q) (t : InRows H q r) : InRows H a r
theorem InRows.tk {H H' : Hp} (k : Tk H H') {a r : Addr} (h : InRows H a r) : InRows H' a r := by
  induction h with
  | here h hr => exact .here (k _ _ h) hr
  | sub h hp c _ ih => exact .sub (k _ _ h) hp (c.tk k) ih
theorem Child.back {H H' : Hp} (k : Tk H H') {p q : Addr} {xs : List V} (h : H p = some (.tup xs)) (c : Child H' p q) : Child H p q := by
  have e := k _ _ h
  rcases c with ⟨c, r1, r2, h2, e2⟩ | ⟨c, h2⟩ | ⟨r1, x, r2, h2, e2⟩ <;> rw [e] at h2 <;> cases h2
  · exact .inl ⟨c, r1, r2, h, e2⟩
  · exact .inr (.inl ⟨c, h⟩)
  · exact .inr (.inr ⟨r1, x, r2, h, e2⟩)
theorem WRow.child {G : Sc} {H : Hp} {d n : Nat} {p q : Addr} (h : WRow G H (d + 1) n (.ref p)) (c : Child H p q) : ∃ m, WRows G H d m q := by
  obtain ⟨a, e, h⟩ := h
  cases e
  rcases h with ⟨xs', h1, h2, h3⟩ | ⟨c', r1, r2, xs', ys, n1, n2, h1, hc, h3, h4, h5, h6, h7⟩ | ⟨c', r1, xs', n1, h1, hc, h3, h4, h5⟩ | ⟨x, r1, r2, xs', ys, n1, n2, h1, hx2, h3, h4, h5, h6, h7⟩
  · obtain ⟨s, rest, rfl, hs⟩ := h2.head
    exact (child_plain h1 hs c).elim
  · rcases child_if h1 c with rfl | rfl
    · exact ⟨n1, _, h3, h4⟩
    · exact ⟨n2, _, h5, h6⟩
  · rw [child_while h1 c]
    exact ⟨n1, _, h3, h4⟩
  · rcases child_try h1 c with rfl | rfl
    · exact ⟨n1, _, h3, h4⟩
    · exact ⟨n2, _, h5, h6⟩
theorem SumL.mem {R : Nat → V → Prop} : ∀ {n : Nat} {xs : List V} {x : V}, SumL R n xs → x ∈ xs → ∃ m, R m x
  | _, y :: ys, x, ⟨m, k, h1, h2, e⟩, hx => by
    rcases List.mem_cons.mp hx with rfl | hx
    · exact ⟨m, h1⟩
    · exact SumL.mem h2 hx
theorem InRows.back {G : Sc} {H H' : Hp} (k : Tk H H') : ∀ {d n : Nat} {a r : Addr}, WRows G H d n a → InRows H' a r → InRows H a r := by
  intro d
  induction d with
  | zero =>
    rintro n a r ⟨xs, h1, h2⟩ hr
    have e := k _ _ h1
    cases hr with
    | here h hm =>
      rw [e] at h
      cases h
      obtain ⟨m, hm⟩ := h2.mem hm
      exact hm.elim
    | sub h hp c t =>
      rw [e] at h
      cases h
      obtain ⟨m, hm⟩ := h2.mem hp
      exact hm.elim
  | succ d ih =>
    rintro n a r ⟨xs, h1, h2⟩ hr
    have e := k _ _ h1
    cases hr with
    | here h hm =>
      rw [e] at h
      cases h
      exact .here h1 hm
    | sub h hp c t =>
      rw [e] at h
      cases h
      obtain ⟨m, hm⟩ := h2.mem hp
      obtain ⟨a2, s2, rest2, e2, hrow, _⟩ := hm.rowD
      cases e2
      have c0 := c.back k hrow
      obtain ⟨m2, hq⟩ := hm.child c0
      exact .sub h1 hp c0 (ih hq t)
/-- the row at r was put down -/
def Listed (H : Hp) (ys : List V) (r : Addr) : Prop := ∃ (p : Addr) (n b : Int), V.ref p ∈ ys ∧ H p = some (.tup [.int n, .ref r, .int b])
theorem Listed.tk {H H' : Hp} {ys : List V} {r : Addr} (h : Listed H ys r) (k : Tk H H') : Listed H' ys r := by
  obtain ⟨p, n, b, h1, h2⟩ := h
  exact ⟨p, n, b, h1, k _ _ h2⟩
def spRwL : Sp := fun vs H Q _ => ∃ (v : V) (G : Sc) (d n : Nat), vs = [v] ∧ WRow G H (d + 1) n v ∧ ∀ H' q ws k, H q = none → Same H H' → H' q = some (.lst ws) → n = k + 1 → SumL (fun m x => WRowsV G H' d m x) k ws → (∀ p r, v = .ref p → Child H p r → V.ref r ∈ ws) → Q (.ref q) H'
def spRwT : Sp := fun vs H Q _ => ∃ (v : V) (G : Sc) (d n : Nat), vs = [v] ∧ WRow G H (d + 1) n v ∧ ∀ H' q r1 r2 n1 n2, Same H H' → H' q = some (.tup [.ref r1, .ref r2]) → n = n1 + n2 + 1 → WRows G H' d n1 r1 → WRows G H' d n2 r2 → (∀ p, v = .ref p → (Child H p r1 ∨ H' r1 = some (.tup [])) ∧ (Child H p r2 ∨ H' r2 = some (.tup []))) → Q (.ref q) H'
def spPut (d : Nat) : Sp := fun vs H Q _ => ∃ (a l : Addr) (ar : Int) (G : Sc) (n : Nat) (xs : List V), vs = [.ref a, .int ar, .ref l] ∧ WRows G H d n a ∧ H l = some (.lst xs) ∧ xs.length + n ≤ 4000 ∧ (∀ x ∈ xs, RowT H x) ∧
  ∀ H' ys, But l H H' → H' l = some (.lst ys) → ys.length = xs.length + n → (∀ y ∈ ys, RowT H' y) → (∀ x ∈ xs, x ∈ ys) → (∀ r, InRows H a r → Listed H' ys r) → Q .non H'
/-- the row at r is one of the program's -/
def InProg (H : Hp) (a r : Addr) : Prop := ∃ (pa ta fa ra : Addr), H a = some (.tup [.ref pa, .ref ta, .ref fa, .ref ra]) ∧ (InRows H ra r ∨ ∃ (us : List V) (p : Addr) (t pp po : V) (q : Addr), H fa = some (.tup us) ∧ V.ref p ∈ us ∧ H p = some (.tup [t, pp, po, .ref q]) ∧ InRows H q r)
def spRowsOf : Sp := fun vs H Q _ => ∃ (a : Addr) (I : PI), vs = [.ref a] ∧ WProg I H a ∧ I.fs.length ≤ 2 ∧ ∀ H' l xs, Same H H' → H l = none → H' l = some (.lst xs) → xs.length ≤ 4000 → (∀ x ∈ xs, RowT H' x) → (∀ r, InProg H a r → Listed H' xs r) → Q (.ref l) H'
section
variable {P : Program} {w : World} {K : PySem.W.Frag} {mg : Str → Option Value} {base : Heap}
theorem ok_rwL (T : Txt K mg) : OkC P w K mg base CX0 1 (He.ga K "rows_within_numbers") ["row"] spRwL := by
  refine okC T.f_rows_within_numbers sc_rows_within_numbers (fun fd F => F.bindsN fun _ _ _ _ _ _ us hl => match us, hl with | [_], _ => rfl) (fun vs H Q E h => ?_) (fun cdv A outer s H vs Q E hr h => ?_)
  · obtain ⟨v, G, d, n, rfl, _⟩ := h
    rfl
  · obtain ⟨v, G, d, n, rfl, hW, k⟩ := h
    refine ⟨_, (pss_cons
 (ps_if (pt_cmpR op_eq (pe_ix ix_tup (pv 0) pe_int (fun _ _ => rfl)) pe_str (nomark _)) (pss_one
 (ps_ret (pe_lst (pa_cons (pe_ix ix_tup (pv 0) pe_int (fun _ _ => rfl)) (pa_cons (pe_ix ix_tup (pv 0) pe_int (fun _ _ => rfl)) pa_nil))))) pss_nil) (pss_cons
 (ps_if (pt_cmpR op_eq (pe_ix ix_tup (pv 0) pe_int (fun _ _ => rfl)) pe_str (nomark _)) (pss_one
 (ps_ret (pe_lst (pa_cons (pe_ix ix_tup (pv 0) pe_int (fun _ _ => rfl)) pa_nil)))) pss_nil) (pss_cons
 (ps_if (pt_cmpR op_eq (pe_ix ix_tup (pv 0) pe_int (fun _ _ => rfl)) pe_str (nomark _)) (pss_one
 (ps_ret (pe_lst (pa_cons (pe_ix ix_tup (pv 0) pe_int (fun _ _ => rfl)) (pa_cons (pe_ix ix_tup (pv 0) pe_int (fun _ _ => rfl)) pa_nil))))) pss_nil) (pss_one
 (ps_ret (pe_lst pa_nil)))))), ?_⟩
    obtain ⟨a, rfl, hW⟩ := hW
    rcases hW with ⟨xs', h1, h2, h3⟩ | ⟨c, r1, r2, xs', ys, n1, n2, h1, hc, h3, h4, h5, h6, h7⟩ | ⟨c, r1, xs', n1, h1, hc, h3, h4, h5⟩ | ⟨x, r1, r2, xs', ys, n1, n2, h1, hx2, h3, h4, h5, h6, h7⟩
    · obtain ⟨s, rest, rfl, hs⟩ := h2.head
      obtain ⟨e1, e2, e3, _⟩ := plain_ne hs
      refine ⟨_, rfl, a, _, _, _, rfl, rfl, SqT.of h1, at0, rfl, _, rfl, ite2 (nodec (A := True) e1) fun _ => ?_⟩
      refine ⟨_, rfl, a, _, _, _, rfl, rfl, SqT.of h1, at0, rfl, _, rfl, ite2 (nodec (A := True) e2) fun _ => ?_⟩
      refine ⟨_, rfl, a, _, _, _, rfl, rfl, SqT.of h1, at0, rfl, _, rfl, ite2 (nodec (A := True) e3) fun _ => ?_⟩
      exact ⟨Nat.zero_le _, fun q hq => k _ q [] 0 hq (same_new hq) upd_same h3 rfl (fun p r e c => by cases e; exact (child_plain h1 hs c).elim)⟩
    · refine ⟨_, rfl, a, _, _, _, rfl, rfl, SqT.of h1, at0, rfl, _, rfl, ite2 (fun _ => ?_) isdec⟩
      refine ⟨_, rfl, a, _, _, _, rfl, rfl, SqT.of h1, rfl, _, rfl, a, _, _, _, rfl, rfl, SqT.of h1, rfl, szn (by decide : 2 ≤ 1000), fun q hq => ?_⟩
      have z := same_new (o := .lst [.ref r1, .ref r2]) hq
      have K8 := same_tk z
      exact k _ q _ (n1 + n2) hq z upd_same h7 ⟨n1, n2, ⟨r1, rfl, _, K8 _ _ h3, h4.imp fun _ _ q => WRow.tk K8 q⟩, ⟨n2, 0, ⟨r2, rfl, _, K8 _ _ h5, h6.imp fun _ _ q => WRow.tk K8 q⟩, rfl, rfl⟩, rfl⟩ (fun p r e c => by cases e; rcases child_if h1 c with rfl | rfl <;> simp)
    · refine ⟨_, rfl, a, _, _, _, rfl, rfl, SqT.of h1, at0, rfl, _, rfl, ite2 (nodec (A := True) (by decide)) fun _ => ?_⟩
      refine ⟨_, rfl, a, _, _, _, rfl, rfl, SqT.of h1, at0, rfl, _, rfl, ite2 (fun _ => ?_) isdec⟩
      refine ⟨_, rfl, a, _, _, _, rfl, rfl, SqT.of h1, rfl, szn (by decide : 1 ≤ 1000), fun q hq => ?_⟩
      have z := same_new (o := .lst [.ref r1]) hq
      have K8 := same_tk z
      exact k _ q _ n1 hq z upd_same h5 ⟨n1, 0, ⟨r1, rfl, _, K8 _ _ h3, h4.imp fun _ _ q => WRow.tk K8 q⟩, rfl, rfl⟩ (fun p r e c => by cases e; rw [child_while h1 c]; simp)
    · refine ⟨_, rfl, a, _, _, _, rfl, rfl, SqT.of h1, at0, rfl, _, rfl, ite2 (nodec (A := True) (by decide)) fun _ => ?_⟩
      refine ⟨_, rfl, a, _, _, _, rfl, rfl, SqT.of h1, at0, rfl, _, rfl, ite2 (nodec (A := True) (by decide)) fun _ => ?_⟩
      refine ⟨_, rfl, a, _, _, _, rfl, rfl, SqT.of h1, at0, rfl, _, rfl, ite2 (fun _ => ?_) isdec⟩
      refine ⟨_, rfl, a, _, _, _, rfl, rfl, SqT.of h1, rfl, _, rfl, a, _, _, _, rfl, rfl, SqT.of h1, rfl, szn (by decide : 2 ≤ 1000), fun q hq => ?_⟩
      have z := same_new (o := .lst [.ref r1, .ref r2]) hq
      have K8 := same_tk z
      exact k _ q _ (n1 + n2) hq z upd_same h7 ⟨n1, n2, ⟨r1, rfl, _, K8 _ _ h3, h4.imp fun _ _ q => WRow.tk K8 q⟩, ⟨n2, 0, ⟨r2, rfl, _, K8 _ _ h5, h6.imp fun _ _ q => WRow.tk K8 q⟩, rfl, rfl⟩, rfl⟩ (fun p r e c => by cases e; rcases child_try h1 c with rfl | rfl <;> simp)
theorem ok_rwT (T : Txt K mg) : OkC P w K mg base CX0 1 (He.ga K "rows_within_nodes") ["row"] spRwT := by
  refine okC T.f_rows_within_nodes sc_rows_within_nodes (fun fd F => F.bindsN fun _ _ _ _ _ _ us hl => match us, hl with | [_], _ => rfl) (fun vs H Q E h => ?_) (fun cdv A outer s H vs Q E hr h => ?_)
  · obtain ⟨v, G, d, n, rfl, _⟩ := h
    rfl
  · obtain ⟨v, G, d, n, rfl, hW, k⟩ := h
    refine ⟨_, (pss_cons
 (ps_if (pt_cmpR op_eq (pe_ix ix_tup (pv 0) pe_int (fun _ _ => rfl)) pe_str (nomark _)) (pss_one
 (ps_ret (pe_tup (pa_cons (pe_ix ix_tup (pv 0) pe_int (fun _ _ => rfl)) (pa_cons (pe_ix ix_tup (pv 0) pe_int (fun _ _ => rfl)) pa_nil))))) pss_nil) (pss_cons
 (ps_if (pt_cmpR op_eq (pe_ix ix_tup (pv 0) pe_int (fun _ _ => rfl)) pe_str (nomark _)) (pss_one
 (ps_ret (pe_tup (pa_cons (pe_ix ix_tup (pv 0) pe_int (fun _ _ => rfl)) (pa_cons (pe_tup pa_nil) pa_nil))))) pss_nil) (pss_cons
 (ps_if (pt_cmpR op_eq (pe_ix ix_tup (pv 0) pe_int (fun _ _ => rfl)) pe_str (nomark _)) (pss_one
 (ps_ret (pe_tup (pa_cons (pe_ix ix_tup (pv 0) pe_int (fun _ _ => rfl)) (pa_cons (pe_ix ix_tup (pv 0) pe_int (fun _ _ => rfl)) pa_nil))))) pss_nil) (pss_one
 (ps_ret (pe_tup (pa_cons (pe_tup pa_nil) (pa_cons (pe_tup pa_nil) pa_nil)))))))), ?_⟩
    obtain ⟨a, rfl, hW⟩ := hW
    rcases hW with ⟨xs', h1, h2, h3⟩ | ⟨c, r1, r2, xs', ys, n1, n2, h1, hc, h3, h4, h5, h6, h7⟩ | ⟨c, r1, xs', n1, h1, hc, h3, h4, h5⟩ | ⟨x, r1, r2, xs', ys, n1, n2, h1, hx2, h3, h4, h5, h6, h7⟩
    · obtain ⟨s, rest, rfl, hs⟩ := h2.head
      obtain ⟨e1, e2, e3, _⟩ := plain_ne hs
      refine ⟨_, rfl, a, _, _, _, rfl, rfl, SqT.of h1, at0, rfl, _, rfl, ite2 (nodec (A := True) e1) fun _ => ?_⟩
      refine ⟨_, rfl, a, _, _, _, rfl, rfl, SqT.of h1, at0, rfl, _, rfl, ite2 (nodec (A := True) e2) fun _ => ?_⟩
      refine ⟨_, rfl, a, _, _, _, rfl, rfl, SqT.of h1, at0, rfl, _, rfl, ite2 (nodec (A := True) e3) fun _ => ?_⟩
      refine ⟨Nat.zero_le _, fun p1 hp1 => ⟨Nat.zero_le _, fun p2 hp2 => ⟨szn (by decide : 2 ≤ 1000), fun q hq => ?_⟩⟩⟩
      have z1 := same_new (o := .tup []) hp1
      have z2 := same_new (o := .tup []) hp2
      have z3 := same_new (o := .tup [.ref p1, .ref p2]) hq
      exact k _ q p1 p2 0 0 ((z1.trans z2).trans z3) upd_same h3 ⟨[], z3 _ _ (z2 _ _ upd_same), rfl⟩ ⟨[], z3 _ _ upd_same, rfl⟩ (fun _ _ => ⟨.inr (z3 _ _ (z2 _ _ upd_same)), .inr (z3 _ _ upd_same)⟩)
    · refine ⟨_, rfl, a, _, _, _, rfl, rfl, SqT.of h1, at0, rfl, _, rfl, ite2 (fun _ => ?_) isdec⟩
      refine ⟨_, rfl, a, _, _, _, rfl, rfl, SqT.of h1, rfl, _, rfl, a, _, _, _, rfl, rfl, SqT.of h1, rfl, szn (by decide : 2 ≤ 1000), fun q hq => ?_⟩
      have z := same_new (o := .tup [.ref r1, .ref r2]) hq
      have K8 := same_tk z
      exact k _ q r1 r2 n1 n2 z upd_same h7 ⟨_, K8 _ _ h3, h4.imp fun _ _ q => WRow.tk K8 q⟩ ⟨_, K8 _ _ h5, h6.imp fun _ _ q => WRow.tk K8 q⟩ (fun p e => by cases e; exact ⟨.inl (.inl ⟨_, _, _, h1, .inl rfl⟩), .inl (.inl ⟨_, _, _, h1, .inr rfl⟩)⟩)
    · refine ⟨_, rfl, a, _, _, _, rfl, rfl, SqT.of h1, at0, rfl, _, rfl, ite2 (nodec (A := True) (by decide)) fun _ => ?_⟩
      refine ⟨_, rfl, a, _, _, _, rfl, rfl, SqT.of h1, at0, rfl, _, rfl, ite2 (fun _ => ?_) isdec⟩
      refine ⟨_, rfl, a, _, _, _, rfl, rfl, SqT.of h1, rfl, Nat.zero_le _, fun p1 hp1 => ⟨szn (by decide : 2 ≤ 1000), fun q hq => ?_⟩⟩
      have z1 := same_new (o := .tup []) hp1
      have z2 := same_new (o := .tup [.ref r1, .ref p1]) hq
      have z := z1.trans z2
      have K8 := same_tk z
      exact k _ q r1 p1 n1 0 z upd_same h5 ⟨_, K8 _ _ h3, h4.imp fun _ _ q => WRow.tk K8 q⟩ ⟨[], z2 _ _ upd_same, rfl⟩ (fun p e => by cases e; exact ⟨.inl (.inr (.inl ⟨_, h1⟩)), .inr (z2 _ _ upd_same)⟩)
    · refine ⟨_, rfl, a, _, _, _, rfl, rfl, SqT.of h1, at0, rfl, _, rfl, ite2 (nodec (A := True) (by decide)) fun _ => ?_⟩
      refine ⟨_, rfl, a, _, _, _, rfl, rfl, SqT.of h1, at0, rfl, _, rfl, ite2 (nodec (A := True) (by decide)) fun _ => ?_⟩
      refine ⟨_, rfl, a, _, _, _, rfl, rfl, SqT.of h1, at0, rfl, _, rfl, ite2 (fun _ => ?_) isdec⟩
      refine ⟨_, rfl, a, _, _, _, rfl, rfl, SqT.of h1, rfl, _, rfl, a, _, _, _, rfl, rfl, SqT.of h1, rfl, szn (by decide : 2 ≤ 1000), fun q hq => ?_⟩
      have z := same_new (o := .tup [.ref r1, .ref r2]) hq
      have K8 := same_tk z
      exact k _ q r1 r2 n1 n2 z upd_same h7 ⟨_, K8 _ _ h3, h4.imp fun _ _ q => WRow.tk K8 q⟩ ⟨_, K8 _ _ h5, h6.imp fun _ _ q => WRow.tk K8 q⟩ (fun p e => by cases e; exact ⟨.inl (.inr (.inr ⟨_, _, _, h1, .inl rfl⟩)), .inl (.inr (.inr ⟨_, _, _, h1, .inr rfl⟩))⟩)
theorem put_step (T : Txt K mg) (d kk : Nat) (hkk : 1 ≤ kk) (G_put_rows : OkC P w K mg base CX0 (kk + 1) (He.ga K "put_rows") ["rows", "around", "found"] (fun vs H Q E => 1 ≤ d ∧ spPut (d - 1) vs H Q E)) :
    OkC P w K mg base CX0 (kk + 2) (He.ga K "put_rows") ["rows", "around", "found"] (spPut d) := by
  have G_rows_within_numbers := ok_rwL (P := P) (w := w) (base := base) T
  refine okC T.f_put_rows sc_put_rows (fun fd F => F.bindsN fun _ _ _ _ _ _ us hl => match us, hl with | [_, _, _], _ => rfl) (fun vs H Q E h => ?_) (fun cdv A outer s H vs Q E hr h => ?_)
  · obtain ⟨a, l, ar, G, n, xs, rfl, _⟩ := h
    rfl
  · obtain ⟨a, l, ar, G, n, xs, rfl, ⟨rs, hrs, hsum⟩, hl, hz, hxT, k⟩ := h
    refine ⟨_, (pss_one
 (ps_for PassesOwn.never rfl (pi_tup (pv 0)) (pg_name (i := 3) sc_put_rows.nd rfl (by first | exact Or.inl rfl | exact Or.inr rfl)) (pss_cons
 (ps_set (i := 4) sc_put_rows.nd rfl (by first | exact Or.inl rfl | exact Or.inr rfl) (pe_callB call_len_seq (by rfl) T.b_len (by decide +kernel) (pa_cons (pv 2) pa_nil))) (pss_cons
 (ps_expr (pe_bm PySem.F.plainAttrs_list PySem.F.slot_list_append PySem.F.type_list_append mt_append (pv 2) (pa_cons (pe_tup (pa_cons (pv 4) (pa_cons (pv 3) (pa_cons (pv 1) pa_nil)))) pa_nil))) (pss_one
 (ps_for PassesOwn.never rfl (pi_list (ce_call G_rows_within_numbers (hr.mono (by omega)) T.g_rows_within_numbers T.p_rows_within_numbers pass0 (pa_cons (pv 3) pa_nil))) (pg_name (i := 5) sc_put_rows.nd rfl (by first | exact Or.inl rfl | exact Or.inr rfl)) (pss_one
 (ps_expr (ce_call G_put_rows (hr.mono (by omega)) T.g_put_rows T.p_put_rows pass0 (pa_cons (pv 5) (pa_cons (pv 4) (pa_cons (pv 2) pa_nil)))))))))))), ?_⟩
    have hT : ∀ H', But l H H' → Tk H H' := fun H' B b zs e => B b _ (ne_of e hl (by intro z; cases z)) e
    refine ⟨_, rfl, a, rfl, ⟨_, SqT.of hrs⟩, for_tup (xs := rs) (fun i σ H' => ∃ (o3 o4 o5 : Option V) (ys : List V) (m : Nat), σ = [some (.ref a), some (.int ar), some (.ref l), o3, o4, o5] ∧ But l H H' ∧ H' l = some (.lst ys) ∧ (∀ y ∈ ys, RowT H' y) ∧ SumL (fun m x => WRow G H d m x) m (rs.drop i) ∧ ys.length + m = xs.length + n ∧
      (∀ x ∈ xs, x ∈ ys) ∧ ∀ (j : Nat) (p : Addr), j < i → rs[j]? = some (.ref p) → ∀ r, (r = p ∨ ∃ q, Child H p q ∧ InRows H q r) → Listed H' ys r) ?_ ?_ ?_ ?_⟩
    · exact ⟨none, none, none, xs, n, rfl, But.refl, hl, hxT, hsum, rfl, (fun x hx => hx), fun j p hj => by omega⟩
    · rintro i σ H' _ ⟨o3, o4, o5, ys, m, rfl, B, _⟩
      exact SqT.of (hT _ B _ _ hrs)
    · rintro i v σ H2 hv ⟨o3, o4, o5, ys, m, rfl, B2, l2, hyT, hm, hlen, hxy, hLi⟩
      obtain ⟨m1, m2, hw, hm2, rfl⟩ := hm.at hv
      have hpos := WRow.pos hw
      obtain ⟨d, rfl⟩ : ∃ d', d = d' + 1 := by
        cases d with
        | zero => exact hw.elim
        | succ d => exact ⟨d, rfl⟩
      have hw2 := WRow.tk (hT _ B2) hw
      obtain ⟨r0, rfl⟩ := WRow.ref hw
      refine ⟨_, rfl, l, _, rfl, .inl (SqL.of l2), ?_⟩
      refine ⟨_, rfl, .inl ⟨rfl, _, SqL.of l2⟩, _, rfl, _, rfl, _, rfl, szn (by decide : 3 ≤ 1000), fun p hp => ?_⟩
      refine ⟨l, _, _, rfl, rfl, same_new hp _ _ l2, by rw [sizeLine_eq]; omega, ?_⟩
      have z1 := same_new (o := .tup [.int (ys.length : Nat), .ref r0, .int ar]) hp
      have up : ∀ c zs, upd H2 p (.tup [.int (ys.length : Nat), .ref r0, .int ar]) c = some (.tup zs) → upd (upd H2 p (.tup [.int (ys.length : Nat), .ref r0, .int ar])) l (.lst (ys ++ [.ref p])) c = some (.tup zs) := fun c zs e => by
        rw [upd_ne (ne_of e (z1 _ _ l2) (by intro z; cases z))]
        exact e
      have K3' : Tk H2 (upd (upd H2 p (.tup [.int (ys.length : Nat), .ref r0, .int ar])) l (.lst (ys ++ [.ref p]))) := fun c zs e => up c zs (z1 _ _ e)
      have ptup := up p _ (upd_same (H := H2) (a := p) (o := .tup [.int (ys.length : Nat), .ref r0, .int ar]))
      have B3 := (B2.trans (But.new hp)).trans (fun b o hb e => by rw [upd_ne hb]; exact e : But l _ (upd (upd H2 p (.tup [.int (ys.length : Nat), .ref r0, .int ar])) l (.lst (ys ++ [.ref p]))))
      have l3 : upd (upd H2 p (.tup [.int (ys.length : Nat), .ref r0, .int ar])) l (.lst (ys ++ [.ref p])) l = some (.lst (ys ++ [.ref p])) := upd_same
      generalize upd (upd H2 p (.tup [.int (ys.length : Nat), .ref r0, .int ar])) l (.lst (ys ++ [.ref p])) = H3 at B3 l3 K3' ptup ⊢
      have hw3 := WRow.tk (hT _ B3) hw
      have hyT3 : ∀ y ∈ ys ++ [.ref p], RowT H3 y := fun y hy => by
        rcases List.mem_append.mp hy with hy | hy
        · exact (hyT y hy).tk K3'
        · have e : y = .ref p := by simpa using hy
          rw [e]
          exact ⟨p, _, _, .ref r0, rfl, ptup, hw3.rowD⟩
      refine ⟨_, rfl, .ref r0, G, d, m1, rfl, hw3, fun H4 q ws k1 hqn s4 hq e1 hws hch => ?_⟩
      have l4 := s4 _ _ l3
      have B4 := B3.trans (r := l) (fun b o _ e => s4 b o e)
      have nql : q ≠ l := Ne.symm (ne_of_none l3 hqn)
      refine ⟨q, rfl, ⟨_, SqL.of hq⟩, for_list (xs := ws) (fun i σ H' => ∃ (o5 : Option V) (zs : List V) (m : Nat), σ = [some (.ref a), some (.int ar), some (.ref l), some (.ref r0), some (.int (ys.length : Nat)), o5] ∧ But l H4 H' ∧ H' l = some (.lst zs) ∧ (∀ y ∈ zs, RowT H' y) ∧ SumL (fun m x => WRowsV G H4 d m x) m (ws.drop i) ∧ zs.length + m = ys.length + 1 + k1 ∧
        (∀ x ∈ ys ++ [.ref p], x ∈ zs) ∧ ∀ (j : Nat) (b : Addr), j < i → ws[j]? = some (.ref b) → ∀ r, InRows H4 b r → Listed H' zs r) ?_ ?_ ?_ ?_⟩
      · exact ⟨o5, ys ++ [.ref p], k1, rfl, But.refl, l4, fun y hy => (hyT3 y hy).tk (same_tk s4), hws, by rw [List.length_append]; rfl, (fun x hx => hx), fun j b hj => by omega⟩
      · rintro i σ H' _ ⟨o5, zs, m, rfl, B, _⟩
        exact SqL.of (B _ _ nql hq)
      · rintro i u σ H5 hu ⟨o5, zs, m, rfl, B5, l5, hzT, hm5, hlen5, hyz, hLz⟩
        obtain ⟨n1, n2, ⟨b, rfl, hb⟩, hn2, rfl⟩ := hm5.at hu
        have t45 : Tk H4 H5 := fun b zs e => B5 b _ (ne_of e l4 (by intro z; cases z)) e
        have hb5 : WRows G H5 d n1 b := hb.tk t45
        refine ⟨_, rfl, _, rfl, _, rfl, Nat.le_add_left 1 d, b, l, _, G, n1, _, rfl, hb5, l5, by omega, hzT, fun H6 us B6 l6 hus huT hzu hLu => ?_⟩
        have t56 : Tk H5 H6 := fun b zs e => B6 b _ (ne_of e l5 (by intro z; cases z)) e
        refine ⟨_, us, n2, rfl, B5.trans B6, l6, huT, hn2, by omega, fun x hx => hzu x (hyz x hx), fun j c hj hc r hr => ?_⟩
        rcases Nat.lt_succ_iff_lt_or_eq.mp hj with hj | hj
        · obtain ⟨p', n', b', h1, h2⟩ := hLz j c hj hc r hr
          exact ⟨p', n', b', hzu _ h1, t56 _ _ h2⟩
        · subst hj
          rw [hu] at hc
          cases hc
          exact hLu r (hr.tk t45)
      · rintro σ H5 ⟨o5, zs, m, rfl, B5, l5, hzT, hm5, hlen5, hyz, hLz⟩
        have em := SumL.done hm5
        have t45 : Tk H4 H5 := fun b zs e => B5 b _ (ne_of e l4 (by intro z; cases z)) e
        have t04 : Tk H H4 := hT _ B4
        refine ⟨_, _, _, zs, m2, rfl, B4.trans B5, l5, hzT, hm2, by omega, fun x hx => hyz x (List.mem_append_left _ (hxy x hx)), fun j c hj hc r hr => ?_⟩
        rcases Nat.lt_succ_iff_lt_or_eq.mp hj with hj | hj
        · obtain ⟨p', n', b', h1, h2⟩ := hLi j c hj hc r hr
          exact ⟨p', n', b', hyz _ (List.mem_append_left _ h1), t45 _ _ (same_tk s4 _ _ (K3' _ _ h2))⟩
        · subst hj
          rw [hv] at hc
          cases hc
          rcases hr with rfl | ⟨q', hc', hr⟩
          · exact ⟨p, _, _, hyz _ (by simp), t45 _ _ (same_tk s4 _ _ ptup)⟩
          · have hm := hch r0 q' rfl (hc'.tk (hT _ B3))
            obtain ⟨j', hj', ej'⟩ := List.mem_iff_getElem.mp hm
            exact hLz j' q' hj' (by rw [List.getElem?_eq_getElem hj', ej']) r (hr.tk t04)
    · rintro σ H2 ⟨o3, o4, o5, ys, m, rfl, B2, l2, hyT, hm, hlen, hxy, hLi⟩
      have em := SumL.done hm
      refine k H2 ys B2 l2 (by omega) hyT hxy fun r hr => ?_
      cases hr with
      | here h hr =>
        cases HO.tup.inj (Option.some.inj (h.symm.trans hrs))
        obtain ⟨j', hj', ej'⟩ := List.mem_iff_getElem.mp hr
        exact hLi j' r hj' (by rw [List.getElem?_eq_getElem hj', ej']) r (.inl rfl)
      | sub h hp c t =>
        cases HO.tup.inj (Option.some.inj (h.symm.trans hrs))
        obtain ⟨j', hj', ej'⟩ := List.mem_iff_getElem.mp hp
        exact hLi j' _ hj' (by rw [List.getElem?_eq_getElem hj', ej']) r (.inr ⟨_, c, t⟩)
theorem ok_put (T : Txt K mg) : ∀ d : Nat, OkC P w K mg base CX0 (d + 3) (He.ga K "put_rows") ["rows", "around", "found"] (spPut d)
  | 0 => put_step T 0 1 (Nat.le_refl _) (by
      obtain ⟨fd, F⟩ := T.f_put_rows
      refine ⟨fd, ⟨fun vs H Q E h => absurd h.1 (by decide), fun A outer s H args us vs Q E _ _ _ _ h => absurd h.1 (by decide)⟩, F.bindsN fun _ _ _ _ _ _ us hl => match us, hl with | [_, _, _], _ => rfl⟩)
  | d + 1 => put_step T (d + 1) (d + 2) (by omega) ((ok_put T d).imp fun vs H Q E h => h.2)
theorem ok_rows_of (T : Txt K mg) : OkC P w K mg base CX0 8 (He.ga K "rows_of") ["program"] spRowsOf := by
  have G_put_rows := ok_put (P := P) (w := w) (base := base) T 4
  refine okC T.f_rows_of sc_rows_of (fun fd F => F.bindsN fun _ _ _ _ _ _ us hl => match us, hl with | [_], _ => rfl) (fun vs H Q E h => ?_) (fun cdv A outer s H vs Q E hr h => ?_)
  · obtain ⟨a, I, rfl, _⟩ := h
    rfl
  · obtain ⟨a, I, rfl, hW, hfl, k⟩ := h
    obtain ⟨pa, ta, fa, ra, ps, ts, us, n, h1, h2, h3, h4, h5, h6, h7, h8, h9⟩ := hW.ex
    refine ⟨_, (pss_cons
 (ps_set (i := 1) sc_rows_of.nd rfl (by first | exact Or.inl rfl | exact Or.inr rfl) (pe_lst pa_nil)) (pss_cons
 (ps_for PassesOwn.never rfl (pi_tup (pe_ix ix_tup (pv 0) pe_int (fun _ _ => rfl))) (pg_name (i := 2) sc_rows_of.nd rfl (by first | exact Or.inl rfl | exact Or.inr rfl)) (pss_cons
 (ps_set (i := 3) sc_rows_of.nd rfl (by first | exact Or.inl rfl | exact Or.inr rfl) (pe_callB call_len_seq (by rfl) T.b_len (by decide +kernel) (pa_cons (pv 1) pa_nil))) (pss_cons
 (ps_expr (pe_bm PySem.F.plainAttrs_list PySem.F.slot_list_append PySem.F.type_list_append mt_append (pv 1) (pa_cons (pe_tup (pa_cons (pv 3) (pa_cons (pe_tup (pa_cons pe_str (pa_cons (pe_ix ix_tup (pv 2) pe_int (fun _ _ => rfl)) pa_nil))) (pa_cons (pe_un un_neg pe_int) pa_nil)))) pa_nil))) (pss_one
 (ps_expr (ce_call G_put_rows (hr.mono (by omega)) T.g_put_rows T.p_put_rows pass0 (pa_cons (pe_ix ix_tup (pv 2) pe_int (fun _ _ => rfl)) (pa_cons (pv 3) (pa_cons (pv 1) pa_nil))))))))) (pss_cons
 (ps_expr (ce_call G_put_rows (hr.mono (by omega)) T.g_put_rows T.p_put_rows pass0 (pa_cons (pe_ix ix_tup (pv 0) pe_int (fun _ _ => rfl)) (pa_cons (pe_un un_neg pe_int) (pa_cons (pv 1) pa_nil))))) (pss_one
 (ps_ret (pv 1)))))), ?_⟩
    refine ⟨Nat.zero_le _, fun l hl => ?_⟩
    have s1 := same_new (o := .lst []) hl
    have l1 : upd H l (.lst []) l = some (.lst []) := upd_same
    generalize upd H l (.lst []) = H1 at s1 l1 ⊢
    have hul := h7.len
    refine ⟨_, rfl, a, _, _, _, rfl, rfl, SqT.of (s1 _ _ h1), rfl, fa, rfl, ⟨_, SqT.of (s1 _ _ h6)⟩, for_tup (xs := us) (fun i σ H' => ∃ (o2 o3 : Option V) (xs : List V), σ = [some (.ref a), some (.ref l), o2, o3] ∧ But l H1 H' ∧ H' l = some (.lst xs) ∧ (∀ x ∈ xs, RowT H' x) ∧ xs.length ≤ 901 * i ∧ ∀ (j : Nat) (p : Addr) (t pp po : V) (q : Addr), j < i → us[j]? = some (.ref p) → H p = some (.tup [t, pp, po, .ref q]) → ∀ r, InRows H q r → Listed H' xs r) ?_ ?_ ?_ ?_⟩
    · exact ⟨none, none, [], rfl, But.refl, l1, (fun x hx => by cases hx), Nat.le_refl _, fun j p t pp po q hj => by omega⟩
    · rintro i σ H' _ ⟨o2, o3, xs, rfl, B, _⟩
      exact SqT.of (B _ _ (ne_of (s1 _ _ h6) l1 (by intro z; cases z)) (s1 _ _ h6))
    · rintro i v σ H2 hv ⟨o2, o3, xs, rfl, B2, l2, hxT, hxs, hLx⟩
      have hi := (List.getElem?_eq_some_iff.mp hv).1
      have K2 : Tk H H2 := fun b zs e => B2 b _ (ne_of (s1 _ _ e) l1 (by intro z; cases z)) (s1 _ _ e)
      obtain ⟨p, pp, po, pr, m, rfl, e1, e2, e3, e4, e5⟩ := h7.get (List.getElem?_eq_getElem (show i < I.fs.length by omega)) hv
      refine ⟨_, rfl, l, _, rfl, .inl (SqL.of l2), ?_⟩
      refine ⟨_, rfl, .inl ⟨rfl, _, SqL.of l2⟩, _, rfl, _, rfl, p, _, _, _, rfl, rfl, SqT.of (K2 _ _ e1), rfl, szn (by decide : 2 ≤ 1000), fun q hq => ⟨_, rfl, szn (by decide : 3 ≤ 1000), fun q2 hq2 => ?_⟩⟩
      have s3a := same_new (o := .tup [.str "def", .str I.fs[i].1]) hq
      have s3b := same_new (o := .tup [.int (xs.length : Nat), .ref q, .int (-1)]) hq2
      have s3 := s3a.trans s3b
      have hxl : xs.length ≤ 901 := by
        have : i ≤ 1 := by omega
        have e := Nat.mul_le_mul_left 901 this
        omega
      have l3 := s3 _ _ l2
      refine ⟨l, _, _, rfl, rfl, l3, by rw [sizeLine_eq]; omega, ?_⟩
      have up : ∀ c zs, upd (upd H2 q (.tup [.str "def", .str I.fs[i].1])) q2 (.tup [.int (xs.length : Nat), .ref q, .int (-1)]) c = some (.tup zs) → upd (upd (upd H2 q (.tup [.str "def", .str I.fs[i].1])) q2 (.tup [.int (xs.length : Nat), .ref q, .int (-1)])) l (.lst (xs ++ [.ref q2])) c = some (.tup zs) := fun c zs e => by
        rw [upd_ne (ne_of e l3 (by intro z; cases z))]
        exact e
      have B3 := B2.trans (r := l) (H2 := upd (upd (upd H2 q (.tup [.str "def", .str I.fs[i].1])) q2 (.tup [.int (xs.length : Nat), .ref q, .int (-1)])) l (.lst (xs ++ [.ref q2]))) fun b o hb e => by rw [upd_ne hb]; exact s3 _ _ e
      have K3 : Tk H _ := fun b zs e => B3 b _ (ne_of (s1 _ _ e) l1 (by intro z; cases z)) (s1 _ _ e)
      have K23 : Tk H2 _ := fun b zs e => up b zs (s3 _ _ e)
      have hxT3 : ∀ x ∈ xs ++ [.ref q2], RowT (upd (upd (upd H2 q (.tup [.str "def", .str I.fs[i].1])) q2 (.tup [.int (xs.length : Nat), .ref q, .int (-1)])) l (.lst (xs ++ [.ref q2]))) x := fun x hx => by
        rcases List.mem_append.mp hx with hx | hx
        · exact (hxT x hx).tk K23
        · have e : x = .ref q2 := by simpa using hx
          rw [e]
          exact ⟨q2, _, _, .ref q, rfl, up _ _ upd_same, q, _, _, rfl, up _ _ (s3b _ _ upd_same), fun e => by cases e⟩
      refine ⟨_, rfl, p, _, _, _, rfl, rfl, SqT.of (K3 _ _ e1), rfl, _, rfl, _, rfl, pr, l, _, _, m, _, rfl, e4.tk K3, upd_same, by rw [List.length_append, List.length_singleton]; omega, hxT3, fun H4 ys B4 l4 hy hyT hxy hLy => ?_⟩
      refine ⟨_, _, ys, rfl, B3.trans B4, l4, hyT, ?_, fun j p' t pp' po' q' hj hc he r hr => ?_⟩
      · rw [hy, List.length_append, List.length_singleton]
        omega
      · have t34 : Tk _ H4 := fun b zs e => B4 b _ (ne_of e upd_same (by intro z; cases z)) e
        rcases Nat.lt_succ_iff_lt_or_eq.mp hj with hj | hj
        · obtain ⟨p2, n2, b2, g1, g2⟩ := hLx j p' t pp' po' q' hj hc he r hr
          exact ⟨p2, n2, b2, hxy _ (List.mem_append_left _ g1), t34 _ _ (K23 _ _ g2)⟩
        · subst hj
          rw [hv] at hc
          cases hc
          rw [e1] at he
          cases he
          exact hLy r (hr.tk K3)
    · rintro σ H2 ⟨o2, o3, xs, rfl, B2, l2, hxT, hxs, hLx⟩
      have K2 : Tk H H2 := fun b zs e => B2 b _ (ne_of (s1 _ _ e) l1 (by intro z; cases z)) (s1 _ _ e)
      have hxl : xs.length ≤ 1802 := by
        have : us.length ≤ 2 := by omega
        have e := Nat.mul_le_mul_left 901 this
        omega
      refine ⟨_, rfl, a, _, _, _, rfl, rfl, SqT.of (K2 _ _ h1), rfl, _, rfl, _, rfl, ra, l, _, _, n, _, rfl, h8.tk K2, l2, by omega, hxT, fun H4 ys B4 l4 hy hyT hxy hLy => ?_⟩
      have t24 : Tk H2 H4 := fun b zs e => B4 b _ (ne_of e l2 (by intro z; cases z)) e
      refine ⟨_, rfl, k H4 l _ (fun b o e => ?_) hl l4 (by omega) hyT fun r hr => ?_⟩
      · exact (B2.trans B4) b o (fun z => by rw [z, hl] at e; cases e) (s1 _ _ e)
      · obtain ⟨pa', ta', fa', ra', g1, hr⟩ := hr
        rw [h1] at g1
        cases g1
        rcases hr with hr | ⟨us', p, t, pp, po, q, g2, g3, g4, hr⟩
        · exact hLy r (hr.tk K2)
        · rw [h6] at g2
          cases g2
          obtain ⟨j', hj', ej'⟩ := List.mem_iff_getElem.mp g3
          obtain ⟨p2, n2, b2, f1, f2⟩ := hLx j' p t pp po q hj' (by rw [List.getElem?_eq_getElem hj', ej']) g4 r hr
          exact ⟨p2, n2, b2, hxy _ f1, t24 _ _ f2⟩
end
end Rt
/-! ## M2 -/
set_option Elab.async false
set_option linter.all false
set_option maxRecDepth 100000
set_option maxHeartbeats 4000000
namespace Rt
open PySem PySem.Spec PyProof.Rows L2
open L2H (RoomH roomH_of)
/-! ### nodes -/
abbrev Ds := List (Str × Str × Nat)
def PtOk (D : Ds) (h : Str) (e : Int) : Prop := e = -1 ∨ ∃ (j : Nat) (w : Str) (d : Nat), e = (j : Int) ∧ D[j]? = some (h, w, d)
def GdOk (D : Ds) (h : Str) (g : Int) : Prop := g = -1 ∨ ∃ (j d : Nat), g = (j : Int) ∧ D[j]? = some (h, ("try" : Str), d)
def KidsAt (H : Hp) (A : List Addr) (D : Ds) (h : Str) (d : Nat) (q : Addr) : Prop := ∃ vs, H q = some (.lst vs) ∧ vs.length ≤ 4000 ∧ ∀ v ∈ vs, ∃ (j : Nat) (a : Addr) (w : Str) (d' : Nat), A[j]? = some a ∧ v = .ref a ∧ D[j]? = some (h, w, d') ∧ d' < d
def scOf (I : PI) (h : Str) : Sc := match I.fs.find? (fun f => f.1 == h) with
  | some f => scF I.B I.L I.F f
  | none => ⟨I.B, I.L, I.F, false⟩
def RowAt (I : PI) (H : Hp) (h w : Str) (r : Addr) : Prop := (∃ rest, H r = some (.tup (.str w :: rest))) ∧ ((w = "def" ∧ h ∈ I.fs.map Prod.fst) ∨ (I.P r ∧ ∃ n d, WRow (scOf I h) H (d + 1) n (.ref r)))
def nodeF (i : Nat) (r : Addr) (h : Str) (fl sl : Addr) (e b g : Int) : List (Str × V) := [("number", .int (i : Int)), ("row", .ref r), ("home", .str h), ("firsts", .ref fl), ("seconds", .ref sl), ("entry", .int e), ("behind", .int b), ("guard", .int g)]
def NodeAt (I : PI) (K : PySem.W.Frag) (H : Hp) (A : List Addr) (D : Ds) (i : Nat) (a : Addr) (x : Str × Str × Nat) : Prop :=
  ∃ (dx r fl sl : Addr) (e b g : Int), H a = some (.ins (He.ga K "Node") dx (nodeF i r x.1 fl sl e b g)) ∧ RowAt I H x.1 x.2.1 r ∧ KidsAt H A D x.1 x.2.2 fl ∧ KidsAt H A D x.1 x.2.2 sl ∧ PtOk D x.1 e ∧ PtOk D x.1 b ∧ GdOk D x.1 g
structure LayAt (I : PI) (K : PySem.W.Frag) (H : Hp) (A : List Addr) (D : Ds) (l : Addr) : Prop where
  lst : H l = some (.lst (A.map V.ref))
  len : A.length = D.length
  nd : A.Nodup
  nodes : ∀ (i : Nat) (a : Addr) (x : Str × Str × Nat), A[i]? = some a → D[i]? = some x → NodeAt I K H A D i a x
def spNode (K : PySem.W.Frag) : Sp := fun vs H Q _ => ∃ (x dx r : Addr) (n : Nat) (h : Str), vs = [.ref x, .int (n : Int), .ref r, .str h] ∧ H x = some (.ins (He.ga K "Node") dx []) ∧
  ∀ H' fl sl, (∀ b o, b ≠ x → H b = some o → H' b = some o) → H' x = some (.ins (He.ga K "Node") dx (nodeF n r h fl sl n (-1) (-1))) → H' fl = some (.lst []) → H' sl = some (.lst []) → H fl = none → H sl = none → Q .non H'
theorem putF_new {f : Str} {v : V} : ∀ {fs : List (Str × V)}, fs.lookup f = none → putF f v fs = fs ++ [(f, v)]
  | [], _ => rfl
  | (g, x) :: r, h => by
    have e : (f == g) = false := by
      cases q : (f == g) with
      | false => rfl
      | true =>
        rw [List.lookup_cons, q] at h
        cases h
    rw [List.lookup_cons, e] at h
    have hne : g ≠ f := fun z => by
      rw [z, beq_self_eq_true] at e
      cases e
    show (if g = f then (g, v) :: r else (g, x) :: putF f v r) = _
    rw [if_neg hne, putF_new h]
    rfl
theorem few {fs : List (Str × V)} (h : Nat.ble (fs.length + 1) 1000 = true) : fs.length < 1000 := Nat.le_of_ble_eq_true h
section
variable {P : Program} {w : World} {K : PySem.W.Frag} {mg : Str → Option Value} {base : Heap}
theorem ok_node (T : Txt K mg) : OkC P w K mg base CX0 1 (He.ma K (He.ga K "Node") "__init__") ["self", "number", "row", "home"] (spNode K) := by
  refine okC T.f_Node___init__ sc_Node___init__ (fun fd F => F.bindsN fun _ _ _ _ _ _ us hl => match us, hl with | [_, _, _, _], _ => rfl) (fun vs H Q E h => ?_) (fun cdv A outer s H vs Q E hr h => ?_)
  · obtain ⟨x, dx, r, n, h, rfl, _⟩ := h
    rfl
  · obtain ⟨x, dx, r, n, h, rfl, hx, k⟩ := h
    refine ⟨_, (pss_cons
 (ps_fld (pv 0) (pv 1) rfl) (pss_cons
 (ps_fld (pv 0) (pv 2) rfl) (pss_cons
 (ps_fld (pv 0) (pv 3) rfl) (pss_cons
 (ps_fld (pv 0) (pe_lst pa_nil) rfl) (pss_cons
 (ps_fld (pv 0) (pe_lst pa_nil) rfl) (pss_cons
 (ps_fld (pv 0) (pv 1) rfl) (pss_cons
 (ps_fld (pv 0) (pe_un un_neg pe_int) rfl) (pss_one
 (ps_fld (pv 0) (pe_un un_neg pe_int) rfl))))))))), ?_⟩
    refine ⟨_, rfl, _, rfl, x, _, dx, _, rfl, hx, T.c_Node, T.n_Node_number, by decide, ?_⟩
    rw [putF_new rfl]
    simp only [List.nil_append]
    refine ⟨_, rfl, _, rfl, x, _, dx, _, rfl, upd_same, T.c_Node, T.n_Node_row, few rfl, ?_⟩
    rw [putF_new rfl, upd_upd]
    simp only [List.cons_append, List.nil_append]
    refine ⟨_, rfl, _, rfl, x, _, dx, _, rfl, upd_same, T.c_Node, T.n_Node_home, few rfl, ?_⟩
    rw [putF_new rfl, upd_upd]
    simp only [List.cons_append, List.nil_append]
    refine ⟨Nat.zero_le _, fun fl hfl => ⟨_, rfl, x, _, dx, _, rfl, (by rw [upd_ne (ne_of_none upd_same hfl)]; exact upd_same), T.c_Node, T.n_Node_firsts, few rfl, ?_⟩⟩
    rw [putF_new rfl]
    simp only [List.cons_append, List.nil_append]
    have hflx : fl ≠ x := Ne.symm (ne_of_none upd_same hfl)
    have hfl0 : H fl = none := by rw [upd_ne hflx] at hfl; exact hfl
    refine ⟨Nat.zero_le _, fun sl hsl => ⟨_, rfl, x, _, dx, _, rfl, (by rw [upd_ne (ne_of_none upd_same hsl)]; exact upd_same), T.c_Node, T.n_Node_seconds, few rfl, ?_⟩⟩
    rw [putF_new rfl]
    simp only [List.cons_append, List.nil_append]
    have hslx : sl ≠ x := Ne.symm (ne_of_none upd_same hsl)
    have hsl1 : upd (upd H x (.ins (He.ga K "Node") dx [("number", .int (n : Int)), ("row", .ref r), ("home", .str h)])) fl (.lst []) sl = none := by
      rw [upd_ne hslx] at hsl
      exact hsl
    have hslf : sl ≠ fl := fun z => by
      rw [z, upd_same] at hsl1
      cases hsl1
    have hsl0 : H sl = none := by
      rw [upd_ne hslf, upd_ne hslx] at hsl1
      exact hsl1
    refine ⟨_, rfl, _, rfl, x, _, dx, _, rfl, upd_same, T.c_Node, T.n_Node_entry, few rfl, ?_⟩
    rw [putF_new rfl, upd_upd]
    simp only [List.cons_append, List.nil_append]
    refine ⟨_, rfl, _, rfl, x, _, dx, _, rfl, upd_same, T.c_Node, T.n_Node_behind, few rfl, ?_⟩
    rw [putF_new rfl, upd_upd]
    simp only [List.cons_append, List.nil_append]
    refine ⟨_, rfl, _, rfl, x, _, dx, _, rfl, upd_same, T.c_Node, T.n_Node_guard, few rfl, ?_⟩
    rw [putF_new rfl, upd_upd]
    simp only [List.cons_append, List.nil_append]
    refine k _ fl sl (fun b o hb e => ?_) upd_same ?_ ?_ hfl0 hsl0
    · rw [upd_ne hb, upd_ne (fun z => by rw [z, hsl0] at e; cases e), upd_ne hb, upd_ne (fun z => by rw [z, hfl0] at e; cases e), upd_ne hb]
      exact e
    · rw [upd_ne hflx, upd_ne (Ne.symm hslf), upd_ne hflx]
      exact upd_same
    · rw [upd_ne hslx]
      exact upd_same
end
end Rt
/-! ## M3 -/
set_option Elab.async false
set_option linter.all false
set_option maxRecDepth 100000
set_option maxHeartbeats 4000000
namespace Rt
open PySem PySem.Spec PyProof.Rows L2
open L2H (RoomH roomH_of)
/-! ### the layout: A the nodes, D what is told of each, S the lists that are done -/
def NodeS (I : PI) (K : PySem.W.Frag) (H : Hp) (A : List Addr) (D : Ds) (S : List Addr) (i : Nat) (a : Addr) (x : Str × Str × Nat) : Prop :=
  ∃ (dx r fl sl : Addr) (e b g : Int), H a = some (.ins (He.ga K "Node") dx (nodeF i r x.1 fl sl e b g)) ∧ RowAt I H x.1 x.2.1 r ∧ fl ∈ S ∧ sl ∈ S ∧ KidsAt H A D x.1 x.2.2 fl ∧ KidsAt H A D x.1 x.2.2 sl ∧ PtOk D x.1 e ∧ PtOk D x.1 b ∧ GdOk D x.1 g
structure LayS (I : PI) (K : PySem.W.Frag) (H : Hp) (A : List Addr) (D : Ds) (S : List Addr) (l : Addr) : Prop where
  lst : H l = some (.lst (A.map V.ref))
  len : A.length = D.length
  nd : A.Nodup
  nodes : ∀ (i : Nat) (a : Addr) (x : Str × Str × Nat), A[i]? = some a → D[i]? = some x → NodeS I K H A D S i a x
  lists : ∀ s ∈ S, s ≠ l ∧ ∃ vs, H s = some (.lst vs)
theorem get_app {α : Type} {xs ys : List α} {i : Nat} {x : α} (h : xs[i]? = some x) : (xs ++ ys)[i]? = some x := by
  rw [List.getElem?_append_left (List.getElem?_eq_some_iff.mp h).1]
  exact h
theorem PtOk.ext {D D' : Ds} {h : Str} {e : Int} (q : PtOk D h e) : PtOk (D ++ D') h e := by
  rcases q with q | ⟨j, w, d, e1, e2⟩
  · exact .inl q
  · exact .inr ⟨j, w, d, e1, get_app e2⟩
theorem GdOk.ext {D D' : Ds} {h : Str} {e : Int} (q : GdOk D h e) : GdOk (D ++ D') h e := by
  rcases q with q | ⟨j, d, e1, e2⟩
  · exact .inl q
  · exact .inr ⟨j, d, e1, get_app e2⟩
theorem KidsAt.ext {H : Hp} {A A' : List Addr} {D D' : Ds} {h : Str} {d : Nat} {q : Addr} (k : KidsAt H A D h d q) : KidsAt H (A ++ A') (D ++ D') h d q := by
  obtain ⟨vs, h1, h2, h3⟩ := k
  exact ⟨vs, h1, h2, fun v hv => let ⟨j, a, w, d', e1, e2, e3, e4⟩ := h3 v hv; ⟨j, a, w, d', get_app e1, e2, get_app e3, e4⟩⟩
theorem KidsAt.keep {H H' : Hp} {A : List Addr} {D : Ds} {h : Str} {d : Nat} {q : Addr} (k : KidsAt H A D h d q) (e : ∀ o, H q = some o → H' q = some o) : KidsAt H' A D h d q := by
  obtain ⟨vs, h1, h2⟩ := k
  exact ⟨vs, e _ h1, h2⟩
theorem KidsAt.le {H : Hp} {A : List Addr} {D : Ds} {h : Str} {d e : Nat} {q : Addr} (k : KidsAt H A D h d q) (hd : d ≤ e) : KidsAt H A D h e q := by
  obtain ⟨vs, h1, h2, h3⟩ := k
  exact ⟨vs, h1, h2, fun v hv => let ⟨j, a, w, d', e1, e2, e3, e4⟩ := h3 v hv; ⟨j, a, w, d', e1, e2, e3, Nat.lt_of_lt_of_le e4 hd⟩⟩
theorem RowAt.tk {I : PI} {H H' : Hp} {h w : Str} {r : Addr} (q : RowAt I H h w r) (k : Tk H H') : RowAt I H' h w r := by
  obtain ⟨⟨rest, h1⟩, h2⟩ := q
  refine ⟨⟨rest, k _ _ h1⟩, ?_⟩
  rcases h2 with h2 | ⟨hp, n, d, h2⟩
  · exact .inl h2
  · exact .inr ⟨hp, n, d, WRow.tk k h2⟩
/-- what a node is may be told in a greater layout, at a later heap -/
theorem NodeS.keep {I : PI} {K : PySem.W.Frag} {H H' : Hp} {A A' : List Addr} {D D' : Ds} {S S' : List Addr} {i : Nat} {a : Addr} {x : Str × Str × Nat} (h : NodeS I K H A D S i a x) (ka : ∀ o, H a = some o → H' a = some o) (kS : ∀ s ∈ S, ∀ o, H s = some o → H' s = some o) (kT : Tk H H') :
    NodeS I K H' (A ++ A') (D ++ D') (S ++ S') i a x := by
  obtain ⟨dx, r, fl, sl, e, b, g, h1, h2, h3, h4, h5, h6, h7, h8, h9⟩ := h
  exact ⟨dx, r, fl, sl, e, b, g, ka _ h1, h2.tk kT, List.mem_append_left _ h3, List.mem_append_left _ h4, (h5.keep (kS fl h3)).ext, (h6.keep (kS sl h4)).ext, h7.ext, h8.ext, h9.ext⟩
theorem NodeS.keep0 {I : PI} {K : PySem.W.Frag} {H H' : Hp} {A : List Addr} {D : Ds} {S : List Addr} {i : Nat} {a : Addr} {x : Str × Str × Nat} (h : NodeS I K H A D S i a x) (ka : ∀ o, H a = some o → H' a = some o) (kS : ∀ s ∈ S, ∀ o, H s = some o → H' s = some o) (kT : Tk H H') :
    NodeS I K H' A D S i a x := by
  have q := h.keep (A' := []) (D' := []) (S' := []) ka kS kT
  rw [List.append_nil, List.append_nil, List.append_nil] at q
  exact q
theorem LayS.at {I : PI} {K : PySem.W.Frag} {H : Hp} {A : List Addr} {D : Ds} {S : List Addr} {l : Addr} (L : LayS I K H A D S l) {i : Nat} {a : Addr} (h : A[i]? = some a) : ∃ x, D[i]? = some x ∧ NodeS I K H A D S i a x := by
  have hi : i < D.length := by
    rw [← L.len]
    exact (List.getElem?_eq_some_iff.mp h).1
  exact ⟨D[i], List.getElem?_eq_getElem hi, L.nodes i a _ h (List.getElem?_eq_getElem hi)⟩
theorem LayS.ins {I : PI} {K : PySem.W.Frag} {H : Hp} {A : List Addr} {D : Ds} {S : List Addr} {l : Addr} (L : LayS I K H A D S l) {a : Addr} (h : a ∈ A) : ∃ dx fs, H a = some (.ins (He.ga K "Node") dx fs) := by
  obtain ⟨i, hi, e⟩ := List.mem_iff_getElem.mp h
  obtain ⟨x, _, dx, r, fl, sl, e', b, g, h1, _⟩ := L.at (i := i) (a := a) (by rw [List.getElem?_eq_getElem hi, e])
  exact ⟨dx, _, h1⟩
/-- nothing of it changes -/
theorem LayS.keep {I : PI} {K : PySem.W.Frag} {H H' : Hp} {A : List Addr} {D : Ds} {S : List Addr} {l : Addr} (L : LayS I K H A D S l) (k : ∀ b o, b = l ∨ b ∈ A ∨ b ∈ S → H b = some o → H' b = some o) (kT : Tk H H') : LayS I K H' A D S l := by
  refine ⟨k _ _ (.inl rfl) L.lst, L.len, L.nd, fun i a x h1 h2 => (L.nodes i a x h1 h2).keep0 (fun o => k a o (.inr (.inl (List.mem_of_getElem? h1)))) (fun s hs o => k s o (.inr (.inr hs))) kT, fun s hs => ?_⟩
  obtain ⟨h1, vs, h2⟩ := L.lists s hs
  exact ⟨h1, vs, k _ _ (.inr (.inr hs)) h2⟩
theorem LayS.same {I : PI} {K : PySem.W.Frag} {H H' : Hp} {A : List Addr} {D : Ds} {S : List Addr} {l : Addr} (L : LayS I K H A D S l) (s : Same H H') : LayS I K H' A D S l := L.keep (fun b o _ e => s b o e) (same_tk s)
/-- one more list -/
theorem LayS.more {I : PI} {K : PySem.W.Frag} {H : Hp} {A : List Addr} {D : Ds} {S : List Addr} {l q : Addr} {vs : List V} (L : LayS I K H A D S l) (hq : H q = some (.lst vs)) (hne : q ≠ l) : LayS I K H A D (S ++ [q]) l := by
  refine ⟨L.lst, L.len, L.nd, fun i a x h1 h2 => ?_, fun s hs => ?_⟩
  · have z := (L.nodes i a x h1 h2).keep (A' := []) (D' := []) (S' := [q]) (fun _ e => e) (fun _ _ _ e => e) Tk.refl
    rw [List.append_nil, List.append_nil] at z
    exact z
  · rcases List.mem_append.mp hs with hs | hs
    · exact L.lists s hs
    · have e : s = q := by simpa using hs
      rw [e]
      exact ⟨hne, vs, hq⟩
/-- one more node -/
theorem LayS.add {I : PI} {K : PySem.W.Frag} {H H' : Hp} {A : List Addr} {D : Ds} {S S' : List Addr} {l a : Addr} {x : Str × Str × Nat} (L : LayS I K H A D S l) (hl : H' l = some (.lst ((A ++ [a]).map V.ref))) (k : ∀ b o, b ∈ A ∨ b ∈ S → H b = some o → H' b = some o) (kT : Tk H H')
    (ha : a ∉ A) (hn : NodeS I K H' (A ++ [a]) (D ++ [x]) (S ++ S') A.length a x) (hS : ∀ s ∈ S', s ≠ l ∧ ∃ vs, H' s = some (.lst vs)) : LayS I K H' (A ++ [a]) (D ++ [x]) (S ++ S') l := by
  refine ⟨hl, by rw [List.length_append, List.length_append, L.len]; rfl, List.nodup_append.mpr ⟨L.nd, by simp, fun y hy z hz e => ?_⟩, fun i b y h1 h2 => ?_, fun s hs => ?_⟩
  · have e2 : z = a := by simpa using hz
    rw [e, e2] at hy
    exact ha hy
  · by_cases hi : i < A.length
    · rw [List.getElem?_append_left hi] at h1
      rw [List.getElem?_append_left (by rw [← L.len]; exact hi)] at h2
      exact (L.nodes i b y h1 h2).keep (fun o => k b o (.inl (List.mem_of_getElem? h1))) (fun s hs o => k s o (.inr hs)) kT
    · have hi2 : i = A.length := by
        have := (List.getElem?_eq_some_iff.mp h1).1
        rw [List.length_append, List.length_singleton] at this
        omega
      subst hi2
      rw [List.getElem?_append_right (Nat.le_refl _), Nat.sub_self] at h1
      rw [List.getElem?_append_right (by rw [L.len]; exact Nat.le_refl _), L.len, Nat.sub_self] at h2
      have e1 : a = b := by simpa using h1
      have e2 : x = y := by simpa using h2
      rw [← e1, ← e2]
      exact hn
  · rcases List.mem_append.mp hs with hs | hs
    · obtain ⟨h1, vs, h2⟩ := L.lists s hs
      exact ⟨h1, vs, k _ _ (.inr hs) h2⟩
    · exact hS s hs
/-- a node's fields change -/
theorem LayS.set {I : PI} {K : PySem.W.Frag} {H : Hp} {A : List Addr} {D : Ds} {S : List Addr} {l a : Addr} {i : Nat} {x : Str × Str × Nat} {dx r fl sl : Addr} {e b g : Int} (L : LayS I K H A D S l) (ha : A[i]? = some a) (hx : D[i]? = some x)
    (hr : RowAt I H x.1 x.2.1 r) (h3 : fl ∈ S) (h4 : sl ∈ S) (h5 : KidsAt H A D x.1 x.2.2 fl) (h6 : KidsAt H A D x.1 x.2.2 sl) (h7 : PtOk D x.1 e) (h8 : PtOk D x.1 b) (h9 : GdOk D x.1 g) :
    LayS I K (upd H a (.ins (He.ga K "Node") dx (nodeF i r x.1 fl sl e b g))) A D S l := by
  obtain ⟨dx0, fs0, h0⟩ := L.ins (List.mem_of_getElem? ha)
  have kl : ∀ c vs, H c = some (.lst vs) → upd H a (.ins (He.ga K "Node") dx (nodeF i r x.1 fl sl e b g)) c = some (.lst vs) := fun c vs q => by
    rw [upd_ne (ne_of q h0 (by intro z; cases z))]
    exact q
  have kT : Tk H (upd H a (.ins (He.ga K "Node") dx (nodeF i r x.1 fl sl e b g))) := fun c vs q => by
    rw [upd_ne (ne_of q h0 (by intro z; cases z))]
    exact q
  have kS : ∀ s ∈ S, ∀ o, H s = some o → upd H a (.ins (He.ga K "Node") dx (nodeF i r x.1 fl sl e b g)) s = some o := fun s hs o q => by
    obtain ⟨_, vs, q2⟩ := L.lists s hs
    rw [q] at q2
    cases q2
    exact kl _ _ q
  refine ⟨kl _ _ L.lst, L.len, L.nd, fun j c y e1 e2 => ?_, fun s hs => ?_⟩
  · by_cases hc : c = a
    · subst hc
      have ej : j = i := (List.getElem?_inj (List.getElem?_eq_some_iff.mp e1).1 L.nd).mp (e1.trans ha.symm)
      subst ej
      rw [hx] at e2
      cases e2
      exact ⟨dx, r, fl, sl, e, b, g, upd_same, hr.tk kT, h3, h4, h5.keep (kS fl h3), h6.keep (kS sl h4), h7, h8, h9⟩
    · exact (L.nodes j c y e1 e2).keep0 (fun o q => by rw [upd_ne hc]; exact q) kS kT
  · obtain ⟨q1, vs, q2⟩ := L.lists s hs
    exact ⟨q1, vs, kl _ _ q2⟩
theorem nodeF_firsts {i : Nat} {r : Addr} {h : Str} {fl sl q : Addr} {e b g : Int} : putF "firsts" (.ref q) (nodeF i r h fl sl e b g) = nodeF i r h q sl e b g := rfl
theorem nodeF_seconds {i : Nat} {r : Addr} {h : Str} {fl sl q : Addr} {e b g : Int} : putF "seconds" (.ref q) (nodeF i r h fl sl e b g) = nodeF i r h fl q e b g := rfl
theorem nodeF_entry {i : Nat} {r : Addr} {h : Str} {fl sl : Addr} {e b g n : Int} : putF "entry" (.int n) (nodeF i r h fl sl e b g) = nodeF i r h fl sl n b g := rfl
theorem nodeF_behind {i : Nat} {r : Addr} {h : Str} {fl sl : Addr} {e b g n : Int} : putF "behind" (.int n) (nodeF i r h fl sl e b g) = nodeF i r h fl sl e n g := rfl
theorem nodeF_guard {i : Nat} {r : Addr} {h : Str} {fl sl : Addr} {e b g n : Int} : putF "guard" (.int n) (nodeF i r h fl sl e b g) = nodeF i r h fl sl e b n := rfl
theorem kids_nil {H : Hp} {A : List Addr} {D : Ds} {h : Str} {d : Nat} {q : Addr} (e : H q = some (.lst [])) : KidsAt H A D h d q := ⟨[], e, Nat.zero_le _, fun v hv => by cases hv⟩
def spNum (K : PySem.W.Frag) (d : Nat) : Sp := fun vs H Q _ => ∃ (a l : Addr) (h : Str) (I : PI) (n : Nat) (A S : List Addr) (D : Ds), vs = [.ref a, .str h, .ref l] ∧ WRows (scOf I h) H d n a ∧ (∀ r, InRows H a r → I.P r) ∧ LayS I K H A D S l ∧ A.length + n ≤ 4000 ∧
  ∀ H' q A' D' S', But l H H' → LayS I K H' (A ++ A') (D ++ D') (S ++ S') l → A'.length = n → (∀ b ∈ A', H b = none) → (∀ b ∈ S', H b = none) → q ∈ S' → KidsAt H' (A ++ A') (D ++ D') h d q → Q (.ref q) H'
end Rt
/-! ## M4 -/
set_option Elab.async false
set_option linter.all false
set_option maxRecDepth 100000
set_option maxHeartbeats 4000000
namespace Rt
open PySem PySem.Spec PyProof.Rows L2
open L2H (RoomH roomH_of)
theorem But.freeB {r b : Addr} {H H' : Hp} {o : HO} (e : But r H H') (h : H' b = none) (hr : H' r = some o) : H b = none := e.free h (fun z => by rw [z, hr] at h; cases h)
section
variable {P : Program} {w : World} {K : PySem.W.Frag} {mg : Str → Option Value} {base : Heap}
theorem num_step (T : Txt K mg) (d kk : Nat) (hkk : 2 ≤ kk) (G_numbered : OkC P w K mg base CX0 (kk + 1) (He.ga K "numbered") ["rows", "home", "found"] (fun vs H Q E => 1 ≤ d ∧ spNum K (d - 1) vs H Q E)) :
    OkC P w K mg base CX0 (kk + 2) (He.ga K "numbered") ["rows", "home", "found"] (spNum K d) := by
  have G_rows_within_nodes := ok_rwT (P := P) (w := w) (base := base) T
  have G_Node___init__ := ok_node (P := P) (w := w) (base := base) T
  refine okC T.f_numbered sc_numbered (fun fd F => F.bindsN fun _ _ _ _ _ _ us hl => match us, hl with | [_, _, _], _ => rfl) (fun vs H Q E h => ?_) (fun cdv A outer s H vs Q E hr h => ?_)
  · obtain ⟨a, l, h, I, n, A, S, D, rfl, _⟩ := h
    rfl
  · obtain ⟨a, l, h, I, n, A, S, D, rfl, ⟨rs, hrs, hsum⟩, hPr, L, hz, k⟩ := h
    refine ⟨_, (pss_cons
 (ps_set (i := 3) sc_numbered.nd rfl (by first | exact Or.inl rfl | exact Or.inr rfl) (pe_lst pa_nil)) (pss_cons
 (ps_for PassesOwn.never rfl (pi_tup (pv 0)) (pg_name (i := 4) sc_numbered.nd rfl (by first | exact Or.inl rfl | exact Or.inr rfl)) (pss_cons
 (ps_set (i := 5) sc_numbered.nd rfl (by first | exact Or.inl rfl | exact Or.inr rfl) (ce_make G_Node___init__ (hr.mono (by omega)) T.k_Node T.g_Node pass0 (pa_cons (pe_callB call_len_seq (by rfl) T.b_len (by decide +kernel) (pa_cons (pv 2) pa_nil)) (pa_cons (pv 4) (pa_cons (pv 1) pa_nil))))) (pss_cons
 (ps_expr (pe_bm PySem.F.plainAttrs_list PySem.F.slot_list_append PySem.F.type_list_append mt_append (pv 2) (pa_cons (pv 5) pa_nil))) (pss_cons
 (ps_expr (pe_bm PySem.F.plainAttrs_list PySem.F.slot_list_append PySem.F.type_list_append mt_append (pv 3) (pa_cons (pv 5) pa_nil))) (pss_cons
 (ps_asg (ce_call G_rows_within_nodes (hr.mono (by omega)) T.g_rows_within_nodes T.p_rows_within_nodes pass0 (pa_cons (pv 4) pa_nil)) (pg_tup rfl (pgs_cons (pg_name (i := 6) sc_numbered.nd rfl (by first | exact Or.inl rfl | exact Or.inr rfl)) (pgs_cons (pg_name (i := 7) sc_numbered.nd rfl (by first | exact Or.inl rfl | exact Or.inr rfl)) pgs_nil)))) (pss_cons
 (ps_fld (pv 5) (ce_call G_numbered (hr.mono (by omega)) T.g_numbered T.p_numbered pass0 (pa_cons (pv 6) (pa_cons (pv 1) (pa_cons (pv 2) pa_nil)))) rfl) (pss_one
 (ps_fld (pv 5) (ce_call G_numbered (hr.mono (by omega)) T.g_numbered T.p_numbered pass0 (pa_cons (pv 7) (pa_cons (pv 1) (pa_cons (pv 2) pa_nil)))) rfl)))))))) (pss_one
 (ps_ret (pv 3))))), ?_⟩
    have hT : ∀ H', But l H H' → Tk H H' := fun H' B b zs e => B b _ (ne_of e L.lst (by intro z; cases z)) e
    refine ⟨Nat.zero_le _, fun q hq => ?_⟩
    have nql : q ≠ l := Ne.symm (ne_of_none L.lst hq)
    refine ⟨_, rfl, a, rfl, ⟨_, SqT.of (same_new hq _ _ hrs)⟩, for_tup (xs := rs) (fun i σ H' => ∃ (o4 o5 o6 o7 : Option V) (A' : List Addr) (D' : Ds) (S' : List Addr) (vs : List V) (m : Nat), σ = [some (.ref a), some (.str h), some (.ref l), some (.ref q), o4, o5, o6, o7] ∧ But l H H' ∧
      LayS I K H' (A ++ A') (D ++ D') (S ++ S') l ∧ A'.length + m = n ∧ SumL (fun m x => WRow (scOf I h) H d m x) m (rs.drop i) ∧ (∀ b ∈ A', H b = none) ∧ (∀ b ∈ S', H b = none) ∧ H' q = some (.lst vs) ∧ vs.length ≤ A'.length ∧ q ∉ S' ∧
      ∀ v ∈ vs, ∃ (j : Nat) (a : Addr) (w : Str) (d' : Nat), (A ++ A')[j]? = some a ∧ v = .ref a ∧ (D ++ D')[j]? = some (h, w, d') ∧ d' < d) ?_ ?_ ?_ ?_⟩
    · refine ⟨none, none, none, none, [], [], [], [], n, rfl, But.new hq, ?_, Nat.zero_add _, hsum, (fun b hb => by cases hb), (fun b hb => by cases hb), upd_same, Nat.le_refl _, List.not_mem_nil, fun v hv => by cases hv⟩
      rw [List.append_nil, List.append_nil, List.append_nil]
      exact L.same (same_new hq)
    · rintro i σ H' _ ⟨o4, o5, o6, o7, A', D', S', vs, m, rfl, B, _⟩
      exact SqT.of (hT _ B _ _ hrs)
    · rintro i v σ H2 hv ⟨o4, o5, o6, o7, A', D', S', vs, m, rfl, B2, L2, hA, hm, hA0, hS0, hq2, hvl, hqS, hkid⟩
      obtain ⟨m1, m2, hw, hm2, rfl⟩ := hm.at hv
      obtain ⟨d, rfl⟩ : ∃ d', d = d' + 1 := by
        cases d with
        | zero => exact hw.elim
        | succ d => exact ⟨d, rfl⟩
      have hpos := WRow.pos hw
      have hw2 := WRow.tk (hT _ B2) hw
      obtain ⟨r, rfl⟩ := WRow.ref hw2
      obtain ⟨r', wd, rest, er, hrow2, _⟩ := WRow.rowD hw2
      cases er
      have hAl : (A ++ A').length + m1 + m2 ≤ 4000 := by
        rw [List.length_append]
        omega
      -- the node
      refine ⟨_, rfl, l, _, rfl, .inl (SqL.of L2.lst), _, rfl, _, rfl, fun x dx hx hdx hxd => ?_⟩
      refine ⟨x, dx, r, _, h, rfl, upd_same, fun H3 fl sl B3 hx3 hfl hsl hfl0 hsl0 => ⟨rfl, ?_⟩⟩
      have Hm : Same H2 (upd (upd H2 dx (.own x)) x (.ins (He.ga K "Node") dx [])) := fun b o e => by
        rw [upd_ne (fun z => by rw [z, hx] at e; cases e), upd_ne (fun z => by rw [z, hdx] at e; cases e)]
        exact e
      have s3 : Same H2 H3 := fun b o e => B3 b o (fun z => by rw [z, hx] at e; cases e) (Hm b o e)
      have fl2 : H2 fl = none := Hm.free hfl0
      have sl2 : H2 sl = none := Hm.free hsl0
      have L3 := L2.same s3
      rw [List.length_map] at hx3
      have hq3 := s3 _ _ hq2
      have xA : x ∉ A ++ A' := fun hm => by
        obtain ⟨_, _, e⟩ := L2.ins hm
        rw [hx] at e
        cases e
      have qS : q ∉ S ++ S' := fun hm => by
        rcases List.mem_append.mp hm with hm | hm
        · obtain ⟨_, _, e⟩ := L.lists q hm
          rw [hq] at e
          cases e
        · exact hqS hm
      have xl : x ≠ l := fun z => by rw [z, L2.lst] at hx; cases hx
      have xq : x ≠ q := fun z => by rw [z, hq2] at hx; cases hx
      have fll : fl ≠ l := fun z => by rw [z, L2.lst] at fl2; cases fl2
      have flq : fl ≠ q := fun z => by rw [z, hq2] at fl2; cases fl2
      have sll : sl ≠ l := fun z => by rw [z, L2.lst] at sl2; cases sl2
      have slq : sl ≠ q := fun z => by rw [z, hq2] at sl2; cases sl2
      -- appended to both
      refine ⟨_, rfl, .inl ⟨rfl, _, SqL.of L3.lst⟩, _, rfl, l, _, _, rfl, rfl, L3.lst, by rw [List.length_map, sizeLine_eq]; omega, ?_⟩
      have hq4 : upd H3 l (.lst ((A ++ A').map V.ref ++ [.ref x])) q = some (.lst vs) := by
        rw [upd_ne nql]
        exact hq3
      refine ⟨_, rfl, .inl ⟨rfl, _, SqL.of hq4⟩, _, rfl, q, _, _, rfl, rfl, hq4, by rw [sizeLine_eq]; omega, ?_⟩
      have up : ∀ b o, b ≠ l → b ≠ q → H3 b = some o → upd (upd H3 l (.lst ((A ++ A').map V.ref ++ [.ref x]))) q (.lst (vs ++ [.ref x])) b = some o := fun b o h1 h2 e => by
        rw [upd_ne h2, upd_ne h1]
        exact e
      have T5 : Tk H3 (upd (upd H3 l (.lst ((A ++ A').map V.ref ++ [.ref x]))) q (.lst (vs ++ [.ref x]))) := fun b zs e => up b _ (ne_of e L3.lst (by intro z; cases z)) (ne_of e hq3 (by intro z; cases z)) e
      have B5 : But l H (upd (upd H3 l (.lst ((A ++ A').map V.ref ++ [.ref x]))) q (.lst (vs ++ [.ref x]))) := fun b o hb e => up b o hb (fun z => by rw [z, hq] at e; cases e) (s3 _ _ (B2 _ _ hb e))
      have hx5 := up x _ xl xq hx3
      have hfl5 := up fl _ fll flq hfl
      have hsl5 := up sl _ sll slq hsl
      have l5 : upd (upd H3 l (.lst ((A ++ A').map V.ref ++ [.ref x]))) q (.lst (vs ++ [.ref x])) l = some (.lst ((A ++ A' ++ [x]).map V.ref)) := by
        have e : (A ++ A' ++ [x]).map V.ref = (A ++ A').map V.ref ++ [.ref x] := by
          rw [List.map_append]
          rfl
        rw [e, upd_ne (Ne.symm nql)]
        exact upd_same
      have q5 : upd (upd H3 l (.lst ((A ++ A').map V.ref ++ [.ref x]))) q (.lst (vs ++ [.ref x])) q = some (.lst (vs ++ [.ref x])) := upd_same
      generalize upd (upd H3 l (.lst ((A ++ A').map V.ref ++ [.ref x]))) q (.lst (vs ++ [.ref x])) = H5 at up T5 B5 hx5 hfl5 hsl5 l5 q5 ⊢
      have hrow5 : RowAt I H5 h wd r := ⟨⟨rest, T5 _ _ (same_tk s3 _ _ hrow2)⟩, .inr ⟨hPr r (.here hrs (List.mem_of_getElem? hv)), m1, d, WRow.tk T5 (WRow.tk (same_tk s3) hw2)⟩⟩
      have Dn : (D ++ D' ++ [(h, wd, d)])[(A ++ A').length]? = some (h, wd, d) := by
        rw [L2.len, List.getElem?_append_right (Nat.le_refl _), Nat.sub_self]
        rfl
      have An : (A ++ A' ++ [x])[(A ++ A').length]? = some x := by
        rw [List.getElem?_append_right (Nat.le_refl _), Nat.sub_self]
        rfl
      have L5 : LayS I K H5 (A ++ A' ++ [x]) (D ++ D' ++ [(h, wd, d)]) (S ++ S' ++ [fl, sl]) l := by
        refine L3.add l5 (fun b o hb e => ?_) T5 xA ⟨dx, r, fl, sl, _, -1, -1, hx5, hrow5, by simp, by simp, kids_nil hfl5, kids_nil hsl5, .inr ⟨_, wd, d, rfl, Dn⟩, .inl rfl, .inl rfl⟩ (fun s hs => ?_)
        · rcases hb with hb | hb
          · obtain ⟨_, _, e2⟩ := L3.ins hb
            exact up b o (ne_of e2 L3.lst (by intro z; cases z)) (ne_of e2 hq3 (by intro z; cases z)) e
          · exact up b o (L3.lists b hb).1 (fun z => qS (z ▸ hb)) e
        · have e : s = fl ∨ s = sl := by simpa using hs
          rcases e with rfl | rfl
          · exact ⟨fll, _, hfl5⟩
          · exact ⟨sll, _, hsl5⟩
      have w5 : WRow (scOf I h) H5 (d + 1) m1 (.ref r) := WRow.tk T5 (WRow.tk (same_tk s3) hw2)
      have flS : fl ∈ S ++ S' ++ [fl, sl] := by simp
      have slS : sl ∈ S ++ S' ++ [fl, sl] := by simp
      have free5 : ∀ b, H5 b = none → H b = none := fun b e => B5.freeB e l5
      have x0 : H x = none := B2.freeB hx L2.lst
      have fl0 : H fl = none := B2.freeB fl2 L2.lst
      have sl0 : H sl = none := B2.freeB sl2 L2.lst
      clear up T5 hx3 hfl hsl L3 L2 hq3 hq4 hdx hfl0 hsl0 fl2 sl2 Hm B3 s3 hrow2 hw2 hq2
      -- the rows within
      refine ⟨_, rfl, .ref r, scOf I h, d, m1, rfl, w5, fun H6 t r1 r2 n1 n2 s6 ht en W1 W2 hch => ?_⟩
      refine ⟨t, _, rfl, SqT.of ht, rfl, _, _, rfl, _, _, rfl, rfl, ?_⟩
      have L6 := L5.same s6
      have hx6 := s6 _ _ hx5
      have pr : ∀ q, (Child H5 r q ∨ H6 q = some (.tup [])) → ∀ H', Tk H6 H' → ∀ r', InRows H' q r' → I.P r' := by
        intro q hq H' k' r' hr'
        rcases hq with c | e
        · obtain ⟨_, _, _, e2, hr0, _⟩ := WRow.rowD hw
          cases e2
          have k5 : Tk H H5 := hT _ B5
          have c0 := c.back k5 hr0
          obtain ⟨m', hq'⟩ := hw.child c0
          exact hPr r' (.sub hrs (List.mem_of_getElem? hv) c0 (InRows.back ((k5.trans (same_tk s6)).trans k') hq' hr'))
        · have e2 := k' _ _ e
          cases hr' with
          | here h hm =>
            rw [e2] at h
            cases h
            cases hm
          | sub h hp c t =>
            rw [e2] at h
            cases h
            cases hp
      refine ⟨_, rfl, _, rfl, _, rfl, Nat.le_add_left 1 d, r1, l, h, I, n1, _, _, _, rfl, W1, pr r1 (hch r rfl).1 H6 Tk.refl, L6, by rw [List.length_append, List.length_singleton]; omega, fun H7 q1 A1 D1 S1 B7 L7 hA1 hA10 hS10 hq1 hk1 => ?_⟩
      have hx7 := B7 _ _ xl hx6
      refine ⟨_, rfl, x, _, dx, _, rfl, hx7, T.c_Node, T.n_Node_firsts, few rfl, ?_⟩
      rw [nodeF_firsts]
      have T7 : Tk H6 H7 := fun b zs e => B7 b _ (ne_of e L6.lst (by intro z; cases z)) e
      have L8 := L7.set (dx := dx) (r := r) (fl := q1) (sl := sl) (e := ((A ++ A').length : Nat)) (b := -1) (g := -1) (get_app An) (get_app Dn) (hrow5.tk ((same_tk s6).trans T7)) (List.mem_append_right _ hq1) (List.mem_append_left _ slS) hk1
        (kids_nil (B7 _ _ sll (s6 _ _ hsl5))) (.inr ⟨_, wd, d, rfl, get_app Dn⟩) (.inl rfl) (.inl rfl)
      have T8 : Tk H7 (upd H7 x (.ins (He.ga K "Node") dx (nodeF (A ++ A').length r h q1 sl ((A ++ A').length : Nat) (-1) (-1)))) := fun b zs e => by
        rw [upd_ne (ne_of e hx7 (by intro z; cases z))]
        exact e
      have x8 : upd H7 x (.ins (He.ga K "Node") dx (nodeF (A ++ A').length r h q1 sl ((A ++ A').length : Nat) (-1) (-1))) x = some (.ins (He.ga K "Node") dx (nodeF (A ++ A').length r h q1 sl ((A ++ A').length : Nat) (-1) (-1))) := upd_same
      have up8 : ∀ b o, b ≠ x → H7 b = some o → upd H7 x (.ins (He.ga K "Node") dx (nodeF (A ++ A').length r h q1 sl ((A ++ A').length : Nat) (-1) (-1))) b = some o := fun b o hb e => by
        rw [upd_ne hb]
        exact e
      generalize upd H7 x (.ins (He.ga K "Node") dx (nodeF (A ++ A').length r h q1 sl ((A ++ A').length : Nat) (-1) (-1))) = H8 at L8 T8 x8 up8 ⊢
      refine ⟨_, rfl, _, rfl, _, rfl, Nat.le_add_left 1 d, r2, l, h, I, n2, _, _, _, rfl, W2.tk (T7.trans T8), pr r2 (hch r rfl).2 _ (T7.trans T8), L8, by rw [List.length_append, List.length_append, List.length_singleton, hA1]; omega, fun H9 q2 A2 D2 S2 B9 L9 hA2 hA20 hS20 hq2 hk2 => ?_⟩
      have hx9 := B9 _ _ xl x8
      refine ⟨_, rfl, x, _, dx, _, rfl, hx9, T.c_Node, T.n_Node_seconds, few rfl, ?_⟩
      rw [nodeF_seconds]
      have T9 : Tk H8 H9 := fun b zs e => B9 b _ (ne_of e L8.lst (by intro z; cases z)) e
      obtain ⟨q1l, q1vs, hq1e⟩ := L7.lists q1 (List.mem_append_right _ hq1)
      have q1x : q1 ≠ x := ne_of hq1e hx7 (by intro z; cases z)
      have hk1' : KidsAt H9 (A ++ A' ++ [x] ++ A1 ++ A2) (D ++ D' ++ [(h, wd, d)] ++ D1 ++ D2) h d q1 := (hk1.keep fun o e => B9 _ _ q1l (up8 _ _ q1x e)).ext
      have L10 := L9.set (dx := dx) (r := r) (fl := q1) (sl := q2) (e := ((A ++ A').length : Nat)) (b := -1) (g := -1) (get_app (get_app An)) (get_app (get_app Dn)) (hrow5.tk ((((same_tk s6).trans T7).trans T8).trans T9)) (List.mem_append_left _ (List.mem_append_right _ hq1)) (List.mem_append_right _ hq2) hk1'
        hk2 (.inr ⟨_, wd, d, rfl, get_app (get_app Dn)⟩) (.inl rfl) (.inl rfl)
      have B8 : But l H H8 := fun b o hb e => up8 b o (fun z => by rw [z, x0] at e; cases e) (B7 _ _ hb (s6 _ _ (B5 _ _ hb e)))
      have B10 : But l H (upd H9 x (.ins (He.ga K "Node") dx (nodeF (A ++ A').length r h q1 q2 ((A ++ A').length : Nat) (-1) (-1)))) := fun b o hb e => by
        rw [upd_ne (fun z => by rw [z, x0] at e; cases e)]
        exact B9 _ _ hb (B8 _ _ hb e)
      have hq10 : upd H9 x (.ins (He.ga K "Node") dx (nodeF (A ++ A').length r h q1 q2 ((A ++ A').length : Nat) (-1) (-1))) q = some (.lst (vs ++ [.ref x])) := by
        rw [upd_ne (Ne.symm xq)]
        exact B9 _ _ nql (up8 _ _ (Ne.symm xq) (B7 _ _ nql (s6 _ _ q5)))
      refine ⟨_, _, _, _, A' ++ [x] ++ A1 ++ A2, D' ++ [(h, wd, d)] ++ D1 ++ D2, S' ++ [fl, sl] ++ S1 ++ S2, vs ++ [.ref x], m2, rfl, B10, by simpa only [List.append_assoc] using L10, ?_, hm2, ?_, ?_, hq10, ?_, ?_, ?_⟩
      · rw [List.length_append, List.length_append, List.length_append, List.length_singleton, hA1, hA2]
        omega
      · intro b hb
        rcases List.mem_append.mp hb with hb | hb
        · rcases List.mem_append.mp hb with hb | hb
          · rcases List.mem_append.mp hb with hb | hb
            · exact hA0 b hb
            · have e : b = x := by simpa using hb
              rw [e]
              exact x0
          · exact free5 b (s6.free (hA10 b hb))
        · exact B8.freeB (hA20 b hb) L8.lst
      · intro b hb
        rcases List.mem_append.mp hb with hb | hb
        · rcases List.mem_append.mp hb with hb | hb
          · rcases List.mem_append.mp hb with hb | hb
            · exact hS0 b hb
            · have e : b = fl ∨ b = sl := by simpa using hb
              rcases e with rfl | rfl
              · exact fl0
              · exact sl0
          · exact free5 b (s6.free (hS10 b hb))
        · exact B8.freeB (hS20 b hb) L8.lst
      · simp only [List.length_append, List.length_singleton]
        omega
      · intro hb
        rcases List.mem_append.mp hb with hb | hb
        · rcases List.mem_append.mp hb with hb | hb
          · rcases List.mem_append.mp hb with hb | hb
            · exact hqS hb
            · have e : q = fl ∨ q = sl := by simpa using hb
              rcases e with e | e
              · exact flq e.symm
              · exact slq e.symm
          · have e := hS10 q hb
            rw [s6 _ _ q5] at e
            cases e
        · have e := hS20 q hb
          rw [up8 _ _ (Ne.symm xq) (B7 _ _ nql (s6 _ _ q5))] at e
          cases e
      · intro v hv
        have e1 : A ++ (A' ++ [x] ++ A1 ++ A2) = A ++ A' ++ [x] ++ A1 ++ A2 := by simp only [List.append_assoc]
        have e2 : D ++ (D' ++ [(h, wd, d)] ++ D1 ++ D2) = D ++ D' ++ [(h, wd, d)] ++ D1 ++ D2 := by simp only [List.append_assoc]
        rw [e1, e2]
        rcases List.mem_append.mp hv with hv | hv
        · obtain ⟨j, a', w', d', f1, f2, f3, f4⟩ := hkid v hv
          exact ⟨j, a', w', d', get_app (get_app (get_app f1)), f2, get_app (get_app (get_app f3)), f4⟩
        · have e : v = .ref x := by simpa using hv
          exact ⟨_, x, wd, d, get_app (get_app An), e, get_app (get_app Dn), Nat.lt_succ_self d⟩
    · rintro σ H2 ⟨o4, o5, o6, o7, A', D', S', vs, m, rfl, B2, L2, hA, hm, hA0, hS0, hq2, hvl, hqS, hkid⟩
      have em := SumL.done hm
      refine ⟨_, rfl, k H2 q A' D' (S' ++ [q]) B2 ?_ (by omega) hA0 (fun b hb => ?_) (by simp) ⟨vs, hq2, by omega, hkid⟩⟩
      · have z := L2.more hq2 nql
        rw [List.append_assoc] at z
        exact z
      · rcases List.mem_append.mp hb with hb | hb
        · exact hS0 b hb
        · have e : b = q := by simpa using hb
          rw [e]
          exact hq
theorem ok_numbered (T : Txt K mg) : ∀ d : Nat, OkC P w K mg base CX0 (d + 4) (He.ga K "numbered") ["rows", "home", "found"] (spNum K d)
  | 0 => num_step T 0 2 (Nat.le_refl _) (by
      obtain ⟨fd, F⟩ := T.f_numbered
      refine ⟨fd, ⟨fun vs H Q E h => absurd h.1 (by decide), fun A outer s H args us vs Q E _ _ _ _ h => absurd h.1 (by decide)⟩, F.bindsN fun _ _ _ _ _ _ us hl => match us, hl with | [_, _, _], _ => rfl⟩)
  | d + 1 => num_step T (d + 1) (d + 3) (by omega) ((ok_numbered T d).imp fun vs H Q E h => h.2)
end
end Rt
/-! ## M5 -/
set_option Elab.async false
set_option linter.all false
set_option maxRecDepth 100000
set_option maxHeartbeats 4000000
namespace Rt
open PySem PySem.Spec PyProof.Rows L2
open L2H (RoomH roomH_of)
def spEntry (K : PySem.W.Frag) : Sp := fun vs H Q _ => ∃ (q l : Addr) (b : Int) (I : PI) (h : Str) (d : Nat) (A S : List Addr) (D : Ds), vs = [.ref q, .int b] ∧ LayS I K H A D S l ∧ KidsAt H A D h d q ∧ PtOk D h b ∧ ∀ e, PtOk D h e → Q (.int e) H
def spLink (K : PySem.W.Frag) (d : Nat) : Sp := fun vs H Q _ => ∃ (q l : Addr) (b g : Int) (I : PI) (h : Str) (A S : List Addr) (D : Ds), vs = [.ref q, .int b, .int g] ∧ LayS I K H A D S l ∧ KidsAt H A D h d q ∧ PtOk D h b ∧ GdOk D h g ∧ A.length ≤ 4000 ∧
  ∀ H', LayS I K H' A D S l → (∀ c o, c ∉ A → H c = some o → H' c = some o) → Q .non H'
theorem KidsAt.at {I : PI} {K : PySem.W.Frag} {H : Hp} {A : List Addr} {D : Ds} {S : List Addr} {l : Addr} {h : Str} {d : Nat} {vs : List V} {v : V} (L : LayS I K H A D S l) (k : ∀ v ∈ vs, ∃ (j : Nat) (a : Addr) (w : Str) (d' : Nat), A[j]? = some a ∧ v = .ref a ∧ D[j]? = some (h, w, d') ∧ d' < d) (hv : v ∈ vs) :
    ∃ (j : Nat) (a : Addr) (w : Str) (d' : Nat), A[j]? = some a ∧ v = .ref a ∧ D[j]? = some (h, w, d') ∧ d' < d ∧ NodeS I K H A D S j a (h, w, d') := by
  obtain ⟨j, a, w, d', e1, e2, e3, e4⟩ := k v hv
  exact ⟨j, a, w, d', e1, e2, e3, e4, L.nodes j a _ e1 e3⟩
theorem KidsAt.notin {I : PI} {K : PySem.W.Frag} {H H0 : Hp} {A : List Addr} {D : Ds} {S : List Addr} {l : Addr} {q : Addr} {vs : List V} (L : LayS I K H A D S l) (h : H q = some (.lst vs)) : q ∉ A := fun hm => by
  obtain ⟨dx, fs, e⟩ := L.ins hm
  rw [h] at e
  cases e
section
variable {P : Program} {w : World} {K : PySem.W.Frag} {mg : Str → Option Value} {base : Heap}
theorem ok_entry (T : Txt K mg) : OkC P w K mg base CX0 1 (He.ga K "entry_of") ["nodes", "behind"] (spEntry K) := by
  refine okC T.f_entry_of sc_entry_of (fun fd F => F.bindsN fun _ _ _ _ _ _ us hl => match us, hl with | [_, _], _ => rfl) (fun vs H Q E h => ?_) (fun cdv A outer s H vs Q E hr h => ?_)
  · obtain ⟨q, l, b, I, h, d, A, S, D, rfl, _⟩ := h
    rfl
  · obtain ⟨q, l, b, I, h, d, A', S, D, rfl, L, ⟨vs, hq, hl, hk⟩, hb, k⟩ := h
    refine ⟨_, (pss_cons
 (ps_if (pt_truth (pv 0) (by intro _; rfl)) (pss_one
 (ps_ret (pe_fld (pe_ix ix_list (pv 0) pe_int (fun _ _ => rfl)) rfl))) pss_nil) (pss_one
 (ps_ret (pv 1)))), ?_⟩
    refine ⟨_, rfl, _, .inl ⟨vs, SqL.of hq, rfl⟩, ?_⟩
    cases vs with
    | nil => exact iteF ⟨_, rfl, k _ hb⟩
    | cons v vs =>
      obtain ⟨j, a, w, d', e1, rfl, e3, e4, dx, r, fl, sl, e, b', g, hx, _, _, _, _, _, he, _⟩ := KidsAt.at L hk List.mem_cons_self
      exact iteT ⟨_, rfl, q, _, _, _, rfl, rfl, SqL.of hq, at0, a, _, dx, _, _, rfl, hx, T.c_Node, T.n_Node_entry, rfl, k _ he⟩
theorem link_step (T : Txt K mg) (d kk : Nat) (hkk : 1 ≤ kk) (G_link : OkC P w K mg base CX0 (kk + 1) (He.ga K "link") ["nodes", "behind", "guard"] (fun vs H Q E => 1 ≤ d ∧ spLink K (d - 1) vs H Q E)) :
    OkC P w K mg base CX0 (kk + 2) (He.ga K "link") ["nodes", "behind", "guard"] (spLink K d) := by
  have G_entry_of := ok_entry (P := P) (w := w) (base := base) T
  refine okC T.f_link sc_link (fun fd F => F.bindsN fun _ _ _ _ _ _ us hl => match us, hl with | [_, _, _], _ => rfl) (fun vs H Q E h => ?_) (fun cdv A outer s H vs Q E hr h => ?_)
  · obtain ⟨q, l, b, g, I, h, A, S, D, rfl, _⟩ := h
    rfl
  · obtain ⟨q, l, b, g, I, h, A', S, D, rfl, L, ⟨vs, hq, hl, hk⟩, hb, hg, hA, k⟩ := h
    refine ⟨_, (pss_one
 (ps_for PassesOwn.never rfl (pi_reversed (by rfl) T.b_reversed (pa_cons (pv 0) pa_nil)) (pg_name (i := 3) sc_link.nd rfl (by first | exact Or.inl rfl | exact Or.inr rfl)) (pss_cons
 (ps_fld (pv 3) (pv 1) rfl) (pss_cons
 (ps_fld (pv 3) (pv 2) rfl) (pss_cons
 (ps_set (i := 4) sc_link.nd rfl (by first | exact Or.inl rfl | exact Or.inr rfl) (pe_ix ix_tup (pe_fld (pv 3) rfl) pe_int (fun _ _ => rfl))) (C8.pss_cut
 (ps_if (pt_cmpR op_eq (pv 4) pe_str (nomark _)) (pss_one
 (ps_expr (ce_call G_link (hr.mono (by omega)) T.g_link T.p_link pass0 (pa_cons (pe_fld (pv 3) rfl) (pa_cons (pe_fld (pv 3) rfl) (pa_cons (pv 2) pa_nil)))))) (pss_one
 (ps_if (pt_cmpR op_eq (pv 4) pe_str (nomark _)) (pss_cons
 (ps_expr (ce_call G_link (hr.mono (by omega)) T.g_link T.p_link pass0 (pa_cons (pe_fld (pv 3) rfl) (pa_cons (pv 1) (pa_cons (pe_fld (pv 3) rfl) pa_nil))))) (pss_cons
 (ps_expr (ce_call G_link (hr.mono (by omega)) T.g_link T.p_link pass0 (pa_cons (pe_fld (pv 3) rfl) (pa_cons (pv 1) (pa_cons (pv 2) pa_nil))))) (pss_one
 (ps_fld (pv 3) (ce_call G_entry_of (hr.mono (by omega)) T.g_entry_of T.p_entry_of pass0 (pa_cons (pe_fld (pv 3) rfl) (pa_cons (pv 1) pa_nil))) rfl)))) (pss_cons
 (ps_expr (ce_call G_link (hr.mono (by omega)) T.g_link T.p_link pass0 (pa_cons (pe_fld (pv 3) rfl) (pa_cons (pv 1) (pa_cons (pv 2) pa_nil))))) (pss_one
 (ps_expr (ce_call G_link (hr.mono (by omega)) T.g_link T.p_link pass0 (pa_cons (pe_fld (pv 3) rfl) (pa_cons (pv 1) (pa_cons (pv 2) pa_nil)))))))))) (pss_one
 (ps_set (i := 1) sc_link.nd rfl (by first | exact Or.inl rfl | exact Or.inr rfl) (pe_fld (pv 3) rfl))))))))), ?_⟩
    have qA : q ∉ A' := KidsAt.notin (H0 := H) L hq
    refine ⟨_, rfl, q, vs, rfl, SqL.of hq, for_it walk_rev (fun i σ H' => ∃ (b' : Int) (o3 o4 : Option V), σ = [some (.ref q), some (.int b'), some (.int g), o3, o4] ∧ LayS I K H' A' D S l ∧ (∀ c o, c ∉ A' → H c = some o → H' c = some o) ∧ PtOk D h b') ?_ ?_ ?_ ?_⟩
    · exact ⟨b, none, none, rfl, L, fun _ _ _ e => e, hb⟩
    · rintro i σ H' _ ⟨b', o3, o4, rfl, _, kp, _⟩
      exact SqL.of (kp _ _ qA hq)
    · rintro i v σ H0 H2 hi ⟨b', o3, o4, rfl, L2, kp2, hb'⟩ ⟨rfl, hv⟩
      obtain ⟨j, a, wd, d', e1, rfl, e3, e4, dx, r, fl, sl, e, b0, g0, hx, hrow, hfs, hss, hkf, hks, he, hb0, hg0⟩ := KidsAt.at L2 hk (List.mem_of_getElem? hv)
      obtain ⟨d, rfl⟩ : ∃ d0, d = d0 + 1 := ⟨d - 1, by omega⟩
      have hd' : d' ≤ d := by omega
      have aA : a ∈ A' := List.mem_of_getElem? e1
      -- behind, guard
      refine ⟨_, rfl, _, rfl, a, _, dx, _, rfl, hx, T.c_Node, T.n_Node_behind, few rfl, ?_⟩
      rw [nodeF_behind]
      refine ⟨_, rfl, _, rfl, a, _, dx, _, rfl, upd_same, T.c_Node, T.n_Node_guard, few rfl, ?_⟩
      rw [nodeF_guard, upd_upd]
      have L3 := L2.set (dx := dx) (r := r) (fl := fl) (sl := sl) (e := e) (b := b') (g := g) e1 e3 hrow hfs hss hkf hks he hb' hg
      have x3 : upd H2 a (.ins (He.ga K "Node") dx (nodeF j r h fl sl e b' g)) a = some (.ins (He.ga K "Node") dx (nodeF j r h fl sl e b' g)) := upd_same
      have kp3 : ∀ c o, c ∉ A' → H c = some o → upd H2 a (.ins (He.ga K "Node") dx (nodeF j r h fl sl e b' g)) c = some o := fun c o hc q => by
        have hca : c ≠ a := fun z => hc (by rw [z]; exact aA)
        rw [upd_ne hca]
        exact kp2 c o hc q
      have T3 : Tk H2 (upd H2 a (.ins (He.ga K "Node") dx (nodeF j r h fl sl e b' g))) := fun c zs q => by
        rw [upd_ne (ne_of q hx (by intro z; cases z))]
        exact q
      have hrow3 := hrow.tk T3
      obtain ⟨⟨rest, hr3⟩, _⟩ := hrow3
      show tSeq _ _ _ _ (upd H2 a (.ins (He.ga K "Node") dx (nodeF j r h fl sl e b' g)))
      generalize upd H2 a (.ins (He.ga K "Node") dx (nodeF j r h fl sl e b' g)) = H3 at L3 x3 kp3 hr3 ⊢
      -- word
      refine ⟨_, rfl, a, _, dx, _, _, rfl, x3, T.c_Node, T.n_Node_row, rfl, r, _, _, _, rfl, rfl, SqT.of hr3, at0, ?_⟩
      have stp : ∀ H', LayS I K H' A' D S l → (∀ c o, c ∉ A' → H c = some o → H' c = some o) → ∃ dx r fl sl e b g, H' a = some (.ins (He.ga K "Node") dx (nodeF j r h fl sl e b g)) ∧ RowAt I H' h wd r ∧ fl ∈ S ∧ sl ∈ S ∧ KidsAt H' A' D h d' fl ∧ KidsAt H' A' D h d' sl ∧ PtOk D h e ∧ PtOk D h b ∧ GdOk D h g :=
        fun H' L' _ => L'.nodes j a _ e1 e3
      refine ⟨fun σ H' => σ = [some (.ref q), some (.int b'), some (.int g), some (.ref a), some (.str wd)] ∧ LayS I K H' A' D S l ∧ (∀ c o, c ∉ A' → H c = some o → H' c = some o), ?_, ?_⟩
      · refine ⟨_, rfl, rfl, _, rfl, ite2 (fun _ => ?_) (fun _ => ?_)⟩
        · obtain ⟨dx, r, fl, sl, e, b1, g1, hx, hrow, hfs, hss, hkf, hks, he, hb1, hg1⟩ := stp _ L3 kp3
          refine ⟨_, rfl, a, _, dx, _, _, rfl, hx, T.c_Node, T.n_Node_firsts, rfl, _, rfl, a, _, dx, _, _, rfl, hx, T.c_Node, T.n_Node_number, rfl, _, rfl, Nat.le_add_left 1 d, fl, l, _, g, I, h, A', S, D, rfl, L3, hkf.le hd', .inr ⟨j, wd, d', rfl, e3⟩, hg, hA, fun H4 L4 kp4 => ?_⟩
          exact ⟨rfl, L4, fun c o hc q => kp4 c o hc (kp3 c o hc q)⟩
        · refine ⟨_, rfl, rfl, _, rfl, ite2 (fun hw => ?_) (fun _ => ?_)⟩
          · have ew : wd = "try" := by
              have z := of_decide_eq_true hw
              injection z
            obtain ⟨dx, r, fl, sl, e, b1, g1, hx, hrow, hfs, hss, hkf, hks, he, hb1, hg1⟩ := stp _ L3 kp3
            refine ⟨_, rfl, a, _, dx, _, _, rfl, hx, T.c_Node, T.n_Node_firsts, rfl, _, rfl, _, rfl, a, _, dx, _, _, rfl, hx, T.c_Node, T.n_Node_number, rfl, Nat.le_add_left 1 d, fl, l, _, _, I, h, A', S, D, rfl, L3, hkf.le hd', hb', .inr ⟨j, d', rfl, by rw [e3, ew]⟩, hA, fun H4 L4 kp4 => ?_⟩
            obtain ⟨dx, r, fl, sl, e, b1, g1, hx, hrow, hfs, hss, hkf, hks, he, hb1, hg1⟩ := stp _ L4 (fun c o hc q => kp4 c o hc (kp3 c o hc q))
            refine ⟨_, rfl, a, _, dx, _, _, rfl, hx, T.c_Node, T.n_Node_seconds, rfl, _, rfl, _, rfl, Nat.le_add_left 1 d, sl, l, _, _, I, h, A', S, D, rfl, L4, hks.le hd', hb', hg, hA, fun H5 L5 kp5 => ?_⟩
            obtain ⟨dx, r, fl, sl, e, b1, g1, hx, hrow, hfs, hss, hkf, hks, he, hb1, hg1⟩ := stp _ L5 (fun c o hc q => kp5 c o hc (kp4 c o hc (kp3 c o hc q)))
            refine ⟨_, rfl, a, _, dx, _, _, rfl, hx, T.c_Node, T.n_Node_firsts, rfl, _, rfl, fl, l, _, I, h, d', A', S, D, rfl, L5, hkf, hb', fun e' he' => ?_⟩
            refine ⟨_, rfl, a, _, dx, _, rfl, hx, T.c_Node, T.n_Node_entry, few rfl, ?_⟩
            rw [nodeF_entry]
            refine ⟨rfl, L5.set e1 e3 hrow hfs hss hkf hks he' hb1 hg1, fun c o hc q => ?_⟩
            have hca : c ≠ a := fun z => hc (by rw [z]; exact aA)
            rw [upd_ne hca]
            exact kp5 c o hc (kp4 c o hc (kp3 c o hc q))
          · obtain ⟨dx, r, fl, sl, e, b1, g1, hx, hrow, hfs, hss, hkf, hks, he, hb1, hg1⟩ := stp _ L3 kp3
            refine ⟨_, rfl, a, _, dx, _, _, rfl, hx, T.c_Node, T.n_Node_firsts, rfl, _, rfl, _, rfl, Nat.le_add_left 1 d, fl, l, _, _, I, h, A', S, D, rfl, L3, hkf.le hd', hb', hg, hA, fun H4 L4 kp4 => ?_⟩
            obtain ⟨dx, r, fl, sl, e, b1, g1, hx, hrow, hfs, hss, hkf, hks, he, hb1, hg1⟩ := stp _ L4 (fun c o hc q => kp4 c o hc (kp3 c o hc q))
            refine ⟨_, rfl, a, _, dx, _, _, rfl, hx, T.c_Node, T.n_Node_seconds, rfl, _, rfl, _, rfl, Nat.le_add_left 1 d, sl, l, _, _, I, h, A', S, D, rfl, L4, hks.le hd', hb', hg, hA, fun H5 L5 kp5 => ?_⟩
            exact ⟨rfl, L5, fun c o hc q => kp5 c o hc (kp4 c o hc (kp3 c o hc q))⟩
      · rintro σ H4 ⟨rfl, L4, kp4⟩
        obtain ⟨dx, r, fl, sl, e, b1, g1, hx, hrow, hfs, hss, hkf, hks, he, hb1, hg1⟩ := stp _ L4 kp4
        exact ⟨_, rfl, a, _, dx, _, _, rfl, hx, T.c_Node, T.n_Node_entry, rfl, e, _, _, rfl, L4, kp4, he⟩
    · rintro σ H2 ⟨b', o3, o4, rfl, L2, kp2, hb'⟩
      exact k H2 L2 kp2
theorem ok_link (T : Txt K mg) : ∀ d : Nat, OkC P w K mg base CX0 (d + 3) (He.ga K "link") ["nodes", "behind", "guard"] (spLink K d)
  | 0 => link_step T 0 1 (Nat.le_refl _) (by
      obtain ⟨fd, F⟩ := T.f_link
      refine ⟨fd, ⟨fun vs H Q E h => absurd h.1 (by decide), fun A outer s H args us vs Q E _ _ _ _ h => absurd h.1 (by decide)⟩, F.bindsN fun _ _ _ _ _ _ us hl => match us, hl with | [_, _, _], _ => rfl⟩)
  | d + 1 => link_step T (d + 1) (d + 2) (by omega) ((ok_link T d).imp fun vs H Q E h => h.2)
end
end Rt
/-! ## M6 -/
set_option Elab.async false
set_option linter.all false
set_option maxRecDepth 100000
set_option maxHeartbeats 4000000
namespace Rt
open PySem PySem.Spec PyProof.Rows L2
open L2H (RoomH roomH_of)
def funF (t : Str) (pa nm : Addr) (num e : Int) : List (Str × V) := [("title", .str t), ("params", .ref pa), ("names", .ref nm), ("number", .int num), ("entry", .int e)]
def FunAt (K : PySem.W.Frag) (H : Hp) (D : Ds) (f : Str × List Str × List Str) (v : V) : Prop := ∃ (p dx pa nm : Addr) (j d : Nat) (e : Int), v = .ref p ∧ H p = some (.ins (He.ga K "Function") dx (funF f.1 pa nm (j : Int) e)) ∧ H nm = some (.tup ((f.2.1 ++ f.2.2).map V.str)) ∧
  D[j]? = some (f.1, ("def" : Str), d) ∧ PtOk D f.1 e
theorem not_node {I : PI} {K : PySem.W.Frag} {H : Hp} {A : List Addr} {D : Ds} {S : List Addr} {l p C dx : Addr} {fs : List (Str × V)} (L : LayS I K H A D S l) (e : H p = some (.ins C dx fs)) (hf : ∀ i r h fl sl e b g, fs ≠ nodeF i r h fl sl e b g) : p ∉ A := fun hm => by
  obtain ⟨i, hi, ei⟩ := List.mem_iff_getElem.mp hm
  obtain ⟨x, _, dx', r, fl, sl, e', b, g, h1, _⟩ := L.at (i := i) (a := p) (by rw [List.getElem?_eq_getElem hi, ei])
  rw [e] at h1
  injection h1 with h1
  injection h1 with _ _ h1
  exact hf _ _ _ _ _ _ _ _ h1
theorem not_nodeD {I : PI} {K : PySem.W.Frag} {H : Hp} {A : List Addr} {D : Ds} {S : List Addr} {l p : Addr} {o : HO} (L : LayS I K H A D S l) (e : H p = some o) (hf : ∀ C dx fs, o ≠ .ins C dx fs) : p ∉ A := fun hm => by
  obtain ⟨dx, fs, h⟩ := L.ins hm
  rw [e] at h
  injection h with h
  exact hf _ _ _ h
theorem not_list {I : PI} {K : PySem.W.Frag} {H : Hp} {A : List Addr} {D : Ds} {S : List Addr} {l p : Addr} {o : HO} (L : LayS I K H A D S l) (e : H p = some o) (hf : ∀ vs, o ≠ .lst vs) : p ∉ S ∧ p ≠ l := by
  refine ⟨fun hm => ?_, fun z => ?_⟩
  · obtain ⟨_, vs, h⟩ := L.lists p hm
    rw [e] at h
    injection h with h
    exact hf _ h
  · have h := L.lst
    rw [← z, e] at h
    injection h with h
    exact hf _ h
/-- a thing that is no part of it changes -/
theorem LayS.upd {I : PI} {K : PySem.W.Frag} {H : Hp} {A : List Addr} {D : Ds} {S : List Addr} {l p : Addr} {o : HO} (L : LayS I K H A D S l) (hA : p ∉ A) (hS : p ∉ S ∧ p ≠ l) (hT : ∀ zs, H p ≠ some (.tup zs)) : LayS I K (upd H p o) A D S l := by
  refine L.keep (fun b u h e => ?_) (fun b zs e => ?_)
  · rw [upd_ne (fun z => ?_)]
    · exact e
    · rcases h with h | h | h
      · exact hS.2 (z ▸ h)
      · exact hA (z ▸ h)
      · exact hS.1 (z ▸ h)
  · have hb : b ≠ p := fun z => hT zs (by rw [← z]; exact e)
    rw [upd_ne hb]
    exact e
def spFunc (K : PySem.W.Frag) : Sp := fun vs H Q _ => ∃ (x dx told pa oa ra q l : Addr) (t : Str) (ps os : List Str) (num : Int) (I : PI) (d : Nat) (A S : List Addr) (D : Ds), vs = [.ref x, .ref told, .int num, .ref q] ∧ H x = some (.ins (He.ga K "Function") dx []) ∧
  H told = some (.tup [.str t, .ref pa, .ref oa, .ref ra]) ∧ H pa = some (.tup (ps.map V.str)) ∧ H oa = some (.tup (os.map V.str)) ∧ ps.length + os.length ≤ 100 ∧ LayS I K H A D S l ∧ KidsAt H A D t d q ∧
  ∀ H' nm e, (∀ b o, b ≠ x → H b = some o → H' b = some o) → H' x = some (.ins (He.ga K "Function") dx (funF t pa nm num e)) → H' nm = some (.tup ((ps ++ os).map V.str)) → PtOk D t e → Q .non H'
section
variable {P : Program} {w : World} {K : PySem.W.Frag} {mg : Str → Option Value} {base : Heap}
theorem ok_func (T : Txt K mg) : OkC P w K mg base CX0 2 (He.ma K (He.ga K "Function") "__init__") ["self", "told", "number", "nodes"] (spFunc K) := by
  have G_entry_of := ok_entry (P := P) (w := w) (base := base) T
  refine okC T.f_Function___init__ sc_Function___init__ (fun fd F => F.bindsN fun _ _ _ _ _ _ us hl => match us, hl with | [_, _, _, _], _ => rfl) (fun vs H Q E h => ?_) (fun cdv A outer s H vs Q E hr h => ?_)
  · obtain ⟨x, dx, told, pa, oa, ra, q, l, t, ps, os, num, I, d, A, S, D, rfl, _⟩ := h
    rfl
  · obtain ⟨x, dx, told, pa, oa, ra, q, l, t, ps, os, num, I, d, A', S, D, rfl, hx, ht, hpa, hoa, hlen, L, hk, k⟩ := h
    refine ⟨_, (pss_cons
 (ps_fld (pv 0) (pe_ix ix_tup (pv 1) pe_int (fun _ _ => rfl)) rfl) (pss_cons
 (ps_fld (pv 0) (pe_ix ix_tup (pv 1) pe_int (fun _ _ => rfl)) rfl) (pss_cons
 (ps_fld (pv 0) (pe_op op_catS (pe_ix ix_tup (pv 1) pe_int (fun _ _ => rfl)) (pe_ix ix_tup (pv 1) pe_int (fun _ _ => rfl))) rfl) (pss_cons
 (ps_fld (pv 0) (pv 2) rfl) (pss_one
 (ps_fld (pv 0) (ce_call G_entry_of (hr.mono (by omega)) T.g_entry_of T.p_entry_of pass0 (pa_cons (pv 3) (pa_cons (pe_un un_neg pe_int) pa_nil))) rfl)))))), ?_⟩
    have xA : x ∉ A' := not_node L hx (fun _ _ _ _ _ _ _ _ z => by cases z)
    have xS := not_list L hx (fun _ z => by cases z)
    have xT : ∀ zs, H x ≠ some (.tup zs) := fun zs z => by rw [hx] at z; cases z
    have up : ∀ {o : HO} b u, b ≠ x → H b = some u → upd H x o b = some u := fun b u hb e => by rw [upd_ne hb]; exact e
    have tx : told ≠ x := ne_of ht hx (by intro z; cases z)
    have pax : pa ≠ x := ne_of hpa hx (by intro z; cases z)
    have oax : oa ≠ x := ne_of hoa hx (by intro z; cases z)
    refine ⟨_, rfl, told, _, _, _, rfl, rfl, SqT.of ht, rfl, _, rfl, x, _, dx, _, rfl, hx, T.c_Function, T.n_Function_title, few rfl, ?_⟩
    rw [putF_new rfl]
    simp only [List.nil_append]
    refine ⟨_, rfl, told, _, _, _, rfl, rfl, SqT.of (up _ _ tx ht), rfl, _, rfl, x, _, dx, _, rfl, upd_same, T.c_Function, T.n_Function_params, few rfl, ?_⟩
    rw [putF_new rfl, upd_upd]
    simp only [List.cons_append, List.nil_append]
    refine ⟨_, rfl, told, _, _, _, rfl, rfl, SqT.of (up _ _ tx ht), rfl, _, rfl, told, _, _, _, rfl, rfl, SqT.of (up _ _ tx ht), rfl, pa, oa, _, _, rfl, rfl, up _ _ pax hpa, up _ _ oax hoa, szn (by rw [List.length_map, List.length_map]; omega), fun nm H2 s2 hnm => ?_⟩
    have hx2 := s2 x _ upd_same
    refine ⟨_, rfl, x, _, dx, _, rfl, hx2, T.c_Function, T.n_Function_names, few rfl, ?_⟩
    rw [putF_new rfl]
    simp only [List.cons_append, List.nil_append]
    refine ⟨_, rfl, _, rfl, x, _, dx, _, rfl, upd_same, T.c_Function, T.n_Function_number, few rfl, ?_⟩
    rw [putF_new rfl, upd_upd]
    simp only [List.cons_append, List.nil_append]
    have nmx : nm ≠ x := ne_of hnm hx2 (by intro z; cases z)
    have kp : ∀ {o : HO} b u, b ≠ x → H b = some u → upd H2 x o b = some u := fun b u hb e => by
      rw [upd_ne hb]
      exact s2 _ _ (up _ _ hb e)
    have L2' : ∀ o : HO, LayS I K (upd H2 x o) A' D S l := fun o => by
      refine L.keep (fun b u h e => kp b u (fun z => ?_) e) (fun b zs e => kp b _ (ne_of e hx (by intro z; cases z)) e)
      rcases h with h | h | h
      · exact xS.2 (z ▸ h)
      · exact xA (z ▸ h)
      · exact xS.1 (z ▸ h)
    obtain ⟨vs, hq, hvl, hkk⟩ := hk
    have qx : q ≠ x := ne_of hq hx (by intro z; cases z)
    refine ⟨_, rfl, _, rfl, q, l, -1, I, t, d, A', S, D, rfl, L2' _, ⟨vs, kp _ _ qx hq, hvl, hkk⟩, .inl rfl, fun e he => ?_⟩
    refine ⟨_, rfl, x, _, dx, _, rfl, upd_same, T.c_Function, T.n_Function_entry, few rfl, ?_⟩
    rw [putF_new rfl, upd_upd]
    simp only [List.cons_append, List.nil_append]
    refine k _ nm e (fun b o hb e => kp b o hb e) upd_same ?_ he
    rw [upd_ne nmx, List.map_append]
    exact hnm
/-- which names stand where -/
theorem scOf_fun {I : PI} (ok : PI.Ok I) {f : Str × List Str × List Str} (hf : f ∈ I.fs) : scOf I f.1 = scF I.B I.L I.F f := by
  unfold scOf
  have e : I.fs.find? (fun g => g.1 == f.1) = some f := by
    have nd := ok.t
    generalize I.fs = fs at hf nd
    induction fs with
    | nil => cases hf
    | cons g gs ih =>
      rw [List.find?_cons]
      rcases List.mem_cons.mp hf with rfl | hf
      · rw [beq_self_eq_true]
      · have hne : (g.1 == f.1) = false := beq_eq_false_iff_ne.mpr fun e => by
          have h1 := List.nodup_cons.mp (List.map_cons ▸ nd)
          exact h1.1 (by rw [e]; exact List.mem_map_of_mem hf)
        rw [hne]
        exact ih hf (List.nodup_cons.mp (List.map_cons ▸ nd)).2
  rw [e]
theorem scOf_main {I : PI} (ok : PI.Ok I) : scOf I "" = ⟨I.B, I.L, I.F, false⟩ := by
  unfold scOf
  have e : I.fs.find? (fun g => g.1 == ("" : Str)) = none := by
    rw [List.find?_eq_none]
    intro f hf h
    have e := eq_of_beq h
    have p := ok.tp f hf
    rw [e] at p
    cases p
  rw [e]
def layF (l fd : Addr) (e : Int) : List (Str × V) := [("nodes", .ref l), ("functions", .ref fd), ("entry", .int e)]
/-- a layout, made -/
structure LayOk (I : PI) (K : PySem.W.Frag) (H : Hp) (x dx l fd : Addr) (e : Int) (A : List Addr) (D : Ds) (S : List Addr) (kvs : List (Key × V)) : Prop where
  obj : H x = some (.ins (He.ga K "Layout") dx (layF l fd e))
  lay : LayS I K H A D S l
  size : A.length ≤ 4000
  dct : H fd = some (.dK kvs)
  funs : All2 (fun f kv => kv.1 = Sum.inr f.1 ∧ FunAt K H D f kv.2) I.fs kvs
  entry : PtOk D "" e
/-- the functions made ready stay -/
def KF (K : PySem.W.Frag) (H H' : Hp) : Prop := ∀ (p dx : Addr) (t : Str) (pa nm : Addr) (num e : Int), H p = some (.ins (He.ga K "Function") dx (funF t pa nm num e)) → H' p = some (.ins (He.ga K "Function") dx (funF t pa nm num e))
theorem KF.trans {H H1 H2 : Hp} (a : KF K H H1) (b : KF K H1 H2) : KF K H H2 := fun p dx t pa nm num e h => b _ _ _ _ _ _ _ (a _ _ _ _ _ _ _ h)
theorem KF.same {H H' : Hp} (s : Same H H') : KF K H H' := fun p dx t pa nm num e h => s _ _ h
theorem KF.upd {H : Hp} {q : Addr} {o u : HO} (h : H q = some u) (hn : ∀ dx t pa nm num e, u ≠ .ins (He.ga K "Function") dx (funF t pa nm num e)) : KF K H (upd H q o) := fun p dx t pa nm num e h2 => by
  have hne : p ≠ q := fun z => by
    rw [z, h] at h2
    injection h2 with h2
    exact hn _ _ _ _ _ _ h2
  rw [upd_ne hne]
  exact h2
theorem KF.but {H H' : Hp} {l : Addr} {vs : List V} (b : But l H H') (h : H l = some (.lst vs)) : KF K H H' := fun p dx t pa nm num e h2 => b _ _ (ne_of h2 h (by intro z; cases z)) h2
theorem FunAt.keep {H H' : Hp} {D D' : Ds} {f : Str × List Str × List Str} {v : V} (h : FunAt K H D f v) (k : KF K H H') (kT : Tk H H') : FunAt K H' (D ++ D') f v := by
  obtain ⟨p, dx, pa, nm, j, d, e, h1, h2, h3, h4, h5⟩ := h
  exact ⟨p, dx, pa, nm, j, d, e, h1, k _ _ _ _ _ _ _ h2, kT _ _ h3, get_app h4, h5.ext⟩
theorem FunAt.keep0 {H H' : Hp} {D : Ds} {f : Str × List Str × List Str} {v : V} (h : FunAt K H D f v) (k : KF K H H') (kT : Tk H H') : FunAt K H' D f v := by
  have z := h.keep (D' := []) k kT
  rw [List.append_nil] at z
  exact z
theorem putK_new {κ : Type} [DecidableEq κ] {kvs : List (κ × V)} {k : κ} {v : V} (h : ∀ kv ∈ kvs, kv.1 ≠ k) : putK kvs k v = kvs ++ [(k, v)] := by
  unfold putK
  have e : (kvs.any fun kv => decide (kv.1 = k)) = false := by
    rw [List.any_eq_false]
    intro kv hkv q
    exact h kv hkv (of_decide_eq_true q)
  rw [e]
  rfl
def spLay (K : PySem.W.Frag) : Sp := fun vs H Q _ => ∃ (x dx a : Addr) (I : PI), vs = [.ref x, .ref a] ∧ H x = some (.ins (He.ga K "Layout") dx []) ∧ WProg I H a ∧ PI.Ok I ∧ (∀ r, InProg H a r → I.P r) ∧
  ∀ H' l fd e A D S kvs, (∀ b o, b ≠ x → H b = some o → H' b = some o) → LayOk I K H' x dx l fd e A D S kvs → Q .non H'
theorem ok_layout (T : Txt K mg) : OkC P w K mg base CX0 9 (He.ma K (He.ga K "Layout") "__init__") ["self", "program"] (spLay K) := by
  have G_entry_of := ok_entry (P := P) (w := w) (base := base) T
  have G_Node___init__ := ok_node (P := P) (w := w) (base := base) T
  have G_Function___init__ := ok_func (P := P) (w := w) (base := base) T
  have G_numbered := ok_numbered (P := P) (w := w) (base := base) T 4
  have G_link := ok_link (P := P) (w := w) (base := base) T 4
  refine okC T.f_Layout___init__ sc_Layout___init__ (fun fd F => F.bindsN fun _ _ _ _ _ _ us hl => match us, hl with | [_, _], _ => rfl) (fun vs H Q E h => ?_) (fun cdv A outer s H vs Q E hr h => ?_)
  · obtain ⟨x, dx, a, I, rfl, _⟩ := h
    rfl
  · obtain ⟨x, dx, a, I, rfl, hx, hW, ok, hPr, k⟩ := h
    obtain ⟨pa, ta, fa, ra, ps, ts, us, n, h1, h2, h3, h4, h5, h6, h7, h8, h9⟩ := hW.ex
    refine ⟨_, (pss_cons
 (ps_fld (pv 0) (pe_lst pa_nil) rfl) (pss_cons
 (ps_fld (pv 0) pe_dnewK rfl) (pss_cons
 (ps_for PassesOwn.never rfl (pi_tup (pe_ix ix_tup (pv 1) pe_int (fun _ _ => rfl))) (pg_name (i := 2) sc_Layout___init__.nd rfl (by first | exact Or.inl rfl | exact Or.inr rfl)) (pss_cons
 (ps_set (i := 3) sc_Layout___init__.nd rfl (by first | exact Or.inl rfl | exact Or.inr rfl) (ce_make G_Node___init__ (hr.mono (by omega)) T.k_Node T.g_Node pass0 (pa_cons (pe_callB call_len_seq (by rfl) T.b_len (by decide +kernel) (pa_cons (pe_fld (pv 0) rfl) pa_nil)) (pa_cons (pe_tup (pa_cons pe_str (pa_cons (pe_ix ix_tup (pv 2) pe_int (fun _ _ => rfl)) pa_nil))) (pa_cons (pe_ix ix_tup (pv 2) pe_int (fun _ _ => rfl)) pa_nil))))) (pss_cons
 (ps_expr (pe_bm PySem.F.plainAttrs_list PySem.F.slot_list_append PySem.F.type_list_append mt_append (pe_fld (pv 0) rfl) (pa_cons (pv 3) pa_nil))) (pss_cons
 (ps_set (i := 4) sc_Layout___init__.nd rfl (by first | exact Or.inl rfl | exact Or.inr rfl) (ce_call G_numbered (hr.mono (by omega)) T.g_numbered T.p_numbered pass0 (pa_cons (pe_ix ix_tup (pv 2) pe_int (fun _ _ => rfl)) (pa_cons (pe_ix ix_tup (pv 2) pe_int (fun _ _ => rfl)) (pa_cons (pe_fld (pv 0) rfl) pa_nil))))) (pss_cons
 (ps_expr (ce_call G_link (hr.mono (by omega)) T.g_link T.p_link pass0 (pa_cons (pv 4) (pa_cons (pe_un un_neg pe_int) (pa_cons (pe_un un_neg pe_int) pa_nil))))) (pss_one
 (ps_dput (hu_of hr) (pe_fld (pv 0) rfl) (pe_ix ix_tup (pv 2) pe_int (fun _ _ => rfl)) (ce_make G_Function___init__ (hr.mono (by omega)) T.k_Function T.g_Function pass0 (pa_cons (pv 2) (pa_cons (pe_fld (pv 3) rfl) (pa_cons (pv 4) pa_nil)))) rfl))))))) (pss_cons
 (ps_set (i := 4) sc_Layout___init__.nd rfl (by first | exact Or.inl rfl | exact Or.inr rfl) (ce_call G_numbered (hr.mono (by omega)) T.g_numbered T.p_numbered pass0 (pa_cons (pe_ix ix_tup (pv 1) pe_int (fun _ _ => rfl)) (pa_cons pe_str (pa_cons (pe_fld (pv 0) rfl) pa_nil))))) (pss_cons
 (ps_expr (ce_call G_link (hr.mono (by omega)) T.g_link T.p_link pass0 (pa_cons (pv 4) (pa_cons (pe_un un_neg pe_int) (pa_cons (pe_un un_neg pe_int) pa_nil))))) (pss_one
 (ps_fld (pv 0) (ce_call G_entry_of (hr.mono (by omega)) T.g_entry_of T.p_entry_of pass0 (pa_cons (pv 4) (pa_cons (pe_un un_neg pe_int) pa_nil))) rfl))))))), ?_⟩
    -- the two fields
    refine ⟨Nat.zero_le _, fun l hl => ⟨_, rfl, x, _, dx, _, rfl, same_new hl _ _ hx, T.c_Layout, T.n_Layout_nodes, few rfl, ?_⟩⟩
    rw [putF_new rfl]
    simp only [List.nil_append]
    have lx : l ≠ x := Ne.symm (ne_of_none hx hl)
    refine fun fd hfd => ⟨_, rfl, x, _, dx, _, rfl, same_new hfd _ _ upd_same, T.c_Layout, T.n_Layout_functions, few rfl, ?_⟩
    rw [putF_new rfl]
    simp only [List.cons_append, List.nil_append]
    have fdx : fd ≠ x := Ne.symm (ne_of_none upd_same hfd)
    have hfd1 : upd H l (.lst []) fd = none := by
      rw [upd_ne fdx] at hfd
      exact hfd
    have fdl : fd ≠ l := fun z => by rw [z, upd_same] at hfd1; cases hfd1
    have hfd0 : H fd = none := by
      rw [upd_ne fdl] at hfd1
      exact hfd1
    have kp1 : ∀ b o, b ≠ x → H b = some o → upd (upd (upd (upd H l (.lst [])) x (.ins (He.ga K "Layout") dx [("nodes", .ref l)])) fd (.dK [])) x (.ins (He.ga K "Layout") dx [("nodes", .ref l), ("functions", .ref fd)]) b = some o := fun b o hb e => by
      rw [upd_ne hb, upd_ne (fun z => by rw [z, hfd0] at e; cases e), upd_ne hb, upd_ne (fun z => by rw [z, hl] at e; cases e)]
      exact e
    have x1 : upd (upd (upd (upd H l (.lst [])) x (.ins (He.ga K "Layout") dx [("nodes", .ref l)])) fd (.dK [])) x (.ins (He.ga K "Layout") dx [("nodes", .ref l), ("functions", .ref fd)]) x = some (.ins (He.ga K "Layout") dx [("nodes", .ref l), ("functions", .ref fd)]) := upd_same
    have l1 : upd (upd (upd (upd H l (.lst [])) x (.ins (He.ga K "Layout") dx [("nodes", .ref l)])) fd (.dK [])) x (.ins (He.ga K "Layout") dx [("nodes", .ref l), ("functions", .ref fd)]) l = some (.lst []) := by
      rw [upd_ne lx, upd_ne (Ne.symm fdl), upd_ne lx]
      exact upd_same
    have fd1 : upd (upd (upd (upd H l (.lst [])) x (.ins (He.ga K "Layout") dx [("nodes", .ref l)])) fd (.dK [])) x (.ins (He.ga K "Layout") dx [("nodes", .ref l), ("functions", .ref fd)]) fd = some (.dK []) := by
      rw [upd_ne fdx]
      exact upd_same
    generalize upd (upd (upd (upd H l (.lst [])) x (.ins (He.ga K "Layout") dx [("nodes", .ref l)])) fd (.dK [])) x (.ins (He.ga K "Layout") dx [("nodes", .ref l), ("functions", .ref fd)]) = H1 at kp1 x1 l1 fd1 ⊢
    have L1 : LayS I K H1 [] [] [] l := ⟨l1, rfl, List.nodup_nil, fun i a x e => by simp at e, fun s hs => by cases hs⟩
    have tk : ∀ H', (∀ b o, b ≠ x → H b = some o → H' b = some o) → Tk H H' := fun H' kp b zs e => kp b _ (ne_of e hx (by intro z; cases z)) e
    have hul := h7.len
    refine ⟨_, rfl, a, _, _, _, rfl, rfl, SqT.of (tk _ kp1 _ _ h1), rfl, fa, rfl, ⟨_, SqT.of (tk _ kp1 _ _ h6)⟩, for_tup (xs := us) (fun i σ H' => ∃ (o2 o3 o4 : Option V) (A S : List Addr) (D : Ds) (kvs : List (Key × V)), σ = [some (.ref x), some (.ref a), o2, o3, o4] ∧ (∀ b o, b ≠ x → H b = some o → H' b = some o) ∧
      H' x = some (.ins (He.ga K "Layout") dx [("nodes", .ref l), ("functions", .ref fd)]) ∧ LayS I K H' A D S l ∧ (∀ b ∈ A, H b = none) ∧ A.length ≤ 901 * i ∧ H' fd = some (.dK kvs) ∧ All2 (fun f kv => kv.1 = Sum.inr f.1 ∧ FunAt K H' D f kv.2) (I.fs.take i) kvs) ?_ ?_ ?_ ?_⟩
    · exact ⟨none, none, none, [], [], [], [], rfl, kp1, x1, L1, (fun b hb => by cases hb), Nat.le_refl _, fd1, .nil⟩
    · rintro i σ H' _ ⟨o2, o3, o4, A, S, D, kvs, rfl, kp, _⟩
      exact SqT.of (tk _ kp _ _ h6)
    · rintro i v σ H2 hv ⟨o2, o3, o4, A2, S2, D2, kvs, rfl, kp2, x2, L2, hA0, hA2, fd2, hF2⟩
      have hi := (List.getElem?_eq_some_iff.mp hv).1
      have hif : i < I.fs.length := by omega
      obtain ⟨p, pp, po, pr, m, rfl, e1, e2, e3, e4, e5⟩ := h7.get (List.getElem?_eq_getElem hif) hv
      have hfm : I.fs[i] ∈ I.fs := List.getElem_mem hif
      have hfi : I.fs[i]? = some I.fs[i] := List.getElem?_eq_getElem hif
      generalize I.fs[i] = f at e1 e2 e3 e4 hfm hfi
      rw [← scOf_fun ok hfm] at e4
      have hA901 : A2.length ≤ 901 := by
        have : i ≤ 1 := by have := ok.fl; omega
        have e := Nat.mul_le_mul_left 901 this
        omega
      have K2 := tk _ kp2
      -- head
      refine ⟨_, rfl, x, _, dx, _, _, rfl, x2, T.c_Layout, T.n_Layout_nodes, rfl, l, _, rfl, .inl (SqL.of L2.lst), ?_⟩
      refine ⟨_, rfl, p, _, _, _, rfl, rfl, SqT.of (K2 _ _ e1), rfl, szn (by decide : 2 ≤ 1000), fun t ht => ?_⟩
      have st := same_new (o := .tup [.str "def", .str f.1]) ht
      refine ⟨_, rfl, p, _, _, _, rfl, rfl, SqT.of (st _ _ (K2 _ _ e1)), rfl, fun y dy hy hdy hyd => ?_⟩
      refine ⟨y, dy, t, _, f.1, rfl, upd_same, fun H3 fl sl B3 hy3 hfl hsl hfl0 hsl0 => ⟨rfl, ?_⟩⟩
      have Hm : Same (upd H2 t (.tup [.str "def", .str f.1])) (upd (upd (upd H2 t (.tup [.str "def", .str f.1])) dy (.own y)) y (.ins (He.ga K "Node") dy [])) := fun b o e => by
        rw [upd_ne (fun z => by rw [z, hy] at e; cases e), upd_ne (fun z => by rw [z, hdy] at e; cases e)]
        exact e
      have s3' : Same (upd H2 t (.tup [.str "def", .str f.1])) H3 := fun b o e => B3 b o (fun z => by rw [z, hy] at e; cases e) (Hm b o e)
      have s3 : Same H2 H3 := st.trans s3'
      have y2 : H2 y = none := st.free hy
      have y0 : H y = none := by
        cases q : H y with
        | none => rfl
        | some o =>
          have e := kp2 y o (fun z => by rw [z, x2] at y2; cases y2) q
          rw [y2] at e
          cases e
      have fl2 : H2 fl = none := st.free (Hm.free hfl0)
      have sl2 : H2 sl = none := st.free (Hm.free hsl0)
      have ht3 := s3' _ _ (upd_same (H := H2) (a := t) (o := .tup [.str "def", .str f.1]))
      have L3 := L2.same s3
      have x3 := s3 _ _ x2
      have fd3 := s3 _ _ fd2
      rw [List.length_map] at hy3
      have yA : y ∉ A2 := fun hm => by
        obtain ⟨_, _, e⟩ := L2.ins hm
        rw [y2] at e
        cases e
      have yl : y ≠ l := fun z => by rw [z, L2.lst] at y2; cases y2
      have fll : fl ≠ l := fun z => by rw [z, L2.lst] at fl2; cases fl2
      have sll : sl ≠ l := fun z => by rw [z, L2.lst] at sl2; cases sl2
      -- appended
      refine ⟨_, rfl, x, _, dx, _, _, rfl, x3, T.c_Layout, T.n_Layout_nodes, rfl, .inl ⟨rfl, _, SqL.of L3.lst⟩, _, rfl, l, _, _, rfl, rfl, L3.lst, by rw [List.length_map, sizeLine_eq]; omega, ?_⟩
      have up : ∀ b o, b ≠ l → H3 b = some o → upd H3 l (.lst (A2.map V.ref ++ [.ref y])) b = some o := fun b o h1 e => by
        rw [upd_ne h1]
        exact e
      have T4 : Tk H3 (upd H3 l (.lst (A2.map V.ref ++ [.ref y]))) := fun b zs e => up b _ (ne_of e L3.lst (by intro z; cases z)) e
      have F4 : KF K H3 (upd H3 l (.lst (A2.map V.ref ++ [.ref y]))) := KF.upd L3.lst (fun _ _ _ _ _ _ z => by cases z)
      have hy4 := up y _ yl hy3
      have hfl4 := up fl _ fll hfl
      have hsl4 := up sl _ sll hsl
      have x4 := up x _ (ne_of x3 L3.lst (by intro z; cases z)) x3
      have fd4 := up fd _ (ne_of fd3 L3.lst (by intro z; cases z)) fd3
      have l4 : upd H3 l (.lst (A2.map V.ref ++ [.ref y])) l = some (.lst ((A2 ++ [y]).map V.ref)) := by
        have e : (A2 ++ [y]).map V.ref = A2.map V.ref ++ [.ref y] := by
          rw [List.map_append]
          rfl
        rw [e]
        exact upd_same
      have kp4 : ∀ b o, b ≠ x → H b = some o → upd H3 l (.lst (A2.map V.ref ++ [.ref y])) b = some o := fun b o hb e => up b o (fun z => by rw [z, hl] at e; cases e) (s3 _ _ (kp2 _ _ hb e))
      generalize upd H3 l (.lst (A2.map V.ref ++ [.ref y])) = H4 at up T4 F4 hy4 hfl4 hsl4 x4 fd4 l4 kp4 ⊢
      have hrow4 : RowAt I H4 f.1 "def" t := ⟨⟨_, T4 _ _ ht3⟩, .inl ⟨rfl, List.mem_map_of_mem hfm⟩⟩
      have Dn : (D2 ++ [(f.1, ("def" : Str), 0)])[A2.length]? = some (f.1, ("def" : Str), 0) := by
        rw [L2.len, List.getElem?_append_right (Nat.le_refl _), Nat.sub_self]
        rfl
      have An : (A2 ++ [y])[A2.length]? = some y := by
        rw [List.getElem?_append_right (Nat.le_refl _), Nat.sub_self]
        rfl
      have L4 : LayS I K H4 (A2 ++ [y]) (D2 ++ [(f.1, ("def" : Str), 0)]) (S2 ++ [fl, sl]) l := by
        refine L3.add l4 (fun b o hb e => ?_) T4 yA ⟨dy, t, fl, sl, _, -1, -1, hy4, hrow4, by simp, by simp, kids_nil hfl4, kids_nil hsl4, .inr ⟨_, _, _, rfl, Dn⟩, .inl rfl, .inl rfl⟩ (fun s hs => ?_)
        · rcases hb with hb | hb
          · obtain ⟨_, _, e2⟩ := L3.ins hb
            exact up b o (ne_of e2 L3.lst (by intro z; cases z)) e
          · exact up b o (L3.lists b hb).1 e
        · have e : s = fl ∨ s = sl := by simpa using hs
          rcases e with rfl | rfl
          · exact ⟨fll, _, hfl4⟩
          · exact ⟨sll, _, hsl4⟩
      have K4 := tk _ kp4
      have hF4 : All2 (fun g kv => kv.1 = Sum.inr g.1 ∧ FunAt K H4 (D2 ++ [(f.1, ("def" : Str), 0)]) g kv.2) (I.fs.take i) kvs := by
        exact hF2.imp fun _ _ q => ⟨q.1, q.2.keep ((KF.same s3).trans F4) ((same_tk s3).trans T4)⟩
      clear L2 L3 up T4 F4 hfl hsl hy3 x3 fd3 ht3 s3 s3' Hm B3 hfl0 hsl0 fl2 sl2 hF2 kp2 x2 fd2 K2
      -- numbered
      refine ⟨_, rfl, p, _, _, _, rfl, rfl, SqT.of (K4 _ _ e1), rfl, _, rfl, p, _, _, _, rfl, rfl, SqT.of (K4 _ _ e1), rfl, _, rfl, x, _, dx, _, _, rfl, x4, T.c_Layout, T.n_Layout_nodes, rfl, ?_⟩
      refine ⟨pr, l, f.1, I, m, _, _, _, rfl, e4.tk K4, (fun r hr => hPr r ⟨pa, ta, fa, ra, h1, .inr ⟨us, p, _, _, _, pr, h6, List.mem_of_getElem? hv, e1, InRows.back K4 e4 hr⟩⟩), L4, by rw [List.length_append, List.length_singleton]; omega, fun H5 q A5 D5 S5 B5 L5 hA5 hA50 hS50 hq5 hk5 => ?_⟩
      have x5 := B5 _ _ (ne_of x4 L4.lst (by intro z; cases z)) x4
      have fd5 := B5 _ _ (ne_of fd4 L4.lst (by intro z; cases z)) fd4
      have kp5 : ∀ b o, b ≠ x → H b = some o → H5 b = some o := fun b o hb e => B5 b o (fun z => by rw [z, hl] at e; cases e) (kp4 _ _ hb e)
      have T5 : Tk H4 H5 := fun b zs e => B5 b _ (ne_of e L4.lst (by intro z; cases z)) e
      have hF5 := hF4.imp fun _ _ q => (⟨q.1, q.2.keep (D' := D5) (KF.but B5 L4.lst) T5⟩ : _ ∧ _)
      have hAl5 : (A2 ++ [y] ++ A5).length ≤ 901 * (i + 1) := by
        simp only [List.length_append, List.length_singleton]
        omega
      have hAl : (A2 ++ [y] ++ A5).length ≤ 4000 := by
        have : i ≤ 1 := by have := ok.fl; omega
        have e := Nat.mul_le_mul_left 901 (Nat.succ_le_succ this)
        omega
      -- link
      refine ⟨_, rfl, _, rfl, _, rfl, q, l, -1, -1, I, f.1, _, _, _, rfl, L5, hk5, .inl rfl, .inl rfl, hAl, fun H6 L6 kp6' => ?_⟩
      have x6 := kp6' _ _ (not_node L5 x5 (fun _ _ _ _ _ _ _ _ z => by cases z)) x5
      have fd6 := kp6' _ _ (not_nodeD L5 fd5 (fun _ _ _ z => by cases z)) fd5
      have T6 : Tk H5 H6 := fun b zs e => kp6' b _ (not_nodeD L5 e (fun _ _ _ z => by cases z)) e
      have F6 : KF K H5 H6 := fun p dx t pa nm num e h => kp6' p _ (not_node L5 h (fun _ _ _ _ _ _ _ _ z => by cases z)) h
      have hF6 := hF5.imp fun _ _ q => (⟨q.1, q.2.keep0 F6 T6⟩ : _ ∧ _)
      have hnew : ∀ b ∈ A2 ++ [y] ++ A5, H b = none := fun b hb => by
        rcases List.mem_append.mp hb with hb | hb
        · rcases List.mem_append.mp hb with hb | hb
          · exact hA0 b hb
          · have e : b = y := by simpa using hb
            rw [e]
            exact y0
        · cases q : H b with
          | none => rfl
          | some o =>
            have e := kp4 b o (fun z => by rw [hA50 x (z ▸ hb)] at x4; cases x4) q
            rw [hA50 b hb] at e
            cases e
      have kp6 : ∀ b o, b ≠ x → H b = some o → H6 b = some o := fun b o hb e => kp6' b o (fun hm => by rw [hnew b hm] at e; cases e) (kp5 _ _ hb e)
      have K6 := tk _ kp6
      have hk6 : KidsAt H6 (A2 ++ [y] ++ A5) (D2 ++ [(f.1, ("def" : Str), 0)] ++ D5) f.1 4 q := hk5.keep fun o e => by
        obtain ⟨_, vs, e2⟩ := L5.lists q (List.mem_append_right _ hq5)
        rw [e] at e2
        cases e2
        exact kp6' q _ (not_nodeD L5 e (fun _ _ _ z => by cases z)) e
      obtain ⟨dy6, r6, fl6, sl6, en6, b6, g6, hy6, _⟩ := L6.nodes A2.length y _ (get_app An) (get_app Dn)
      -- the function
      refine ⟨_, rfl, _, rfl, y, _, dy6, _, _, rfl, hy6, T.c_Node, T.n_Node_number, rfl, _, rfl, fun z dz hz hdz hzd => ?_⟩
      have sz : Same H6 (upd (upd H6 dz (.own z)) z (.ins (He.ga K "Function") dz [])) := fun b o e => by
        rw [upd_ne (fun q => by rw [q, hz] at e; cases e), upd_ne (fun q => by rw [q, hdz] at e; cases e)]
        exact e
      have fl2 : f.2.1.length + f.2.2.length ≤ 100 := by
        have := ok.nl f hfm
        omega
      obtain ⟨qvs, hq6, hqvl, hqk⟩ := hk6
      refine ⟨z, dz, p, pp, po, pr, q, l, f.1, f.2.1, f.2.2, _, I, 4, _, _, _, rfl, upd_same, sz _ _ (K6 _ _ e1), sz _ _ (K6 _ _ e2), sz _ _ (K6 _ _ e3), fl2, L6.same sz, ⟨qvs, sz _ _ hq6, hqvl, hqk⟩, fun H7 nm en B7 hz7 hnm hen => ⟨rfl, ?_⟩⟩
      have s7 : Same H6 H7 := fun b o e => B7 b o (fun q => by rw [q, hz] at e; cases e) (sz _ _ e)
      have x7 := s7 _ _ x6
      have fd7 := s7 _ _ fd6
      have L7 := L6.same s7
      refine ⟨_, rfl, x, _, dx, _, _, rfl, x7, T.c_Layout, T.n_Layout_functions, rfl, _, rfl, p, _, _, _, rfl, rfl, SqT.of (s7 _ _ (K6 _ _ e1)), rfl, ?_⟩
      have hkl : kvs.length ≤ 2 := by
        have e := hF6.len
        have := ok.fl
        rw [List.length_take] at e
        omega
      refine ⟨fd, _, rfl, DPut.k (k := Sum.inr f.1) fd7 (by rw [sizeLine_eq]; omega), ?_⟩
      have hnk : ∀ kv ∈ kvs, kv.1 ≠ Sum.inr f.1 := fun kv hkv e => by
        obtain ⟨j, hj, ej⟩ := List.mem_iff_getElem.mp hkv
        have hjl : j < (I.fs.take i).length := by rw [hF6.len]; exact hj
        have q := hF6.get (List.getElem?_eq_getElem hjl) (List.getElem?_eq_getElem hj)
        rw [ej, e] at q
        have q1 : f.1 = (I.fs.take i)[j].1 := Sum.inr.inj q.1
        rw [List.length_take] at hjl
        have hji : j < i := by omega
        have e1 : (I.fs.map Prod.fst)[i]? = some f.1 := by rw [List.getElem?_map, hfi]; rfl
        have e2 : (I.fs.map Prod.fst)[j]? = some f.1 := by
          rw [List.getElem?_map, q1, List.getElem_take, List.getElem?_eq_getElem (by omega)]
          rfl
        have e3 := (List.getElem?_inj (List.getElem?_eq_some_iff.mp e1).1 ok.t).mp (e1.trans e2.symm)
        omega
      rw [putK_new hnk]
      have T8 : Tk H7 (upd H7 fd (.dK (kvs ++ [(Sum.inr f.1, .ref z)]))) := fun b zs e => by
        rw [upd_ne (ne_of e fd7 (by intro z; cases z))]
        exact e
      have F8 : KF K H7 (upd H7 fd (.dK (kvs ++ [(Sum.inr f.1, .ref z)]))) := KF.upd fd7 (fun _ _ _ _ _ _ z => by cases z)
      have L8 := L7.upd (o := .dK (kvs ++ [(Sum.inr f.1, .ref z)])) (not_nodeD L7 fd7 (fun _ _ _ z => by cases z)) (not_list L7 fd7 (fun _ z => by cases z)) (fun zs z => by rw [fd7] at z; cases z)
      refine ⟨_, _, _, _, _, _, kvs ++ [(Sum.inr f.1, .ref z)], rfl, fun b o hb e => ?_, ?_, L8, hnew, hAl5, upd_same, ?_⟩
      · rw [upd_ne (fun q => by rw [q, hfd0] at e; cases e)]
        exact s7 _ _ (kp6 _ _ hb e)
      · rw [upd_ne (ne_of x7 fd7 (by intro z; cases z))]
        exact x7
      · rw [List.take_add_one, hfi]
        refine (hF6.imp fun _ _ q => (⟨q.1, q.2.keep0 ((KF.same s7).trans F8) ((same_tk s7).trans T8)⟩ : _ ∧ _)).add ⟨rfl, z, dz, pp, nm, A2.length, 0, en, rfl, ?_, T8 _ _ hnm, get_app Dn, hen⟩
        exact F8 _ _ _ _ _ _ _ hz7
    · rintro σ H2 ⟨o2, o3, o4, A2, S2, D2, kvs, rfl, kp2, x2, L2, hA0, hA2, fd2, hF2⟩
      have hus : us.length = I.fs.length := hul.symm
      rw [hus, List.take_length] at hF2
      have hA1802 : A2.length ≤ 1802 := by
        have : us.length ≤ 2 := by have := ok.fl; omega
        have e := Nat.mul_le_mul_left 901 this
        omega
      have K2 := tk _ kp2
      have hra : WRows (scOf I "") H2 4 n ra := by
        rw [scOf_main ok]
        exact h8.tk K2
      refine ⟨_, rfl, a, _, _, _, rfl, rfl, SqT.of (K2 _ _ h1), rfl, _, rfl, x, _, dx, _, _, rfl, x2, T.c_Layout, T.n_Layout_nodes, rfl, ?_⟩
      refine ⟨ra, l, "", I, n, _, _, _, rfl, hra, (fun r hr => hPr r ⟨pa, ta, fa, ra, h1, .inl (InRows.back K2 h8 hr)⟩), L2, by omega, fun H5 q A5 D5 S5 B5 L5 hA5 hA50 hS50 hq5 hk5 => ?_⟩
      have x5 := B5 _ _ (ne_of x2 L2.lst (by intro z; cases z)) x2
      have fd5 := B5 _ _ (ne_of fd2 L2.lst (by intro z; cases z)) fd2
      have kp5 : ∀ b o, b ≠ x → H b = some o → H5 b = some o := fun b o hb e => B5 b o (fun z => by rw [z, hl] at e; cases e) (kp2 _ _ hb e)
      have T5 : Tk H2 H5 := fun b zs e => B5 b _ (ne_of e L2.lst (by intro z; cases z)) e
      have hF5 := hF2.imp fun _ _ q => (⟨q.1, q.2.keep (D' := D5) (KF.but B5 L2.lst) T5⟩ : _ ∧ _)
      have hAl : (A2 ++ A5).length ≤ 4000 := by
        rw [List.length_append]
        omega
      refine ⟨_, rfl, _, rfl, _, rfl, q, l, -1, -1, I, "", _, _, _, rfl, L5, hk5, .inl rfl, .inl rfl, hAl, fun H6 L6 kp6' => ?_⟩
      have x6 := kp6' _ _ (not_node L5 x5 (fun _ _ _ _ _ _ _ _ z => by cases z)) x5
      have fd6 := kp6' _ _ (not_nodeD L5 fd5 (fun _ _ _ z => by cases z)) fd5
      have T6 : Tk H5 H6 := fun b zs e => kp6' b _ (not_nodeD L5 e (fun _ _ _ z => by cases z)) e
      have F6 : KF K H5 H6 := fun p dx t pa nm num e h => kp6' p _ (not_node L5 h (fun _ _ _ _ _ _ _ _ z => by cases z)) h
      have hF6 := hF5.imp fun _ _ q => (⟨q.1, q.2.keep0 F6 T6⟩ : _ ∧ _)
      have hnew : ∀ b ∈ A2 ++ A5, H b = none := fun b hb => by
        rcases List.mem_append.mp hb with hb | hb
        · exact hA0 b hb
        · cases q : H b with
          | none => rfl
          | some o =>
            have e := kp2 b o (fun z => by rw [hA50 x (z ▸ hb)] at x2; cases x2) q
            rw [hA50 b hb] at e
            cases e
      have kp6 : ∀ b o, b ≠ x → H b = some o → H6 b = some o := fun b o hb e => kp6' b o (fun hm => by rw [hnew b hm] at e; cases e) (kp5 _ _ hb e)
      have hk6 : KidsAt H6 (A2 ++ A5) (D2 ++ D5) "" 4 q := hk5.keep fun o e => by
        obtain ⟨_, vs, e2⟩ := L5.lists q (List.mem_append_right _ hq5)
        rw [e] at e2
        cases e2
        exact kp6' q _ (not_nodeD L5 e (fun _ _ _ z => by cases z)) e
      refine ⟨_, rfl, _, rfl, q, l, -1, I, "", 4, _, _, _, rfl, L6, hk6, .inl rfl, fun en hen => ?_⟩
      refine ⟨_, rfl, x, _, dx, _, rfl, x6, T.c_Layout, T.n_Layout_entry, few rfl, ?_⟩
      rw [putF_new rfl]
      simp only [List.cons_append, List.nil_append]
      have T7 : Tk H6 (upd H6 x (.ins (He.ga K "Layout") dx [("nodes", .ref l), ("functions", .ref fd), ("entry", .int en)])) := fun b zs e => by
        rw [upd_ne (ne_of e x6 (by intro z; cases z))]
        exact e
      have F7 : KF K H6 (upd H6 x (.ins (He.ga K "Layout") dx [("nodes", .ref l), ("functions", .ref fd), ("entry", .int en)])) := KF.upd x6 (fun _ _ _ _ _ _ z => by injection z with _ _ z; cases z)
      refine k _ l fd en _ _ _ kvs (fun b o hb e => ?_) ⟨upd_same, L6.upd (not_node L6 x6 (fun _ _ _ _ _ _ _ _ z => by cases z)) (not_list L6 x6 (fun _ z => by cases z)) (fun zs z => by rw [x6] at z; cases z), hAl, ?_, hF6.imp fun _ _ q => ⟨q.1, q.2.keep0 F7 T7⟩, hen⟩
      · rw [upd_ne hb]
        exact kp6 _ _ hb e
      · rw [upd_ne (ne_of fd6 x6 (by intro z; cases z))]
        exact fd6
end
end Rt
/-! ## M7 -/
set_option Elab.async false
set_option linter.all false
set_option maxRecDepth 100000
set_option maxHeartbeats 4000000
namespace Rt
open PySem PySem.Spec PyProof.Rows L2
open L2H (RoomH roomH_of)
/-! ### deeds -/
def clsW (K : PySem.W.Frag) (w : Str) : Addr := He.ga K (((("set", "SetDeed") :: ("push", "PushDeed") :: ("pop", "PopDeed") :: ("put", "PutDeed") :: ("ask", "AskDeed") :: ("tell", "TellDeed") :: ("fail", "FailDeed") :: ("call", "CallDeed") :: ("return", "ReturnDeed") :: ("def", "OffDeed") :: [] : List (Str × Str)).lookup w).getD "Deed")
def deedF (a r : Addr) : List (Str × V) := [("node", .ref a), ("row", .ref r)]
def chooseF (a r : Addr) (c o : Int) : List (Str × V) := [("node", .ref a), ("row", .ref r), ("chosen", .int c), ("otherwise", .int o)]
def IsNode (K : PySem.W.Frag) (H : Hp) (a r : Addr) (h : Str) (b : Int) : Prop := ∃ (dx : Addr) (i : Nat) (fl sl : Addr) (e g : Int), H a = some (.ins (He.ga K "Node") dx (nodeF i r h fl sl e b g))
def spDeedI (K : PySem.W.Frag) (C : Addr) : Sp := fun vs H Q _ => ∃ (x dx a r : Addr) (h : Str) (b : Int), vs = [.ref x, .ref a] ∧ H x = some (.ins C dx []) ∧ IsNode K H a r h b ∧
  ∀ H', (∀ b o, b ≠ x → H b = some o → H' b = some o) → H' x = some (.ins C dx (deedF a r)) → Q .non H'
def spChoose (K : PySem.W.Frag) : Sp := fun vs H Q _ => ∃ (x dx a r : Addr) (h : Str) (b c o : Int), vs = [.ref x, .ref a, .int c, .int o] ∧ H x = some (.ins (He.ga K "ChooseDeed") dx []) ∧ IsNode K H a r h b ∧
  ∀ H', (∀ b o, b ≠ x → H b = some o → H' b = some o) → H' x = some (.ins (He.ga K "ChooseDeed") dx (chooseF a r c o)) → Q .non H'
def DeedAt (K : PySem.W.Frag) (H : Hp) (D : Ds) (a : Addr) (h w : Str) (v : V) : Prop := ∃ (p dx r : Addr) (b : Int), v = .ref p ∧ IsNode K H a r h b ∧
  (((w = "while" ∨ w = "if") ∧ ∃ c o : Int, H p = some (.ins (He.ga K "ChooseDeed") dx (chooseF a r c o)) ∧ PtOk D h c ∧ PtOk D h o) ∨ (w ≠ "while" ∧ w ≠ "if" ∧ H p = some (.ins (clsW K w) dx (deedF a r))))
def spPlainD (K : PySem.W.Frag) : Sp := fun vs H Q _ => ∃ (a r : Addr) (h w : Str) (b : Int) (rest : List V), vs = [.ref a] ∧ IsNode K H a r h b ∧ H r = some (.tup (.str w :: rest)) ∧ (w ∈ plainW ∨ w = "try") ∧
  ∀ H' p dx, Same H H' → H' p = some (.ins (clsW K w) dx (deedF a r)) → Q (.ref p) H'
def spDeedOf (K : PySem.W.Frag) : Sp := fun vs H Q _ => ∃ (a l : Addr) (I : PI) (A S : List Addr) (D : Ds) (i d : Nat) (h w : Str), vs = [.ref a] ∧ LayS I K H A D S l ∧ A[i]? = some a ∧ D[i]? = some (h, w, d) ∧ ∀ H' v, Same H H' → DeedAt K H' D a h w v → Q v H'
theorem IsNode.same {K : PySem.W.Frag} {H H' : Hp} {a r : Addr} {h : Str} {b : Int} (n : IsNode K H a r h b) (s : Same H H') : IsNode K H' a r h b := by
  obtain ⟨dx, i, fl, sl, e, g, hx⟩ := n
  exact ⟨dx, i, fl, sl, e, g, s _ _ hx⟩
theorem mkD {K : PySem.W.Frag} {H : Hp} {a r C : Addr} {h : Str} {b : Int} {E : XK} {Q : VK} (n : IsNode K H a r h b) (k : ∀ H' p dx, Same H H' → H' p = some (.ins C dx (deedF a r)) → Q (.ref p) H') :
    ∀ x dx, H x = none → H dx = none → dx ≠ x → spDeedI K C (.ref x :: ([.ref a] ++ [])) (upd (upd H dx (.own x)) x (.ins C dx [])) (fun v H2 => v = .non ∧ Q (.ref x) H2) E := by
  intro x dx hx hdx hne
  have s : Same H (upd (upd H dx (.own x)) x (.ins C dx [])) := fun b o e => by
    rw [upd_ne (fun z => by rw [z, hx] at e; cases e), upd_ne (fun z => by rw [z, hdx] at e; cases e)]
    exact e
  exact ⟨x, dx, a, r, h, b, rfl, upd_same, n.same s, fun H' B e => ⟨rfl, k H' x dx (fun c o q => B c o (fun z => by rw [z, hx] at q; cases q) (s _ _ q)) e⟩⟩
section
variable {P : Program} {w : World} {K : PySem.W.Frag} {mg : Str → Option Value} {base : Heap}
theorem ok_deedI (T : Txt K mg) {C : Addr} (c : Cls K C) (n1 : NoAttr K C "node") (n2 : NoAttr K C "row") : OkC P w K mg base CX0 1 (He.ma K (He.ga K "Deed") "__init__") ["self", "node"] (spDeedI K C) := by
  refine okC T.f_Deed___init__ sc_Deed___init__ (fun fd F => F.bindsN fun _ _ _ _ _ _ us hl => match us, hl with | [_, _], _ => rfl) (fun vs H Q E h => ?_) (fun cdv A outer s H vs Q E hr h => ?_)
  · obtain ⟨x, dx, a, r, h, b, rfl, _⟩ := h
    rfl
  · obtain ⟨x, dx, a, r, h, b, rfl, hx, ⟨dn, i, fl, sl, e, g, hn⟩, k⟩ := h
    refine ⟨_, (pss_cons
 (ps_fld (pv 0) (pv 1) rfl) (pss_one
 (ps_fld (pv 0) (pe_fld (pv 1) rfl) rfl))), ?_⟩
    refine ⟨_, rfl, _, rfl, x, _, dx, _, rfl, hx, c, n1, few rfl, ?_⟩
    rw [putF_new rfl]
    simp only [List.nil_append]
    have ax : a ≠ x := ne_of hn hx (by intro z; injection z with _ _ z; cases z)
    refine ⟨_, rfl, a, _, dn, _, _, rfl, (by rw [upd_ne ax]; exact hn), T.c_Node, T.n_Node_row, rfl, _, rfl, x, _, dx, _, rfl, upd_same, c, n2, few rfl, ?_⟩
    rw [putF_new rfl, upd_upd]
    simp only [List.cons_append, List.nil_append]
    exact k _ (fun b o hb e => by rw [upd_ne hb]; exact e) upd_same
theorem ok_choose (T : Txt K mg) : OkC P w K mg base CX0 2 (He.ma K (He.ga K "ChooseDeed") "__init__") ["self", "node", "first", "second"] (spChoose K) := by
  have G_Deed___init__ := ok_deedI (P := P) (w := w) (base := base) T T.c_ChooseDeed T.n_ChooseDeed_node T.n_ChooseDeed_row
  refine okC T.f_ChooseDeed___init__ sc_ChooseDeed___init__ (fun fd F => F.bindsN fun _ _ _ _ _ _ us hl => match us, hl with | [_, _, _, _], _ => rfl) (fun vs H Q E h => ?_) (fun cdv A outer s H vs Q E hr h => ?_)
  · obtain ⟨x, dx, a, r, h, b, c, o, rfl, _⟩ := h
    rfl
  · obtain ⟨x, dx, a, r, h, b, c, o, rfl, hx, hn, k⟩ := h
    refine ⟨_, (pss_cons
 (ps_expr (ce_uncls G_Deed___init__ (hr.mono (by omega)) T.g_Deed T.deedInit.rd T.deedInit.val T.deedInit.kp pass0 (pa_cons (pv 0) (pa_cons (pv 1) pa_nil)))) (pss_cons
 (ps_fld (pv 0) (pv 2) rfl) (pss_one
 (ps_fld (pv 0) (pv 3) rfl)))), ?_⟩
    refine ⟨_, rfl, _, rfl, x, dx, a, r, h, b, rfl, hx, hn, fun H2 B2 x2 => ?_⟩
    refine ⟨_, rfl, _, rfl, x, _, dx, _, rfl, x2, T.c_ChooseDeed, T.n_ChooseDeed_chosen, few rfl, ?_⟩
    rw [putF_new rfl]
    refine ⟨_, rfl, _, rfl, x, _, dx, _, rfl, upd_same, T.c_ChooseDeed, T.n_ChooseDeed_otherwise, few rfl, ?_⟩
    rw [putF_new rfl, upd_upd]
    exact k _ (fun b o hb e => by rw [upd_ne hb]; exact B2 _ _ hb e) upd_same
theorem ok_plainD (T : Txt K mg) : OkC P w K mg base CX0 3 (He.ga K "plain_deed") ["node"] (spPlainD K) := by
  have G_SetDeed___init__ : OkC P w K mg base CX0 1 (He.ma K (He.ga K "SetDeed") "__init__") ["self", "node"] (spDeedI K (He.ga K "SetDeed")) := by
    rw [T.e_SetDeed___init__]
    exact ok_deedI T T.c_SetDeed T.n_SetDeed_node T.n_SetDeed_row
  have G_PushDeed___init__ : OkC P w K mg base CX0 1 (He.ma K (He.ga K "PushDeed") "__init__") ["self", "node"] (spDeedI K (He.ga K "PushDeed")) := by
    rw [T.e_PushDeed___init__]
    exact ok_deedI T T.c_PushDeed T.n_PushDeed_node T.n_PushDeed_row
  have G_PopDeed___init__ : OkC P w K mg base CX0 1 (He.ma K (He.ga K "PopDeed") "__init__") ["self", "node"] (spDeedI K (He.ga K "PopDeed")) := by
    rw [T.e_PopDeed___init__]
    exact ok_deedI T T.c_PopDeed T.n_PopDeed_node T.n_PopDeed_row
  have G_PutDeed___init__ : OkC P w K mg base CX0 1 (He.ma K (He.ga K "PutDeed") "__init__") ["self", "node"] (spDeedI K (He.ga K "PutDeed")) := by
    rw [T.e_PutDeed___init__]
    exact ok_deedI T T.c_PutDeed T.n_PutDeed_node T.n_PutDeed_row
  have G_AskDeed___init__ : OkC P w K mg base CX0 1 (He.ma K (He.ga K "AskDeed") "__init__") ["self", "node"] (spDeedI K (He.ga K "AskDeed")) := by
    rw [T.e_AskDeed___init__]
    exact ok_deedI T T.c_AskDeed T.n_AskDeed_node T.n_AskDeed_row
  have G_TellDeed___init__ : OkC P w K mg base CX0 1 (He.ma K (He.ga K "TellDeed") "__init__") ["self", "node"] (spDeedI K (He.ga K "TellDeed")) := by
    rw [T.e_TellDeed___init__]
    exact ok_deedI T T.c_TellDeed T.n_TellDeed_node T.n_TellDeed_row
  have G_FailDeed___init__ : OkC P w K mg base CX0 1 (He.ma K (He.ga K "FailDeed") "__init__") ["self", "node"] (spDeedI K (He.ga K "FailDeed")) := by
    rw [T.e_FailDeed___init__]
    exact ok_deedI T T.c_FailDeed T.n_FailDeed_node T.n_FailDeed_row
  have G_CallDeed___init__ : OkC P w K mg base CX0 1 (He.ma K (He.ga K "CallDeed") "__init__") ["self", "node"] (spDeedI K (He.ga K "CallDeed")) := by
    rw [T.e_CallDeed___init__]
    exact ok_deedI T T.c_CallDeed T.n_CallDeed_node T.n_CallDeed_row
  have G_ReturnDeed___init__ : OkC P w K mg base CX0 1 (He.ma K (He.ga K "ReturnDeed") "__init__") ["self", "node"] (spDeedI K (He.ga K "ReturnDeed")) := by
    rw [T.e_ReturnDeed___init__]
    exact ok_deedI T T.c_ReturnDeed T.n_ReturnDeed_node T.n_ReturnDeed_row
  have G_OffDeed___init__ : OkC P w K mg base CX0 1 (He.ma K (He.ga K "OffDeed") "__init__") ["self", "node"] (spDeedI K (He.ga K "OffDeed")) := by
    rw [T.e_OffDeed___init__]
    exact ok_deedI T T.c_OffDeed T.n_OffDeed_node T.n_OffDeed_row
  have G_Deed___init__ := ok_deedI (P := P) (w := w) (base := base) T T.c_Deed T.n_Deed_node T.n_Deed_row
  refine okC T.f_plain_deed sc_plain_deed (fun fd F => F.bindsN fun _ _ _ _ _ _ us hl => match us, hl with | [_], _ => rfl) (fun vs H Q E h => ?_) (fun cdv A outer s H vs Q E hr h => ?_)
  · obtain ⟨a, r, h, wd, b, rest, rfl, _⟩ := h
    rfl
  · obtain ⟨a, r, h, wd, b, rest, rfl, hn, hrow, hw, k⟩ := h
    refine ⟨_, (pss_cons
 (ps_set (i := 1) sc_plain_deed.nd rfl (by first | exact Or.inl rfl | exact Or.inr rfl) (pe_ix ix_tup (pe_fld (pv 0) rfl) pe_int (fun _ _ => rfl))) (pss_cons
 (ps_if (pt_cmpR op_eq (pv 1) pe_str (nomark _)) (pss_one
 (ps_ret (ce_make G_SetDeed___init__ (hr.mono (by omega)) T.k_SetDeed T.g_SetDeed pass0 (pa_cons (pv 0) pa_nil)))) pss_nil) (pss_cons
 (ps_if (pt_cmpR op_eq (pv 1) pe_str (nomark _)) (pss_one
 (ps_ret (ce_make G_PushDeed___init__ (hr.mono (by omega)) T.k_PushDeed T.g_PushDeed pass0 (pa_cons (pv 0) pa_nil)))) pss_nil) (pss_cons
 (ps_if (pt_cmpR op_eq (pv 1) pe_str (nomark _)) (pss_one
 (ps_ret (ce_make G_PopDeed___init__ (hr.mono (by omega)) T.k_PopDeed T.g_PopDeed pass0 (pa_cons (pv 0) pa_nil)))) pss_nil) (pss_cons
 (ps_if (pt_cmpR op_eq (pv 1) pe_str (nomark _)) (pss_one
 (ps_ret (ce_make G_PutDeed___init__ (hr.mono (by omega)) T.k_PutDeed T.g_PutDeed pass0 (pa_cons (pv 0) pa_nil)))) pss_nil) (pss_cons
 (ps_if (pt_cmpR op_eq (pv 1) pe_str (nomark _)) (pss_one
 (ps_ret (ce_make G_AskDeed___init__ (hr.mono (by omega)) T.k_AskDeed T.g_AskDeed pass0 (pa_cons (pv 0) pa_nil)))) pss_nil) (pss_cons
 (ps_if (pt_cmpR op_eq (pv 1) pe_str (nomark _)) (pss_one
 (ps_ret (ce_make G_TellDeed___init__ (hr.mono (by omega)) T.k_TellDeed T.g_TellDeed pass0 (pa_cons (pv 0) pa_nil)))) pss_nil) (pss_cons
 (ps_if (pt_cmpR op_eq (pv 1) pe_str (nomark _)) (pss_one
 (ps_ret (ce_make G_FailDeed___init__ (hr.mono (by omega)) T.k_FailDeed T.g_FailDeed pass0 (pa_cons (pv 0) pa_nil)))) pss_nil) (pss_cons
 (ps_if (pt_cmpR op_eq (pv 1) pe_str (nomark _)) (pss_one
 (ps_ret (ce_make G_CallDeed___init__ (hr.mono (by omega)) T.k_CallDeed T.g_CallDeed pass0 (pa_cons (pv 0) pa_nil)))) pss_nil) (pss_cons
 (ps_if (pt_cmpR op_eq (pv 1) pe_str (nomark _)) (pss_one
 (ps_ret (ce_make G_ReturnDeed___init__ (hr.mono (by omega)) T.k_ReturnDeed T.g_ReturnDeed pass0 (pa_cons (pv 0) pa_nil)))) pss_nil) (pss_one
 (ps_ret (ce_make G_Deed___init__ (hr.mono (by omega)) T.k_Deed T.g_Deed pass0 (pa_cons (pv 0) pa_nil)))))))))))))), ?_⟩
    obtain ⟨dn, i, fl, sl, e, g, hx⟩ := id hn
    refine ⟨_, rfl, a, _, dn, _, _, rfl, hx, T.c_Node, T.n_Node_row, rfl, r, _, _, _, rfl, rfl, SqT.of hrow, at0, ?_⟩
    have hw : wd = "set" ∨ wd = "push" ∨ wd = "pop" ∨ wd = "put" ∨ wd = "ask" ∨ wd = "tell" ∨ wd = "fail" ∨ wd = "call" ∨ wd = "return" ∨ wd = "try" := by
      rcases hw with hw | hw
      · unfold plainW at hw
        simp only [List.mem_cons, List.not_mem_nil, or_false] at hw
        rcases hw with rfl | rfl | rfl | rfl | rfl | rfl | rfl | rfl | rfl <;> simp
      · rw [hw]
        simp
    rcases hw with rfl | rfl | rfl | rfl | rfl | rfl | rfl | rfl | rfl | rfl
    · refine ⟨_, rfl, rfl, _, rfl, ite2 (fun _ => ?_) isdec⟩
      exact ⟨_, rfl, mkD (C := He.ga K "SetDeed") hn k⟩
    · refine ⟨_, rfl, rfl, _, rfl, ite2 (nodec (A := True) (by decide)) fun _ => ?_⟩
      refine ⟨_, rfl, rfl, _, rfl, ite2 (fun _ => ?_) isdec⟩
      exact ⟨_, rfl, mkD (C := He.ga K "PushDeed") hn k⟩
    · refine ⟨_, rfl, rfl, _, rfl, ite2 (nodec (A := True) (by decide)) fun _ => ?_⟩
      refine ⟨_, rfl, rfl, _, rfl, ite2 (nodec (A := True) (by decide)) fun _ => ?_⟩
      refine ⟨_, rfl, rfl, _, rfl, ite2 (fun _ => ?_) isdec⟩
      exact ⟨_, rfl, mkD (C := He.ga K "PopDeed") hn k⟩
    · refine ⟨_, rfl, rfl, _, rfl, ite2 (nodec (A := True) (by decide)) fun _ => ?_⟩
      refine ⟨_, rfl, rfl, _, rfl, ite2 (nodec (A := True) (by decide)) fun _ => ?_⟩
      refine ⟨_, rfl, rfl, _, rfl, ite2 (nodec (A := True) (by decide)) fun _ => ?_⟩
      refine ⟨_, rfl, rfl, _, rfl, ite2 (fun _ => ?_) isdec⟩
      exact ⟨_, rfl, mkD (C := He.ga K "PutDeed") hn k⟩
    · refine ⟨_, rfl, rfl, _, rfl, ite2 (nodec (A := True) (by decide)) fun _ => ?_⟩
      refine ⟨_, rfl, rfl, _, rfl, ite2 (nodec (A := True) (by decide)) fun _ => ?_⟩
      refine ⟨_, rfl, rfl, _, rfl, ite2 (nodec (A := True) (by decide)) fun _ => ?_⟩
      refine ⟨_, rfl, rfl, _, rfl, ite2 (nodec (A := True) (by decide)) fun _ => ?_⟩
      refine ⟨_, rfl, rfl, _, rfl, ite2 (fun _ => ?_) isdec⟩
      exact ⟨_, rfl, mkD (C := He.ga K "AskDeed") hn k⟩
    · refine ⟨_, rfl, rfl, _, rfl, ite2 (nodec (A := True) (by decide)) fun _ => ?_⟩
      refine ⟨_, rfl, rfl, _, rfl, ite2 (nodec (A := True) (by decide)) fun _ => ?_⟩
      refine ⟨_, rfl, rfl, _, rfl, ite2 (nodec (A := True) (by decide)) fun _ => ?_⟩
      refine ⟨_, rfl, rfl, _, rfl, ite2 (nodec (A := True) (by decide)) fun _ => ?_⟩
      refine ⟨_, rfl, rfl, _, rfl, ite2 (nodec (A := True) (by decide)) fun _ => ?_⟩
      refine ⟨_, rfl, rfl, _, rfl, ite2 (fun _ => ?_) isdec⟩
      exact ⟨_, rfl, mkD (C := He.ga K "TellDeed") hn k⟩
    · refine ⟨_, rfl, rfl, _, rfl, ite2 (nodec (A := True) (by decide)) fun _ => ?_⟩
      refine ⟨_, rfl, rfl, _, rfl, ite2 (nodec (A := True) (by decide)) fun _ => ?_⟩
      refine ⟨_, rfl, rfl, _, rfl, ite2 (nodec (A := True) (by decide)) fun _ => ?_⟩
      refine ⟨_, rfl, rfl, _, rfl, ite2 (nodec (A := True) (by decide)) fun _ => ?_⟩
      refine ⟨_, rfl, rfl, _, rfl, ite2 (nodec (A := True) (by decide)) fun _ => ?_⟩
      refine ⟨_, rfl, rfl, _, rfl, ite2 (nodec (A := True) (by decide)) fun _ => ?_⟩
      refine ⟨_, rfl, rfl, _, rfl, ite2 (fun _ => ?_) isdec⟩
      exact ⟨_, rfl, mkD (C := He.ga K "FailDeed") hn k⟩
    · refine ⟨_, rfl, rfl, _, rfl, ite2 (nodec (A := True) (by decide)) fun _ => ?_⟩
      refine ⟨_, rfl, rfl, _, rfl, ite2 (nodec (A := True) (by decide)) fun _ => ?_⟩
      refine ⟨_, rfl, rfl, _, rfl, ite2 (nodec (A := True) (by decide)) fun _ => ?_⟩
      refine ⟨_, rfl, rfl, _, rfl, ite2 (nodec (A := True) (by decide)) fun _ => ?_⟩
      refine ⟨_, rfl, rfl, _, rfl, ite2 (nodec (A := True) (by decide)) fun _ => ?_⟩
      refine ⟨_, rfl, rfl, _, rfl, ite2 (nodec (A := True) (by decide)) fun _ => ?_⟩
      refine ⟨_, rfl, rfl, _, rfl, ite2 (nodec (A := True) (by decide)) fun _ => ?_⟩
      refine ⟨_, rfl, rfl, _, rfl, ite2 (fun _ => ?_) isdec⟩
      exact ⟨_, rfl, mkD (C := He.ga K "CallDeed") hn k⟩
    · refine ⟨_, rfl, rfl, _, rfl, ite2 (nodec (A := True) (by decide)) fun _ => ?_⟩
      refine ⟨_, rfl, rfl, _, rfl, ite2 (nodec (A := True) (by decide)) fun _ => ?_⟩
      refine ⟨_, rfl, rfl, _, rfl, ite2 (nodec (A := True) (by decide)) fun _ => ?_⟩
      refine ⟨_, rfl, rfl, _, rfl, ite2 (nodec (A := True) (by decide)) fun _ => ?_⟩
      refine ⟨_, rfl, rfl, _, rfl, ite2 (nodec (A := True) (by decide)) fun _ => ?_⟩
      refine ⟨_, rfl, rfl, _, rfl, ite2 (nodec (A := True) (by decide)) fun _ => ?_⟩
      refine ⟨_, rfl, rfl, _, rfl, ite2 (nodec (A := True) (by decide)) fun _ => ?_⟩
      refine ⟨_, rfl, rfl, _, rfl, ite2 (nodec (A := True) (by decide)) fun _ => ?_⟩
      refine ⟨_, rfl, rfl, _, rfl, ite2 (fun _ => ?_) isdec⟩
      exact ⟨_, rfl, mkD (C := He.ga K "ReturnDeed") hn k⟩
    · refine ⟨_, rfl, rfl, _, rfl, ite2 (nodec (A := True) (by decide)) fun _ => ?_⟩
      refine ⟨_, rfl, rfl, _, rfl, ite2 (nodec (A := True) (by decide)) fun _ => ?_⟩
      refine ⟨_, rfl, rfl, _, rfl, ite2 (nodec (A := True) (by decide)) fun _ => ?_⟩
      refine ⟨_, rfl, rfl, _, rfl, ite2 (nodec (A := True) (by decide)) fun _ => ?_⟩
      refine ⟨_, rfl, rfl, _, rfl, ite2 (nodec (A := True) (by decide)) fun _ => ?_⟩
      refine ⟨_, rfl, rfl, _, rfl, ite2 (nodec (A := True) (by decide)) fun _ => ?_⟩
      refine ⟨_, rfl, rfl, _, rfl, ite2 (nodec (A := True) (by decide)) fun _ => ?_⟩
      refine ⟨_, rfl, rfl, _, rfl, ite2 (nodec (A := True) (by decide)) fun _ => ?_⟩
      refine ⟨_, rfl, rfl, _, rfl, ite2 (nodec (A := True) (by decide)) fun _ => ?_⟩
      exact ⟨_, rfl, mkD (C := He.ga K "Deed") hn k⟩
theorem ok_deed_of (T : Txt K mg) : OkC P w K mg base CX0 4 (He.ga K "deed_of") ["node"] (spDeedOf K) := by
  have G_OffDeed___init__ : OkC P w K mg base CX0 1 (He.ma K (He.ga K "OffDeed") "__init__") ["self", "node"] (spDeedI K (He.ga K "OffDeed")) := by
    rw [T.e_OffDeed___init__]
    exact ok_deedI T T.c_OffDeed T.n_OffDeed_node T.n_OffDeed_row
  have G_ChooseDeed___init__ := ok_choose (P := P) (w := w) (base := base) T
  have G_plain_deed := ok_plainD (P := P) (w := w) (base := base) T
  refine okC T.f_deed_of sc_deed_of (fun fd F => F.bindsN fun _ _ _ _ _ _ us hl => match us, hl with | [_], _ => rfl) (fun vs H Q E h => ?_) (fun cdv A outer s H vs Q E hr h => ?_)
  · obtain ⟨a, l, I, A, S, D, i, d, h, wd, rfl, _⟩ := h
    rfl
  · obtain ⟨a, l, I, A', S, D, i, d, h, wd, rfl, L, hA, hD, k⟩ := h
    refine ⟨_, (pss_cons
 (ps_set (i := 1) sc_deed_of.nd rfl (by first | exact Or.inl rfl | exact Or.inr rfl) (pe_ix ix_tup (pe_fld (pv 0) rfl) pe_int (fun _ _ => rfl))) (pss_cons
 (ps_if (pt_cmpR op_eq (pv 1) pe_str (nomark _)) (pss_one
 (ps_ret (ce_make G_OffDeed___init__ (hr.mono (by omega)) T.k_OffDeed T.g_OffDeed pass0 (pa_cons (pv 0) pa_nil)))) pss_nil) (pss_cons
 (ps_if (pt_cmpR op_eq (pv 1) pe_str (nomark _)) (pss_cons
 (ps_set (i := 2) sc_deed_of.nd rfl (by first | exact Or.inl rfl | exact Or.inr rfl) (pe_fld (pv 0) rfl)) (C8.pss_cut
 (ps_if (pt_truth (pe_fld (pv 0) rfl) (by intro _; rfl)) (pss_one
 (ps_set (i := 2) sc_deed_of.nd rfl (by first | exact Or.inl rfl | exact Or.inr rfl) (pe_fld (pe_ix ix_list (pe_fld (pv 0) rfl) pe_int (fun _ _ => rfl)) rfl))) pss_nil) (pss_one
 (ps_ret (ce_make G_ChooseDeed___init__ (hr.mono (by omega)) T.k_ChooseDeed T.g_ChooseDeed pass0 (pa_cons (pv 0) (pa_cons (pv 2) (pa_cons (pe_fld (pv 0) rfl) pa_nil)))))))) pss_nil) (pss_cons
 (ps_if (pt_cmpR op_eq (pv 1) pe_str (nomark _)) (pss_cons
 (ps_set (i := 2) sc_deed_of.nd rfl (by first | exact Or.inl rfl | exact Or.inr rfl) (pe_fld (pv 0) rfl)) (pss_cons
 (ps_set (i := 3) sc_deed_of.nd rfl (by first | exact Or.inl rfl | exact Or.inr rfl) (pe_fld (pv 0) rfl)) (C8.pss_cut
 (ps_if (pt_truth (pe_fld (pv 0) rfl) (by intro _; rfl)) (pss_one
 (ps_set (i := 2) sc_deed_of.nd rfl (by first | exact Or.inl rfl | exact Or.inr rfl) (pe_fld (pe_ix ix_list (pe_fld (pv 0) rfl) pe_int (fun _ _ => rfl)) rfl))) pss_nil) (C8.pss_cut
 (ps_if (pt_truth (pe_fld (pv 0) rfl) (by intro _; rfl)) (pss_one
 (ps_set (i := 3) sc_deed_of.nd rfl (by first | exact Or.inl rfl | exact Or.inr rfl) (pe_fld (pe_ix ix_list (pe_fld (pv 0) rfl) pe_int (fun _ _ => rfl)) rfl))) pss_nil) (pss_one
 (ps_ret (ce_make G_ChooseDeed___init__ (hr.mono (by omega)) T.k_ChooseDeed T.g_ChooseDeed pass0 (pa_cons (pv 0) (pa_cons (pv 2) (pa_cons (pv 3) pa_nil)))))))))) pss_nil) (pss_one
 (ps_ret (ce_call G_plain_deed (hr.mono (by omega)) T.g_plain_deed T.p_plain_deed pass0 (pa_cons (pv 0) pa_nil)))))))), ?_⟩
    obtain ⟨dx, r, fl, sl, e, b, g, hx, hrow, hfs, hss, hkf, hks, he, hb, hg⟩ := L.nodes i a _ hA hD
    have hn : IsNode K H a r h b := ⟨dx, i, fl, sl, e, g, hx⟩
    obtain ⟨⟨rest, hrow1⟩, hrow2⟩ := hrow
    have mkC : ∀ (c o : Int), PtOk D h c → PtOk D h o → (wd = "while" ∨ wd = "if") → ∀ x dx, H x = none → H dx = none → dx ≠ x → spChoose K (.ref x :: ([.ref a, .int c, .int o] ++ [])) (upd (upd H dx (.own x)) x (.ins (He.ga K "ChooseDeed") dx [])) (fun v H2 => v = .non ∧ Q (.ref x) H2) E0 := by
      intro c o hc ho hw x dx hx hdx hne
      have s : Same H (upd (upd H dx (.own x)) x (.ins (He.ga K "ChooseDeed") dx [])) := fun b o e => by
        rw [upd_ne (fun z => by rw [z, hx] at e; cases e), upd_ne (fun z => by rw [z, hdx] at e; cases e)]
        exact e
      have kp : ∀ H', (∀ b o, b ≠ x → upd (upd H dx (.own x)) x (.ins (He.ga K "ChooseDeed") dx []) b = some o → H' b = some o) → Same H H' := fun H' B b o e => B b o (fun z => by rw [z, hx] at e; cases e) (s _ _ e)
      exact ⟨x, dx, a, r, h, b, c, o, rfl, upd_same, hn.same s, fun H' B e => ⟨rfl, k H' (.ref x) (kp H' B) ⟨x, dx, r, b, rfl, hn.same (kp H' B), .inl ⟨hw, c, o, e, hc, ho⟩⟩⟩⟩
    refine ⟨_, rfl, a, _, dx, _, _, rfl, hx, T.c_Node, T.n_Node_row, rfl, r, _, _, _, rfl, rfl, SqT.of hrow1, at0, ?_⟩
    refine ⟨_, rfl, rfl, _, rfl, ite2 (fun hd => ?_) (fun hd => ?_)⟩
    · have ew : wd = "def" := by
        have z := of_decide_eq_true hd
        injection z
      refine ⟨_, rfl, mkD (C := He.ga K "OffDeed") hn fun H' p dx s e => k H' (.ref p) s ⟨p, dx, r, b, rfl, hn.same s, .inr ⟨?_, ?_, ?_⟩⟩⟩
      · rw [ew]; decide
      · rw [ew]; decide
      · rw [ew]; exact e
    refine ⟨_, rfl, rfl, _, rfl, ite2 (fun hd => ?_) (fun hd2 => ?_)⟩
    · have ew : wd = "while" := by
        have z := of_decide_eq_true hd
        injection z
      refine ⟨_, rfl, a, _, dx, _, _, rfl, hx, T.c_Node, T.n_Node_number, rfl, ?_⟩
      obtain ⟨vs, hq, hvl, hk⟩ := hkf
      refine ⟨fun σ H' => ∃ f : Int, σ = [some (.ref a), some (.str wd), some (.int f), none] ∧ H = H' ∧ PtOk D h f, ?_, ?_⟩
      · refine ⟨_, rfl, a, _, dx, _, _, rfl, hx, T.c_Node, T.n_Node_firsts, rfl, _, .inl ⟨vs, SqL.of hq, rfl⟩, ?_⟩
        cases vs with
        | nil => exact iteF ⟨_, rfl, rfl, .inr ⟨i, wd, d, rfl, hD⟩⟩
        | cons v vs =>
          obtain ⟨j, a2, w2, d', e1, rfl, e3, e4, dx2, r2, fl2, sl2, en2, b2, g2, hx2, _, _, _, _, _, he2, _⟩ := KidsAt.at L hk List.mem_cons_self
          exact iteT ⟨_, rfl, a, _, dx, _, _, rfl, hx, T.c_Node, T.n_Node_firsts, rfl, fl, _, _, _, rfl, rfl, SqL.of hq, at0, a2, _, dx2, _, _, rfl, hx2, T.c_Node, T.n_Node_entry, rfl, _, rfl, rfl, he2⟩
      · rintro σ H' ⟨f, rfl, rfl, hf⟩
        exact ⟨_, rfl, _, rfl, _, rfl, a, _, dx, _, _, rfl, hx, T.c_Node, T.n_Node_behind, rfl, mkC f b hf hb (.inl ew)⟩
    refine ⟨_, rfl, rfl, _, rfl, ite2 (fun hd => ?_) (fun hd3 => ?_)⟩
    · have ew : wd = "if" := by
        have z := of_decide_eq_true hd
        injection z
      refine ⟨_, rfl, a, _, dx, _, _, rfl, hx, T.c_Node, T.n_Node_behind, rfl, _, rfl, a, _, dx, _, _, rfl, hx, T.c_Node, T.n_Node_behind, rfl, ?_⟩
      obtain ⟨vs, hq, hvl, hk⟩ := hkf
      refine ⟨fun σ H' => ∃ f : Int, σ = [some (.ref a), some (.str wd), some (.int f), some (.int b)] ∧ H = H' ∧ PtOk D h f, ?_, ?_⟩
      · refine ⟨_, rfl, a, _, dx, _, _, rfl, hx, T.c_Node, T.n_Node_firsts, rfl, _, .inl ⟨vs, SqL.of hq, rfl⟩, ?_⟩
        cases vs with
        | nil => exact iteF ⟨_, rfl, rfl, hb⟩
        | cons v vs =>
          obtain ⟨j, a2, w2, d', e1, rfl, e3, e4, dx2, r2, fl2, sl2, en2, b2, g2, hx2, _, _, _, _, _, he2, _⟩ := KidsAt.at L hk List.mem_cons_self
          exact iteT ⟨_, rfl, a, _, dx, _, _, rfl, hx, T.c_Node, T.n_Node_firsts, rfl, fl, _, _, _, rfl, rfl, SqL.of hq, at0, a2, _, dx2, _, _, rfl, hx2, T.c_Node, T.n_Node_entry, rfl, _, rfl, rfl, he2⟩
      rintro σ H' ⟨f, rfl, rfl, hf⟩
      obtain ⟨vs2, hq2, hvl2, hk2⟩ := hks
      refine ⟨fun σ H' => ∃ o : Int, σ = [some (.ref a), some (.str wd), some (.int f), some (.int o)] ∧ H = H' ∧ PtOk D h o, ?_, ?_⟩
      · refine ⟨_, rfl, a, _, dx, _, _, rfl, hx, T.c_Node, T.n_Node_seconds, rfl, _, .inl ⟨vs2, SqL.of hq2, rfl⟩, ?_⟩
        cases vs2 with
        | nil => exact iteF ⟨_, rfl, rfl, hb⟩
        | cons v vs2 =>
          obtain ⟨j, a2, w2, d', e1, rfl, e3, e4, dx2, r2, fl2, sl2, en2, b2, g2, hx2, _, _, _, _, _, he2, _⟩ := KidsAt.at L hk2 List.mem_cons_self
          exact iteT ⟨_, rfl, a, _, dx, _, _, rfl, hx, T.c_Node, T.n_Node_seconds, rfl, sl, _, _, _, rfl, rfl, SqL.of hq2, at0, a2, _, dx2, _, _, rfl, hx2, T.c_Node, T.n_Node_entry, rfl, _, rfl, rfl, he2⟩
      rintro σ H' ⟨o, rfl, rfl, ho⟩
      exact ⟨_, rfl, _, rfl, _, rfl, mkC f o hf ho (.inr ew)⟩
    · have n1 : wd ≠ "def" := fun z => hd (decide_eq_true (by rw [z]))
      have n2 : wd ≠ "while" := fun z => hd2 (decide_eq_true (by rw [z]))
      have n3 : wd ≠ "if" := fun z => hd3 (decide_eq_true (by rw [z]))
      have hw : wd ∈ plainW ∨ wd = "try" := by
        rcases hrow2 with h | ⟨hPr, n, d, r', er, h⟩
        · exact absurd h.1 n1
        · cases er
          rcases h with ⟨xs, h1, h2, h3⟩ | ⟨c, r1, r2, xs, ys, n1, n2, h1, _⟩ | ⟨c, r1, xs, n1, h1, _⟩ | ⟨x, r1, r2, xs, ys, n1, n2, h1, _⟩
          · obtain ⟨s, rest', rfl, hs⟩ := h2.head
            cases HO.tup.inj (Option.some.inj (hrow1.symm.trans h1))
            exact .inl hs
          · cases HO.tup.inj (Option.some.inj (hrow1.symm.trans h1))
            exact absurd rfl n3
          · cases HO.tup.inj (Option.some.inj (hrow1.symm.trans h1))
            exact absurd rfl n2
          · cases HO.tup.inj (Option.some.inj (hrow1.symm.trans h1))
            exact .inr rfl
      exact ⟨_, rfl, a, r, h, wd, b, rest, rfl, hn, hrow1, hw, fun H' p dx s e => k H' (.ref p) s ⟨p, dx, r, b, rfl, hn.same s, .inr ⟨n2, n3, e⟩⟩⟩
end
end Rt
/-! ## M8 -/
set_option Elab.async false
set_option linter.all false
set_option maxRecDepth 100000
set_option maxHeartbeats 4000000
namespace Rt
open PySem PySem.Spec PyProof.Rows L2
open L2H (RoomH roomH_of)
/-- all doors that are asked at are told -/
def DoorsOf (H : Hp) (a : Addr) (ds : List Str) : Prop := ∀ r x d, InProg H a r → H r = some (.tup [.str "ask", .str x, .str d]) → d ∈ ds
def spDoors : Sp := fun vs H Q _ => ∃ (a : Addr) (I : PI), vs = [.ref a] ∧ WProg I H a ∧ I.fs.length ≤ 2 ∧ ∀ H' l ds, Same H H' → H' l = some (.lst (ds.map V.str)) → ds.Nodup → (∀ d ∈ ds, d ∈ doorsL) → DoorsOf H a ds → Q (.ref l) H'
section
variable {P : Program} {w : World} {K : PySem.W.Frag} {mg : Str → Option Value} {base : Heap}
theorem ok_doors (T : Txt K mg) : OkC P w K mg base CX0 9 (He.ga K "doors_of") ["program"] spDoors := by
  have G_rows_of := ok_rows_of (P := P) (w := w) (base := base) T
  refine okC T.f_doors_of sc_doors_of (fun fd F => F.bindsN fun _ _ _ _ _ _ us hl => match us, hl with | [_], _ => rfl) (fun vs H Q E h => ?_) (fun cdv A outer s H vs Q E hr h => ?_)
  · obtain ⟨a, I, rfl, _⟩ := h
    rfl
  · obtain ⟨a, I, rfl, hW, hfl, k⟩ := h
    refine ⟨_, (pss_one
 (ps_ret (pe_sortSet (by rfl) T.b_sorted (by rfl) T.b_set (pe_lc (own := [("number", 1), ("row", 2), ("around", 3)]) rfl sc_doors_of.nd (pi_list (ce_call G_rows_of (hr.mono (by omega)) T.g_rows_of T.p_rows_of pass0 (pa_cons (pv 0) pa_nil))) (blkOk_by (N := N_doors_of) (sc := defScope s_doors_of) (by decide +kernel)) (fun _ _ _ _ _ => (pg_tupK (K := K) (n := 3) (pgs_cons (pg_name (i := 1) sc_doors_of.nd rfl (by first | exact Or.inl rfl | exact Or.inr rfl)) (pgs_cons (pg_name (i := 2) sc_doors_of.nd rfl (by first | exact Or.inl rfl | exact Or.inr rfl)) (pgs_cons (pg_name (i := 3) sc_doors_of.nd rfl (by first | exact Or.inl rfl | exact Or.inr rfl)) pgs_nil))))) (fun _ _ _ _ _ => (pts_one (pt_cmpR op_eq (pe_ix (ix_tupK (K := K)) (pv 2) pe_int (fun _ _ => rfl)) pe_str (nomark _)))) (fun _ _ _ _ _ => (pe_ix (ix_tupK (K := K)) (pv 2) pe_int (fun _ _ => rfl))))))), ?_⟩
    refine ⟨_, rfl, a, I, rfl, hW, hfl, fun H1 l xs s1 hl0 hl hxl hxT hLi => ?_⟩
    refine ⟨l, rfl, ⟨_, SqL.of hl⟩, fun D hD => ?_⟩
    have nDl : D ≠ l := Ne.symm (ne_of_none hl hD)
    refine lc_list (xs := xs) (fun i H' => (∀ b o, b ≠ D → H1 b = some o → H' b = some o) ∧ ∃ ss : List Str, H' D = some (.lst (ss.map V.str)) ∧ ss.length ≤ i ∧ (∀ s ∈ ss, s ∈ doorsL) ∧
      ∀ (j : Nat) (p : Addr) (n b : Int) (r : Addr) (x d : Str), j < i → xs[j]? = some (.ref p) → H1 p = some (.tup [.int n, .ref r, .int b]) → H1 r = some (.tup [.str "ask", .str x, .str d]) → d ∈ ss) ?_ ?_ ?_ ?_
    · exact ⟨fun b o hb e => by rw [upd_ne hb]; exact e, [], upd_same, Nat.zero_le _, (fun s hs => by cases hs), fun j _ _ _ _ _ _ hj => by omega⟩
    · rintro i H' _ ⟨kp, _⟩
      exact SqL.of (kp _ _ (Ne.symm nDl) hl)
    · rintro i v H2 hv ⟨kp, ss, hD2, hsl, hsd, hcov⟩
      obtain ⟨p, n, b, r, rfl, hp, hr⟩ := hxT v (List.mem_of_getElem? hv)
      obtain ⟨ra, w0, rest, rfl, hra, hask⟩ := hr
      have hiX : i < xs.length := (List.getElem?_eq_some_iff.mp hv).1
      have up : ∀ c zs, H1 c = some (.tup zs) → H2 c = some (.tup zs) := fun c zs e => kp _ _ (fun z => by rw [z, hD] at e; cases e) e
      refine ⟨p, _, rfl, SqT.of (up _ _ hp), rfl, _, _, rfl, _, _, rfl, _, _, rfl, rfl, rfl, ?_⟩
      refine ⟨_, rfl, ra, _, _, _, rfl, rfl, SqT.of (up _ _ hra), at0, rfl, _, rfl, ?_⟩
      refine ite2 (fun h => ?_) (fun h => ?_)
      · have ew : w0 = "ask" := by
          have z := of_decide_eq_true h
          injection z
        obtain ⟨x, d, rfl, hd⟩ := hask ew
        subst ew
        refine ⟨_, rfl, ra, _, _, _, rfl, rfl, SqT.of (up _ _ hra), rfl, _, hD2, by rw [List.length_map, sizeLine_eq]; omega, fun b o hb e => by rw [upd_ne hb]; exact kp _ _ hb e, ss ++ [d], by rw [List.map_append]; exact upd_same, by rw [List.length_append, List.length_singleton]; omega, fun s hs => ?_, fun j p' n' b' r' x' d' hj hc h1 h2 => ?_⟩
        · rcases List.mem_append.mp hs with hs | hs
          · exact hsd s hs
          · have e : s = d := by simpa using hs
            rw [e]
            exact hd
        · rcases Nat.lt_succ_iff_lt_or_eq.mp hj with hj | hj
          · exact List.mem_append_left _ (hcov j p' n' b' r' x' d' hj hc h1 h2)
          · subst hj
            rw [hv] at hc
            cases hc
            rw [hp] at h1
            cases h1
            rw [hra] at h2
            cases h2
            simp
      · refine ⟨kp, ss, hD2, by omega, hsd, fun j p' n' b' r' x' d' hj hc h1 h2 => ?_⟩
        rcases Nat.lt_succ_iff_lt_or_eq.mp hj with hj | hj
        · exact hcov j p' n' b' r' x' d' hj hc h1 h2
        · subst hj
          rw [hv] at hc
          cases hc
          rw [hp] at h1
          cases h1
          rw [hra] at h2
          cases h2
          exact absurd (decide_eq_true rfl) h
    · rintro H2 ⟨kp, ss, hD2, hsl, hsd, hcov⟩
      have s2 : Same H1 H2 := fun b o e => kp b o (fun z => by rw [z, hD] at e; cases e) e
      refine ⟨D, ss, doorsL, rfl, hD2, hsd, by decide, by omega, fun p ys hp hnd hys => ?_⟩
      refine k _ p ys ((s1.trans s2).trans (same_new hp)) upd_same hnd (fun d hd => hsd d ((hys d).mp hd)) fun r x d hr he => ?_
      obtain ⟨q, n, b, h1, h2⟩ := hLi r hr
      obtain ⟨j, hj, ej⟩ := List.mem_iff_getElem.mp h1
      exact (hys d).mpr (hcov j q n b r x d hj (by rw [List.getElem?_eq_getElem hj, ej]) h2 (s1 _ _ he))
end
end Rt
/-! ## M9 -/
set_option Elab.async false
set_option linter.all false
set_option maxRecDepth 100000
set_option maxHeartbeats 4000000
namespace Rt
open PySem PySem.Spec PyProof.Rows L2
open L2H (RoomH roomH_of)
/-! ### the machine, made -/
structure Mc where
  I : PI
  x : Addr
  dx : Addr
  a : Addr
  g : Addr
  lx : Addr
  ldx : Addr
  l : Addr
  fd : Addr
  e : Int
  dr : Addr
  de : Addr
  A : List Addr
  S : List Addr
  D : Ds
  kvs : List (Key × V)
  ds : List Str
  vs : List V
  gk : List (Key × V)
def machF (a g lx dr de : Addr) : List (Str × V) := [("source", .ref a), ("gates", .ref g), ("layout", .ref lx), ("doors", .ref dr), ("deeds", .ref de)]
structure MachOk (K : PySem.W.Frag) (c : Mc) (H : Hp) : Prop where
  ok : PI.Ok c.I
  obj : H c.x = some (.ins (He.ga K "Machine") c.dx (machF c.a c.g c.lx c.dr c.de))
  prog : WProg c.I H c.a
  lay : LayOk c.I K H c.lx c.ldx c.l c.fd c.e c.A c.D c.S c.kvs
  doors : H c.dr = some (.lst (c.ds.map V.str))
  dnd : c.ds.Nodup
  dsub : ∀ d ∈ c.ds, d ∈ doorsL
  asks : ∀ r, c.I.P r → ∃ xs, H r = some (.tup xs) ∧ ∀ x d, xs = [V.str "ask", V.str x, V.str d] → d ∈ c.ds
  gates : H c.g = some (.dK c.gk)
  gk : ∀ kv ∈ c.gk, ∃ t, kv.2 = .ref t ∧ NumsAt H t
  deeds : H c.de = some (.lst c.vs)
  dl : ∀ (i : Nat) (a : Addr) (x : Str × Str × Nat), c.A[i]? = some a → c.D[i]? = some x → ∃ v, c.vs[i]? = some v ∧ DeedAt K H c.D a x.1 x.2.1 v
theorem DeedAt.same {K : PySem.W.Frag} {H H' : Hp} {D : Ds} {a : Addr} {h w : Str} {v : V} (d : DeedAt K H D a h w v) (s : Same H H') : DeedAt K H' D a h w v := by
  obtain ⟨p, dx, r, b, e, n, q⟩ := d
  refine ⟨p, dx, r, b, e, n.same s, ?_⟩
  rcases q with ⟨hw, c, o, h1, h2⟩ | ⟨h1, h2, h3⟩
  · exact .inl ⟨hw, c, o, s _ _ h1, h2⟩
  · exact .inr ⟨h1, h2, s _ _ h3⟩
theorem LayOk.same {I : PI} {K : PySem.W.Frag} {H H' : Hp} {x dx l fd : Addr} {e : Int} {A : List Addr} {D : Ds} {S : List Addr} {kvs : List (Key × V)} (L : LayOk I K H x dx l fd e A D S kvs) (s : Same H H') : LayOk I K H' x dx l fd e A D S kvs :=
  ⟨s _ _ L.obj, L.lay.same s, L.size, s _ _ L.dct, L.funs.imp fun _ _ q => ⟨q.1, q.2.keep0 (KF.same s) (same_tk s)⟩, L.entry⟩
theorem MachOk.same {K : PySem.W.Frag} {c : Mc} {H H' : Hp} (m : MachOk K c H) (s : Same H H') : MachOk K c H' :=
  ⟨m.ok, s _ _ m.obj, m.prog.tk (same_tk s), m.lay.same s, s _ _ m.doors, m.dnd, m.dsub, fun r h1 => let ⟨xs, h2, h3⟩ := m.asks r h1; ⟨xs, s _ _ h2, h3⟩, s _ _ m.gates, fun kv hkv => let ⟨t, e, q⟩ := m.gk kv hkv; ⟨t, e, q.tk (same_tk s)⟩, s _ _ m.deeds, fun i a x h1 h2 => let ⟨v, e, q⟩ := m.dl i a x h1 h2; ⟨v, e, q.same s⟩⟩
theorem InRows.row {G : Sc} {H : Hp} : ∀ {d n : Nat} {a r : Addr}, WRows G H d n a → InRows H a r → ∃ xs, H r = some (.tup xs) := by
  intro d
  induction d with
  | zero =>
    rintro n a r ⟨xs, h1, h2⟩ hr
    cases hr with
    | here h hm =>
      rw [h1] at h
      cases h
      obtain ⟨m, hm⟩ := h2.mem hm
      exact hm.elim
    | sub h hp c t =>
      rw [h1] at h
      cases h
      obtain ⟨m, hm⟩ := h2.mem hp
      exact hm.elim
  | succ d ih =>
    rintro n a r ⟨xs, h1, h2⟩ hr
    cases hr with
    | here h hm =>
      rw [h1] at h
      cases h
      obtain ⟨m, hm⟩ := h2.mem hm
      obtain ⟨a2, s2, rest2, e2, hrow, _⟩ := hm.rowD
      cases e2
      exact ⟨_, hrow⟩
    | sub h hp c t =>
      rw [h1] at h
      cases h
      obtain ⟨m, hm⟩ := h2.mem hp
      obtain ⟨m2, hq⟩ := hm.child c
      exact ih hq t
theorem InProg.row {I : PI} {H : Hp} {a r : Addr} (W : WProg I H a) (h : InProg H a r) : ∃ xs, H r = some (.tup xs) := by
  obtain ⟨pa, ta, fa, ra, ps, ts, us, n, h1, h2, h3, h4, h5, h6, h7, h8, h9⟩ := W.ex
  obtain ⟨pa', ta', fa', ra', g1, hr⟩ := h
  rw [h1] at g1
  cases g1
  rcases hr with hr | ⟨us', p, t, pp, po, q, g2, g3, g4, hr⟩
  · exact InRows.row h8 hr
  · rw [h6] at g2
    cases g2
    obtain ⟨j, hj, ej⟩ := List.mem_iff_getElem.mp g3
    have hjf : j < I.fs.length := by rw [h7.len]; exact hj
    obtain ⟨p', pp', po', ra2, m, e0, e1, e2, e3, e4, e5⟩ := h7.get (List.getElem?_eq_getElem hjf) (List.getElem?_eq_getElem hj)
    rw [ej] at e0
    cases e0
    rw [e1] at g4
    cases g4
    exact InRows.row e4 hr
theorem InProg.tk {H H' : Hp} {a r : Addr} (k : Tk H H') (h : InProg H a r) : InProg H' a r := by
  obtain ⟨pa, ta, fa, ra, g1, hr⟩ := h
  refine ⟨pa, ta, fa, ra, k _ _ g1, ?_⟩
  rcases hr with hr | ⟨us', p, t, pp, po, q, g2, g3, g4, hr⟩
  · exact .inl (hr.tk k)
  · exact .inr ⟨us', p, t, pp, po, q, k _ _ g2, g3, k _ _ g4, hr.tk k⟩
theorem InProg.back {I : PI} {H H' : Hp} {a r : Addr} (W : WProg I H a) (k : Tk H H') (h : InProg H' a r) : InProg H a r := by
  obtain ⟨pa, ta, fa, ra, ps, ts, us, n, h1, h2, h3, h4, h5, h6, h7, h8, h9⟩ := W.ex
  obtain ⟨pa', ta', fa', ra', g1, hr⟩ := h
  rw [k _ _ h1] at g1
  cases g1
  refine ⟨pa, ta, fa, ra, h1, ?_⟩
  rcases hr with hr | ⟨us', p, t, pp, po, q, g2, g3, g4, hr⟩
  · exact .inl (InRows.back k h8 hr)
  · rw [k _ _ h6] at g2
    cases g2
    obtain ⟨j, hj, ej⟩ := List.mem_iff_getElem.mp g3
    have hjf : j < I.fs.length := by rw [h7.len]; exact hj
    obtain ⟨p', pp', po', ra2, m, e0, e1, e2, e3, e4, e5⟩ := h7.get (List.getElem?_eq_getElem hjf) (List.getElem?_eq_getElem hj)
    rw [ej] at e0
    cases e0
    rw [k _ _ e1] at g4
    cases g4
    exact .inr ⟨us, p, _, _, _, q, h6, g3, e1, InRows.back k e4 hr⟩
theorem world_pairs {K : PySem.W.Frag} {H : Hp} : ∀ {vs : List V}, (∀ v ∈ vs, ∃ d : Str, d ∈ doorsL ∧ ThingAt H d v) → ∃ (ps : List Addr) (kvs : List (Key × V)), vs = ps.map V.ref ∧ Paired (fun p kv => SqT K H p [kV kv.1, kv.2]) ps kvs ∧ kvs.length = vs.length ∧ ∀ kv ∈ kvs, ∃ t, kv.2 = V.ref t ∧ NumsAt H t
  | [], _ => ⟨[], [], rfl, .nil, rfl, fun kv h => by cases h⟩
  | v :: vs, h => by
    obtain ⟨ps, kvs, e1, e2, e3, e4⟩ := world_pairs (K := K) (fun u hu => h u (List.mem_cons_of_mem _ hu))
    obtain ⟨d, hd, p, t, rfl, hp, ht⟩ := h v List.mem_cons_self
    refine ⟨p :: ps, (ks d, .ref t) :: kvs, by rw [e1]; rfl, .cons (SqT.of hp) e2, by rw [List.length_cons, List.length_cons, e3], fun kv hkv => ?_⟩
    rcases List.mem_cons.mp hkv with rfl | hkv
    · exact ⟨t, rfl, ht⟩
    · exact e4 kv hkv
theorem putK_all {κ : Type} [DecidableEq κ] {P : V → Prop} {kvs : List (κ × V)} {k : κ} {v : V} (h : ∀ kv ∈ kvs, P kv.2) (hv : P v) : ∀ kv ∈ putK kvs k v, P kv.2 := by
  intro kv hkv
  unfold putK at hkv
  split at hkv
  · obtain ⟨kv', h1, h2⟩ := List.mem_map.mp hkv
    split at h2
    · rw [← h2]
      exact hv
    · rw [← h2]
      exact h _ h1
  · rcases List.mem_append.mp hkv with hkv | hkv
    · exact h _ hkv
    · have e : kv = (k, v) := by simpa using hkv
      rw [e]
      exact hv
theorem mergeK_all {P : V → Prop} : ∀ {more kvs : List (Key × V)}, (∀ kv ∈ kvs, P kv.2) → (∀ kv ∈ more, P kv.2) → ∀ kv ∈ mergeK kvs more, P kv.2
  | [], kvs, h, _ => h
  | m :: more, kvs, h, h2 => mergeK_all (more := more) (kvs := putK kvs m.1 m.2) (putK_all h (h2 m List.mem_cons_self)) (fun kv hkv => h2 kv (List.mem_cons_of_mem _ hkv))
theorem DeedAt.updL {K : PySem.W.Frag} {H : Hp} {D : Ds} {a : Addr} {h w : Str} {v : V} {q : Addr} {ws : List V} {o : HO} (d : DeedAt K H D a h w v) (hq : H q = some (.lst ws)) : DeedAt K (upd H q o) D a h w v := by
  have up : ∀ c C dx fs, H c = some (.ins C dx fs) → upd H q o c = some (.ins C dx fs) := fun c C dx fs e => by
    rw [upd_ne (ne_of e hq (by intro z; cases z))]
    exact e
  obtain ⟨p, dx, r, b, e, ⟨dn, i, fl, sl, en, g, n⟩, q⟩ := d
  refine ⟨p, dx, r, b, e, ⟨dn, i, fl, sl, en, g, up _ _ _ _ n⟩, ?_⟩
  rcases q with ⟨hw, c, o, h1, h2⟩ | ⟨h1, h2, h3⟩
  · exact .inl ⟨hw, c, o, up _ _ _ _ h1, h2⟩
  · exact .inr ⟨h1, h2, up _ _ _ _ h3⟩
theorem DeedAt.updI {K : PySem.W.Frag} {H : Hp} {D : Ds} {a : Addr} {h w : Str} {v : V} {q C0 dx0 : Addr} {fs0 : List (Str × V)} {o : HO} (d : DeedAt K H D a h w v) (hq : H q = some (.ins C0 dx0 fs0)) (h1 : ∀ i r h fl sl e b g, fs0 ≠ nodeF i r h fl sl e b g) (h2 : ∀ a r, fs0 ≠ deedF a r) (h3 : ∀ a r c o, fs0 ≠ chooseF a r c o) : DeedAt K (upd H q o) D a h w v := by
  have up : ∀ c C dx fs, fs ≠ fs0 → H c = some (.ins C dx fs) → upd H q o c = some (.ins C dx fs) := fun c C dx fs hn e => by
    rw [upd_ne (ne_of e hq (by intro z; injection z with _ _ z; exact hn z))]
    exact e
  obtain ⟨p, dx, r, b, e, ⟨dn, i, fl, sl, en, g, n⟩, q⟩ := d
  refine ⟨p, dx, r, b, e, ⟨dn, i, fl, sl, en, g, up _ _ _ _ (Ne.symm (h1 _ _ _ _ _ _ _ _)) n⟩, ?_⟩
  rcases q with ⟨hw, c, o, g1, g2⟩ | ⟨g1, g2, g3⟩
  · exact .inl ⟨hw, c, o, up _ _ _ _ (Ne.symm (h3 _ _ _ _)) g1, g2⟩
  · exact .inr ⟨g1, g2, up _ _ _ _ (Ne.symm (h2 _ _)) g3⟩
def spMachine (K : PySem.W.Frag) : Sp := fun vs H Q _ => ∃ (x dx a wd : Addr) (I : PI), vs = [.ref x, .ref a, .ref wd] ∧ H x = some (.ins (He.ga K "Machine") dx []) ∧ WProg I H a ∧ PI.Ok I ∧ WWorld H wd ∧
  ∀ H' c, (∀ b o, b ≠ x → H b = some o → H' b = some o) → MachOk K c H' → c.x = x → c.a = a → (∀ r, c.I.P r → InProg H a r) → Q .non H'
section
variable {P : Program} {w : World} {K : PySem.W.Frag} {mg : Str → Option Value} {base : Heap}
theorem okCd {k : Nat} {f : Addr} {N ps : List Str} {sp : Sp} {x qual : Str} {st : Stmt} {dvs : List V} {kws : List (Str × V)} (F : ∃ fd, FunD K x qual (defArgs st) (defBody st) (defScope st) dvs kws f fd) (S : FnScope N ps (defScope st))
    (hb : ∀ (fd : FuncData), FunD K x qual (defArgs st) (defBody st) (defScope st) dvs kws f fd → Binds K fd ps [])
    (len : ∀ vs H Q E, sp vs H Q E → vs.length = ps.length)
    (hbody : ∀ (cdv : Value) (A : Around) (outer : List Env) (s : Shared) (H : Hp) (vs : List V) (Q : VK) (E : XK), Room k (A.deeper (envOfC qual (defScope st) s.heap.objs.size f cdv)) → sp vs H Q E →
      ∃ t, PSs (cxOf CX0 P w K mg base N qual (defScope st) f cdv A outer s H E).nox (defBody st) t ∧ t { nx := fun _ H' => Q .non H', rt := Q } (start N vs) H) : OkC P w K mg base CX0 (k + 1) f ps sp := by
  obtain ⟨fd, F⟩ := F
  refine ⟨fd, F.ok S len fun cdv A outer s H vs Q E hr h => ?_, hb fd F⟩
  obtain ⟨t, h1, h2⟩ := hbody cdv A outer s H vs Q E hr h
  exact ⟨t, h1.nox, h2⟩
theorem ok_machine (T : Txt K mg) : OkC P w K mg base CX0 12 (He.ma K (He.ga K "Machine") "__init__") ["self", "program", "world"] (spMachine K) := by
  have G_Layout___init__ := ok_layout (P := P) (w := w) (base := base) T
  have G_doors_of := ok_doors (P := P) (w := w) (base := base) T
  have G_deed_of := ok_deed_of (P := P) (w := w) (base := base) T
  refine okCd T.f_Machine___init__ sc_Machine___init__ (fun fd F => ?_) (fun vs H Q E h => ?_) (fun cdv A outer s H vs Q E hr h => ?_)
  · obtain ⟨ds, hv, hb⟩ := F.binds1 (ps := ["self", "program", "world"]) 3 1 (by simp) rfl (fun T kV doc pm an cdv ct us its hu hi => match us, its, hu, hi with | [_, _, _], [_], _, _ => ⟨_, rfl, rfl⟩)
    cases hv
    exact hb
  · obtain ⟨x, dx, a, wd, I, rfl, _⟩ := h
    rfl
  · obtain ⟨x, dx, a, wd, I, rfl, hx, hW, ok, hWd, k⟩ := h
    refine ⟨_, (pss_cons
 (ps_fld (pv 0) (pv 1) rfl) (pss_cons
 (ps_fld (pv 0) pe_dnewK rfl) (C8.pss_cut
 (ps_if (pt_cmpR op_notN (pv 2) pe_non (nomark _)) (pss_one
 (ps_fld (pv 0) (pe_callTy cr_dictPT (by rfl) T.b_dict (by decide +kernel) (pa_cons (pv 2) pa_nil)) rfl)) pss_nil) (pss_cons
 (ps_fld (pv 0) (ce_make G_Layout___init__ (hr.mono (by omega)) T.k_Layout T.g_Layout pass0 (pa_cons (pv 1) pa_nil)) rfl) (pss_cons
 (ps_fld (pv 0) (ce_call G_doors_of (hr.mono (by omega)) T.g_doors_of T.p_doors_of pass0 (pa_cons (pv 1) pa_nil)) rfl) (pss_one
 (ps_fld (pv 0) (pe_lc (own := [("node", 3)]) rfl sc_Machine___init__.nd (pi_list (pe_fld (pe_fld (pv 0) rfl) rfl)) (blkOk_by (N := N_Machine___init__) (sc := defScope s_Machine___init__) (by decide +kernel)) (fun _ _ _ _ _ => (pg_name (i := 3) sc_Machine___init__.nd rfl (by first | exact Or.inl rfl | exact Or.inr rfl))) (fun _ _ _ _ _ => pts_nil) (fun _ _ _ _ _ => (ce_call G_deed_of (hr.mono (by omega)) T.g_deed_of T.p_deed_of pass0 (pa_cons (pv 3) pa_nil)))) rfl))))))), ?_⟩
    refine ⟨_, rfl, _, rfl, x, _, dx, _, rfl, hx, T.c_Machine, T.n_Machine_source, few rfl, ?_⟩
    rw [putF_new rfl]
    simp only [List.nil_append]
    refine fun g0 hg0 => ⟨_, rfl, x, _, dx, _, rfl, same_new hg0 _ _ upd_same, T.c_Machine, T.n_Machine_gates, few rfl, ?_⟩
    rw [putF_new rfl]
    simp only [List.cons_append, List.nil_append]
    have g0x : g0 ≠ x := Ne.symm (ne_of_none upd_same hg0)
    have g00 : H g0 = none := by rw [upd_ne g0x] at hg0; exact hg0
    have kp1 : ∀ b o, b ≠ x → H b = some o → upd (upd (upd H x (.ins (He.ga K "Machine") dx [("source", .ref a)])) g0 (.dK [])) x (.ins (He.ga K "Machine") dx [("source", .ref a), ("gates", .ref g0)]) b = some o := fun b o hb e => by
      rw [upd_ne hb, upd_ne (fun z => by rw [z, g00] at e; cases e), upd_ne hb]
      exact e
    have x1 : upd (upd (upd H x (.ins (He.ga K "Machine") dx [("source", .ref a)])) g0 (.dK [])) x (.ins (He.ga K "Machine") dx [("source", .ref a), ("gates", .ref g0)]) x = some (.ins (He.ga K "Machine") dx [("source", .ref a), ("gates", .ref g0)]) := upd_same
    show C8.tCut _ _ _ _ (upd (upd (upd H x (.ins (He.ga K "Machine") dx [("source", .ref a)])) g0 (.dK [])) x (.ins (He.ga K "Machine") dx [("source", .ref a), ("gates", .ref g0)]))
    generalize upd (upd (upd H x (.ins (He.ga K "Machine") dx [("source", .ref a)])) g0 (.dK [])) x (.ins (He.ga K "Machine") dx [("source", .ref a), ("gates", .ref g0)]) = H1 at kp1 x1 ⊢
    have tk : ∀ H', (∀ b o, b ≠ x → H b = some o → H' b = some o) → Tk H H' := fun H' kp b zs e => kp b _ (ne_of e hx (by intro z; cases z)) e
    refine ⟨fun σ H' => σ = [some (.ref x), some (.ref a), some (.ref wd), none] ∧ (∀ b o, b ≠ x → H b = some o → H' b = some o) ∧ ∃ g gk, H' x = some (.ins (He.ga K "Machine") dx [("source", .ref a), ("gates", .ref g)]) ∧ H' g = some (.dK gk) ∧ ∀ kv ∈ gk, ∃ t, kv.2 = .ref t ∧ NumsAt H' t, ?_, ?_⟩
    · refine ⟨_, rfl, rfl, _, rfl, ite2 (fun _ => ?_) (fun h => absurd rfl h)⟩
      obtain ⟨ow, ws, hw1, hwo, hw2, hw3⟩ := hWd.keep (fun u hu e => kp1 _ _ (ne_of e hx (hu _ _ _)) e) (tk _ kp1)
      obtain ⟨ps, kvs, e1, e2, e3, e4⟩ := world_pairs (K := K) hw3
      refine ⟨_, rfl, wd, ow, ps, kvs, rfl, by rw [← e1]; exact hw1, hwo, e2, fun g hg => ?_⟩
      have x2 := same_new (o := .dK (mergeK [] kvs)) hg _ _ x1
      refine ⟨_, rfl, x, _, dx, _, rfl, x2, T.c_Machine, T.n_Machine_gates, few rfl, ?_⟩
      have gx : g ≠ x := Ne.symm (ne_of_none x1 hg)
      have e5 : putF "gates" (.ref g) ([("source", .ref a), ("gates", .ref g0)] : List (Str × V)) = ([("source", .ref a), ("gates", .ref g)] : List (Str × V)) := rfl
      rw [e5]
      have kp2 : ∀ b o, b ≠ x → H b = some o → upd (upd H1 g (.dK (mergeK [] kvs))) x (.ins (He.ga K "Machine") dx [("source", .ref a), ("gates", .ref g)]) b = some o := fun b o hb e => by
        rw [upd_ne hb]
        exact same_new hg _ _ (kp1 _ _ hb e)
      have t2 : Tk H1 (upd (upd H1 g (.dK (mergeK [] kvs))) x (.ins (He.ga K "Machine") dx [("source", .ref a), ("gates", .ref g)])) := fun b zs e => by
        rw [upd_ne (ne_of e x1 (by intro z; cases z))]
        exact same_new hg _ _ e
      refine ⟨rfl, kp2, g, _, upd_same, by rw [upd_ne gx]; exact upd_same, fun kv hkv => ?_⟩
      obtain ⟨t, et, ht⟩ := mergeK_all (P := fun v => ∃ t, v = .ref t ∧ NumsAt H1 t) (fun kv h => by cases h) e4 kv hkv
      exact ⟨t, et, ht.tk t2⟩
    rintro σ H2 ⟨rfl, kp2, g, gk, x2, hg2, hgk2⟩
    clear kp1 x1 hg0 g0x g00
    -- the layout
    refine ⟨_, rfl, fun lx ldx hlx hldx hlxd => ?_⟩
    have sm : Same H2 (upd (upd H2 ldx (.own lx)) lx (.ins (He.ga K "Layout") ldx [])) := fun b o e => by
      rw [upd_ne (fun z => by rw [z, hlx] at e; cases e), upd_ne (fun z => by rw [z, hldx] at e; cases e)]
      exact e
    have K2 := tk _ kp2
    have W2 : WProg { I with P := InProg H a } (upd (upd H2 ldx (.own lx)) lx (.ins (He.ga K "Layout") ldx [])) a := ⟨(hW.tk (K2.trans (same_tk sm))).ex⟩
    refine ⟨lx, ldx, a, { I with P := InProg H a }, rfl, upd_same, W2, ⟨ok.b, ok.l, ok.bl, ok.ll, ok.t, ok.fl, ok.f, ok.f2, ok.tp, ok.tl, ok.n, ok.nl, ok.ok⟩, (fun r hr => InProg.back hW (K2.trans (same_tk sm)) hr), fun H3 l fd e A3 D S kvs B3 L3 => ⟨rfl, ?_⟩⟩
    have s3 : Same H2 H3 := fun b o e => B3 b o (fun z => by rw [z, hlx] at e; cases e) (sm _ _ e)
    have x3 := s3 _ _ x2
    refine ⟨_, rfl, x, _, dx, _, rfl, x3, T.c_Machine, T.n_Machine_layout, few rfl, ?_⟩
    rw [putF_new rfl]
    simp only [List.cons_append, List.nil_append]
    -- x changes
    have lxx : lx ≠ x := fun z => by rw [z, x2] at hlx; cases hlx
    have up4 : ∀ b o, b ≠ x → H3 b = some o → upd H3 x (.ins (He.ga K "Machine") dx [("source", .ref a), ("gates", .ref g), ("layout", .ref lx)]) b = some o := fun b o hb e => by
      rw [upd_ne hb]
      exact e
    have Lx : ∀ {H3 : Hp} {fs fs' : List (Str × V)} (L3 : LayOk { I with P := InProg H a } K H3 lx ldx l fd e A3 D S kvs), H3 x = some (.ins (He.ga K "Machine") dx fs) → (∀ i r h fl sl e b g, fs ≠ nodeF i r h fl sl e b g) → (∀ t pa nm num e, fs ≠ funF t pa nm num e) →
        LayOk { I with P := InProg H a } K (upd H3 x (.ins (He.ga K "Machine") dx fs')) lx ldx l fd e A3 D S kvs := fun {H3 fs fs'} L3 x3 hn hf => by
      have F4 : KF K H3 (upd H3 x (.ins (He.ga K "Machine") dx fs')) := KF.upd x3 (fun _ _ _ _ _ _ z => by injection z with _ _ z; exact hf _ _ _ _ _ z)
      have T4 : Tk H3 (upd H3 x (.ins (He.ga K "Machine") dx fs')) := fun b zs e => by
        rw [upd_ne (ne_of e x3 (by intro z; cases z))]
        exact e
      refine ⟨?_, L3.lay.upd (not_node L3.lay x3 hn) (not_list L3.lay x3 (fun _ z => by cases z)) (fun zs z => by rw [x3] at z; cases z), L3.size, ?_, L3.funs.imp fun _ _ q => ⟨q.1, q.2.keep0 F4 T4⟩, L3.entry⟩
      · rw [upd_ne lxx]
        exact L3.obj
      · rw [upd_ne (ne_of L3.dct x3 (by intro z; cases z))]
        exact L3.dct
    have L4 := Lx (fs' := [("source", .ref a), ("gates", .ref g), ("layout", .ref lx)]) L3 x3 (fun _ _ _ _ _ _ _ _ z => by cases z) (fun _ _ _ _ _ z => by cases z)
    have x4 : upd H3 x (.ins (He.ga K "Machine") dx [("source", .ref a), ("gates", .ref g), ("layout", .ref lx)]) x = some (.ins (He.ga K "Machine") dx [("source", .ref a), ("gates", .ref g), ("layout", .ref lx)]) := upd_same
    have kp4 : ∀ b o, b ≠ x → H2 b = some o → upd H3 x (.ins (He.ga K "Machine") dx [("source", .ref a), ("gates", .ref g), ("layout", .ref lx)]) b = some o := fun b o hb e => up4 _ _ hb (s3 _ _ e)
    show tSeq _ _ _ _ (upd H3 x (.ins (He.ga K "Machine") dx [("source", .ref a), ("gates", .ref g), ("layout", .ref lx)]))
    generalize upd H3 x (.ins (He.ga K "Machine") dx [("source", .ref a), ("gates", .ref g), ("layout", .ref lx)]) = H4 at L4 x4 kp4 ⊢
    have kpH4 : ∀ b o, b ≠ x → H b = some o → H4 b = some o := fun b o hb e => kp4 _ _ hb (kp2 _ _ hb e)
    have K4 := tk _ kpH4
    have gx : g ≠ x := ne_of hg2 x2 (by intro z; cases z)
    clear L3 x3 B3 s3 sm W2 hlx hldx hlxd up4
    -- the doors
    refine ⟨_, rfl, a, I, rfl, hW.tk K4, ok.fl, fun H5 dr ds s5 hdr hnd hsub hcov => ?_⟩
    have x5 := s5 _ _ x4
    refine ⟨_, rfl, x, _, dx, _, rfl, x5, T.c_Machine, T.n_Machine_doors, few rfl, ?_⟩
    rw [putF_new rfl]
    simp only [List.cons_append, List.nil_append]
    have L6 := Lx (fs' := [("source", .ref a), ("gates", .ref g), ("layout", .ref lx), ("doors", .ref dr)]) (L4.same s5) x5 (fun _ _ _ _ _ _ _ _ z => by cases z) (fun _ _ _ _ _ z => by cases z)
    have x6 : upd H5 x (.ins (He.ga K "Machine") dx [("source", .ref a), ("gates", .ref g), ("layout", .ref lx), ("doors", .ref dr)]) x = some (.ins (He.ga K "Machine") dx [("source", .ref a), ("gates", .ref g), ("layout", .ref lx), ("doors", .ref dr)]) := upd_same
    have kp6 : ∀ b o, b ≠ x → H2 b = some o → upd H5 x (.ins (He.ga K "Machine") dx [("source", .ref a), ("gates", .ref g), ("layout", .ref lx), ("doors", .ref dr)]) b = some o := fun b o hb e => by
      rw [upd_ne hb]
      exact s5 _ _ (kp4 _ _ hb e)
    have hdr6 : upd H5 x (.ins (He.ga K "Machine") dx [("source", .ref a), ("gates", .ref g), ("layout", .ref lx), ("doors", .ref dr)]) dr = some (.lst (ds.map V.str)) := by
      rw [upd_ne (ne_of hdr x5 (by intro z; cases z))]
      exact hdr
    show sFld _ _ _ _ _ _ (upd H5 x (.ins (He.ga K "Machine") dx [("source", .ref a), ("gates", .ref g), ("layout", .ref lx), ("doors", .ref dr)]))
    generalize upd H5 x (.ins (He.ga K "Machine") dx [("source", .ref a), ("gates", .ref g), ("layout", .ref lx), ("doors", .ref dr)]) = H6 at L6 x6 kp6 hdr6 ⊢
    have kpH6 : ∀ b o, b ≠ x → H b = some o → H6 b = some o := fun b o hb e => kp6 _ _ hb (kp2 _ _ hb e)
    clear L4 x4 x5 kp4 kpH4 hdr s5
    -- the deeds
    refine ⟨_, rfl, x, _, dx, _, _, rfl, x6, T.c_Machine, T.n_Machine_layout, rfl, lx, _, ldx, _, _, rfl, L6.obj, T.c_Layout, T.n_Layout_nodes, rfl, l, rfl, ⟨_, SqL.of L6.lay.lst⟩, fun Dd hDd => ?_⟩
    refine lc_list (xs := A3.map V.ref) (fun i H' => Same H6 H' ∧ ∃ vs, H' Dd = some (.lst vs) ∧ vs.length = i ∧ ∀ (j : Nat) (b : Addr) (y : Str × Str × Nat), j < i → A3[j]? = some b → D[j]? = some y → ∃ v, vs[j]? = some v ∧ DeedAt K H' D b y.1 y.2.1 v) ?_ ?_ ?_ ?_
    · exact ⟨same_new hDd, [], upd_same, rfl, fun j b y hj => by omega⟩
    · rintro i H' _ ⟨sh, _⟩
      exact SqL.of (sh _ _ L6.lay.lst)
    · rintro i v H7 hv ⟨s7, vs, hvs, hvl, hall⟩
      rw [List.getElem?_map] at hv
      obtain ⟨b, eb, rfl⟩ := Option.map_eq_some_iff.mp hv
      obtain ⟨⟨h, wd', d⟩, ey, _⟩ := L6.lay.at eb
      have hi : i < A3.length := (List.getElem?_eq_some_iff.mp eb).1
      have hsz := L6.size
      refine ⟨rfl, tyes ?_⟩
      refine ⟨_, rfl, b, l, _, A3, S, D, i, d, h, wd', rfl, L6.lay.same s7, eb, ey, fun H8 v s8 hd8 => ?_⟩
      have d8 := s8 _ _ hvs
      refine ⟨vs, d8, by rw [hvl, sizeLine_eq]; omega, fun c o e => ?_, vs ++ [v], upd_same, by rw [List.length_append, hvl]; rfl, fun j b' y hj h1 h2 => ?_⟩
      · rw [upd_ne (fun z => by rw [z, hDd] at e; cases e)]
        exact s8 _ _ (s7 _ _ e)
      · rcases Nat.lt_succ_iff_lt_or_eq.mp hj with hj | hj
        · obtain ⟨u, e1, e2⟩ := hall j b' y hj h1 h2
          exact ⟨u, get_app e1, (e2.same s8).updL d8⟩
        · subst hj
          rw [eb] at h1
          cases h1
          rw [ey] at h2
          cases h2
          refine ⟨v, ?_, hd8.updL d8⟩
          rw [← hvl, List.getElem?_append_right (Nat.le_refl _), Nat.sub_self]
          rfl
    · rintro H7 ⟨s7, vs, hvs, hvl, hall⟩
      have x7 := s7 _ _ x6
      refine ⟨_, rfl, x, _, dx, _, rfl, x7, T.c_Machine, T.n_Machine_deeds, few rfl, ?_⟩
      rw [putF_new rfl]
      simp only [List.cons_append, List.nil_append]
      have L8 := Lx (fs' := machF a g lx dr Dd) (L6.same s7) x7 (fun _ _ _ _ _ _ _ _ z => by cases z) (fun _ _ _ _ _ z => by cases z)
      have up8 : ∀ b o, b ≠ x → H7 b = some o → upd H7 x (.ins (He.ga K "Machine") dx (machF a g lx dr Dd)) b = some o := fun b o hb e => by
        rw [upd_ne hb]
        exact e
      have kp8 : ∀ b o, b ≠ x → H2 b = some o → upd H7 x (.ins (He.ga K "Machine") dx (machF a g lx dr Dd)) b = some o := fun b o hb e => up8 _ _ hb (s7 _ _ (kp6 _ _ hb e))
      have kpH8 : ∀ b o, b ≠ x → H b = some o → upd H7 x (.ins (He.ga K "Machine") dx (machF a g lx dr Dd)) b = some o := fun b o hb e => kp8 _ _ hb (kp2 _ _ hb e)
      have K8 := tk _ kpH8
      refine k _ ⟨{ I with P := InProg H a }, x, dx, a, g, lx, ldx, l, fd, e, dr, Dd, A3, S, D, kvs, ds, vs, gk⟩ kpH8 ⟨⟨ok.b, ok.l, ok.bl, ok.ll, ok.t, ok.fl, ok.f, ok.f2, ok.tp, ok.tl, ok.n, ok.nl, ok.ok⟩, upd_same, ⟨(hW.tk K8).ex⟩, L8, up8 _ _ (ne_of hdr6 x6 (by intro z; cases z)) (s7 _ _ hdr6), hnd, hsub, fun r hr => ?_, kp8 _ _ gx hg2, fun kv hkv => ?_, up8 _ _ (ne_of hvs x7 (by intro z; cases z)) hvs, fun i b y h1 h2 => ?_⟩ rfl rfl (fun r hr => hr)
      · obtain ⟨xs, hxs⟩ := InProg.row hW hr
        exact ⟨xs, K8 _ _ hxs, fun y d' e' => hcov r y d' (hr.tk K4) (K4 _ _ (by rw [hxs, e']))⟩
      · obtain ⟨t, et, ht⟩ := hgk2 kv hkv
        exact ⟨t, et, ht.tk fun b zs e => kp8 b _ (ne_of e x2 (by intro z; cases z)) e⟩
      · have hi : i < A3.length := (List.getElem?_eq_some_iff.mp h1).1
        obtain ⟨v, e1, e2⟩ := hall i b y (by rw [List.length_map]; exact hi) h1 h2
        exact ⟨v, e1, e2.updI x7 (fun _ _ _ _ _ _ _ _ z => by cases z) (fun _ _ z => by cases z) (fun _ _ _ _ z => by cases z)⟩
end
end Rt
/-! ## W1 -/
set_option Elab.async false
set_option linter.all false
set_option maxRecDepth 100000
set_option maxHeartbeats 4000000
namespace Rt
open PySem PySem.Spec PyProof.Rows L2
open L2H (RoomH roomH_of)
/-! ### a small heap within the heap: things that a step alone changes -/
structure Holds (F H : Hp) (T : List (Addr × HO)) : Prop where
  nd : (T.map Prod.fst).Nodup
  at_ : ∀ p ∈ T, H p.1 = some p.2
  new : ∀ p ∈ T, F p.1 = none
  same : Same F H
section
variable {F H H' : Hp} {T T1 T2 : List (Addr × HO)} {a : Addr} {o u : HO}
theorem Holds.get (h : Holds F H T) (hm : (a, o) ∈ T) : H a = some o := h.at_ _ hm
theorem Holds.keep (h : Holds F H T) (s : Same H H') : Holds F H' T := ⟨h.nd, fun p hp => s _ _ (h.at_ p hp), h.new, h.same.trans s⟩
theorem Holds.set (h : Holds F H (T1 ++ (a, o) :: T2)) : Holds F (upd H a u) (T1 ++ (a, u) :: T2) := by
  have hn := h.nd
  rw [List.map_append, List.map_cons] at hn
  obtain ⟨n1, n2, n3⟩ := List.nodup_append.mp hn
  obtain ⟨n4, n5⟩ := List.nodup_cons.mp n2
  refine ⟨by rw [List.map_append, List.map_cons]; exact hn, fun p hp => ?_, fun p hp => ?_, fun b v e => ?_⟩
  · rcases List.mem_append.mp hp with hp | hp
    · have hne : p.1 ≠ a := n3 _ (List.mem_map_of_mem hp) _ List.mem_cons_self
      rw [upd_ne hne]
      exact h.at_ _ (List.mem_append_left _ hp)
    · rcases List.mem_cons.mp hp with rfl | hp
      · exact upd_same
      · have hne : p.1 ≠ a := fun z => n4 (by
          have q : p.1 ∈ T2.map Prod.fst := List.mem_map_of_mem hp
          rw [z] at q
          exact q)
        rw [upd_ne hne]
        exact h.at_ _ (List.mem_append_right _ (List.mem_cons_of_mem _ hp))
  · rcases List.mem_append.mp hp with hp | hp
    · exact h.new _ (List.mem_append_left _ hp)
    · rcases List.mem_cons.mp hp with rfl | hp
      · exact h.new (a, o) (List.mem_append_right _ List.mem_cons_self)
      · exact h.new _ (List.mem_append_right _ (List.mem_cons_of_mem _ hp))
  · have hne : b ≠ a := fun z => by
      have q := h.new (a, o) (List.mem_append_right _ List.mem_cons_self)
      rw [z] at e
      rw [q] at e
      cases e
    rw [upd_ne hne]
    exact h.same _ _ e
theorem Holds.sub (h : Holds F H T) (hs : T1.Sublist T) : Holds F H T1 := ⟨h.nd.sublist (hs.map _), fun p hp => h.at_ p (hs.subset hp), fun p hp => h.new p (hs.subset hp), h.same⟩
theorem Holds.push (h : Holds F H T) (ha : H a = some o) (hn : ∀ p ∈ T, p.1 ≠ a) (hF : F a = none) : Holds F H (T ++ [(a, o)]) := by
  refine ⟨?_, fun p hp => ?_, fun p hp => ?_, h.same⟩
  · rw [List.map_append]
    refine List.nodup_append.mpr ⟨h.nd, by simp, fun x hx y hy e => ?_⟩
    obtain ⟨p, hp, rfl⟩ := List.mem_map.mp hx
    have e2 : y = a := by simpa using hy
    exact hn p hp (e.trans e2)
  · rcases List.mem_append.mp hp with hp | hp
    · exact h.at_ p hp
    · have e : p = (a, o) := by simpa using hp
      rw [e]
      exact ha
  · rcases List.mem_append.mp hp with hp | hp
    · exact h.new p hp
    · have e : p = (a, o) := by simpa using hp
      rw [e]
      exact hF
end
/-! ### dicts with told keys -/
def DAll (R : V → Prop) (kvs : List (Key × V)) (ss : List Str) : Prop := kvs.map Prod.fst = ss.map ks ∧ ∀ kv ∈ kvs, R kv.2
theorem DAll.imp {R S : V → Prop} {kvs : List (Key × V)} {ss : List Str} (h : DAll R kvs ss) (k : ∀ v, R v → S v) : DAll S kvs ss := ⟨h.1, fun kv hkv => k _ (h.2 kv hkv)⟩
theorem DAll.len {R : V → Prop} {kvs : List (Key × V)} {ss : List Str} (h : DAll R kvs ss) : kvs.length = ss.length := by
  have e := congrArg List.length h.1
  rw [List.length_map, List.length_map] at e
  exact e
theorem DAll.get {R : V → Prop} {kvs : List (Key × V)} {ss : List Str} (h : DAll R kvs ss) {x : Str} (hx : x ∈ ss) : ∃ v, valV kvs (ks x) = some v ∧ R v := by
  obtain ⟨h1, h2⟩ := h
  have hm : ks x ∈ kvs.map Prod.fst := by
    rw [h1]
    exact List.mem_map_of_mem hx
  obtain ⟨kv, hkv, e⟩ := List.mem_map.mp hm
  unfold valV
  cases q : kvs.find? (fun kv => decide (kv.1 = ks x)) with
  | none =>
    have := List.find?_eq_none.mp q kv hkv
    exact absurd (decide_eq_true e) this
  | some kv2 => exact ⟨kv2.2, rfl, h2 _ (List.mem_of_find?_eq_some q)⟩
theorem DAll.has {R : V → Prop} {kvs : List (Key × V)} {ss : List Str} (h : DAll R kvs ss) (x : Str) : (∃ v, valV kvs (ks x) = some v ∧ x ∈ ss) ∨ (valV kvs (ks x) = none ∧ x ∉ ss) := by
  by_cases hx : x ∈ ss
  · obtain ⟨v, e, _⟩ := h.get hx
    exact .inl ⟨v, e, hx⟩
  · refine .inr ⟨?_, hx⟩
    unfold valV
    cases q : kvs.find? (fun kv => decide (kv.1 = ks x)) with
    | none => rfl
    | some kv2 =>
      have h0 : decide (kv2.1 = ks x) = true := List.find?_some (p := fun kv : Key × V => decide (kv.1 = ks x)) q
      have h1 := of_decide_eq_true h0
      have hm : kv2.1 ∈ kvs.map Prod.fst := List.mem_map_of_mem (List.mem_of_find?_eq_some q)
      rw [h.1, h1] at hm
      obtain ⟨y, hy, e⟩ := List.mem_map.mp hm
      have e2 : y = x := Sum.inr.inj e
      exact absurd (e2 ▸ hy) hx
theorem DAll.put {R : V → Prop} {kvs : List (Key × V)} {ss : List Str} (h : DAll R kvs ss) {x : Str} {v : V} (hx : x ∈ ss) (hv : R v) : DAll R (putK kvs (ks x) v) ss := by
  refine ⟨?_, putK_all h.2 hv⟩
  have hm : ks x ∈ kvs.map Prod.fst := by
    rw [h.1]
    exact List.mem_map_of_mem hx
  obtain ⟨kv, hkv, e⟩ := List.mem_map.mp hm
  have ea : (kvs.any fun kv => decide (kv.1 = ks x)) = true := List.any_eq_true.mpr ⟨kv, hkv, decide_eq_true e⟩
  unfold putK
  rw [if_pos ea, List.map_map, ← h.1]
  refine List.map_congr_left fun kv hkv => ?_
  show (if kv.1 = ks x then (kv.1, v) else kv).1 = kv.1
  split <;> rfl
theorem mergeK_new : ∀ {more kvs : List (Key × V)}, ((kvs ++ more).map Prod.fst).Nodup → mergeK kvs more = kvs ++ more
  | [], kvs, _ => by
    rw [List.append_nil]
    rfl
  | m :: more, kvs, h => by
    have e : putK kvs m.1 m.2 = kvs ++ [m] := by
      rw [putK_new]
      intro kv hkv q
      rw [List.map_append, List.map_cons] at h
      exact (List.nodup_append.mp h).2.2 _ (List.mem_map_of_mem hkv) _ List.mem_cons_self q
    show mergeK (putK kvs m.1 m.2) more = _
    rw [e, mergeK_new (by rw [List.append_assoc]; exact h), List.append_assoc]
    rfl
theorem zip_fst {ss : List Str} : ∀ {us : List V}, ss.length ≤ us.length → ((ss.map ks).zip us).map Prod.fst = ss.map ks := by
  intro us h
  exact List.map_fst_zip (by rw [List.length_map]; exact h)
theorem DAll.zip {R : V → Prop} {ss : List Str} {us : List V} (nd : ss.Nodup) (hl : ss.length ≤ us.length) (hR : ∀ u ∈ us, R u) : DAll R (mergeK [] ((ss.map ks).zip us)) ss := by
  have nk : (ss.map ks).Nodup := List.Pairwise.map (f := ks) (fun a b h e => h (Sum.inr.inj e)) nd
  rw [mergeK_new (by rw [List.nil_append, zip_fst hl]; exact nk), List.nil_append]
  exact ⟨zip_fst hl, fun kv hkv => hR _ (List.of_mem_zip hkv).2⟩
end Rt
/-! ## W2 -/
set_option Elab.async false
set_option linter.all false
set_option maxRecDepth 100000
set_option maxHeartbeats 4000000
namespace Rt
open PySem PySem.Spec PyProof.Rows L2
open L2H (RoomH roomH_of)
/-! ### a state that is worked on -/
def namesOf (I : PI) (t : Str) : List Str := match I.fs.find? (fun f => f.1 == t) with
  | some f => f.2.1 ++ f.2.2
  | none => []
theorem scOf_B {I : PI} {t : Str} : (scOf I t).B = namesOf I t ++ I.B := by
  unfold scOf namesOf
  cases I.fs.find? (fun f => f.1 == t) with
  | none => rfl
  | some f => rfl
theorem scOf_L {I : PI} {t : Str} : (scOf I t).L = I.L := by
  unfold scOf
  cases I.fs.find? (fun f => f.1 == t) with
  | none => rfl
  | some f => rfl
theorem scOf_F {I : PI} {t : Str} : (scOf I t).F = I.F := by
  unfold scOf
  cases I.fs.find? (fun f => f.1 == t) with
  | none => rfl
  | some f => rfl
theorem find_fun {I : PI} (ok : PI.Ok I) {f : Str × List Str × List Str} (hf : f ∈ I.fs) : I.fs.find? (fun g => g.1 == f.1) = some f := by
  have nd := ok.t
  generalize I.fs = fs at hf nd
  induction fs with
  | nil => cases hf
  | cons g gs ih =>
    rw [List.find?_cons]
    rcases List.mem_cons.mp hf with rfl | hf
    · rw [beq_self_eq_true]
    · have hne : (g.1 == f.1) = false := beq_eq_false_iff_ne.mpr fun e => by
        have h1 := List.nodup_cons.mp (List.map_cons ▸ nd)
        exact h1.1 (by rw [e]; exact List.mem_map_of_mem hf)
      rw [hne]
      exact ih hf (List.nodup_cons.mp (List.map_cons ▸ nd)).2
theorem names_fun {I : PI} (ok : PI.Ok I) {f : Str × List Str × List Str} (hf : f ∈ I.fs) : namesOf I f.1 = f.2.1 ++ f.2.2 := by
  unfold namesOf
  rw [find_fun ok hf]
theorem names_main {I : PI} (ok : PI.Ok I) : namesOf I "" = [] := by
  have h := scOf_main ok
  have h2 := scOf_B (I := I) (t := "")
  rw [h] at h2
  have e : I.B = namesOf I "" ++ I.B := h2
  have e2 := congrArg List.length e
  rw [List.length_append] at e2
  exact List.length_eq_zero_iff.mp (by omega)
theorem names_nd {I : PI} (ok : PI.Ok I) (t : Str) : (namesOf I t).Nodup ∧ (namesOf I t).length ≤ 4 := by
  unfold namesOf
  cases q : I.fs.find? (fun f => f.1 == t) with
  | none => exact ⟨List.nodup_nil, Nat.zero_le _⟩
  | some f =>
    have hf := List.mem_of_find?_eq_some q
    refine ⟨(List.nodup_append.mp (ok.n f hf)).1, ?_⟩
    have := ok.nl f hf
    show (f.2.1 ++ f.2.2).length ≤ 4
    rw [List.length_append]
    omega
def NumV (v : V) : Prop := ∃ n : Int, v = .int n ∧ 0 ≤ n ∧ n < 1000000
def CntV (v : V) : Prop := ∃ n : Int, v = .int n ∧ 0 ≤ n
def LstV (H : Hp) (v : V) : Prop := ∃ t, v = .ref t ∧ NumsAt H t
structure FrD where
  fa : Addr
  dx : Addr
  oa : Addr
  t : Str
  p : Int
  ow : List (Key × V)
def frF (f : FrD) : List (Str × V) := [("title", .str f.t), ("owns", .ref f.oa), ("point", .int f.p)]
def frT (K : PySem.W.Frag) (f : FrD) : List (Addr × HO) := [(f.fa, .ins (He.ga K "Frame") f.dx (frF f)), (f.oa, .dK f.ow)]
structure Wm where
  w : Addr
  dw : Addr
  bx : Addr
  ls : Addr
  fr : Addr
  ct : Addr
  hd : Addr
  rd : Addr
  wr : Addr
structure Wd where
  word : Str
  kb : List (Key × V)
  kl : List (Key × V)
  kc : List (Key × V)
  hv : List V
  kr : List (List Key × V)
  wv : List V
  fs : List FrD
def wkF (lx : Addr) (m : Wm) (word : Str) : List (Str × V) := [("layout", .ref lx), ("boxes", .ref m.bx), ("lists", .ref m.ls), ("frames", .ref m.fr), ("counts", .ref m.ct), ("heard", .ref m.hd), ("word", .str word), ("reads", .ref m.rd), ("wrote", .ref m.wr)]
def wT (K : PySem.W.Frag) (lx : Addr) (m : Wm) (d : Wd) : List (Addr × HO) :=
  (m.w, .ins (He.ga K "Work") m.dw (wkF lx m d.word)) :: (m.bx, .dK d.kb) :: (m.ls, .dK d.kl) :: (m.fr, .lst (d.fs.map fun f => V.ref f.fa)) :: (m.ct, .dK d.kc) :: (m.hd, .lst d.hv) :: (m.rd, .dT d.kr) :: (m.wr, .lst d.wv) :: d.fs.flatMap (frT K)
structure Good (c : Mc) (d : Wd) (H : Hp) : Prop where
  boxes : DAll NumV d.kb c.I.B
  lists : DAll (LstV H) d.kl c.I.L
  counts : DAll CntV d.kc c.ds
  reads : ∀ kv ∈ d.kr, CellK kv.1
  wrote : ∀ v ∈ d.wv, CellV H v
  owns : ∀ f ∈ d.fs, DAll NumV f.ow (namesOf c.I f.t)
structure WkOk (K : PySem.W.Frag) (c : Mc) (F : Hp) (m : Wm) (d : Wd) (H : Hp) : Prop where
  holds : Holds F H (wT K c.lx m d)
  good : Good c d H
theorem NumsAt.lstV {H H' : Hp} {v : V} (h : LstV H v) (k : Tk H H') : LstV H' v := by
  obtain ⟨t, e, q⟩ := h
  exact ⟨t, e, q.tk k⟩
theorem CellV.tk {H H' : Hp} {v : V} (h : CellV H v) (k : Tk H H') : CellV H' v := by
  obtain ⟨b, q, e, h1, h2⟩ := h
  exact ⟨b, q, e, k _ _ h1, h2⟩
theorem Good.tk {c : Mc} {d : Wd} {H H' : Hp} (g : Good c d H) (k : Tk H H') : Good c d H' :=
  ⟨g.boxes, g.lists.imp fun v q => NumsAt.lstV q k, g.counts, g.reads, fun v hv => (g.wrote v hv).tk k, g.owns⟩
theorem WkOk.keep {K : PySem.W.Frag} {c : Mc} {F : Hp} {m : Wm} {d : Wd} {H H' : Hp} (W : WkOk K c F m d H) (s : Same H H') : WkOk K c F m d H' := ⟨W.holds.keep s, W.good.tk (same_tk s)⟩
theorem LayOk.fun {I : PI} {K : PySem.W.Frag} {H : Hp} {x dx l fd : Addr} {e : Int} {A : List Addr} {D : Ds} {S : List Addr} {kvs : List (Key × V)} (ok : PI.Ok I) (L : LayOk I K H x dx l fd e A D S kvs) {t : Str} (ht : t ∈ I.fs.map Prod.fst) :
    ∃ (p dp pa nm : Addr) (j d : Nat) (en : Int), valV kvs (ks t) = some (.ref p) ∧ H p = some (.ins (He.ga K "Function") dp (funF t pa nm (j : Int) en)) ∧ H nm = some (.tup ((namesOf I t).map V.str)) ∧ D[j]? = some (t, ("def" : Str), d) ∧ PtOk D t en := by
  obtain ⟨f, hf, rfl⟩ := List.mem_map.mp ht
  obtain ⟨i, hi, ei⟩ := List.mem_iff_getElem.mp hf
  have hi2 : i < kvs.length := by rw [← L.funs.len]; exact hi
  have q := L.funs.get (List.getElem?_eq_getElem hi) (List.getElem?_eq_getElem hi2)
  rw [ei] at q
  obtain ⟨q1, p, dp, pa, nm, j, d, en, q2, q3, q4, q5, q6⟩ := q
  refine ⟨p, dp, pa, nm, j, d, en, ?_, q3, by rw [names_fun ok hf]; exact q4, q5, q6⟩
  have keys : DAll (fun _ => True) kvs (I.fs.map Prod.fst) := by
    refine ⟨?_, fun _ _ => trivial⟩
    refine List.ext_getElem? fun n => ?_
    rw [List.getElem?_map, List.getElem?_map, List.getElem?_map]
    by_cases hn : n < I.fs.length
    · have hn2 : n < kvs.length := by rw [← L.funs.len]; exact hn
      rw [List.getElem?_eq_getElem hn, List.getElem?_eq_getElem hn2]
      exact congrArg some (L.funs.get (List.getElem?_eq_getElem hn) (List.getElem?_eq_getElem hn2)).1
    · have hn2 : ¬ n < kvs.length := by rw [← L.funs.len]; exact hn
      rw [List.getElem?_eq_none (by omega), List.getElem?_eq_none (by omega)]
      rfl
  have nd : (kvs.map Prod.fst).Nodup := by
    rw [keys.1]
    exact List.Pairwise.map (f := ks) (fun a b h e => h (Sum.inr.inj e)) ok.t
  obtain ⟨v, hv, _⟩ := keys.get ht
  have hv0 := hv
  unfold valV at hv
  cases q : kvs.find? (fun kv => decide (kv.1 = ks f.1)) with
  | none =>
    rw [q] at hv
    cases hv
  | some kv2 =>
    rw [q] at hv
    have h0 : decide (kv2.1 = ks f.1) = true := List.find?_some (p := fun kv : Key × V => decide (kv.1 = ks f.1)) q
    have h1 := of_decide_eq_true h0
    obtain ⟨i2, hi3, e3⟩ := List.mem_iff_getElem.mp (List.mem_of_find?_eq_some q)
    have a1 : (kvs.map Prod.fst)[i2]? = some (ks f.1) := by
      rw [List.getElem?_map, List.getElem?_eq_getElem hi3, e3]
      exact congrArg some h1
    have a2 : (kvs.map Prod.fst)[i]? = some (ks f.1) := by
      rw [List.getElem?_map, List.getElem?_eq_getElem hi2]
      exact congrArg some q1
    have e4 := (List.getElem?_inj (List.getElem?_eq_some_iff.mp a2).1 nd).mp (a2.trans a1.symm)
    subst e4
    rw [hv0]
    have e5 : v = kv2.2 := (Option.some.inj hv).symm
    rw [e5, ← e3, q2]
def spFrame (K : PySem.W.Frag) : Sp := fun vs H Q _ => ∃ (x dx na nu : Addr) (t : Str) (p : Int) (ss : List Str) (us : List V), vs = [.ref x, .str t, .ref na, .ref nu, .int p] ∧ H x = some (.ins (He.ga K "Frame") dx []) ∧ H na = some (.tup (ss.map V.str)) ∧ Sq H nu us ∧ ss.Nodup ∧ ss.length ≤ us.length ∧ us.length ≤ 1000 ∧ (∀ u ∈ us, NumV u) ∧
  ∀ H' oa ow, (∀ b o, b ≠ x → H b = some o → H' b = some o) → H oa = none → H' x = some (.ins (He.ga K "Frame") dx [("title", .str t), ("owns", .ref oa), ("point", .int p)]) → H' oa = some (.dK ow) → DAll NumV ow ss → Q .non H'
section
variable {P : Program} {w : World} {K : PySem.W.Frag} {mg : Str → Option Value} {base : Heap}
theorem ok_frame (T : Txt K mg) : OkC P w K mg base CX0 1 (He.ma K (He.ga K "Frame") "__init__") ["self", "title", "names", "numbers", "point"] (spFrame K) := by
  refine okC T.f_Frame___init__ sc_Frame___init__ (fun fd F => F.bindsN fun _ _ _ _ _ _ us hl => match us, hl with | [_, _, _, _, _], _ => rfl) (fun vs H Q E h => ?_) (fun cdv A outer s H vs Q E hr h => ?_)
  · obtain ⟨x, dx, na, nu, t, p, ss, us, rfl, _⟩ := h
    rfl
  · obtain ⟨x, dx, na, nu, t, p, ss, us, rfl, hx, hna, hnu, nd, hl, hl2, hn, k⟩ := h
    refine ⟨_, (pss_cons
 (ps_fld (pv 0) (pv 1) rfl) (pss_cons
 (ps_fld (pv 0) (pe_dictZip (by rfl) T.b_dict (by rfl) T.b_zip (pa_cons (pv 2) (pa_cons (pv 3) pa_nil))) rfl) (pss_one
 (ps_fld (pv 0) (pv 4) rfl)))), ?_⟩
    have up : ∀ {o : HO} b u, b ≠ x → H b = some u → upd H x o b = some u := fun b u hb e => by rw [upd_ne hb]; exact e
    refine ⟨_, rfl, _, rfl, x, _, dx, _, rfl, hx, T.c_Frame, T.n_Frame_title, few rfl, ?_⟩
    rw [putF_new rfl]
    simp only [List.nil_append]
    have nax : na ≠ x := ne_of hna hx (by intro z; cases z)
    have nux : nu ≠ x := by
      rcases hnu with h | h
      · exact ne_of h hx (by intro z; cases z)
      · exact ne_of h hx (by intro z; cases z)
    refine ⟨_, rfl, _, rfl, na, nu, ss, us, rfl, .inr (up _ _ nax hna), ?_, by omega, hl2, fun oa hoa => ?_⟩
    · rcases hnu with h | h
      · exact .inl (up _ _ nux h)
      · exact .inr (up _ _ nux h)
    have oax : oa ≠ x := Ne.symm (ne_of_none upd_same hoa)
    have oa0 : H oa = none := by rw [upd_ne oax] at hoa; exact hoa
    refine ⟨_, rfl, x, _, dx, _, rfl, same_new hoa _ _ upd_same, T.c_Frame, T.n_Frame_owns, few rfl, ?_⟩
    rw [putF_new rfl]
    simp only [List.cons_append, List.nil_append]
    refine ⟨_, rfl, _, rfl, x, _, dx, _, rfl, upd_same, T.c_Frame, T.n_Frame_point, few rfl, ?_⟩
    rw [putF_new rfl, upd_upd]
    simp only [List.cons_append, List.nil_append]
    refine k _ oa _ (fun b o hb e => ?_) oa0 upd_same ?_ (DAll.zip nd hl hn)
    · rw [upd_ne hb, upd_ne (fun z => by rw [z, oa0] at e; cases e), upd_ne hb]
      exact e
    · rw [upd_ne oax]
      exact upd_same
end
end Rt
/-! ## W3 -/
set_option Elab.async false
set_option linter.all false
set_option maxRecDepth 100000
set_option maxHeartbeats 4000000
namespace Rt
open PySem PySem.Spec PyProof.Rows L2
open L2H (RoomH roomH_of)
def FrV (c : Mc) (H : Hp) (f : Str × Int) (v : V) : Prop := ∃ (p nu : Addr) (us : List V), v = .ref p ∧ H p = some (.tup [.str f.1, .ref nu, .int f.2]) ∧ H nu = some (.tup us) ∧ us.length = (namesOf c.I f.1).length ∧ ∀ u ∈ us, NumV u
/-- a state, as it is told -/
structure StOk (c : Mc) (H : Hp) (st : Addr) (frs : List (Str × Int)) (word : Str) (nh : Nat) : Prop where
  ex : ∃ (bx ls fr ct hd : Addr) (bs ts fvs cs hs : List V), H st = some (.tup [.ref bx, .ref ls, .ref fr, .ref ct, .ref hd, .str word]) ∧ H bx = some (.tup bs) ∧ bs.length = c.I.B.length ∧ (∀ v ∈ bs, NumV v) ∧
    H ls = some (.tup ts) ∧ ts.length = c.I.L.length ∧ (∀ v ∈ ts, LstV H v) ∧ H fr = some (.tup fvs) ∧ All2 (FrV c H) frs fvs ∧ H ct = some (.tup cs) ∧ cs.length = c.ds.length ∧ (∀ v ∈ cs, CntV v) ∧ H hd = some (.tup hs) ∧ hs.length ≤ nh
  titles : ∀ f ∈ frs, f.1 = "" ∨ f.1 ∈ c.I.fs.map Prod.fst
  few : frs.length ≤ 8
theorem FrV.tk {c : Mc} {H H' : Hp} {f : Str × Int} {v : V} (h : FrV c H f v) (k : Tk H H') : FrV c H' f v := by
  obtain ⟨p, nu, us, e, h1, h2, h3⟩ := h
  exact ⟨p, nu, us, e, k _ _ h1, k _ _ h2, h3⟩
theorem StOk.tk {c : Mc} {H H' : Hp} {st : Addr} {frs : List (Str × Int)} {word : Str} {nh : Nat} (s : StOk c H st frs word nh) (k : Tk H H') : StOk c H' st frs word nh := by
  obtain ⟨bx, ls, fr, ct, hd, bs, ts, fvs, cs, hs, h1, h2, h3, h4, h5, h6, h7, h8, h9, h10, h11, h12, h13, h14⟩ := s.ex
  exact ⟨⟨bx, ls, fr, ct, hd, bs, ts, fvs, cs, hs, k _ _ h1, k _ _ h2, h3, h4, k _ _ h5, h6, fun v hv => NumsAt.lstV (h7 v hv) k, k _ _ h8, h9.imp fun _ _ q => q.tk k, k _ _ h10, h11, h12, k _ _ h13, h14⟩, s.titles, s.few⟩
theorem Holds.grow {F H H' : Hp} {T : List (Addr × HO)} {a : Addr} {o : HO} (h : Holds F H T) (s : Same H H') (ha : H a = none) (ho : H' a = some o) : Holds F H' (T ++ [(a, o)]) := by
  refine (h.keep s).push ho (fun p hp z => ?_) (h.same.free ha)
  have e := h.at_ p hp
  rw [z, ha] at e
  cases e
theorem Holds.perm {F H : Hp} {T T' : List (Addr × HO)} (h : Holds F H T) (p : T.Perm T') : Holds F H T' := ⟨(p.map _).nodup_iff.mp h.nd, fun q hq => h.at_ q (p.mem_iff.mpr hq), fun q hq => h.new q (p.mem_iff.mpr hq), h.same⟩
theorem nodup_len {α : Type} [DecidableEq α] : ∀ (l D : List α), l.Nodup → (∀ x ∈ l, x ∈ D) → l.length ≤ D.length
  | [], _, _, _ => Nat.zero_le _
  | x :: l, D, nd, h => by
    obtain ⟨h1, h2⟩ := List.nodup_cons.mp nd
    have hx := h x List.mem_cons_self
    have e := nodup_len l (D.erase x) h2 fun y hy => (List.mem_erase_of_ne (fun z => h1 (by rw [← z]; exact hy))).mpr (h y (List.mem_cons_of_mem _ hy))
    rw [List.length_erase_of_mem hx] at e
    have := List.length_pos_of_mem hx
    rw [List.length_cons]
    omega
theorem doors_len {K : PySem.W.Frag} {c : Mc} {H : Hp} (M : MachOk K c H) : c.ds.length ≤ 3 := nodup_len c.ds doorsL M.dnd M.dsub
def spWork (K : PySem.W.Frag) : Sp := fun vs H Q _ => ∃ (x dx st : Addr) (c : Mc) (F : Hp) (frs : List (Str × Int)) (word : Str) (nh : Nat), vs = [.ref x, .ref c.lx, .ref c.a, .ref c.dr, .ref st] ∧ H x = some (.ins (He.ga K "Work") dx []) ∧ F x = none ∧ Same F H ∧ MachOk K c F ∧ StOk c F st frs word nh ∧ nh ≤ 1000 ∧
  ∀ H' m d, WkOk K c F m d H' → m.w = x → d.word = word → (d.fs.map fun f => (f.t, f.p)) = frs → d.kr = [] → d.wv = [] → d.hv.length ≤ nh → Q .non H'
section
variable {P : Program} {w : World} {K : PySem.W.Frag} {mg : Str → Option Value} {base : Heap}
theorem ok_work (T : Txt K mg) : OkC P w K mg base CX0 4 (He.ma K (He.ga K "Work") "__init__") ["self", "layout", "program", "doors", "state"] (spWork K) := by
  have G_Frame___init__ := ok_frame (P := P) (w := w) (base := base) T
  refine okC T.f_Work___init__ sc_Work___init__ (fun fd F => F.bindsN fun _ _ _ _ _ _ us hl => match us, hl with | [_, _, _, _, _], _ => rfl) (fun vs H Q E h => ?_) (fun cdv A outer s H vs Q E hr h => ?_)
  · obtain ⟨x, dx, st, c, F, frs, word, nh, rfl, _⟩ := h
    rfl
  · obtain ⟨x, dx, st, c, F, frs, word, nh, rfl, hx, hFx, hs, M, S, hnh, k⟩ := h
    refine ⟨_, (pss_cons
 (ps_fld (pv 0) (pv 1) rfl) (pss_cons
 (ps_fld (pv 0) (pe_dictZip (by rfl) T.b_dict (by rfl) T.b_zip (pa_cons (pe_lc (own := [("box", 9)]) rfl sc_Work___init__.nd (pi_tup (pe_ix ix_tup (pv 2) pe_int (fun _ _ => rfl))) (blkOk_by (N := N_Work___init__) (sc := defScope s_Work___init__) (by decide +kernel)) (fun _ _ _ _ _ => (pg_name (i := 9) sc_Work___init__.nd rfl (by first | exact Or.inl rfl | exact Or.inr rfl))) (fun _ _ _ _ _ => pts_nil) (fun _ _ _ _ _ => (pe_ix (ix_tupK (K := K)) (pv 9) pe_int (fun _ _ => rfl)))) (pa_cons (pe_ix ix_tup (pv 4) pe_int (fun _ _ => rfl)) pa_nil))) rfl) (pss_cons
 (ps_fld (pv 0) (pe_dictZip (by rfl) T.b_dict (by rfl) T.b_zip (pa_cons (pe_lc (own := [("one", 10)]) rfl sc_Work___init__.nd (pi_tup (pe_ix ix_tup (pv 2) pe_int (fun _ _ => rfl))) (blkOk_by (N := N_Work___init__) (sc := defScope s_Work___init__) (by decide +kernel)) (fun _ _ _ _ _ => (pg_name (i := 10) sc_Work___init__.nd rfl (by first | exact Or.inl rfl | exact Or.inr rfl))) (fun _ _ _ _ _ => pts_nil) (fun _ _ _ _ _ => (pe_ix (ix_tupK (K := K)) (pv 10) pe_int (fun _ _ => rfl)))) (pa_cons (pe_ix ix_tup (pv 4) pe_int (fun _ _ => rfl)) pa_nil))) rfl) (pss_cons
 (ps_fld (pv 0) (pe_lst pa_nil) rfl) (pss_cons
 (ps_for PassesOwn.never rfl (pi_tup (pe_ix ix_tup (pv 4) pe_int (fun _ _ => rfl))) (pg_tup rfl (pgs_cons (pg_name (i := 5) sc_Work___init__.nd rfl (by first | exact Or.inl rfl | exact Or.inr rfl)) (pgs_cons (pg_name (i := 6) sc_Work___init__.nd rfl (by first | exact Or.inl rfl | exact Or.inr rfl)) (pgs_cons (pg_name (i := 7) sc_Work___init__.nd rfl (by first | exact Or.inl rfl | exact Or.inr rfl)) pgs_nil)))) (C8.pss_cut
 (ps_set (i := 8) sc_Work___init__.nd rfl (by first | exact Or.inl rfl | exact Or.inr rfl) (pe_ifExp (pt_truth (pv 5) (by intro _; rfl)) (pe_fld (pe_dget (hu_of hr) (pe_fld (pv 1) rfl) (pv 5) (fun _ _ => rfl)) rfl) (pe_tup pa_nil))) (pss_one
 (ps_expr (pe_bm PySem.F.plainAttrs_list PySem.F.slot_list_append PySem.F.type_list_append mt_append (pe_fld (pv 0) rfl) (pa_cons (ce_make G_Frame___init__ (hr.mono (by omega)) T.k_Frame T.g_Frame pass0 (pa_cons (pv 5) (pa_cons (pv 8) (pa_cons (pv 6) (pa_cons (pv 7) pa_nil))))) pa_nil)))))) (pss_cons
 (ps_fld (pv 0) (pe_dictZip (by rfl) T.b_dict (by rfl) T.b_zip (pa_cons (pv 3) (pa_cons (pe_ix ix_tup (pv 4) pe_int (fun _ _ => rfl)) pa_nil))) rfl) (pss_cons
 (ps_fld (pv 0) (pe_callTy call_list_of (by rfl) T.b_list (by decide +kernel) (pa_cons (pe_ix ix_tup (pv 4) pe_int (fun _ _ => rfl)) pa_nil)) rfl) (pss_cons
 (ps_fld (pv 0) (pe_ix ix_tup (pv 4) pe_int (fun _ _ => rfl)) rfl) (pss_cons
 (ps_fld (pv 0) pe_dnewT rfl) (pss_one
 (ps_fld (pv 0) (pe_lst pa_nil) rfl))))))))))), ?_⟩
    obtain ⟨bx, ls, fr, ct, hd, bs, ts, fvs, cs, hvs, h1, h2, h3, h4, h5, h6, h7, h8, h9, h10, h11, h12, h13, h14⟩ := S.ex
    obtain ⟨pa, ta, fa, ra, ps, ths, us, n, g1, g2, g3, g4, g5, g6, g7, g8, g9⟩ := M.prog.ex
    have H0 : Holds F H [(x, .ins (He.ga K "Work") dx [])] := ⟨by simp, fun p hp => by rw [List.mem_singleton.mp hp]; exact hx, fun p hp => by rw [List.mem_singleton.mp hp]; exact hFx, hs⟩
    -- layout
    refine ⟨_, rfl, _, rfl, x, _, dx, _, rfl, hx, T.c_Work, T.n_Work_layout, few rfl, ?_⟩
    rw [putF_new rfl]
    simp only [List.nil_append]
    have H1 := H0.set (T1 := []) (T2 := []) (u := .ins (He.ga K "Work") dx [("layout", .ref c.lx)])
    simp only [List.nil_append] at H1
    show tSeq _ _ _ _ (upd H x (.ins (He.ga K "Work") dx [("layout", .ref c.lx)]))
    generalize upd H x (.ins (He.ga K "Work") dx [("layout", .ref c.lx)]) = Ha at H1 ⊢
    clear H0 hx hs
    -- boxes
    refine ⟨_, rfl, c.a, _, _, _, rfl, rfl, SqT.of (H1.same _ _ g1), rfl, pa, rfl, ⟨_, SqT.of (H1.same _ _ g2)⟩, fun D hD => ?_⟩
    refine lc_tup (xs := ps) (fun i H' => (∀ b o, b ≠ D → Ha b = some o → H' b = some o) ∧ H' D = some (.lst ((c.I.B.take i).map V.str))) ?_ ?_ ?_ ?_
    · exact ⟨fun b o hb e => by rw [upd_ne hb]; exact e, upd_same⟩
    · rintro i H' _ ⟨kp, _⟩
      exact SqT.of (kp _ _ (fun z => by rw [← z] at hD; rw [H1.same _ _ g2] at hD; cases hD) (H1.same _ _ g2))
    · rintro i v H' hv ⟨kp, hDl⟩
      have hi : i < c.I.B.length := by rw [g3.len]; exact (List.getElem?_eq_some_iff.mp hv).1
      obtain ⟨p, nn, rfl, hp, _⟩ := g3.get (List.getElem?_eq_getElem hi) hv
      have hp' := kp _ _ (fun z => by rw [← z] at hD; rw [H1.same _ _ hp] at hD; cases hD) (H1.same _ _ hp)
      have hbl := M.ok.bl
      refine ⟨rfl, tyes ⟨_, rfl, p, _, _, _, rfl, rfl, SqT.of hp', rfl, _, hDl, by rw [List.length_map, List.length_take, sizeLine_eq]; omega, fun b o hb e => ?_, ?_⟩⟩
      · rw [upd_ne hb]
        exact kp _ _ hb e
      · rw [List.take_add_one, List.getElem?_eq_getElem hi, List.map_append]
        exact upd_same
    rintro Hb ⟨kpb, hDl⟩
    have eB : c.I.B.take ps.length = c.I.B := by rw [← g3.len, List.take_length]
    rw [eB] at hDl
    have sb : Same Ha Hb := fun b o e => kpb b o (fun z => by rw [z, hD] at e; cases e) e
    have H2 := H1.keep sb
    refine ⟨_, rfl, st, _, _, _, rfl, rfl, SqT.of (H2.same _ _ h1), rfl, D, bx, c.I.B, bs, rfl, .inl hDl, .inr (H2.same _ _ h2), ?_, ?_, fun kb hkb => ?_⟩
    · have := M.ok.bl
      omega
    · have := M.ok.bl
      omega
    have H3 := H2.grow (same_new (o := .dK (mergeK [] ((c.I.B.map ks).zip bs))) hkb) hkb upd_same
    refine ⟨_, rfl, x, _, dx, _, rfl, H3.get List.mem_cons_self, T.c_Work, T.n_Work_boxes, few rfl, ?_⟩
    rw [putF_new rfl]
    simp only [List.cons_append, List.nil_append]
    have H4 := H3.set (T1 := []) (u := .ins (He.ga K "Work") dx [("layout", .ref c.lx), ("boxes", .ref kb)])
    simp only [List.cons_append, List.nil_append] at H4
    show tSeq _ _ _ _ (upd (upd Hb kb (.dK (mergeK [] ((c.I.B.map Sum.inr).zip bs)))) x (.ins (He.ga K "Work") dx [("layout", .ref c.lx), ("boxes", .ref kb)]))
    have D4 : DAll NumV (mergeK [] ((c.I.B.map ks).zip bs)) c.I.B := DAll.zip M.ok.b (by omega) h4
    generalize upd (upd Hb kb (.dK (mergeK [] ((c.I.B.map Sum.inr).zip bs)))) x (.ins (He.ga K "Work") dx [("layout", .ref c.lx), ("boxes", .ref kb)]) = Hc at H4 ⊢
    generalize mergeK [] ((c.I.B.map ks).zip bs) = kbv at H4 D4
    clear H1 H2 H3 sb hDl kpb hD hkb
    -- lists
    refine ⟨_, rfl, c.a, _, _, _, rfl, rfl, SqT.of (H4.same _ _ g1), rfl, ta, rfl, ⟨_, SqT.of (H4.same _ _ g4)⟩, fun D hD => ?_⟩
    refine lc_tup (xs := ths) (fun i H' => (∀ b o, b ≠ D → Hc b = some o → H' b = some o) ∧ H' D = some (.lst ((c.I.L.take i).map V.str))) ?_ ?_ ?_ ?_
    · exact ⟨fun b o hb e => by rw [upd_ne hb]; exact e, upd_same⟩
    · rintro i H' _ ⟨kp, _⟩
      exact SqT.of (kp _ _ (fun z => by rw [← z] at hD; rw [H4.same _ _ g4] at hD; cases hD) (H4.same _ _ g4))
    · rintro i v H' hv ⟨kp, hDl⟩
      have hi : i < c.I.L.length := by rw [g5.len]; exact (List.getElem?_eq_some_iff.mp hv).1
      obtain ⟨p, tt, rfl, hp, _⟩ := g5.get (List.getElem?_eq_getElem hi) hv
      have hp' := kp _ _ (fun z => by rw [← z] at hD; rw [H4.same _ _ hp] at hD; cases hD) (H4.same _ _ hp)
      have hbl := M.ok.ll
      refine ⟨rfl, tyes ⟨_, rfl, p, _, _, _, rfl, rfl, SqT.of hp', rfl, _, hDl, by rw [List.length_map, List.length_take, sizeLine_eq]; omega, fun b o hb e => ?_, ?_⟩⟩
      · rw [upd_ne hb]
        exact kp _ _ hb e
      · rw [List.take_add_one, List.getElem?_eq_getElem hi, List.map_append]
        exact upd_same
    rintro Hd ⟨kpd, hDl⟩
    have eL : c.I.L.take ths.length = c.I.L := by rw [← g5.len, List.take_length]
    rw [eL] at hDl
    have sd : Same Hc Hd := fun b o e => kpd b o (fun z => by rw [z, hD] at e; cases e) e
    have H5 := H4.keep sd
    refine ⟨_, rfl, st, _, _, _, rfl, rfl, SqT.of (H5.same _ _ h1), rfl, D, ls, c.I.L, ts, rfl, .inl hDl, .inr (H5.same _ _ h5), ?_, ?_, fun kl hkl => ?_⟩
    · have := M.ok.ll
      omega
    · have := M.ok.ll
      omega
    have H6 := H5.grow (same_new (o := .dK (mergeK [] ((c.I.L.map ks).zip ts))) hkl) hkl upd_same
    refine ⟨_, rfl, x, _, dx, _, rfl, H6.get List.mem_cons_self, T.c_Work, T.n_Work_lists, few rfl, ?_⟩
    rw [putF_new rfl]
    simp only [List.cons_append, List.nil_append]
    have H7 := H6.set (T1 := []) (u := .ins (He.ga K "Work") dx [("layout", .ref c.lx), ("boxes", .ref kb), ("lists", .ref kl)])
    simp only [List.cons_append, List.nil_append] at H7
    have D7 : DAll (LstV F) (mergeK [] ((c.I.L.map ks).zip ts)) c.I.L := DAll.zip M.ok.l (by omega) h7
    show tSeq _ _ _ _ (upd (upd Hd kl (.dK (mergeK [] ((c.I.L.map Sum.inr).zip ts)))) x (.ins (He.ga K "Work") dx [("layout", .ref c.lx), ("boxes", .ref kb), ("lists", .ref kl)]))
    generalize upd (upd Hd kl (.dK (mergeK [] ((c.I.L.map Sum.inr).zip ts)))) x (.ins (He.ga K "Work") dx [("layout", .ref c.lx), ("boxes", .ref kb), ("lists", .ref kl)]) = He' at H7 ⊢
    generalize mergeK [] ((c.I.L.map ks).zip ts) = klv at H7 D7
    clear H4 H5 H6 sd hDl kpd hD hkl
    -- frames
    refine ⟨Nat.zero_le _, fun fr' hfr' => ?_⟩
    have H8 := H7.grow (same_new (o := .lst []) hfr') hfr' upd_same
    refine ⟨_, rfl, x, _, dx, _, rfl, H8.get List.mem_cons_self, T.c_Work, T.n_Work_frames, few rfl, ?_⟩
    rw [putF_new rfl]
    simp only [List.cons_append, List.nil_append]
    have H9 := H8.set (T1 := []) (u := .ins (He.ga K "Work") dx [("layout", .ref c.lx), ("boxes", .ref kb), ("lists", .ref kl), ("frames", .ref fr')])
    simp only [List.cons_append, List.nil_append] at H9
    show tSeq _ _ _ _ (upd (upd He' fr' (.lst [])) x (.ins (He.ga K "Work") dx [("layout", .ref c.lx), ("boxes", .ref kb), ("lists", .ref kl), ("frames", .ref fr')]))
    generalize upd (upd He' fr' (.lst [])) x (.ins (He.ga K "Work") dx [("layout", .ref c.lx), ("boxes", .ref kb), ("lists", .ref kl), ("frames", .ref fr')]) = Hf at H9 ⊢
    clear H7 H8 hfr'
    refine ⟨_, rfl, st, _, _, _, rfl, rfl, SqT.of (H9.same _ _ h1), rfl, fr, rfl, ⟨_, SqT.of (H9.same _ _ h8)⟩, for_tup (xs := fvs) (fun i σ H' => ∃ (o5 o6 o7 o8 : Option V) (fs : List FrD), σ = [some (.ref x), some (.ref c.lx), some (.ref c.a), some (.ref c.dr), some (.ref st), o5, o6, o7, o8, none, none] ∧
      Holds F H' ((x, .ins (He.ga K "Work") dx [("layout", .ref c.lx), ("boxes", .ref kb), ("lists", .ref kl), ("frames", .ref fr')]) :: (kb, .dK kbv) :: (kl, .dK klv) :: (fr', .lst (fs.map fun f => V.ref f.fa)) :: fs.flatMap (frT K)) ∧
      (fs.map fun f => (f.t, f.p)) = frs.take i ∧ ∀ f ∈ fs, DAll NumV f.ow (namesOf c.I f.t)) ?_ ?_ ?_ ?_⟩
    · exact ⟨none, none, none, none, [], rfl, H9, rfl, fun f hf => by cases hf⟩
    · rintro i σ H' _ ⟨o5, o6, o7, o8, fs, rfl, hh, _⟩
      exact SqT.of (hh.same _ _ h8)
    · rintro i v σ H2 hv ⟨o5, o6, o7, o8, fs, rfl, hh, hfs, hown⟩
      have hi : i < frs.length := by rw [h9.len]; exact (List.getElem?_eq_some_iff.mp hv).1
      have hfi : frs[i]? = some frs[i] := List.getElem?_eq_getElem hi
      obtain ⟨p, nu, nus, rfl, hp, hnu, hnl, hnum⟩ := h9.get hfi hv
      have htt := S.titles frs[i] (List.getElem_mem hi)
      have hfew := S.few
      generalize frs[i] = f at hfi hp hnl htt
      refine ⟨p, _, rfl, SqT.of (hh.same _ _ hp), rfl, _, _, rfl, _, _, rfl, _, _, rfl, rfl, ?_⟩
      refine ⟨fun σ H' => ∃ na : Addr, σ = [some (.ref x), some (.ref c.lx), some (.ref c.a), some (.ref c.dr), some (.ref st), some (.str f.1), some (.ref nu), some (.int f.2), some (.ref na), none, none] ∧ Same H2 H' ∧ H' na = some (.tup ((namesOf c.I f.1).map V.str)), ?_, ?_⟩
      · have hstr : f.1.length ≤ sizeLine := by
          rcases htt with e | hm
          · rw [e]
            exact Nat.zero_le _
          · obtain ⟨g, hg, e⟩ := List.mem_map.mp hm
            rw [← e]
            exact szn (Nat.le_trans (M.ok.tl g hg) (by decide))
        refine ⟨_, rfl, _, ⟨hstr, rfl⟩, ?_⟩
        rcases htt with e | hm
        · rw [e]
          refine iteF ⟨Nat.zero_le _, fun na hna => ⟨na, rfl, same_new hna, ?_⟩⟩
          rw [names_main M.ok]
          exact upd_same
        · have hlen : ((f.1.length : Int) != 0) = true := by
            obtain ⟨g, hg, e⟩ := List.mem_map.mp hm
            have := M.ok.tp g hg
            rw [e] at this
            simp
            omega
          rw [hlen]
          obtain ⟨q, dq, pa', nm, j, d, en, hv', hq, hnm, _⟩ := M.lay.fun M.ok hm
          refine iteT ⟨_, rfl, c.lx, _, c.ldx, _, _, rfl, hh.same _ _ M.lay.obj, T.c_Layout, T.n_Layout_functions, rfl, _, rfl, c.fd, _, rfl, (by rw [← hv']; exact DGet.k (k := ks f.1) (hh.same _ _ M.lay.dct)), q, _, dq, _, _, rfl, hh.same _ _ hq, T.c_Function, T.n_Function_names, rfl, nm, rfl, Same.refl _, hh.same _ _ hnm⟩
      · rintro σ H3 ⟨na, rfl, s3, hna⟩
        have hh3 := hh.keep s3
        have hfr3 := hh3.get (a := fr') (o := .lst (fs.map fun f => V.ref f.fa)) (by simp)
        refine ⟨_, rfl, x, _, dx, _, _, rfl, hh3.get List.mem_cons_self, T.c_Work, T.n_Work_frames, rfl, .inl ⟨rfl, _, SqL.of hfr3⟩, _, rfl, _, rfl, _, rfl, _, rfl, fun y dy hy hdy hyd => ?_⟩
        have sm : Same H3 (upd (upd H3 dy (.own y)) y (.ins (He.ga K "Frame") dy [])) := fun b o e => by
          rw [upd_ne (fun z => by rw [z, hy] at e; cases e), upd_ne (fun z => by rw [z, hdy] at e; cases e)]
          exact e
        have hn4 := names_nd M.ok f.1
        refine ⟨y, dy, na, nu, f.1, f.2, namesOf c.I f.1, nus, rfl, upd_same, sm _ _ hna, .inr (sm _ _ (hh3.same _ _ hnu)), hn4.1, by omega, by omega, hnum, fun H4 oa ow B4 hoa0 hy4 hoa how => ⟨rfl, ?_⟩⟩
        have s4 : Same H3 H4 := fun b o e => B4 b o (fun z => by rw [z, hy] at e; cases e) (sm _ _ e)
        have hh4 := (hh3.grow s4 hy hy4)
        have hfl : fs.length ≤ 8 := by
          have e := congrArg List.length hfs
          rw [List.length_map, List.length_take] at e
          omega
        have hoa3 : H3 oa = none := sm.free hoa0
        have hne : y ≠ oa := fun z => by rw [← z, upd_same] at hoa0; cases hoa0
        have hh5 := hh4.push hoa (fun p hp z => by
          rcases List.mem_append.mp hp with hp | hp
          · have e := hh3.at_ p hp
            rw [z, hoa3] at e
            cases e
          · have e : p = (y, .ins (He.ga K "Frame") dy [("title", .str f.1), ("owns", .ref oa), ("point", .int f.2)]) := by simpa using hp
            rw [e] at z
            exact hne z) (hh3.same.free hoa3)
        simp only [List.cons_append, List.append_assoc, List.nil_append] at hh5
        have hfr4 := hh5.get (a := fr') (o := .lst (fs.map fun f => V.ref f.fa)) (by simp)
        refine ⟨fr', _, _, rfl, rfl, hfr4, by rw [List.length_map, sizeLine_eq]; omega, ?_⟩
        have hh6 := Holds.set (T1 := [(x, .ins (He.ga K "Work") dx [("layout", .ref c.lx), ("boxes", .ref kb), ("lists", .ref kl), ("frames", .ref fr')]), (kb, .dK kbv), (kl, .dK klv)]) (a := fr') (u := .lst ((fs.map fun f => V.ref f.fa) ++ [V.ref y])) hh5
        refine ⟨_, _, _, _, fs ++ [⟨y, dy, oa, f.1, f.2, ow⟩], rfl, ?_, ?_, fun g hg => ?_⟩
        · rw [List.map_append, List.flatMap_append]
          exact hh6
        · rw [List.map_append, hfs, List.take_add_one, hfi]
          rfl
        · rcases List.mem_append.mp hg with hg | hg
          · exact hown g hg
          · have e : g = ⟨y, dy, oa, f.1, f.2, ow⟩ := by simpa using hg
            rw [e]
            exact how
    · rintro σ H2 ⟨o5, o6, o7, o8, fs, rfl, hh, hfs, hown⟩
      have hfs : (fs.map fun f => (f.t, f.p)) = frs := by
        rw [hfs, ← h9.len, List.take_length]
      -- counts
      refine ⟨_, rfl, _, rfl, st, _, _, _, rfl, rfl, SqT.of (hh.same _ _ h1), rfl, c.dr, ct, c.ds, cs, rfl, .inl (hh.same _ _ M.doors), .inr (hh.same _ _ h10), ?_, ?_, fun kc hkc => ?_⟩
      · have := doors_len M
        omega
      · have := doors_len M
        omega
      have a1 := hh.grow (same_new (o := .dK (mergeK [] ((c.ds.map ks).zip cs))) hkc) hkc upd_same
      refine ⟨_, rfl, x, _, dx, _, rfl, a1.get List.mem_cons_self, T.c_Work, T.n_Work_counts, few rfl, ?_⟩
      rw [putF_new rfl]
      simp only [List.cons_append, List.nil_append] at a1 ⊢
      have a2 := Holds.set (T1 := []) (u := .ins (He.ga K "Work") dx [("layout", .ref c.lx), ("boxes", .ref kb), ("lists", .ref kl), ("frames", .ref fr'), ("counts", .ref kc)]) a1
      have Dc : DAll CntV (mergeK [] ((c.ds.map ks).zip cs)) c.ds := DAll.zip M.dnd (by omega) h12
      show tSeq _ _ _ _ (upd (upd H2 kc (.dK (mergeK [] ((c.ds.map Sum.inr).zip cs)))) x (.ins (He.ga K "Work") dx [("layout", .ref c.lx), ("boxes", .ref kb), ("lists", .ref kl), ("frames", .ref fr'), ("counts", .ref kc)]))
      generalize upd (upd H2 kc (.dK (mergeK [] ((c.ds.map Sum.inr).zip cs)))) x (.ins (He.ga K "Work") dx [("layout", .ref c.lx), ("boxes", .ref kb), ("lists", .ref kl), ("frames", .ref fr'), ("counts", .ref kc)]) = H3 at a2 ⊢
      generalize mergeK [] ((c.ds.map ks).zip cs) = kcv at a2 Dc
      -- heard
      refine ⟨_, rfl, st, _, _, _, rfl, rfl, SqT.of (a2.same _ _ h1), rfl, hd, _, rfl, .inr (SqT.of (a2.same _ _ h13)), fun hl hhl => ?_⟩
      have a3 := a2.grow (same_new (o := .lst hvs) hhl) hhl upd_same
      refine ⟨_, rfl, x, _, dx, _, rfl, a3.get List.mem_cons_self, T.c_Work, T.n_Work_heard, few rfl, ?_⟩
      rw [putF_new rfl]
      simp only [List.cons_append, List.nil_append] at a3 ⊢
      have a4 := Holds.set (T1 := []) (u := .ins (He.ga K "Work") dx [("layout", .ref c.lx), ("boxes", .ref kb), ("lists", .ref kl), ("frames", .ref fr'), ("counts", .ref kc), ("heard", .ref hl)]) a3
      show tSeq _ _ _ _ (upd (upd H3 hl (.lst hvs)) x (.ins (He.ga K "Work") dx [("layout", .ref c.lx), ("boxes", .ref kb), ("lists", .ref kl), ("frames", .ref fr'), ("counts", .ref kc), ("heard", .ref hl)]))
      generalize upd (upd H3 hl (.lst hvs)) x (.ins (He.ga K "Work") dx [("layout", .ref c.lx), ("boxes", .ref kb), ("lists", .ref kl), ("frames", .ref fr'), ("counts", .ref kc), ("heard", .ref hl)]) = H4 at a4 ⊢
      -- word
      refine ⟨_, rfl, st, _, _, _, rfl, rfl, SqT.of (a4.same _ _ h1), rfl, _, rfl, x, _, dx, _, rfl, a4.get List.mem_cons_self, T.c_Work, T.n_Work_word, few rfl, ?_⟩
      rw [putF_new rfl]
      simp only [List.cons_append, List.nil_append] at a4 ⊢
      have a5 := Holds.set (T1 := []) (u := .ins (He.ga K "Work") dx [("layout", .ref c.lx), ("boxes", .ref kb), ("lists", .ref kl), ("frames", .ref fr'), ("counts", .ref kc), ("heard", .ref hl), ("word", .str word)]) a4
      show tSeq _ _ _ _ (upd H4 x (.ins (He.ga K "Work") dx [("layout", .ref c.lx), ("boxes", .ref kb), ("lists", .ref kl), ("frames", .ref fr'), ("counts", .ref kc), ("heard", .ref hl), ("word", .str word)]))
      generalize upd H4 x (.ins (He.ga K "Work") dx [("layout", .ref c.lx), ("boxes", .ref kb), ("lists", .ref kl), ("frames", .ref fr'), ("counts", .ref kc), ("heard", .ref hl), ("word", .str word)]) = H5 at a5 ⊢
      -- reads
      refine fun rd hrd => ?_
      have a6 := a5.grow (same_new (o := .dT []) hrd) hrd upd_same
      refine ⟨_, rfl, x, _, dx, _, rfl, a6.get List.mem_cons_self, T.c_Work, T.n_Work_reads, few rfl, ?_⟩
      rw [putF_new rfl]
      simp only [List.cons_append, List.nil_append] at a6 ⊢
      have a7 := Holds.set (T1 := []) (u := .ins (He.ga K "Work") dx [("layout", .ref c.lx), ("boxes", .ref kb), ("lists", .ref kl), ("frames", .ref fr'), ("counts", .ref kc), ("heard", .ref hl), ("word", .str word), ("reads", .ref rd)]) a6
      show sFld _ _ _ _ _ _ (upd (upd H5 rd (.dT [])) x (.ins (He.ga K "Work") dx [("layout", .ref c.lx), ("boxes", .ref kb), ("lists", .ref kl), ("frames", .ref fr'), ("counts", .ref kc), ("heard", .ref hl), ("word", .str word), ("reads", .ref rd)]))
      generalize upd (upd H5 rd (.dT [])) x (.ins (He.ga K "Work") dx [("layout", .ref c.lx), ("boxes", .ref kb), ("lists", .ref kl), ("frames", .ref fr'), ("counts", .ref kc), ("heard", .ref hl), ("word", .str word), ("reads", .ref rd)]) = H6 at a7 ⊢
      -- wrote
      refine ⟨Nat.zero_le _, fun wr hwr => ?_⟩
      have a8 := a7.grow (same_new (o := .lst []) hwr) hwr upd_same
      refine ⟨_, rfl, x, _, dx, _, rfl, a8.get List.mem_cons_self, T.c_Work, T.n_Work_wrote, few rfl, ?_⟩
      rw [putF_new rfl]
      simp only [List.cons_append, List.nil_append] at a8 ⊢
      have a9 := Holds.set (T1 := []) (u := .ins (He.ga K "Work") dx (wkF c.lx ⟨x, dx, kb, kl, fr', kc, hl, rd, wr⟩ word)) a8
      refine k _ ⟨x, dx, kb, kl, fr', kc, hl, rd, wr⟩ ⟨word, kbv, klv, kcv, hvs, [], [], fs⟩ ⟨?_, D4, ?_, Dc, (fun kv h => by cases h), (fun v h => by cases h), hown⟩ rfl rfl hfs rfl rfl h14
      · simp only [List.append_assoc, List.cons_append, List.nil_append] at a9
        exact a9.perm (((((List.perm_append_comm (l₁ := fs.flatMap (frT K)) (l₂ := [(kc, HO.dK kcv), (hl, HO.lst hvs), (rd, HO.dT []), (wr, HO.lst [])])).cons _).cons _).cons _).cons _)
      · exact D7.imp fun v q => NumsAt.lstV q (same_tk a9.same)
end
end Rt
/-! ## W4 -/
set_option Elab.async false
set_option linter.all false
set_option maxRecDepth 100000
set_option maxHeartbeats 4000000
namespace Rt
open PySem PySem.Spec PyProof.Rows L2
open L2H (RoomH roomH_of)
theorem huH {A : Around} {k : Nat} (hr : RoomH k A) : A.units + 1 < cLine := by
  have := hr.un
  omega
section
variable {K : PySem.W.Frag} {c : Mc} {F H : Hp} {m : Wm} {d : Wd}
theorem WkOk.obj (W : WkOk K c F m d H) : H m.w = some (.ins (He.ga K "Work") m.dw (wkF c.lx m d.word)) := W.holds.get (by simp [wT])
theorem WkOk.bx (W : WkOk K c F m d H) : H m.bx = some (.dK d.kb) := W.holds.get (by simp [wT])
theorem WkOk.ls (W : WkOk K c F m d H) : H m.ls = some (.dK d.kl) := W.holds.get (by simp [wT])
theorem WkOk.fr (W : WkOk K c F m d H) : H m.fr = some (.lst (d.fs.map fun f => V.ref f.fa)) := W.holds.get (by simp [wT])
theorem WkOk.ct (W : WkOk K c F m d H) : H m.ct = some (.dK d.kc) := W.holds.get (by simp [wT])
theorem WkOk.hd (W : WkOk K c F m d H) : H m.hd = some (.lst d.hv) := W.holds.get (by simp [wT])
theorem WkOk.rd (W : WkOk K c F m d H) : H m.rd = some (.dT d.kr) := W.holds.get (by simp [wT])
theorem WkOk.wr (W : WkOk K c F m d H) : H m.wr = some (.lst d.wv) := W.holds.get (by simp [wT])
theorem WkOk.fa (W : WkOk K c F m d H) {f : FrD} (hf : f ∈ d.fs) : H f.fa = some (.ins (He.ga K "Frame") f.dx (frF f)) := W.holds.get (by
  unfold wT
  simp only [List.mem_cons]
  refine .inr (.inr (.inr (.inr (.inr (.inr (.inr (.inr (List.mem_flatMap.mpr ⟨f, hf, ?_⟩))))))))
  exact List.mem_cons_self)
theorem WkOk.oa (W : WkOk K c F m d H) {f : FrD} (hf : f ∈ d.fs) : H f.oa = some (.dK f.ow) := W.holds.get (by
  unfold wT
  simp only [List.mem_cons]
  refine .inr (.inr (.inr (.inr (.inr (.inr (.inr (.inr (List.mem_flatMap.mpr ⟨f, hf, ?_⟩))))))))
  exact List.mem_cons_of_mem _ List.mem_cons_self)
theorem WkOk.same (W : WkOk K c F m d H) : Same F H := W.holds.same
/-- a thing of the work changes -/
theorem WkOk.tkU (W : WkOk K c F m d H) {a : Addr} {o u : HO} (h : H a = some o) (hn : ∀ xs, o ≠ .tup xs) : Tk H (upd H a u) := fun b zs e => by
  have hb : b ≠ a := fun z => by
    rw [z, h] at e
    injection e with e
    exact hn _ e
  rw [upd_ne hb]
  exact e
theorem WkOk.setBx (W : WkOk K c F m d H) {kb : List (Key × V)} (g : DAll NumV kb c.I.B) : WkOk K c F m { d with kb := kb } (upd H m.bx (.dK kb)) :=
  ⟨Holds.set (T1 := [(m.w, .ins (He.ga K "Work") m.dw (wkF c.lx m d.word))]) W.holds, by
    have q := W.good.tk (W.tkU W.bx (u := .dK kb) (fun _ z => by cases z))
    exact ⟨g, q.lists, q.counts, q.reads, q.wrote, q.owns⟩⟩
theorem WkOk.setLs (W : WkOk K c F m d H) {kl : List (Key × V)} (g : DAll (LstV H) kl c.I.L) : WkOk K c F m { d with kl := kl } (upd H m.ls (.dK kl)) :=
  ⟨Holds.set (T1 := [(m.w, .ins (He.ga K "Work") m.dw (wkF c.lx m d.word)), (m.bx, .dK d.kb)]) W.holds, by
    have t := W.tkU W.ls (u := .dK kl) (fun _ z => by cases z)
    have q := W.good.tk t
    exact ⟨q.boxes, g.imp fun v h => NumsAt.lstV h t, q.counts, q.reads, q.wrote, q.owns⟩⟩
theorem WkOk.setCt (W : WkOk K c F m d H) {kc : List (Key × V)} (g : DAll CntV kc c.ds) : WkOk K c F m { d with kc := kc } (upd H m.ct (.dK kc)) :=
  ⟨Holds.set (T1 := [(m.w, .ins (He.ga K "Work") m.dw (wkF c.lx m d.word)), (m.bx, .dK d.kb), (m.ls, .dK d.kl), (m.fr, .lst (d.fs.map fun f => V.ref f.fa))]) W.holds, by
    have q := W.good.tk (W.tkU W.ct (u := .dK kc) (fun _ z => by cases z))
    exact ⟨q.boxes, q.lists, g, q.reads, q.wrote, q.owns⟩⟩
theorem WkOk.setHd (W : WkOk K c F m d H) {hv : List V} : WkOk K c F m { d with hv := hv } (upd H m.hd (.lst hv)) :=
  ⟨Holds.set (T1 := [(m.w, .ins (He.ga K "Work") m.dw (wkF c.lx m d.word)), (m.bx, .dK d.kb), (m.ls, .dK d.kl), (m.fr, .lst (d.fs.map fun f => V.ref f.fa)), (m.ct, .dK d.kc)]) W.holds, by
    have q := W.good.tk (W.tkU W.hd (u := .lst hv) (fun _ z => by cases z))
    exact ⟨q.boxes, q.lists, q.counts, q.reads, q.wrote, q.owns⟩⟩
theorem WkOk.setRd (W : WkOk K c F m d H) {kr : List (List Key × V)} (g : ∀ kv ∈ kr, CellK kv.1) : WkOk K c F m { d with kr := kr } (upd H m.rd (.dT kr)) :=
  ⟨Holds.set (T1 := [(m.w, .ins (He.ga K "Work") m.dw (wkF c.lx m d.word)), (m.bx, .dK d.kb), (m.ls, .dK d.kl), (m.fr, .lst (d.fs.map fun f => V.ref f.fa)), (m.ct, .dK d.kc), (m.hd, .lst d.hv)]) W.holds, by
    have q := W.good.tk (W.tkU W.rd (u := .dT kr) (fun _ z => by cases z))
    exact ⟨q.boxes, q.lists, q.counts, g, q.wrote, q.owns⟩⟩
theorem WkOk.setWr (W : WkOk K c F m d H) {wv : List V} (g : ∀ v ∈ wv, CellV H v) : WkOk K c F m { d with wv := wv } (upd H m.wr (.lst wv)) :=
  ⟨Holds.set (T1 := [(m.w, .ins (He.ga K "Work") m.dw (wkF c.lx m d.word)), (m.bx, .dK d.kb), (m.ls, .dK d.kl), (m.fr, .lst (d.fs.map fun f => V.ref f.fa)), (m.ct, .dK d.kc), (m.hd, .lst d.hv), (m.rd, .dT d.kr)]) W.holds, by
    have t := W.tkU W.wr (u := .lst wv) (fun _ z => by cases z)
    have q := W.good.tk t
    exact ⟨q.boxes, q.lists, q.counts, q.reads, fun v hv => (g v hv).tk t, q.owns⟩⟩
theorem WkOk.setWord (W : WkOk K c F m d H) {word : Str} : WkOk K c F m { d with word := word } (upd H m.w (.ins (He.ga K "Work") m.dw (wkF c.lx m word))) :=
  ⟨Holds.set (T1 := []) W.holds, by
    have q := W.good.tk (W.tkU W.obj (u := .ins (He.ga K "Work") m.dw (wkF c.lx m word)) (fun _ z => by cases z))
    exact ⟨q.boxes, q.lists, q.counts, q.reads, q.wrote, q.owns⟩⟩
/-- the things ahead of the frames -/
def wT0 (K : PySem.W.Frag) (lx : Addr) (m : Wm) (d : Wd) : List (Addr × HO) :=
  [(m.w, .ins (He.ga K "Work") m.dw (wkF lx m d.word)), (m.bx, .dK d.kb), (m.ls, .dK d.kl), (m.fr, .lst (d.fs.map fun f => V.ref f.fa)), (m.ct, .dK d.kc), (m.hd, .lst d.hv), (m.rd, .dT d.kr), (m.wr, .lst d.wv)]
/-- the last frame's numbers -/
theorem WkOk.setOw {gs : List FrD} {f : FrD} (W : WkOk K c F m d H) (e : d.fs = gs ++ [f]) {ow : List (Key × V)} (g : DAll NumV ow (namesOf c.I f.t)) : WkOk K c F m { d with fs := gs ++ [{ f with ow := ow }] } (upd H f.oa (.dK ow)) := by
  have hf : f ∈ d.fs := by
    rw [e]
    simp
  have h0 : wT K c.lx m d = (wT0 K c.lx m d ++ gs.flatMap (frT K) ++ [(f.fa, .ins (He.ga K "Frame") f.dx (frF f))]) ++ (f.oa, .dK f.ow) :: [] := by
    show wT0 K c.lx m d ++ d.fs.flatMap (frT K) = _
    rw [e, List.flatMap_append]
    simp [frT]
  have hh := W.holds
  rw [h0] at hh
  have h1 := hh.set (u := .dK ow)
  refine ⟨?_, ?_⟩
  · have h2 : wT K c.lx m { d with fs := gs ++ [{ f with ow := ow }] } = (wT0 K c.lx m d ++ gs.flatMap (frT K) ++ [(f.fa, .ins (He.ga K "Frame") f.dx (frF f))]) ++ (f.oa, .dK ow) :: [] := by
      show wT0 K c.lx m { d with fs := gs ++ [{ f with ow := ow }] } ++ (gs ++ [{ f with ow := ow }]).flatMap (frT K) = _
      rw [List.flatMap_append]
      simp [frT, frF, wT0, e]
    rw [h2]
    exact h1
  · have q := W.good.tk (W.tkU (W.oa hf) (u := .dK ow) (fun _ z => by cases z))
    refine ⟨q.boxes, q.lists, q.counts, q.reads, q.wrote, fun g' hg' => ?_⟩
    rcases List.mem_append.mp hg' with hg' | hg'
    · exact q.owns g' (by rw [e]; exact List.mem_append_left _ hg')
    · have e2 : g' = { f with ow := ow } := by simpa using hg'
      rw [e2]
      exact g
/-- the last frame's point -/
theorem WkOk.setPt {gs : List FrD} {f : FrD} (W : WkOk K c F m d H) (e : d.fs = gs ++ [f]) {p : Int} : WkOk K c F m { d with fs := gs ++ [{ f with p := p }] } (upd H f.fa (.ins (He.ga K "Frame") f.dx (frF { f with p := p }))) := by
  have hf : f ∈ d.fs := by
    rw [e]
    simp
  have h0 : wT K c.lx m d = (wT0 K c.lx m d ++ gs.flatMap (frT K)) ++ (f.fa, .ins (He.ga K "Frame") f.dx (frF f)) :: [(f.oa, .dK f.ow)] := by
    show wT0 K c.lx m d ++ d.fs.flatMap (frT K) = _
    rw [e, List.flatMap_append]
    simp [frT]
  have hh := W.holds
  rw [h0] at hh
  have h1 := hh.set (u := .ins (He.ga K "Frame") f.dx (frF { f with p := p }))
  refine ⟨?_, ?_⟩
  · have h2 : wT K c.lx m { d with fs := gs ++ [{ f with p := p }] } = (wT0 K c.lx m d ++ gs.flatMap (frT K)) ++ (f.fa, .ins (He.ga K "Frame") f.dx (frF { f with p := p })) :: [(f.oa, .dK f.ow)] := by
      show wT0 K c.lx m { d with fs := gs ++ [{ f with p := p }] } ++ (gs ++ [{ f with p := p }]).flatMap (frT K) = _
      rw [List.flatMap_append]
      simp [frT, frF, wT0, e]
    rw [h2]
    exact h1
  · have q := W.good.tk (W.tkU (W.fa hf) (u := .ins (He.ga K "Frame") f.dx (frF { f with p := p })) (fun _ z => by cases z))
    refine ⟨q.boxes, q.lists, q.counts, q.reads, q.wrote, fun g' hg' => ?_⟩
    rcases List.mem_append.mp hg' with hg' | hg'
    · exact q.owns g' (by rw [e]; exact List.mem_append_left _ hg')
    · have e2 : g' = { f with p := p } := by simpa using hg'
      rw [e2]
      exact q.owns f hf
/-- a frame goes -/
theorem WkOk.pop {gs : List FrD} {f : FrD} (W : WkOk K c F m d H) (e : d.fs = gs ++ [f]) : WkOk K c F m { d with fs := gs } (upd H m.fr (.lst (gs.map fun f => V.ref f.fa))) := by
  have h1 := Holds.set (T1 := [(m.w, .ins (He.ga K "Work") m.dw (wkF c.lx m d.word)), (m.bx, .dK d.kb), (m.ls, .dK d.kl)]) (a := m.fr) (u := .lst (gs.map fun f => V.ref f.fa)) W.holds
  refine ⟨h1.sub ?_, ?_⟩
  · have q : (gs.flatMap (frT K)).Sublist (d.fs.flatMap (frT K)) := by
      rw [e, List.flatMap_append]
      exact List.sublist_append_left _ _
    exact ((((((((q.cons_cons _).cons_cons _).cons_cons _).cons_cons _).cons_cons _).cons_cons _).cons_cons _).cons_cons _)
  · have q := W.good.tk (W.tkU W.fr (u := .lst (gs.map fun f => V.ref f.fa)) (fun _ z => by cases z))
    exact ⟨q.boxes, q.lists, q.counts, q.reads, q.wrote, fun g hg => q.owns g (by rw [e]; exact List.mem_append_left _ hg)⟩
end
end Rt
/-! ## W5 -/
set_option Elab.async false
set_option linter.all false
set_option maxRecDepth 100000
set_option maxHeartbeats 4000000
namespace Rt
open PySem PySem.Spec PyProof.Rows L2
open L2H (RoomH roomH_of)
def spTop (K : PySem.W.Frag) : Sp := fun vs H Q _ => ∃ (c : Mc) (F : Hp) (m : Wm) (d : Wd) (gs : List FrD) (f : FrD), vs = [.ref m.w] ∧ WkOk K c F m d H ∧ d.fs = gs ++ [f] ∧ Q (.ref f.fa) H
def spCellOf (K : PySem.W.Frag) : Sp := fun vs H Q _ => ∃ (c : Mc) (F : Hp) (m : Wm) (d : Wd) (gs : List FrD) (f : FrD) (x : Str), vs = [.ref m.w, .str x] ∧ WkOk K c F m d H ∧ d.fs = gs ++ [f] ∧ gs.length ≤ 100 ∧
  ∀ p H' (n : Int), Same H H' → ((x ∈ namesOf c.I f.t ∧ H' p = some (.tup [.str "own", .int n, .str x])) ∨ (x ∉ namesOf c.I f.t ∧ H' p = some (.tup [.str "box", .str x]))) → Q (.ref p) H'
def spBox (K : PySem.W.Frag) : Sp := fun vs H Q _ => ∃ (c : Mc) (F : Hp) (m : Wm) (d : Wd) (gs : List FrD) (f : FrD) (x : Str), vs = [.ref m.w, .str x] ∧ WkOk K c F m d H ∧ d.fs = gs ++ [f] ∧ gs.length ≤ 100 ∧ (x ∈ namesOf c.I f.t ∨ x ∈ c.I.B) ∧ d.kr.length ≤ 1000 ∧
  ∀ H' kr n, WkOk K c F m { d with kr := kr } H' → kr.length ≤ d.kr.length + 1 → But m.rd H H' → 0 ≤ n → n < 1000000 → Q (.int n) H'
def spLread (K : PySem.W.Frag) : Sp := fun vs H Q _ => ∃ (c : Mc) (F : Hp) (m : Wm) (d : Wd) (x : Str), vs = [.ref m.w, .str x] ∧ WkOk K c F m d H ∧ x ∈ c.I.L ∧ d.kr.length ≤ 1000 ∧
  ∀ H' kr t, WkOk K c F m { d with kr := kr } H' → kr.length ≤ d.kr.length + 1 → But m.rd H H' → NumsAt H' t → Q (.ref t) H'
/-- the work behind a box's change -/
structure SetB (d d' : Wd) (gs : List FrD) (f : FrD) : Prop where
  word : d'.word = d.word
  kr : d'.kr = d.kr
  hv : d'.hv = d.hv
  wv : d'.wv.length ≤ d.wv.length + 1
  fs : ∃ ow, d'.fs = gs ++ [{ f with ow := ow }]
def spSetBox (K : PySem.W.Frag) : Sp := fun vs H Q _ => ∃ (c : Mc) (F : Hp) (m : Wm) (d : Wd) (gs : List FrD) (f : FrD) (x : Str) (n : Int), vs = [.ref m.w, .str x, .int n] ∧ PI.Ok c.I ∧ WkOk K c F m d H ∧ d.fs = gs ++ [f] ∧ gs.length ≤ 100 ∧ (x ∈ namesOf c.I f.t ∨ x ∈ c.I.B) ∧ 0 ≤ n ∧ n < 1000000 ∧ d.wv.length ≤ 1000 ∧
  ∀ H' d', WkOk K c F m d' H' → SetB d d' gs f → Tk H H' → Q .non H'
def spSetList (K : PySem.W.Frag) : Sp := fun vs H Q _ => ∃ (c : Mc) (F : Hp) (m : Wm) (d : Wd) (x : Str) (t : Addr), vs = [.ref m.w, .str x, .ref t] ∧ PI.Ok c.I ∧ WkOk K c F m d H ∧ x ∈ c.I.L ∧ NumsAt H t ∧ d.wv.length ≤ 1000 ∧
  ∀ H' kl wv, WkOk K c F m { d with kl := kl, wv := wv } H' → wv.length ≤ d.wv.length + 1 → Tk H H' → Q .non H'
theorem putK_len {κ : Type} [DecidableEq κ] {kvs : List (κ × V)} {k : κ} {v : V} : (putK kvs k v).length ≤ kvs.length + 1 := by
  unfold putK
  split
  · rw [List.length_map]
    omega
  · rw [List.length_append]
    exact Nat.le_refl _
theorem putK_keys {κ : Type} [DecidableEq κ] {P : κ → Prop} {kvs : List (κ × V)} {k : κ} {v : V} (h : ∀ kv ∈ kvs, P kv.1) (hk : P k) : ∀ kv ∈ putK kvs k v, P kv.1 := by
  intro kv hkv
  unfold putK at hkv
  split at hkv
  · obtain ⟨kv', h1, h2⟩ := List.mem_map.mp hkv
    have e : kv.1 = kv'.1 := by
      rw [← h2]
      split <;> rfl
    rw [e]
    exact h _ h1
  · rcases List.mem_append.mp hkv with hkv | hkv
    · exact h _ hkv
    · have e : kv = (k, v) := by simpa using hkv
      rw [e]
      exact hk
section
variable {P : Program} {w : World} {K : PySem.W.Frag} {mg : Str → Option Value} {base : Heap}
theorem ok_top (T : Txt K mg) : OkA P w K mg base CX0 1 (He.ma K (He.ga K "Work") "top") ["self"] (spTop K) := by
  refine okA T.f_Work_top sc_Work_top (fun fd F => F.bindsN fun _ _ _ _ _ _ us hl => match us, hl with | [_], _ => rfl) (fun vs H Q E h => ?_) (fun cdv A outer s H vs Q E pp hr h => ?_)
  · obtain ⟨c, F, m, d, gs, f, rfl, _⟩ := h
    rfl
  · obtain ⟨c, F, m, d, gs, f, rfl, W, hfs, k⟩ := h
    refine ⟨_, (pss_one
 (ps_ret (pe_ix ix_list (pe_fld (pv 0) rfl) (pe_un un_neg pe_int) (fun _ _ => rfl)))), ?_⟩
    refine ⟨_, rfl, m.w, _, m.dw, _, _, rfl, W.obj, T.c_Work, T.n_Work_frames, rfl, _, rfl, m.fr, _, _, _, rfl, rfl, SqL.of W.fr, ?_, k⟩
    rw [hfs, List.map_append]
    exact atI_last _ _
theorem ok_cell_of (T : Txt K mg) : OkA P w K mg base CX0 2 (He.ma K (He.ga K "Work") "cell_of") ["self", "name"] (spCellOf K) := by
  have G_Work_top := ok_top (P := P) (w := w) (base := base) T
  refine okA T.f_Work_cell_of sc_Work_cell_of (fun fd F => F.bindsN fun _ _ _ _ _ _ us hl => match us, hl with | [_, _], _ => rfl) (fun vs H Q E h => ?_) (fun cdv A outer s H vs Q E pp hr h => ?_)
  · obtain ⟨c, F, m, d, gs, f, x, rfl, _⟩ := h
    rfl
  · obtain ⟨c, F, m, d, gs, f, x, rfl, W, hfs, hgl, k⟩ := h
    refine ⟨_, (pss_cons
 (ps_if (pt_cmp (pc_din (huH hr) (pv 1) (pe_fld (ce_methA0 G_Work_top (hr.mono (by omega)) (pv 0) T.c_Work T.m_Work_top pass0) rfl))) (pss_one
 (ps_ret (pe_tup (pa_cons pe_str (pa_cons (pe_op op_sub (pe_callB call_len_seq (by rfl) T.b_len (by decide +kernel) (pa_cons (pe_fld (pv 0) rfl) pa_nil)) pe_int) (pa_cons (pv 1) pa_nil)))))) pss_nil) (pss_one
 (ps_ret (pe_tup (pa_cons pe_str (pa_cons (pv 1) pa_nil)))))), ?_⟩
    have hf : f ∈ d.fs := by
      rw [hfs]
      simp
    have D := W.good.owns f hf
    refine ⟨_, rfl, _, rfl, m.w, m.dw, _, rfl, W.obj, rfl, ⟨c, F, m, d, gs, f, rfl, W, hfs, ?_⟩⟩
    refine ⟨f.fa, _, f.dx, _, _, rfl, W.fa hf, T.c_Frame, T.n_Frame_owns, rfl, f.oa, _, rfl, DGet.k (k := ks x) (W.oa hf), _, rfl, ?_⟩
    rcases D.has x with ⟨v, hv, hx⟩ | ⟨hv, hx⟩
    · rw [hv]
      refine iteT ⟨_, rfl, m.w, _, m.dw, _, _, rfl, W.obj, T.c_Work, T.n_Work_frames, rfl, m.fr, _, rfl, .inl (SqL.of W.fr), _, _, rfl, rfl, _, rfl, szn (by decide : 3 ≤ 1000), fun p hp => k p _ _ (same_new hp) (.inl ⟨hx, upd_same⟩)⟩
    · rw [hv]
      exact iteF ⟨_, rfl, szn (by decide : 2 ≤ 1000), fun p hp => k p _ 0 (same_new hp) (.inr ⟨hx, upd_same⟩)⟩
theorem ok_box (T : Txt K mg) : OkC P w K mg base CX0 3 (He.ma K (He.ga K "Work") "box") ["self", "name"] (spBox K) := by
  have G_Work_top := (ok_top (P := P) (w := w) (base := base) T).ok
  have G_Work_cell_of := (ok_cell_of (P := P) (w := w) (base := base) T).ok
  refine okC T.f_Work_box sc_Work_box (fun fd F => F.bindsN fun _ _ _ _ _ _ us hl => match us, hl with | [_, _], _ => rfl) (fun vs H Q E h => ?_) (fun cdv A outer s H vs Q E hr h => ?_)
  · obtain ⟨c, F, m, d, gs, f, x, rfl, _⟩ := h
    rfl
  · obtain ⟨c, F, m, d, gs, f, x, rfl, W, hfs, hgl, hx, hkr, k⟩ := h
    refine ⟨_, (pss_cons
 (ps_set (i := 2) sc_Work_box.nd rfl (by first | exact Or.inl rfl | exact Or.inr rfl) (ce_meth G_Work_cell_of (hr.mono (by omega)) (pv 0) T.c_Work T.m_Work_cell_of pass0 (pa_cons (pv 1) pa_nil))) (pss_cons
 (ps_dput (hu_of hr) (pe_fld (pv 0) rfl) (pv 2) pe_bl rfl) (pss_cons
 (ps_if (pt_cmpR op_eq (pe_ix ix_tup (pv 2) pe_int (fun _ _ => rfl)) pe_str (nomark _)) (pss_one
 (ps_ret (pe_dget (hu_of hr) (pe_fld (ce_meth0 G_Work_top (hr.mono (by omega)) (pv 0) T.c_Work T.m_Work_top pass0) rfl) (pv 1) (fun _ _ => rfl)))) pss_nil) (pss_one
 (ps_ret (pe_dget (hu_of hr) (pe_fld (pv 0) rfl) (pv 1) (fun _ _ => rfl))))))), ?_⟩
    refine ⟨_, rfl, m.w, m.dw, _, rfl, W.obj, rfl, _, rfl, ⟨c, F, m, d, gs, f, x, rfl, W, hfs, hgl, fun p H1 n s1 hp => ?_⟩⟩
    have W1 := W.keep s1
    refine ⟨_, rfl, m.w, _, m.dw, _, _, rfl, W1.obj, T.c_Work, T.n_Work_reads, rfl, _, rfl, ?_⟩
    have hf : f ∈ d.fs := by
      rw [hfs]
      simp
    have wkd : d.kr.length < sizeLine := by
      rw [sizeLine_eq]
      omega
    rcases hp with ⟨hx1, hp⟩ | ⟨hx1, hp⟩
    · refine ⟨m.rd, _, rfl, DPut.t (k := [ks "own", ki n, ks x]) W1.rd hp wkd, ?_⟩
      have W2 := W1.setRd (kr := putK d.kr [ks "own", ki n, ks x] (.bl true)) (putK_keys W1.good.reads (.inr (.inr ⟨n, x, rfl⟩)))
      have B2 : But m.rd H (upd H1 m.rd (.dT (putK d.kr [ks "own", ki n, ks x] (.bl true)))) := fun b o hb e => by
        rw [upd_ne hb]
        exact s1 _ _ e
      have hp2 : upd H1 m.rd (.dT (putK d.kr [ks "own", ki n, ks x] (.bl true))) p = some (.tup [.str "own", .int n, .str x]) := by
        rw [upd_ne (ne_of hp W1.rd (by intro z; cases z))]
        exact hp
      refine ⟨_, rfl, p, _, _, _, rfl, rfl, SqT.of hp2, at0, rfl, _, rfl, ite2 (fun _ => ?_) isdec⟩
      obtain ⟨v, hv, nn, rfl, n0, n1⟩ := (W2.good.owns f hf).get hx1
      refine ⟨_, rfl, m.w, m.dw, _, rfl, W2.obj, rfl, ⟨c, F, m, _, gs, f, rfl, W2, hfs, ?_⟩⟩
      exact ⟨f.fa, _, f.dx, _, _, rfl, W2.fa hf, T.c_Frame, T.n_Frame_owns, rfl, _, rfl, f.oa, _, rfl, (by rw [← hv]; exact DGet.k (k := ks x) (W2.oa hf)), k _ _ nn W2 putK_len B2 n0 n1⟩
    · refine ⟨m.rd, _, rfl, DPut.t (k := [ks "box", ks x]) W1.rd hp wkd, ?_⟩
      have W2 := W1.setRd (kr := putK d.kr [ks "box", ks x] (.bl true)) (putK_keys W1.good.reads (.inl ⟨x, rfl⟩))
      have B2 : But m.rd H (upd H1 m.rd (.dT (putK d.kr [ks "box", ks x] (.bl true)))) := fun b o hb e => by
        rw [upd_ne hb]
        exact s1 _ _ e
      have hp2 : upd H1 m.rd (.dT (putK d.kr [ks "box", ks x] (.bl true))) p = some (.tup [.str "box", .str x]) := by
        rw [upd_ne (ne_of hp W1.rd (by intro z; cases z))]
        exact hp
      refine ⟨_, rfl, p, _, _, _, rfl, rfl, SqT.of hp2, at0, rfl, _, rfl, ite2 (nodec (A := True) (by decide)) (fun _ => ?_)⟩
      have hxB : x ∈ c.I.B := hx.resolve_left hx1
      obtain ⟨v, hv, nn, rfl, n0, n1⟩ := W2.good.boxes.get hxB
      exact ⟨_, rfl, m.w, _, m.dw, _, _, rfl, W2.obj, T.c_Work, T.n_Work_boxes, rfl, _, rfl, m.bx, _, rfl, (by rw [← hv]; exact DGet.k (k := ks x) W2.bx), k _ _ nn W2 putK_len B2 n0 n1⟩
theorem ok_lread (T : Txt K mg) : OkC P w K mg base CX0 1 (He.ma K (He.ga K "Work") "list_read") ["self", "name"] (spLread K) := by
  refine okC T.f_Work_list_read sc_Work_list_read (fun fd F => F.bindsN fun _ _ _ _ _ _ us hl => match us, hl with | [_, _], _ => rfl) (fun vs H Q E h => ?_) (fun cdv A outer s H vs Q E hr h => ?_)
  · obtain ⟨c, F, m, d, x, rfl, _⟩ := h
    rfl
  · obtain ⟨c, F, m, d, x, rfl, W, hx, hkr, k⟩ := h
    refine ⟨_, (pss_cons
 (ps_dput (hu_of hr) (pe_fld (pv 0) rfl) (pe_tup (pa_cons pe_str (pa_cons (pv 1) pa_nil))) pe_bl rfl) (pss_one
 (ps_ret (pe_dget (hu_of hr) (pe_fld (pv 0) rfl) (pv 1) (fun _ _ => rfl))))), ?_⟩
    refine ⟨_, rfl, m.w, _, m.dw, _, _, rfl, W.obj, T.c_Work, T.n_Work_reads, rfl, _, rfl, szn (by decide : 2 ≤ 1000), fun p hp => ?_⟩
    have s1 := same_new (o := .tup [.str "list", .str x]) hp
    have W1 := W.keep s1
    refine ⟨m.rd, _, rfl, DPut.t (k := [ks "list", ks x]) W1.rd upd_same (by rw [sizeLine_eq]; omega), ?_⟩
    have W2 := W1.setRd (kr := putK d.kr [ks "list", ks x] (.bl true)) (putK_keys W1.good.reads (.inr (.inl ⟨x, rfl⟩)))
    obtain ⟨v, hv, t, rfl, ht⟩ := W2.good.lists.get hx
    refine ⟨_, rfl, m.w, _, m.dw, _, _, rfl, W2.obj, T.c_Work, T.n_Work_lists, rfl, _, rfl, m.ls, _, rfl, (by rw [← hv]; exact DGet.k (k := ks x) W2.ls), k _ _ t W2 putK_len (fun b o hb e => ?_) ht⟩
    rw [upd_ne hb]
    exact s1 _ _ e
theorem ok_set_box (T : Txt K mg) : OkA P w K mg base CX0 3 (He.ma K (He.ga K "Work") "set_box") ["self", "name", "number"] (spSetBox K) := by
  have G_Work_top := ok_top (P := P) (w := w) (base := base) T
  have G_Work_cell_of := ok_cell_of (P := P) (w := w) (base := base) T
  refine okA T.f_Work_set_box sc_Work_set_box (fun fd F => F.bindsN fun _ _ _ _ _ _ us hl => match us, hl with | [_, _, _], _ => rfl) (fun vs H Q E h => ?_) (fun cdv A outer s H vs Q E pp hr h => ?_)
  · obtain ⟨c, F, m, d, gs, f, x, n, rfl, _⟩ := h
    rfl
  · obtain ⟨c, F, m, d, gs, f, x, n, rfl, ok, W, hfs, hgl, hx, n0, n1, hwv, k⟩ := h
    refine ⟨_, (pss_cons
 (ps_set (i := 3) sc_Work_set_box.nd rfl (by first | exact Or.inl rfl | exact Or.inr rfl) (ce_methA G_Work_cell_of (hr.mono (by omega)) (pv 0) T.c_Work T.m_Work_cell_of pass0 (pa_cons (pv 1) pa_nil))) (pss_cons
 (ps_expr (pe_bm PySem.F.plainAttrs_list PySem.F.slot_list_append PySem.F.type_list_append mt_append (pe_fld (pv 0) rfl) (pa_cons (pv 3) pa_nil))) (pss_one
 (ps_if (pt_cmpR op_eq (pe_ix ix_tup (pv 3) pe_int (fun _ _ => rfl)) pe_str (nomark _)) (pss_one
 (ps_dput (huH hr) (pe_fld (ce_methA0 G_Work_top (hr.mono (by omega)) (pv 0) T.c_Work T.m_Work_top pass0) rfl) (pv 1) (pv 2) rfl)) (pss_one
 (ps_dput (huH hr) (pe_fld (pv 0) rfl) (pv 1) (pv 2) rfl)))))), ?_⟩
    refine ⟨_, rfl, m.w, m.dw, _, rfl, W.obj, rfl, _, rfl, ⟨c, F, m, d, gs, f, x, rfl, W, hfs, hgl, fun p H1 nn s1 hp => ?_⟩⟩
    have W1 := W.keep s1
    have hf : f ∈ d.fs := by
      rw [hfs]
      simp
    have hcell : CellV H1 (.ref p) := by
      rcases hp with ⟨_, hp⟩ | ⟨_, hp⟩
      · exact ⟨p, [ks "own", ki nn, ks x], rfl, hp, .inr (.inr ⟨nn, x, rfl⟩)⟩
      · exact ⟨p, [ks "box", ks x], rfl, hp, .inl ⟨x, rfl⟩⟩
    refine ⟨_, rfl, m.w, _, m.dw, _, _, rfl, W1.obj, T.c_Work, T.n_Work_wrote, rfl, .inl ⟨rfl, _, SqL.of W1.wr⟩, _, rfl, m.wr, _, _, rfl, rfl, W1.wr, by rw [sizeLine_eq]; omega, ?_⟩
    have W2 := W1.setWr (wv := d.wv ++ [.ref p]) (fun v hv => by
      rcases List.mem_append.mp hv with hv | hv
      · exact W1.good.wrote v hv
      · have e : v = .ref p := by simpa using hv
        rw [e]
        exact hcell)
    have t2 : Tk H (upd H1 m.wr (.lst (d.wv ++ [.ref p]))) := (same_tk s1).trans (W1.tkU W1.wr (fun _ z => by cases z))
    have hlen : (d.wv ++ [V.ref p]).length ≤ d.wv.length + 1 := by
      rw [List.length_append]
      exact Nat.le_refl _
    rcases hp with ⟨hx1, hp⟩ | ⟨hx1, hp⟩
    · have hp2 : upd H1 m.wr (.lst (d.wv ++ [.ref p])) p = some (.tup [.str "own", .int nn, .str x]) := by
        rw [upd_ne (ne_of hp W1.wr (by intro z; cases z))]
        exact hp
      refine ⟨_, rfl, p, _, _, _, rfl, rfl, SqT.of hp2, at0, rfl, _, rfl, ite2 (fun _ => ?_) isdec⟩
      refine ⟨_, rfl, _, rfl, m.w, m.dw, _, rfl, W2.obj, rfl, ⟨c, F, m, _, gs, f, rfl, W2, hfs, ?_⟩⟩
      have D := W2.good.owns f hf
      refine ⟨f.fa, _, f.dx, _, _, rfl, W2.fa hf, T.c_Frame, T.n_Frame_owns, rfl, _, rfl, f.oa, _, rfl, DPut.k (k := ks x) (W2.oa hf) ?_, ?_⟩
      · have := D.len
        have := (names_nd ok f.t).2
        rw [sizeLine_eq]
        omega
      · exact k _ _ (W2.setOw hfs (D.put hx1 ⟨n, rfl, n0, n1⟩)) ⟨rfl, rfl, rfl, hlen, _, rfl⟩ (t2.trans (W2.tkU (W2.oa hf) (fun _ z => by cases z)))
    · have hp2 : upd H1 m.wr (.lst (d.wv ++ [.ref p])) p = some (.tup [.str "box", .str x]) := by
        rw [upd_ne (ne_of hp W1.wr (by intro z; cases z))]
        exact hp
      refine ⟨_, rfl, p, _, _, _, rfl, rfl, SqT.of hp2, at0, rfl, _, rfl, ite2 (nodec (A := True) (by decide)) (fun _ => ?_)⟩
      have hxB : x ∈ c.I.B := hx.resolve_left hx1
      refine ⟨_, rfl, _, rfl, m.w, _, m.dw, _, _, rfl, W2.obj, T.c_Work, T.n_Work_boxes, rfl, _, rfl, m.bx, _, rfl, DPut.k (k := ks x) W2.bx ?_, ?_⟩
      · have h1 := W2.good.boxes.len
        have h2 := ok.bl
        show d.kb.length < sizeLine
        have h1 : d.kb.length = c.I.B.length := h1
        rw [sizeLine_eq]
        omega
      · exact k _ _ (W2.setBx (W2.good.boxes.put hxB ⟨n, rfl, n0, n1⟩)) ⟨rfl, rfl, rfl, hlen, f.ow, by rw [← hfs]⟩ (t2.trans (W2.tkU W2.bx (fun _ z => by cases z)))
theorem ok_set_list (T : Txt K mg) : OkC P w K mg base CX0 1 (He.ma K (He.ga K "Work") "set_list") ["self", "name", "things"] (spSetList K) := by
  refine okC T.f_Work_set_list sc_Work_set_list (fun fd F => F.bindsN fun _ _ _ _ _ _ us hl => match us, hl with | [_, _, _], _ => rfl) (fun vs H Q E h => ?_) (fun cdv A outer s H vs Q E hr h => ?_)
  · obtain ⟨c, F, m, d, x, t, rfl, _⟩ := h
    rfl
  · obtain ⟨c, F, m, d, x, t, rfl, ok, W, hx, ht, hwv, k⟩ := h
    refine ⟨_, (pss_cons
 (ps_expr (pe_bm PySem.F.plainAttrs_list PySem.F.slot_list_append PySem.F.type_list_append mt_append (pe_fld (pv 0) rfl) (pa_cons (pe_tup (pa_cons pe_str (pa_cons (pv 1) pa_nil))) pa_nil))) (pss_one
 (ps_dput (hu_of hr) (pe_fld (pv 0) rfl) (pv 1) (pv 2) rfl))), ?_⟩
    refine ⟨_, rfl, m.w, _, m.dw, _, _, rfl, W.obj, T.c_Work, T.n_Work_wrote, rfl, .inl ⟨rfl, _, SqL.of W.wr⟩, _, rfl, szn (by decide : 2 ≤ 1000), fun p hp => ?_⟩
    have s1 := same_new (o := .tup [.str "list", .str x]) hp
    have W1 := W.keep s1
    refine ⟨m.wr, _, _, rfl, rfl, W1.wr, by rw [sizeLine_eq]; omega, ?_⟩
    have W2 := W1.setWr (wv := d.wv ++ [.ref p]) (fun v hv => by
      rcases List.mem_append.mp hv with hv | hv
      · exact W1.good.wrote v hv
      · have e : v = .ref p := by simpa using hv
        rw [e]
        exact ⟨p, [ks "list", ks x], rfl, upd_same, .inr (.inl ⟨x, rfl⟩)⟩)
    have t2 : Tk H (upd (upd H p (.tup [.str "list", .str x])) m.wr (.lst (d.wv ++ [.ref p]))) := (same_tk s1).trans (W1.tkU W1.wr (fun _ z => by cases z))
    refine ⟨_, rfl, _, rfl, m.w, _, m.dw, _, _, rfl, W2.obj, T.c_Work, T.n_Work_lists, rfl, _, rfl, m.ls, _, rfl, DPut.k (k := ks x) W2.ls ?_, ?_⟩
    · have h1 : d.kl.length = c.I.L.length := W2.good.lists.len
      have h2 := ok.ll
      show d.kl.length < sizeLine
      rw [sizeLine_eq]
      omega
    · refine k _ _ _ (W2.setLs (W2.good.lists.put hx ⟨t, rfl, ht.tk t2⟩)) ?_ (t2.trans (W2.tkU W2.ls (fun _ z => by cases z)))
      rw [List.length_append]
      exact Nat.le_refl _
end
end Rt
/-! ## W6 -/
set_option Elab.async false
set_option linter.all false
set_option maxRecDepth 100000
set_option maxHeartbeats 4000000
namespace Rt
open PySem PySem.Spec PyProof.Rows L2
open L2H (RoomH roomH_of)
def spShown (K : PySem.W.Frag) : Sp := fun vs H Q _ => ∃ f : FrD, vs = [.ref f.fa] ∧ H f.fa = some (.ins (He.ga K "Frame") f.dx (frF f)) ∧ H f.oa = some (.dK f.ow) ∧ f.ow.length ≤ 1000 ∧
  ∀ H' p nu, Same H H' → H' p = some (.tup [.str f.t, .ref nu, .int f.p]) → H' nu = some (.tup (f.ow.map Prod.snd)) → Q (.ref p) H'
def spState2 (K : PySem.W.Frag) : Sp := fun vs H Q _ => ∃ (c : Mc) (F : Hp) (m : Wm) (d : Wd), vs = [.ref m.w] ∧ PI.Ok c.I ∧ c.ds.length ≤ 3 ∧ WkOk K c F m d H ∧ d.hv.length ≤ 1000 ∧ (∀ f ∈ d.fs, f.t = "" ∨ f.t ∈ c.I.fs.map Prod.fst) ∧ d.fs.length ≤ 8 ∧
  ∀ H' st, Same H H' → StOk c H' st (d.fs.map fun f => (f.t, f.p)) d.word d.hv.length → Q (.ref st) H'
section
variable {P : Program} {w : World} {K : PySem.W.Frag} {mg : Str → Option Value} {base : Heap}
theorem ok_shown (T : Txt K mg) : OkC P w K mg base CX0 1 (He.ma K (He.ga K "Frame") "shown") ["self"] (spShown K) := by
  refine okC T.f_Frame_shown sc_Frame_shown (fun fd F => F.bindsN fun _ _ _ _ _ _ us hl => match us, hl with | [_], _ => rfl) (fun vs H Q E h => ?_) (fun cdv A outer s H vs Q E hr h => ?_)
  · obtain ⟨f, rfl, _⟩ := h
    rfl
  · obtain ⟨f, rfl, hfa, hoa, hl, k⟩ := h
    refine ⟨_, (pss_one
 (ps_ret (pe_tup (pa_cons (pe_fld (pv 0) rfl) (pa_cons (pe_tupVals (by rfl) T.b_tuple (pe_fld (pv 0) rfl)) (pa_cons (pe_fld (pv 0) rfl) pa_nil)))))), ?_⟩
    refine ⟨_, rfl, f.fa, _, f.dx, _, _, rfl, hfa, T.c_Frame, T.n_Frame_title, rfl, ?_⟩
    refine ⟨_, rfl, f.fa, _, f.dx, _, _, rfl, hfa, T.c_Frame, T.n_Frame_owns, rfl, f.oa, _, rfl, hoa, hl, fun nu hnu => ?_⟩
    have s1 := same_new (o := .tup (f.ow.map Prod.snd)) hnu
    refine ⟨_, rfl, f.fa, _, f.dx, _, _, rfl, s1 _ _ hfa, T.c_Frame, T.n_Frame_point, rfl, szn (by decide : 3 ≤ 1000), fun p hp => ?_⟩
    have s2 := same_new (o := .tup [.str f.t, .ref nu, .int f.p]) hp
    exact k _ p nu (s1.trans s2) upd_same (s2 _ _ upd_same)
theorem ok_state2 (T : Txt K mg) : OkC P w K mg base CX0 2 (He.ma K (He.ga K "Work") "state") ["self"] (spState2 K) := by
  have G_Frame_shown := ok_shown (P := P) (w := w) (base := base) T
  refine okC T.f_Work_state sc_Work_state (fun fd F => F.bindsN fun _ _ _ _ _ _ us hl => match us, hl with | [_], _ => rfl) (fun vs H Q E h => ?_) (fun cdv A outer s H vs Q E hr h => ?_)
  · obtain ⟨c, F, m, d, rfl, _⟩ := h
    rfl
  · obtain ⟨c, F, m, d, rfl, ok, hds, W, hhv, htt, hf8, k⟩ := h
    refine ⟨_, (pss_cons
 (ps_set (i := 1) sc_Work_state.nd rfl (by first | exact Or.inl rfl | exact Or.inr rfl) (pe_callTy call_tuple_of (by rfl) T.b_tuple (by decide +kernel) (pa_cons (pe_lc (own := [("frame", 2)]) rfl sc_Work_state.nd (pi_list (pe_fld (pv 0) rfl)) (blkOk_by (N := N_Work_state) (sc := defScope s_Work_state) (by decide +kernel)) (fun _ _ _ _ _ => (pg_name (i := 2) sc_Work_state.nd rfl (by first | exact Or.inl rfl | exact Or.inr rfl))) (fun _ _ _ _ _ => pts_nil) (fun _ _ _ _ _ => (ce_meth0 G_Frame_shown (hr.mono (by omega)) (pv 2) T.c_Frame T.m_Frame_shown pass0))) pa_nil))) (pss_one
 (ps_ret (pe_tup (pa_cons (pe_tupVals (by rfl) T.b_tuple (pe_fld (pv 0) rfl)) (pa_cons (pe_tupVals (by rfl) T.b_tuple (pe_fld (pv 0) rfl)) (pa_cons (pv 1) (pa_cons (pe_tupVals (by rfl) T.b_tuple (pe_fld (pv 0) rfl)) (pa_cons (pe_callTy call_tuple_of (by rfl) T.b_tuple (by decide +kernel) (pa_cons (pe_fld (pv 0) rfl) pa_nil)) (pa_cons (pe_fld (pv 0) rfl) pa_nil)))))))))), ?_⟩
    refine ⟨_, rfl, m.w, _, m.dw, _, _, rfl, W.obj, T.c_Work, T.n_Work_frames, rfl, m.fr, rfl, ⟨_, SqL.of W.fr⟩, fun D hD => ?_⟩
    refine lc_list (xs := d.fs.map fun f => V.ref f.fa) (fun i H' => Same H H' ∧ ∃ vs, H' D = some (.lst vs) ∧ All2 (FrV c H') ((d.fs.take i).map fun f => (f.t, f.p)) vs) ?_ ?_ ?_ ?_
    · exact ⟨same_new hD, [], upd_same, .nil⟩
    · rintro i H' _ ⟨s1, _⟩
      exact SqL.of (s1 _ _ W.fr)
    · rintro i v H1 hv ⟨s1, vs, hvs, hall⟩
      rw [List.getElem?_map] at hv
      obtain ⟨f, ef, rfl⟩ := Option.map_eq_some_iff.mp hv
      have hf : f ∈ d.fs := List.mem_of_getElem? ef
      have D1 := W.good.owns f hf
      have hn4 := (names_nd ok f.t).2
      have hol := D1.len
      refine ⟨rfl, tyes ?_⟩
      refine ⟨_, rfl, f.fa, f.dx, _, rfl, s1 _ _ (W.fa hf), rfl, ⟨f, rfl, s1 _ _ (W.fa hf), s1 _ _ (W.oa hf), by omega, fun H2 p nu s2 hp hnu => ?_⟩⟩
      have d2 := s2 _ _ hvs
      have hvl : vs.length ≤ 8 := by
        have e := hall.len
        rw [List.length_map, List.length_take] at e
        omega
      have up : Tk H2 (upd H2 D (.lst (vs ++ [.ref p]))) := fun b zs e => by
        rw [upd_ne (ne_of e d2 (by intro z; cases z))]
        exact e
      refine ⟨vs, d2, by rw [sizeLine_eq]; omega, fun b o e => ?_, vs ++ [.ref p], upd_same, ?_⟩
      · rw [upd_ne (fun z => by rw [z, hD] at e; cases e)]
        exact s2 _ _ (s1 _ _ e)
      · rw [List.take_add_one, ef, List.map_append]
        refine (hall.imp fun _ _ q => (q.tk (same_tk s2)).tk up).add ⟨p, nu, _, rfl, up _ _ hp, up _ _ hnu, by rw [List.length_map]; exact hol, fun u hu => ?_⟩
        obtain ⟨kv, hkv, rfl⟩ := List.mem_map.mp hu
        exact D1.2 kv hkv
    · rintro H1 ⟨s1, vs, hvs, hall⟩
      rw [List.length_map, List.take_length] at hall
      refine ⟨D, _, rfl, .inl ⟨SqL.of hvs, fun fr hfr => ?_⟩⟩
      have z1 := s1.trans (same_new (o := .tup vs) hfr)
      have W1 := W.keep z1
      have b1 := W.good.boxes.len
      have b2 := ok.bl
      have l1 := W.good.lists.len
      have l2 := ok.ll
      have c1 := W.good.counts.len
      refine ⟨_, rfl, m.w, _, m.dw, _, _, rfl, W1.obj, T.c_Work, T.n_Work_boxes, rfl, m.bx, _, rfl, W1.bx, by omega, fun bx hbx => ?_⟩
      have n2 := same_new (o := .tup (d.kb.map Prod.snd)) hbx
      have W2 := W1.keep n2
      refine ⟨_, rfl, m.w, _, m.dw, _, _, rfl, W2.obj, T.c_Work, T.n_Work_lists, rfl, m.ls, _, rfl, W2.ls, by omega, fun ls hls => ?_⟩
      have n3 := same_new (o := .tup (d.kl.map Prod.snd)) hls
      have W3 := W2.keep n3
      refine ⟨_, rfl, _, rfl, m.w, _, m.dw, _, _, rfl, W3.obj, T.c_Work, T.n_Work_counts, rfl, m.ct, _, rfl, W3.ct, by omega, fun ct hct => ?_⟩
      have n4 := same_new (o := .tup (d.kc.map Prod.snd)) hct
      have W4 := W3.keep n4
      refine ⟨_, rfl, m.w, _, m.dw, _, _, rfl, W4.obj, T.c_Work, T.n_Work_heard, rfl, m.hd, _, rfl, .inl ⟨SqL.of W4.hd, fun hd hhd => ?_⟩⟩
      have n5 := same_new (o := .tup d.hv) hhd
      have W5 := W4.keep n5
      refine ⟨_, rfl, m.w, _, m.dw, _, _, rfl, W5.obj, T.c_Work, T.n_Work_word, rfl, szn (by decide : 6 ≤ 1000), fun st hst => ?_⟩
      have n6 := same_new (o := .tup [.ref bx, .ref ls, .ref fr, .ref ct, .ref hd, .str d.word]) hst
      have W6 := W5.keep n6
      have z26 := (((n2.trans n3).trans n4).trans n5).trans n6
      refine k _ st (z1.trans z26) ⟨⟨bx, ls, fr, ct, hd, _, _, vs, _, _, upd_same, n6 _ _ (n5 _ _ (n4 _ _ (n3 _ _ upd_same))), by rw [List.length_map]; exact b1, fun v hv => ?_, n6 _ _ (n5 _ _ (n4 _ _ upd_same)), by rw [List.length_map]; exact l1, fun v hv => ?_, z26 _ _ upd_same, hall.imp fun _ _ q => q.tk (same_tk ((same_new hfr).trans z26)), n6 _ _ (n5 _ _ upd_same), by rw [List.length_map]; exact c1, fun v hv => ?_, n6 _ _ upd_same, Nat.le_refl _⟩, fun f hf => ?_, ?_⟩
      · obtain ⟨kv, hkv, rfl⟩ := List.mem_map.mp hv
        exact W6.good.boxes.2 kv hkv
      · obtain ⟨kv, hkv, rfl⟩ := List.mem_map.mp hv
        exact W6.good.lists.2 kv hkv
      · obtain ⟨kv, hkv, rfl⟩ := List.mem_map.mp hv
        exact W6.good.counts.2 kv hkv
      · obtain ⟨g, hg, rfl⟩ := List.mem_map.mp hf
        exact htt g hg
      · rw [List.length_map]
        exact hf8
end
end Rt
/-! ## W7 -/
set_option Elab.async false
set_option linter.all false
set_option maxRecDepth 100000
set_option maxHeartbeats 4000000
namespace Rt
open PySem PySem.Spec PyProof.Rows L2
open L2H (RoomH roomH_of)
/-! ### faults -/
def spTruth : Sp := fun vs H Q _ => ∃ b : Bool, vs = [.bl b] ∧ Q (.int (if b = true then 1 else 0)) H
def spFaultI (K : PySem.W.Frag) : Sp := fun vs H Q _ => ∃ (a : Addr) (n : Int), vs = [.ref a, .int n] ∧ H a = some (exo a (He.ga K "Fault") none) ∧
  ∀ H' d, H' a = some (exo a (He.ga K "Fault") (some d)) → H' d = some (exd d [("number", .int n)]) → H d = none → (∀ b o, b ≠ a → H b = some o → H' b = some o) → Q .non H'
/-- what a fault lets out -/
def FE (K : PySem.W.Frag) (E : XK) (R : Hp → Prop) : Prop := ∀ d n H', R H' → H' d = some (.xd [("number", .int n)]) → 0 ≤ n → n < 1000000 → E (.ref (He.ga K "Fault")) (some d) H'
theorem FE.imp {K : PySem.W.Frag} {E : XK} {R R' : Hp → Prop} (h : FE K E R) (k : ∀ H', R' H' → R H') : FE K E R' := fun d n H' r => h d n H' (k H' r)
def tRaiseF (C : Addr) (W : WX) (ta : TA) : TS := fun _ σ H => ta σ H fun vs H1 => ∃ n : Int, vs = [.int n] ∧ ∀ d H', Same H1 H' → H1 d = none → H' d = some (.xd [("number", .int n)]) → W (.ref C) (some d) σ H'
def tWk (ta : TA) : TA := fun σ H Q => ∃ Q0 : List V → Hp → Prop, ta σ H Q0 ∧ ∀ vs H1, Q0 vs H1 → Q vs H1
theorem pa_wk {X : Cx} {es : List Expr} {ta : TA} (h : PA X es ta) : PA X es (tWk ta) := ⟨fun pos pins s σ H Q I ⟨Q0, q, hq⟩ => wpAny_mono (h.run pos pins s σ H Q0 I q) (fun us s' ⟨vs, H', I', r, q'⟩ => ⟨vs, H', I', r, hq _ _ q'⟩) fun _ _ e => e⟩
section
variable {P : Program} {w : World} {K : PySem.W.Frag} {mg : Str → Option Value} {base : Heap}
theorem ok_truth (T : Txt K mg) : OkC P w K mg base CX0 1 (He.ga K "truth") ["is_so"] spTruth := by
  refine okC T.f_truth sc_truth (fun fd F => F.bindsN fun _ _ _ _ _ _ us hl => match us, hl with | [_], _ => rfl) (fun vs H Q E h => ?_) (fun cdv A outer s H vs Q E hr h => ?_)
  · obtain ⟨b, rfl, _⟩ := h
    rfl
  · obtain ⟨b, rfl, k⟩ := h
    refine ⟨_, (pss_cons
 (ps_if (pt_val (pv 0)) (pss_one
 (ps_ret pe_int)) pss_nil) (pss_one
 (ps_ret pe_int))), ?_⟩
    refine ⟨_, rfl, b, rfl, ?_⟩
    cases b with
    | true => exact iteT k
    | false => exact iteF k
theorem ok_faultI (T : Txt K mg) : OkC P w K mg base CX0 1 (He.ma K (He.ga K "Fault") "__init__") ["self", "number"] (spFaultI K) := by
  refine okC T.f_Fault___init__ sc_Fault___init__ (fun fd F => F.bindsN fun _ _ _ _ _ _ us hl => match us, hl with | [_, _], _ => rfl) (fun vs H Q E h => ?_) (fun cdv A outer s H vs Q E hr h => ?_)
  · obtain ⟨a, n, rfl, _⟩ := h
    rfl
  · obtain ⟨a, n, rfl, ha, k⟩ := h
    refine ⟨_, (pss_cons
 (ps_expr (pe_veinit (by rfl) T.b_ValueError T.fault.vV (pa_cons (pv 0) (pa_cons (pv 1) pa_nil)))) (pss_one
 (ps_ost (pv 0) (pv 1)))), ?_⟩
    refine ⟨_, rfl, _, rfl, a, _, [.int n], rfl, by simp, T.fault.oex, ha, ?_⟩
    refine ⟨_, rfl, _, rfl, a, _, rfl, T.fault.oex, T.fault.nN, .inl ⟨ha, fun dx hdx hne => ?_⟩⟩
    refine k _ dx upd_same (by rw [upd_ne hne]; exact upd_same) hdx (fun b o hb e => ?_)
    rw [upd_ne hb, upd_ne (fun z => by rw [z, hdx] at e; cases e)]
    exact e
theorem ps_raiseF {X : Cx} {e : Expr} {ta : TA} {W : WX} {p pos pos2 : Pos} {k : Nat} (hc : X.calm = true) (T : Txt X.K X.mg) (G : OkC X.prog X.w X.K X.mg X.base CX0 k (He.ma X.K (He.ga X.K "Fault") "__init__") ["self", "number"] (spFaultI X.K)) (hr : Room (k + 1) X.A) (tk : Takes X W) (ha : PA X [e] ta) (hg : Gl X "Fault" := by rfl)
    (he : starEach (e :: []) X.env = (false, eval e X.env) :: starEach [] X.env := by rfl) (hpl : (backTo pos (starEach [] X.env)).any (·.1) = false := by rfl) :
    PS X (.Raise (some (.Call (.Name "Fault" p) [e] [] pos)) none pos2) (tRaiseF (He.ga X.K "Fault") W ta) := by
  obtain ⟨fd, F1, hb⟩ := G
  refine ⟨fun pins s σ H D I h => (ps_raise hc tk (pmk_oex T.fault.oex T.fault.iC T.fault.tI F1 hr hb .nil pass0 hg T.g_Fault (pa_wk ha) (he := he) (hpl := hpl))).run pins s σ H D I ⟨_, h, fun vs H1 q => ?_⟩⟩
  obtain ⟨n, rfl, q⟩ := q
  refine ⟨by simp, fun a hn => ⟨a, n, rfl, upd_same, fun H2 d h1 h2 h3 h4 => ⟨rfl, d, _, h1, h2, ?_, q d _ (fun b o e => ?_) ?_ upd_same⟩⟩⟩
  · rw [upd_ne (fun z => by rw [z, upd_same] at h3; cases h3)] at h3
    exact h3
  · have hd0 : H1 d = none := by
      rw [upd_ne (fun z => by rw [z, upd_same] at h3; cases h3)] at h3
      exact h3
    have hba : b ≠ a := fun z => by rw [z, hn] at e; cases e
    rw [upd_ne (fun z => by rw [z, hd0] at e; cases e), del_ne hba]
    exact h4 b o hba (by rw [upd_ne hba]; exact e)
  · rw [upd_ne (fun z => by rw [z, upd_same] at h3; cases h3)] at h3
    exact h3
def spParted (K : PySem.W.Frag) : Sp := fun vs H Q E => ∃ a b : Int, vs = [.int a, .int b] ∧ 0 ≤ a ∧ a < 1000000 ∧ 0 ≤ b ∧ b < 1000000 ∧ FE K E (fun H' => Same H H') ∧
  ∀ p H' q r, Same H H' → H' p = some (.tup [.int q, .int r]) → 0 ≤ q → q < 1000000 → 0 ≤ r → r < 1000000 → Q (.ref p) H'
theorem ok_parted (T : Txt K mg) : OkC P w K mg base (L2.CX P w) 3 (He.ga K "parted") ["one", "other"] (spParted K) := by
  have G_Fault___init__ := ok_faultI (P := P) (w := w) (base := base) T
  refine okX T.f_parted sc_parted (fun fd F => F.bindsN fun _ _ _ _ _ _ us hl => match us, hl with | [_, _], _ => rfl) (fun vs H Q E h => ?_) (fun cdv A outer s H vs Q E hr h => ?_)
  · obtain ⟨a, b, rfl, _⟩ := h
    rfl
  · obtain ⟨a, b, rfl, a0, a1, b0, b1, he, k⟩ := h
    refine ⟨_, (pss_cons
 (ps_if (pt_cmpR op_eq (pv 1) pe_int (nomark _)) (pss_one
 (ps_raiseF rfl T G_Fault___init__ (hr.mono (by omega)) (takes_of rfl rfl rfl rfl) (pa_cons pe_int pa_nil))) pss_nil) (pss_one
 (ps_ret (pe_callB call_divmod (by rfl) T.b_divmod (by decide +kernel) (pa_cons (pv 0) (pa_cons (pv 1) pa_nil)))))), ?_⟩
    refine ⟨_, rfl, rfl, _, rfl, ite2 (fun hz => ?_) (fun hz => ?_)⟩
    · exact ⟨1, rfl, fun d H' s1 hd0 hd => he d 1 H' s1 hd (by decide) (by decide)⟩
    · have hb : b ≠ 0 := fun z => hz (decide_eq_true (by rw [z]))
      have hb2 : 0 < b := by omega
      refine ⟨_, rfl, _, rfl, _, _, rfl, ⟨by omega, by omega⟩, fun p hp => k p _ _ _ (same_new hp) upd_same (Int.ediv_nonneg a0 b0) ?_ (Int.emod_nonneg _ hb) ?_⟩
      · have := Int.ediv_le_self b a0
        omega
      · have := Int.emod_lt_of_pos a hb2
        omega
end
end Rt
/-! ## W8 -/
set_option Elab.async false
set_option linter.all false
set_option maxRecDepth 100000
set_option maxHeartbeats 4000000
namespace Rt
open PySem PySem.Spec PyProof.Rows L2
open L2H (RoomH roomH_of)
def spBoth (K : PySem.W.Frag) : Sp := fun vs H Q E => ∃ (wd : Str) (a b : Int), vs = [.str wd, .int a, .int b] ∧ wd ∈ binW ∧ 0 ≤ a ∧ a < 1000000 ∧ 0 ≤ b ∧ b < 1000000 ∧ FE K E (fun H' => Same H H') ∧ ∀ H' n, Same H H' → 0 ≤ n → n < 1000000 → Q (.int n) H'
def spReck (K : PySem.W.Frag) (e : Nat) : Sp := fun vs H Q E => ∃ (c : Mc) (F : Hp) (m : Wm) (d : Wd) (gs : List FrD) (f : FrD) (v : V), vs = [.ref m.w, v] ∧ WkOk K c F m d H ∧ d.fs = gs ++ [f] ∧ gs.length ≤ 100 ∧ WVal (scOf c.I f.t).B c.I.L F e v ∧ d.kr.length + 2 ^ e ≤ 900 ∧
  FE K E (fun H' => ∃ kr, WkOk K c F m { d with kr := kr } H' ∧ kr.length ≤ d.kr.length + 2 ^ e ∧ But m.rd H H') ∧
  ∀ H' kr n, WkOk K c F m { d with kr := kr } H' → kr.length ≤ d.kr.length + 2 ^ e → But m.rd H H' → 0 ≤ n → n < 1000000 → Q (.int n) H'
section
variable {P : Program} {w : World} {K : PySem.W.Frag} {mg : Str → Option Value} {base : Heap}
theorem ok_both (T : Txt K mg) : OkC P w K mg base (L2.CX P w) 4 (He.ga K "both_of") ["word", "one", "other"] (spBoth K) := by
  obtain ⟨tM, hC_MODULUS⟩ := T.i_MODULUS
  have G_parted := ok_parted (P := P) (w := w) (base := base) T
  have G_truth := ok_truth (P := P) (w := w) (base := base) T
  refine okX T.f_both_of sc_both_of (fun fd F => F.bindsN fun _ _ _ _ _ _ us hl => match us, hl with | [_, _, _], _ => rfl) (fun vs H Q E h => ?_) (fun cdv A outer s H vs Q E hr h => ?_)
  · obtain ⟨wd, a, b, rfl, _⟩ := h
    rfl
  · obtain ⟨wd, a, b, rfl, hw, a0, a1, b0, b1, he, k⟩ := h
    refine ⟨_, (pss_cons
 (ps_if (pt_cmpR op_eq (pv 0) pe_str (nomark _)) (pss_one
 (ps_ret (pe_op op_mod (pe_op op_add (pv 1) (pv 2)) (pe_glob (v := .int 1000000) rfl hC_MODULUS ⟨_, rfl⟩)))) pss_nil) (pss_cons
 (ps_if (pt_cmpR op_eq (pv 0) pe_str (nomark _)) (pss_one
 (ps_ret (pe_op op_mod (pe_op op_sub (pv 1) (pv 2)) (pe_glob (v := .int 1000000) rfl hC_MODULUS ⟨_, rfl⟩)))) pss_nil) (pss_cons
 (ps_if (pt_cmpR op_eq (pv 0) pe_str (nomark _)) (pss_one
 (ps_ret (pe_op op_mod (pe_op op_mul (pv 1) (pv 2)) (pe_glob (v := .int 1000000) rfl hC_MODULUS ⟨_, rfl⟩)))) pss_nil) (pss_cons
 (ps_if (pt_cmpR op_eq (pv 0) pe_str (nomark _)) (pss_one
 (ps_ret (pe_ix ix_tup (ce_call G_parted (hr.mono (by omega)) T.g_parted T.p_parted (passes_call (takes_of rfl rfl rfl rfl) (fun _ _ _ _ h => h)) (pa_cons (pv 1) (pa_cons (pv 2) pa_nil))) pe_int (fun _ _ => rfl)))) pss_nil) (pss_cons
 (ps_if (pt_cmpR op_eq (pv 0) pe_str (nomark _)) (pss_one
 (ps_ret (pe_ix ix_tup (ce_call G_parted (hr.mono (by omega)) T.g_parted T.p_parted (passes_call (takes_of rfl rfl rfl rfl) (fun _ _ _ _ h => h)) (pa_cons (pv 1) (pa_cons (pv 2) pa_nil))) pe_int (fun _ _ => rfl)))) pss_nil) (pss_cons
 (ps_if (pt_cmpR op_eq (pv 0) pe_str (nomark _)) (pss_one
 (ps_ret (ce_call G_truth (hr.mono (by omega)) T.g_truth T.p_truth pass0 (pa_cons (pe_cmpR op_lt (pv 1) (pv 2) (nomark _)) pa_nil)))) pss_nil) (pss_one
 (ps_ret (ce_call G_truth (hr.mono (by omega)) T.g_truth T.p_truth pass0 (pa_cons (pe_cmpR op_eq (pv 1) (pv 2) (nomark _)) pa_nil)))))))))), ?_⟩
    unfold binW at hw
    simp only [List.mem_cons, List.not_mem_nil, or_false] at hw
    rcases hw with rfl | rfl | rfl | rfl | rfl | rfl | rfl
    · refine ⟨_, rfl, rfl, _, rfl, ite2 (fun _ => ?_) isdec⟩
      exact ⟨_, rfl, _, rfl, _, _, rfl, rfl, _, _, rfl, rfl, (show (0 : Int) < 1000000 by decide), k _ _ (Same.refl _) (Int.emod_nonneg _ (by decide)) (Int.emod_lt_of_pos _ (by decide))⟩
    · refine ⟨_, rfl, rfl, _, rfl, ite2 (nodec (A := True) (by decide)) fun _ => ?_⟩
      refine ⟨_, rfl, rfl, _, rfl, ite2 (fun _ => ?_) isdec⟩
      exact ⟨_, rfl, _, rfl, _, _, rfl, rfl, _, _, rfl, rfl, (show (0 : Int) < 1000000 by decide), k _ _ (Same.refl _) (Int.emod_nonneg _ (by decide)) (Int.emod_lt_of_pos _ (by decide))⟩
    · refine ⟨_, rfl, rfl, _, rfl, ite2 (nodec (A := True) (by decide)) fun _ => ?_⟩
      refine ⟨_, rfl, rfl, _, rfl, ite2 (nodec (A := True) (by decide)) fun _ => ?_⟩
      refine ⟨_, rfl, rfl, _, rfl, ite2 (nodec (A := True) (by decide)) fun _ => ?_⟩
      refine ⟨_, rfl, rfl, _, rfl, ite2 (nodec (A := True) (by decide)) fun _ => ?_⟩
      refine ⟨_, rfl, rfl, _, rfl, ite2 (nodec (A := True) (by decide)) fun _ => ?_⟩
      refine ⟨_, rfl, rfl, _, rfl, ite2 (fun _ => ?_) isdec⟩
      exact ⟨_, rfl, _, rfl, _, _, rfl, rfl, _, rfl, k _ _ (Same.refl _) (by split <;> decide) (by split <;> decide)⟩
    · refine ⟨_, rfl, rfl, _, rfl, ite2 (nodec (A := True) (by decide)) fun _ => ?_⟩
      refine ⟨_, rfl, rfl, _, rfl, ite2 (nodec (A := True) (by decide)) fun _ => ?_⟩
      refine ⟨_, rfl, rfl, _, rfl, ite2 (nodec (A := True) (by decide)) fun _ => ?_⟩
      refine ⟨_, rfl, rfl, _, rfl, ite2 (nodec (A := True) (by decide)) fun _ => ?_⟩
      refine ⟨_, rfl, rfl, _, rfl, ite2 (nodec (A := True) (by decide)) fun _ => ?_⟩
      refine ⟨_, rfl, rfl, _, rfl, ite2 (nodec (A := True) (by decide)) fun _ => ?_⟩
      exact ⟨_, rfl, _, rfl, rfl, _, rfl, k _ _ (Same.refl _) (by split <;> decide) (by split <;> decide)⟩
    · refine ⟨_, rfl, rfl, _, rfl, ite2 (nodec (A := True) (by decide)) fun _ => ?_⟩
      refine ⟨_, rfl, rfl, _, rfl, ite2 (nodec (A := True) (by decide)) fun _ => ?_⟩
      refine ⟨_, rfl, rfl, _, rfl, ite2 (fun _ => ?_) isdec⟩
      exact ⟨_, rfl, _, rfl, _, _, rfl, rfl, .inl ⟨by omega, by omega⟩, _, _, rfl, rfl, (show (0 : Int) < 1000000 by decide), k _ _ (Same.refl _) (Int.emod_nonneg _ (by decide)) (Int.emod_lt_of_pos _ (by decide))⟩
    · refine ⟨_, rfl, rfl, _, rfl, ite2 (nodec (A := True) (by decide)) fun _ => ?_⟩
      refine ⟨_, rfl, rfl, _, rfl, ite2 (nodec (A := True) (by decide)) fun _ => ?_⟩
      refine ⟨_, rfl, rfl, _, rfl, ite2 (nodec (A := True) (by decide)) fun _ => ?_⟩
      refine ⟨_, rfl, rfl, _, rfl, ite2 (fun _ => ?_) isdec⟩
      exact ⟨_, rfl, _, rfl, a, b, rfl, a0, a1, b0, b1, he, fun p H' q r s hp q0 q1 r0 r1 => ⟨p, _, _, _, rfl, rfl, SqT.of hp, rfl, k _ _ s q0 q1⟩⟩
    · refine ⟨_, rfl, rfl, _, rfl, ite2 (nodec (A := True) (by decide)) fun _ => ?_⟩
      refine ⟨_, rfl, rfl, _, rfl, ite2 (nodec (A := True) (by decide)) fun _ => ?_⟩
      refine ⟨_, rfl, rfl, _, rfl, ite2 (nodec (A := True) (by decide)) fun _ => ?_⟩
      refine ⟨_, rfl, rfl, _, rfl, ite2 (nodec (A := True) (by decide)) fun _ => ?_⟩
      refine ⟨_, rfl, rfl, _, rfl, ite2 (fun _ => ?_) isdec⟩
      exact ⟨_, rfl, _, rfl, a, b, rfl, a0, a1, b0, b1, he, fun p H' q r s hp q0 q1 r0 r1 => ⟨p, _, _, _, rfl, rfl, SqT.of hp, rfl, k _ _ s r0 r1⟩⟩
theorem reck_step (T : Txt K mg) (e kk : Nat) (hkk : 4 ≤ kk) (G_reckoned : OkC P w K mg base (L2.CX P w) (kk + 1) (He.ga K "reckoned") ["work", "value"] (fun vs H Q E => 1 ≤ e ∧ spReck K (e - 1) vs H Q E)) :
    OkC P w K mg base (L2.CX P w) (kk + 2) (He.ga K "reckoned") ["work", "value"] (spReck K e) := by
  have G_both_of := ok_both (P := P) (w := w) (base := base) T
  have G_truth := ok_truth (P := P) (w := w) (base := base) T
  have G_Work_box := ok_box (P := P) (w := w) (base := base) T
  have G_Work_list_read := ok_lread (P := P) (w := w) (base := base) T
  have G_Fault___init__ := ok_faultI (P := P) (w := w) (base := base) T
  refine okX T.f_reckoned sc_reckoned (fun fd F => F.bindsN fun _ _ _ _ _ _ us hl => match us, hl with | [_, _], _ => rfl) (fun vs H Q E h => ?_) (fun cdv A outer s H vs Q E hr h => ?_)
  · obtain ⟨c, F, m, d, gs, f, v, rfl, _⟩ := h
    rfl
  · obtain ⟨c, F, m, d, gs, f, v, rfl, W, hfs, hgl, hv, hkr, he, k⟩ := h
    refine ⟨_, (pss_cons
 (ps_set (i := 2) sc_reckoned.nd rfl (by first | exact Or.inl rfl | exact Or.inr rfl) (pe_ix ix_tup (pv 1) pe_int (fun _ _ => rfl))) (pss_cons
 (ps_if (pt_cmpR op_eq (pv 2) pe_str (nomark _)) (pss_one
 (ps_ret (pe_ix ix_tup (pv 1) pe_int (fun _ _ => rfl)))) pss_nil) (pss_cons
 (ps_if (pt_cmpR op_eq (pv 2) pe_str (nomark _)) (pss_one
 (ps_ret (ce_meth G_Work_box (hr.mono (by omega)) (pv 0) T.c_Work T.m_Work_box pass0 (pa_cons (pe_ix ix_tup (pv 1) pe_int (fun _ _ => rfl)) pa_nil)))) pss_nil) (pss_cons
 (ps_if (pt_cmpR op_eq (pv 2) pe_str (nomark _)) (pss_one
 (ps_ret (pe_callB call_len_seq (by rfl) T.b_len (by decide +kernel) (pa_cons (ce_meth G_Work_list_read (hr.mono (by omega)) (pv 0) T.c_Work T.m_Work_list_read pass0 (pa_cons (pe_ix ix_tup (pv 1) pe_int (fun _ _ => rfl)) pa_nil)) pa_nil)))) pss_nil) (pss_cons
 (ps_if (pt_cmpR op_eq (pv 2) pe_str (nomark _)) (pss_cons
 (ps_set (i := 3) sc_reckoned.nd rfl (by first | exact Or.inl rfl | exact Or.inr rfl) (ce_call G_reckoned (hr.mono (by omega)) T.g_reckoned T.p_reckoned (passes_call (takes_of rfl rfl rfl rfl) (fun _ _ _ _ h => h)) (pa_cons (pv 0) (pa_cons (pe_ix ix_tup (pv 1) pe_int (fun _ _ => rfl)) pa_nil)))) (pss_cons
 (ps_set (i := 4) sc_reckoned.nd rfl (by first | exact Or.inl rfl | exact Or.inr rfl) (ce_meth G_Work_list_read (hr.mono (by omega)) (pv 0) T.c_Work T.m_Work_list_read pass0 (pa_cons (pe_ix ix_tup (pv 1) pe_int (fun _ _ => rfl)) pa_nil))) (pss_cons
 (ps_if (pt_cmpR op_ge (pv 3) (pe_callB call_len_seq (by rfl) T.b_len (by decide +kernel) (pa_cons (pv 4) pa_nil)) (nomark _)) (pss_one
 (ps_raiseF rfl T G_Fault___init__ (hr.mono (by omega)) (takes_of rfl rfl rfl rfl) (pa_cons pe_int pa_nil))) pss_nil) (pss_one
 (ps_ret (pe_ix ix_tup (pv 4) (pv 3) (fun _ _ => rfl))))))) pss_nil) (pss_cons
 (ps_if (pt_cmpR op_eq (pv 2) pe_str (nomark _)) (pss_one
 (ps_ret (ce_call G_truth (hr.mono (by omega)) T.g_truth T.p_truth pass0 (pa_cons (pe_cmpR op_eq (ce_call G_reckoned (hr.mono (by omega)) T.g_reckoned T.p_reckoned (passes_call (takes_of rfl rfl rfl rfl) (fun _ _ _ _ h => h)) (pa_cons (pv 0) (pa_cons (pe_ix ix_tup (pv 1) pe_int (fun _ _ => rfl)) pa_nil))) pe_int (nomark _)) pa_nil)))) pss_nil) (pss_cons
 (ps_set (i := 5) sc_reckoned.nd rfl (by first | exact Or.inl rfl | exact Or.inr rfl) (ce_call G_reckoned (hr.mono (by omega)) T.g_reckoned T.p_reckoned (passes_call (takes_of rfl rfl rfl rfl) (fun _ _ _ _ h => h)) (pa_cons (pv 0) (pa_cons (pe_ix ix_tup (pv 1) pe_int (fun _ _ => rfl)) pa_nil)))) (pss_cons
 (ps_set (i := 6) sc_reckoned.nd rfl (by first | exact Or.inl rfl | exact Or.inr rfl) (ce_call G_reckoned (hr.mono (by omega)) T.g_reckoned T.p_reckoned (passes_call (takes_of rfl rfl rfl rfl) (fun _ _ _ _ h => h)) (pa_cons (pv 0) (pa_cons (pe_ix ix_tup (pv 1) pe_int (fun _ _ => rfl)) pa_nil)))) (pss_one
 (ps_ret (ce_call G_both_of (hr.mono (by omega)) T.g_both_of T.p_both_of (passes_call (takes_of rfl rfl rfl rfl) (fun _ _ _ _ h => h)) (pa_cons (pv 2) (pa_cons (pv 5) (pa_cons (pv 6) pa_nil)))))))))))))), ?_⟩
    have Bv : ∀ x, x ∈ (scOf c.I f.t).B → x ∈ namesOf c.I f.t ∨ x ∈ c.I.B := fun x hx => by
      rw [scOf_B] at hx
      exact List.mem_append.mp hx
    cases hv with
    | @num e a n h h0 h1 =>
      refine ⟨_, rfl, a, _, _, _, rfl, rfl, SqT.of (W.same _ _ h), at0, ?_⟩
      refine ⟨_, rfl, rfl, _, rfl, ite2 (fun _ => ?_) isdec⟩
      exact ⟨_, rfl, a, _, _, _, rfl, rfl, SqT.of (W.same _ _ h), rfl, k H d.kr n W (Nat.le_add_right _ _) But.refl h0 h1⟩
    | @box e a x h hx =>
      have p1 := Nat.one_le_two_pow (n := e + 1)
      refine ⟨_, rfl, a, _, _, _, rfl, rfl, SqT.of (W.same _ _ h), at0, ?_⟩
      refine ⟨_, rfl, rfl, _, rfl, ite2 (nodec (A := True) (by decide)) fun _ => ?_⟩
      refine ⟨_, rfl, rfl, _, rfl, ite2 (fun _ => ?_) isdec⟩
      refine ⟨_, rfl, m.w, m.dw, _, rfl, W.obj, rfl, _, rfl, a, _, _, _, rfl, rfl, SqT.of (W.same _ _ h), rfl, ⟨c, F, m, d, gs, f, x, rfl, W, hfs, hgl, Bv x hx, by omega, fun H' kr n W' hk B n0 n1 => k H' kr n W' ?_ B n0 n1⟩⟩
      have := Nat.one_le_two_pow (n := e + 1)
      omega
    | @size e a x h hx =>
      have p1 := Nat.one_le_two_pow (n := e + 1)
      refine ⟨_, rfl, a, _, _, _, rfl, rfl, SqT.of (W.same _ _ h), at0, ?_⟩
      refine ⟨_, rfl, rfl, _, rfl, ite2 (nodec (A := True) (by decide)) fun _ => ?_⟩
      refine ⟨_, rfl, rfl, _, rfl, ite2 (nodec (A := True) (by decide)) fun _ => ?_⟩
      refine ⟨_, rfl, rfl, _, rfl, ite2 (fun _ => ?_) isdec⟩
      refine ⟨_, rfl, m.w, m.dw, _, rfl, W.obj, rfl, _, rfl, a, _, _, _, rfl, rfl, SqT.of (W.same _ _ h), rfl, ⟨c, F, m, d, x, rfl, W, hx, by omega, fun H' kr t W' hk B ht => ?_⟩⟩
      obtain ⟨ns, h1, h2, h3⟩ := ht
      refine ⟨t, _, rfl, .inr (SqT.of h1), k H' kr _ W' ?_ B (by omega) (by rw [List.length_map]; omega)⟩
      have := Nat.one_le_two_pow (n := e + 1)
      omega
    | @item e a x u h hx hu =>
      refine ⟨_, rfl, a, _, _, _, rfl, rfl, SqT.of (W.same _ _ h), at0, ?_⟩
      refine ⟨_, rfl, rfl, _, rfl, ite2 (nodec (A := True) (by decide)) fun _ => ?_⟩
      refine ⟨_, rfl, rfl, _, rfl, ite2 (nodec (A := True) (by decide)) fun _ => ?_⟩
      refine ⟨_, rfl, rfl, _, rfl, ite2 (nodec (A := True) (by decide)) fun _ => ?_⟩
      refine ⟨_, rfl, rfl, _, rfl, ite2 (fun _ => ?_) isdec⟩
      have e2 : 2 ^ (e + 1) = 2 ^ e + 2 ^ e := by rw [Nat.pow_succ]; omega
      have e1 := Nat.one_le_two_pow (n := e)
      refine ⟨_, rfl, _, rfl, a, _, _, _, rfl, rfl, SqT.of (W.same _ _ h), rfl, Nat.le_add_left 1 e, c, F, m, d, gs, f, u, rfl, W, hfs, hgl, hu, by show d.kr.length + 2 ^ e ≤ 900; omega, ?_, fun H1 kr n W1 hk B1 n0 n1 => ?_⟩
      · exact he.imp fun H' ⟨kr, a1, a2, a3⟩ => ⟨kr, a1, by have a2 : kr.length ≤ d.kr.length + 2 ^ e := a2; omega, a3⟩
      have hk : kr.length ≤ d.kr.length + 2 ^ e := hk
      refine ⟨_, rfl, m.w, m.dw, _, rfl, W1.obj, rfl, _, rfl, a, _, _, _, rfl, rfl, SqT.of (W1.same _ _ h), rfl, ⟨c, F, m, { d with kr := kr }, x, rfl, W1, hx, by show kr.length ≤ 1000; omega, fun H2 kr2 t W2 hk2 B2 ht => ?_⟩⟩
      have hk2 : kr2.length ≤ kr.length + 1 := hk2
      obtain ⟨ns, h1, h2, h3⟩ := ht
      refine ⟨_, rfl, _, rfl, t, _, rfl, .inr (SqT.of h1), _, _, rfl, rfl, _, rfl, ite2 (fun _ => ?_) (fun hlt => ?_)⟩
      · exact ⟨2, rfl, fun dd H' s1 hd0 hd => he dd 2 H' ⟨kr2, W2.keep s1, by omega, fun b o hb e => s1 _ _ (B2 _ _ hb (B1 _ _ hb e))⟩ hd (by decide) (by decide)⟩
      · have hlt2 : n.toNat < ns.length := by
          have q : ¬ ((ns.map V.int).length : Int) ≤ n := fun z => hlt (decide_eq_true z)
          rw [List.length_map] at q
          omega
        have hm := h3 _ (List.getElem_mem hlt2)
        exact ⟨_, rfl, _, rfl, t, _, _, _, rfl, rfl, SqT.of h1, at_k n0 (by rw [List.getElem?_map, List.getElem?_eq_getElem hlt2]; rfl), k H2 kr2 _ W2 (by omega) (B1.trans B2) hm.1 hm.2⟩
    | @neg e a u h hu =>
      have p1 := Nat.one_le_two_pow (n := e)
      refine ⟨_, rfl, a, _, _, _, rfl, rfl, SqT.of (W.same _ _ h), at0, ?_⟩
      refine ⟨_, rfl, rfl, _, rfl, ite2 (nodec (A := True) (by decide)) fun _ => ?_⟩
      refine ⟨_, rfl, rfl, _, rfl, ite2 (nodec (A := True) (by decide)) fun _ => ?_⟩
      refine ⟨_, rfl, rfl, _, rfl, ite2 (nodec (A := True) (by decide)) fun _ => ?_⟩
      refine ⟨_, rfl, rfl, _, rfl, ite2 (nodec (A := True) (by decide)) fun _ => ?_⟩
      refine ⟨_, rfl, rfl, _, rfl, ite2 (fun _ => ?_) isdec⟩
      have e2 : 2 ^ (e + 1) = 2 ^ e + 2 ^ e := by rw [Nat.pow_succ]; omega
      refine ⟨_, rfl, _, rfl, a, _, _, _, rfl, rfl, SqT.of (W.same _ _ h), rfl, Nat.le_add_left 1 e, c, F, m, d, gs, f, u, rfl, W, hfs, hgl, hu, by show d.kr.length + 2 ^ e ≤ 900; omega, ?_, fun H1 kr n W1 hk B1 n0 n1 => ?_⟩
      · exact he.imp fun H' ⟨kr, a1, a2, a3⟩ => ⟨kr, a1, by have a2 : kr.length ≤ d.kr.length + 2 ^ e := a2; omega, a3⟩
      have hk : kr.length ≤ d.kr.length + 2 ^ e := hk
      exact ⟨rfl, _, rfl, k H1 kr _ W1 (by omega) B1 (by split <;> decide) (by split <;> decide)⟩
    | @two e a x u v h hx hu hv =>
      have p1 := Nat.one_le_two_pow (n := e)
      have e2 : 2 ^ (e + 1) = 2 ^ e + 2 ^ e := by rw [Nat.pow_succ]; omega
      obtain ⟨x1, x2, x3, x4, x5⟩ : V.str x ≠ .str "number" ∧ V.str x ≠ .str "box" ∧ V.str x ≠ .str "size" ∧ V.str x ≠ .str "item" ∧ V.str x ≠ .str "not" := by
        unfold binW at hx
        simp only [List.mem_cons, List.not_mem_nil, or_false] at hx
        rcases hx with rfl | rfl | rfl | rfl | rfl | rfl | rfl <;> exact ⟨by decide, by decide, by decide, by decide, by decide⟩
      refine ⟨_, rfl, a, _, _, _, rfl, rfl, SqT.of (W.same _ _ h), at0, ?_⟩
      refine ⟨_, rfl, rfl, _, rfl, ite2 (nodec (A := True) x1) fun _ => ?_⟩
      refine ⟨_, rfl, rfl, _, rfl, ite2 (nodec (A := True) x2) fun _ => ?_⟩
      refine ⟨_, rfl, rfl, _, rfl, ite2 (nodec (A := True) x3) fun _ => ?_⟩
      refine ⟨_, rfl, rfl, _, rfl, ite2 (nodec (A := True) x4) fun _ => ?_⟩
      refine ⟨_, rfl, rfl, _, rfl, ite2 (nodec (A := True) x5) fun _ => ?_⟩
      refine ⟨_, rfl, _, rfl, a, _, _, _, rfl, rfl, SqT.of (W.same _ _ h), rfl, Nat.le_add_left 1 e, c, F, m, d, gs, f, u, rfl, W, hfs, hgl, hu, by show d.kr.length + 2 ^ e ≤ 900; omega, ?_, fun H1 kr n W1 hk B1 n0 n1 => ?_⟩
      · exact he.imp fun H' ⟨kr, a1, a2, a3⟩ => ⟨kr, a1, by have a2 : kr.length ≤ d.kr.length + 2 ^ e := a2; omega, a3⟩
      have hk : kr.length ≤ d.kr.length + 2 ^ e := hk
      refine ⟨_, rfl, _, rfl, a, _, _, _, rfl, rfl, SqT.of (W1.same _ _ h), rfl, Nat.le_add_left 1 e, c, F, m, { d with kr := kr }, gs, f, v, rfl, W1, hfs, hgl, hv, by show kr.length + 2 ^ e ≤ 900; omega, ?_, fun H2 kr2 n2 W2 hk2 B2 n20 n21 => ?_⟩
      · exact he.imp fun H' ⟨kr2, a1, a2, a3⟩ => ⟨kr2, a1, by have a2 : kr2.length ≤ kr.length + 2 ^ e := a2; omega, B1.trans a3⟩
      have hk2 : kr2.length ≤ kr.length + 2 ^ e := hk2
      refine ⟨_, rfl, _, rfl, _, rfl, x, n, n2, rfl, hx, n0, n1, n20, n21, ?_, fun H3 n3 s3 n30 n31 => k H3 kr2 n3 (W2.keep s3) (by omega) (fun b o hb e => s3 _ _ (B2 _ _ hb (B1 _ _ hb e))) n30 n31⟩
      exact he.imp fun H' s3 => ⟨kr2, W2.keep s3, by omega, fun b o hb e => s3 _ _ (B2 _ _ hb (B1 _ _ hb e))⟩
theorem ok_reck (T : Txt K mg) : ∀ e : Nat, OkC P w K mg base (L2.CX P w) (e + 6) (He.ga K "reckoned") ["work", "value"] (spReck K e)
  | 0 => reck_step T 0 4 (Nat.le_refl _) (by
      obtain ⟨fd, F⟩ := T.f_reckoned
      refine ⟨fd, ⟨fun vs H Q E h => absurd h.1 (by decide), fun A outer s H args us vs Q E _ _ _ _ h => absurd h.1 (by decide)⟩, F.bindsN fun _ _ _ _ _ _ us hl => match us, hl with | [_, _], _ => rfl⟩)
  | e + 1 => reck_step T (e + 1) (e + 5) (by omega) ((ok_reck T e).imp fun vs H Q E h => h.2)
end
end Rt
/-! ## W9 -/
set_option Elab.async false
set_option linter.all false
set_option maxRecDepth 100000
set_option maxHeartbeats 4000000
namespace Rt
open PySem PySem.Spec PyProof.Rows L2
open L2H (RoomH roomH_of)
/-! ### what deeds change -/
structure DIn (K : PySem.W.Frag) (c : Mc) (F : Hp) (p dx a r : Addr) (w t : Str) (xs : List V) : Prop where
  obj : F p = some (.ins (clsW K w) dx (deedF a r))
  row : F r = some (.tup xs)
  pl : Plain (scOf c.I t) F xs
  hd : ∃ rest, xs = .str w :: rest
  ask : ∀ x d, xs = [V.str "ask", V.str x, V.str d] → d ∈ c.ds
structure Chg (d d' : Wd) (gs : List FrD) (f : FrD) : Prop where
  word : d'.word = d.word
  kr : d'.kr.length ≤ d.kr.length + 20
  wv : d'.wv.length ≤ d.wv.length + 4
  hv : d'.hv.length ≤ d.hv.length + 1
  fs : ∃ ow, d'.fs = gs ++ [{ f with ow := ow }]
def doW : List Str := ["set", "push", "pop", "put", "ask", "tell", "fail"]
def spChange (K : PySem.W.Frag) (w : Str) : Sp := fun vs H Q E => ∃ (c : Mc) (F : Hp) (m : Wm) (d : Wd) (gs : List FrD) (f : FrD) (p : Addr), vs = [.ref p, .ref m.w, .ref c.g] ∧ MachOk K c F ∧ WkOk K c F m d H ∧ d.fs = gs ++ [f] ∧ gs.length ≤ 100 ∧ d.kr.length ≤ 100 ∧ d.wv.length ≤ 100 ∧ d.hv.length ≤ 1000 ∧
  (w ∈ doW → ∃ dx a r xs, DIn K c F p dx a r w f.t xs) ∧ FE K E (fun H' => ∃ d', WkOk K c F m d' H' ∧ Chg d d' gs f) ∧ ∀ H' d', WkOk K c F m d' H' → Chg d d' gs f → Q .non H'
theorem plain_set {G : Sc} {H : Hp} {rest : List V} (h : Plain G H (.str "set" :: rest)) : ∃ x v, rest = [.str x, v] ∧ x ∈ G.B ∧ WVal G.B G.L H 3 v := by
  cases h with
  | set hx hv => exact ⟨_, _, rfl, hx, hv⟩
theorem plain_push {G : Sc} {H : Hp} {rest : List V} (h : Plain G H (.str "push" :: rest)) : ∃ l v, rest = [.str l, v] ∧ l ∈ G.L ∧ WVal G.B G.L H 3 v := by
  cases h with
  | push hx hv => exact ⟨_, _, rfl, hx, hv⟩
theorem plain_pop {G : Sc} {H : Hp} {rest : List V} (h : Plain G H (.str "pop" :: rest)) : ∃ x l, rest = [.str x, .str l] ∧ x ∈ G.B ∧ l ∈ G.L := by
  cases h with
  | pop hx hl => exact ⟨_, _, rfl, hx, hl⟩
theorem plain_put {G : Sc} {H : Hp} {rest : List V} (h : Plain G H (.str "put" :: rest)) : ∃ l u v, rest = [.str l, u, v] ∧ l ∈ G.L ∧ WVal G.B G.L H 3 u ∧ WVal G.B G.L H 3 v := by
  cases h with
  | put hl hu hv => exact ⟨_, _, _, rfl, hl, hu, hv⟩
theorem plain_ask {G : Sc} {H : Hp} {rest : List V} (h : Plain G H (.str "ask" :: rest)) : ∃ x d, rest = [.str x, .str d] ∧ x ∈ G.B := by
  cases h with
  | ask hx hd => exact ⟨_, _, rfl, hx⟩
theorem plain_tell {G : Sc} {H : Hp} {rest : List V} (h : Plain G H (.str "tell" :: rest)) : ∃ v, rest = [v] ∧ WVal G.B G.L H 3 v := by
  cases h with
  | tell hv => exact ⟨_, rfl, hv⟩
theorem plain_fail {G : Sc} {H : Hp} {rest : List V} (h : Plain G H (.str "fail" :: rest)) : ∃ v, rest = [v] ∧ WVal G.B G.L H 3 v := by
  cases h with
  | fail hv => exact ⟨_, rfl, hv⟩
theorem plain_call {G : Sc} {H : Hp} {rest : List V} (h : Plain G H (.str "call" :: rest)) : ∃ x f a vs, rest = [.str x, .str f, .ref a] ∧ x ∈ G.B ∧ (f, vs.length) ∈ G.F ∧ H a = some (.tup vs) ∧ ∀ v ∈ vs, WVal G.B G.L H 3 v := by
  cases h with
  | call hx hf ha hv => exact ⟨_, _, _, _, rfl, hx, hf, ha, hv⟩
theorem plain_ret {G : Sc} {H : Hp} {rest : List V} (h : Plain G H (.str "return" :: rest)) : ∃ v, rest = [v] ∧ G.inside = true ∧ WVal G.B G.L H 3 v := by
  cases h with
  | ret hi hv => exact ⟨_, rfl, hi, hv⟩
theorem inB {I : PI} {t x : Str} (h : x ∈ (scOf I t).B) : x ∈ namesOf I t ∨ x ∈ I.B := by
  rw [scOf_B] at h
  exact List.mem_append.mp h
section
variable {P : Program} {w : World} {K : PySem.W.Frag} {mg : Str → Option Value} {base : Heap}
theorem ok_change0 (T : Txt K mg) {wd : Str} : OkC P w K mg base (L2.CX P w) 1 (He.ma K (He.ga K "Deed") "change") ["self", "work", "world"] (spChange K wd) := by
  refine okX T.f_Deed_change sc_Deed_change (fun fd F => F.bindsN fun _ _ _ _ _ _ us hl => match us, hl with | [_, _, _], _ => rfl) (fun vs H Q E h => ?_) (fun cdv A outer s H vs Q E hr h => ?_)
  · obtain ⟨c, F, m, d, gs, f, p, rfl, _⟩ := h
    rfl
  · obtain ⟨c, F, m, d, gs, f, p, rfl, M, W, hfs, hgl, hkr, hwv, hhv, hd, he, k⟩ := h
    refine ⟨_, (pss_one
 (ps_ret pe_non)), ?_⟩
    exact k H d W ⟨rfl, by omega, by omega, by omega, f.ow, hfs⟩
theorem ok_change_set (T : Txt K mg) : OkC P w K mg base (L2.CX P w) 10 (He.ma K (He.ga K "SetDeed") "change") ["self", "work", "world"] (spChange K "set") := by
  have G_reckoned := ok_reck (P := P) (w := w) (base := base) T 3
  have G_Work_set_box := (ok_set_box (P := P) (w := w) (base := base) T).ok
  refine okX T.f_SetDeed_change sc_SetDeed_change (fun fd F => F.bindsN fun _ _ _ _ _ _ us hl => match us, hl with | [_, _, _], _ => rfl) (fun vs H Q E h => ?_) (fun cdv A outer s H vs Q E hr h => ?_)
  · obtain ⟨c, F, m, d, gs, f, p, rfl, _⟩ := h
    rfl
  · obtain ⟨c, F, m, d, gs, f, p, rfl, M, W, hfs, hgl, hkr, hwv, hhv, hd, he, k⟩ := h
    obtain ⟨dx, a, r, xs, hobj, hrow, hpl, ⟨rest, rfl⟩, hask⟩ := hd (by decide)
    obtain ⟨x, v, rfl, hx, hv⟩ := plain_set hpl
    rw [scOf_L] at hv
    refine ⟨_, (pss_cons
 (ps_set (i := 3) sc_SetDeed_change.nd rfl (by first | exact Or.inl rfl | exact Or.inr rfl) (ce_call G_reckoned (hr.mono (by omega)) T.g_reckoned T.p_reckoned (passes_call (takes_of rfl rfl rfl rfl) (fun _ _ _ _ h => h)) (pa_cons (pv 1) (pa_cons (pe_ix ix_tup (pe_fld (pv 0) rfl) pe_int (fun _ _ => rfl)) pa_nil)))) (pss_one
 (ps_expr (ce_meth G_Work_set_box (hr.mono (by omega)) (pv 1) T.c_Work T.m_Work_set_box pass0 (pa_cons (pe_ix ix_tup (pe_fld (pv 0) rfl) pe_int (fun _ _ => rfl)) (pa_cons (pv 3) pa_nil)))))), ?_⟩
    refine ⟨_, rfl, _, rfl, p, _, dx, _, _, rfl, W.same _ _ hobj, T.c_SetDeed, T.n_SetDeed_row, rfl, r, _, _, _, rfl, rfl, SqT.of (W.same _ _ hrow), rfl, c, F, m, d, gs, f, v, rfl, W, hfs, hgl, hv, (by omega), ?_, fun H1 kr n W1 hk B1 n0 n1 => ?_⟩
    · exact he.imp fun H' ⟨kr, a1, a2, a3⟩ => ⟨_, a1, rfl, (by show kr.length ≤ _; omega), (by show d.wv.length ≤ _; omega), (by show d.hv.length ≤ _; omega), f.ow, hfs⟩
    refine ⟨_, rfl, m.w, m.dw, _, rfl, W1.obj, rfl, _, rfl, p, _, dx, _, _, rfl, W1.same _ _ hobj, T.c_SetDeed, T.n_SetDeed_row, rfl, r, _, _, _, rfl, rfl, SqT.of (W1.same _ _ hrow), rfl, _, rfl, c, F, m, _, gs, f, x, n, rfl, M.ok, W1, hfs, hgl, inB hx, n0, n1, (by show d.wv.length ≤ 1000; omega), fun H2 d2 W2 sb t2 => ?_⟩
    exact k H2 d2 W2 ⟨sb.word, by rw [sb.kr]; show kr.length ≤ _; omega, Nat.le_trans sb.wv (by show d.wv.length + 1 ≤ _; omega), by rw [sb.hv]; show d.hv.length ≤ _; omega, sb.fs⟩
theorem ok_change_push (T : Txt K mg) : OkC P w K mg base (L2.CX P w) 10 (He.ma K (He.ga K "PushDeed") "change") ["self", "work", "world"] (spChange K "push") := by
  obtain ⟨tM, hC_MOST_THINGS⟩ := T.i_MOST_THINGS
  have G_reckoned := ok_reck (P := P) (w := w) (base := base) T 3
  have G_Work_set_list := ok_set_list (P := P) (w := w) (base := base) T
  have G_Work_list_read := ok_lread (P := P) (w := w) (base := base) T
  have G_Fault___init__ := ok_faultI (P := P) (w := w) (base := base) T
  refine okX T.f_PushDeed_change sc_PushDeed_change (fun fd F => F.bindsN fun _ _ _ _ _ _ us hl => match us, hl with | [_, _, _], _ => rfl) (fun vs H Q E h => ?_) (fun cdv A outer s H vs Q E hr h => ?_)
  · obtain ⟨c, F, m, d, gs, f, p, rfl, _⟩ := h
    rfl
  · obtain ⟨c, F, m, d, gs, f, p, rfl, M, W, hfs, hgl, hkr, hwv, hhv, hd, he, k⟩ := h
    obtain ⟨dx, a, r, xs, hobj, hrow, hpl, ⟨rest, rfl⟩, hask⟩ := hd (by decide)
    obtain ⟨l, v, rfl, hl, hv⟩ := plain_push hpl
    rw [scOf_L] at hv hl
    refine ⟨_, (pss_cons
 (ps_set (i := 3) sc_PushDeed_change.nd rfl (by first | exact Or.inl rfl | exact Or.inr rfl) (ce_call G_reckoned (hr.mono (by omega)) T.g_reckoned T.p_reckoned (passes_call (takes_of rfl rfl rfl rfl) (fun _ _ _ _ h => h)) (pa_cons (pv 1) (pa_cons (pe_ix ix_tup (pe_fld (pv 0) rfl) pe_int (fun _ _ => rfl)) pa_nil)))) (pss_cons
 (ps_set (i := 4) sc_PushDeed_change.nd rfl (by first | exact Or.inl rfl | exact Or.inr rfl) (ce_meth G_Work_list_read (hr.mono (by omega)) (pv 1) T.c_Work T.m_Work_list_read pass0 (pa_cons (pe_ix ix_tup (pe_fld (pv 0) rfl) pe_int (fun _ _ => rfl)) pa_nil))) (pss_cons
 (ps_if (pt_cmpR op_ge (pe_callB call_len_seq (by rfl) T.b_len (by decide +kernel) (pa_cons (pv 4) pa_nil)) (pe_glob (v := .int 12) rfl hC_MOST_THINGS ⟨_, rfl⟩) (nomark _)) (pss_one
 (ps_raiseF rfl T G_Fault___init__ (hr.mono (by omega)) (takes_of rfl rfl rfl rfl) (pa_cons pe_int pa_nil))) pss_nil) (pss_one
 (ps_expr (ce_meth G_Work_set_list (hr.mono (by omega)) (pv 1) T.c_Work T.m_Work_set_list pass0 (pa_cons (pe_ix ix_tup (pe_fld (pv 0) rfl) pe_int (fun _ _ => rfl)) (pa_cons (pe_op op_catS (pv 4) (pe_tup (pa_cons (pv 3) pa_nil))) pa_nil)))))))), ?_⟩
    refine ⟨_, rfl, _, rfl, p, _, dx, _, _, rfl, W.same _ _ hobj, T.c_PushDeed, T.n_PushDeed_row, rfl, r, _, _, _, rfl, rfl, SqT.of (W.same _ _ hrow), rfl, c, F, m, d, gs, f, v, rfl, W, hfs, hgl, hv, (by omega), ?_, fun H1 kr n W1 hk B1 n0 n1 => ?_⟩
    · exact he.imp fun H' ⟨kr, a1, a2, a3⟩ => ⟨_, a1, rfl, (by show kr.length ≤ _; omega), (by show d.wv.length ≤ _; omega), (by show d.hv.length ≤ _; omega), f.ow, hfs⟩
    refine ⟨_, rfl, m.w, m.dw, _, rfl, W1.obj, rfl, _, rfl, p, _, dx, _, _, rfl, W1.same _ _ hobj, T.c_PushDeed, T.n_PushDeed_row, rfl, r, _, _, _, rfl, rfl, SqT.of (W1.same _ _ hrow), rfl, c, F, m, _, l, rfl, W1, hl, (by show kr.length ≤ 1000; omega), fun H2 kr2 t W2 hk2 B2 ht => ?_⟩
    have hk2 : kr2.length ≤ kr.length + 1 := hk2
    obtain ⟨ns, h1, h2, h3⟩ := ht
    refine ⟨_, rfl, t, _, rfl, .inr (SqT.of h1), _, _, rfl, rfl, _, rfl, ite2 (fun _ => ?_) (fun hlt => ?_)⟩
    · exact ⟨3, rfl, fun dd H' s1 hd0 hd => he dd 3 H' ⟨_, W2.keep s1, rfl, (by show kr2.length ≤ _; omega), (by show d.wv.length ≤ _; omega), (by show d.hv.length ≤ _; omega), f.ow, hfs⟩ hd (by decide) (by decide)⟩
    · have hlt2 : ns.length < 12 := by
        have q : ¬ (12 : Int) ≤ ((ns.map V.int).length : Int) := fun z => hlt (decide_eq_true z)
        rw [List.length_map] at q
        omega
      refine ⟨_, rfl, m.w, m.dw, _, rfl, W2.obj, rfl, _, rfl, p, _, dx, _, _, rfl, W2.same _ _ hobj, T.c_PushDeed, T.n_PushDeed_row, rfl, r, _, _, _, rfl, rfl, SqT.of (W2.same _ _ hrow), rfl, _, rfl, _, rfl, szn (by decide : 1 ≤ 1000), fun q hq => ⟨t, q, _, _, rfl, rfl, same_new hq _ _ h1, upd_same, (by rw [List.length_map, List.length_singleton, sizeLine_eq]; omega), fun p2 H3 s3 hp2 => ?_⟩⟩
      have z3 := (same_new (o := .tup [.int n]) hq).trans s3
      have W3 := W2.keep z3
      refine ⟨c, F, m, _, l, p2, rfl, M.ok, W3, hl, ⟨ns ++ [n], (by rw [List.map_append]; exact hp2), (by rw [List.length_append, List.length_singleton]; omega), fun u hu => ?_⟩, (by show d.wv.length ≤ 1000; omega), fun H4 kl wv W4 hw4 t4 => ?_⟩
      · rcases List.mem_append.mp hu with hu | hu
        · exact h3 u hu
        · have e : u = n := by simpa using hu
          rw [e]
          exact ⟨n0, n1⟩
      · exact k H4 _ W4 ⟨rfl, (by show kr2.length ≤ _; omega), (by have hw4 : wv.length ≤ d.wv.length + 1 := hw4; show wv.length ≤ _; omega), (by show d.hv.length ≤ _; omega), f.ow, hfs⟩
theorem ok_change_pop (T : Txt K mg) : OkC P w K mg base (L2.CX P w) 10 (He.ma K (He.ga K "PopDeed") "change") ["self", "work", "world"] (spChange K "pop") := by
  have G_Work_set_box := (ok_set_box (P := P) (w := w) (base := base) T).ok
  have G_Work_set_list := ok_set_list (P := P) (w := w) (base := base) T
  have G_Work_list_read := ok_lread (P := P) (w := w) (base := base) T
  have G_Fault___init__ := ok_faultI (P := P) (w := w) (base := base) T
  refine okX T.f_PopDeed_change sc_PopDeed_change (fun fd F => F.bindsN fun _ _ _ _ _ _ us hl => match us, hl with | [_, _, _], _ => rfl) (fun vs H Q E h => ?_) (fun cdv A outer s H vs Q E hr h => ?_)
  · obtain ⟨c, F, m, d, gs, f, p, rfl, _⟩ := h
    rfl
  · obtain ⟨c, F, m, d, gs, f, p, rfl, M, W, hfs, hgl, hkr, hwv, hhv, hd, he, k⟩ := h
    obtain ⟨dx, a, r, xs, hobj, hrow, hpl, ⟨rest, rfl⟩, hask⟩ := hd (by decide)
    obtain ⟨x, l, rfl, hx, hl⟩ := plain_pop hpl
    rw [scOf_L] at hl
    refine ⟨_, (pss_cons
 (ps_set (i := 3) sc_PopDeed_change.nd rfl (by first | exact Or.inl rfl | exact Or.inr rfl) (ce_meth G_Work_list_read (hr.mono (by omega)) (pv 1) T.c_Work T.m_Work_list_read pass0 (pa_cons (pe_ix ix_tup (pe_fld (pv 0) rfl) pe_int (fun _ _ => rfl)) pa_nil))) (pss_cons
 (ps_if (pt_cmpR op_eq (pe_callB call_len_seq (by rfl) T.b_len (by decide +kernel) (pa_cons (pv 3) pa_nil)) pe_int (nomark _)) (pss_one
 (ps_raiseF rfl T G_Fault___init__ (hr.mono (by omega)) (takes_of rfl rfl rfl rfl) (pa_cons pe_int pa_nil))) pss_nil) (pss_cons
 (ps_expr (ce_meth G_Work_set_list (hr.mono (by omega)) (pv 1) T.c_Work T.m_Work_set_list pass0 (pa_cons (pe_ix ix_tup (pe_fld (pv 0) rfl) pe_int (fun _ _ => rfl)) (pa_cons (pe_slice sl_tupS (pv 3) po_none (po_some (pe_un un_neg pe_int))) pa_nil)))) (pss_one
 (ps_expr (ce_meth G_Work_set_box (hr.mono (by omega)) (pv 1) T.c_Work T.m_Work_set_box pass0 (pa_cons (pe_ix ix_tup (pe_fld (pv 0) rfl) pe_int (fun _ _ => rfl)) (pa_cons (pe_ix ix_tup (pv 3) (pe_un un_neg pe_int) (fun _ _ => rfl)) pa_nil)))))))), ?_⟩
    refine ⟨_, rfl, m.w, m.dw, _, rfl, W.obj, rfl, _, rfl, p, _, dx, _, _, rfl, W.same _ _ hobj, T.c_PopDeed, T.n_PopDeed_row, rfl, r, _, _, _, rfl, rfl, SqT.of (W.same _ _ hrow), rfl, c, F, m, _, l, rfl, W, hl, (by omega), fun H2 kr2 t W2 hk2 B2 ht => ?_⟩
    obtain ⟨ns, h1, h2, h3⟩ := ht
    refine ⟨_, rfl, t, _, rfl, .inr (SqT.of h1), rfl, _, rfl, ite2 (fun _ => ?_) (fun hne => ?_)⟩
    · exact ⟨4, rfl, fun dd H' s1 hd0 hd => he dd 4 H' ⟨_, W2.keep s1, rfl, (by show kr2.length ≤ _; omega), (by show d.wv.length ≤ _; omega), (by show d.hv.length ≤ _; omega), f.ow, hfs⟩ hd (by decide) (by decide)⟩
    · obtain ⟨ys, y, rfl⟩ : ∃ ys y, ns = ys ++ [y] := by
        have hn : ns ≠ [] := fun z => hne (by rw [z]; rfl)
        exact ⟨ns.dropLast, ns.getLast hn, (List.dropLast_concat_getLast hn).symm⟩
      refine ⟨_, rfl, m.w, m.dw, _, rfl, W2.obj, rfl, _, rfl, p, _, dx, _, _, rfl, W2.same _ _ hobj, T.c_PopDeed, T.n_PopDeed_row, rfl, r, _, _, _, rfl, rfl, SqT.of (W2.same _ _ hrow), rfl, _, rfl, _, rfl, _, rfl, t, _, rfl, h1, fun p2 H3 s3 hp2 => ?_⟩
      have W3 := W2.keep s3
      obtain ⟨ms, e1, e2, e3⟩ := cut_ints (ys ++ [y]) none (some (-1))
      refine ⟨c, F, m, _, l, p2, rfl, M.ok, W3, hl, ⟨ms, (by rw [← e1]; exact hp2), (by omega), fun u hu => h3 u (e3 u hu)⟩, (by show d.wv.length ≤ 1000; omega), fun H4 kl wv W4 hw4 t4 => ?_⟩
      have hw4 : wv.length ≤ d.wv.length + 1 := hw4
      have ht4 := t4 _ _ (s3 _ _ h1)
      have hy := h3 y (by simp)
      refine ⟨_, rfl, m.w, m.dw, _, rfl, W4.obj, rfl, _, rfl, p, _, dx, _, _, rfl, W4.same _ _ hobj, T.c_PopDeed, T.n_PopDeed_row, rfl, r, _, _, _, rfl, rfl, SqT.of (W4.same _ _ hrow), rfl, _, rfl, _, rfl, t, _, _, _, rfl, rfl, SqT.of ht4, (by rw [List.map_append]; exact atI_last _ _), c, F, m, _, gs, f, x, y, rfl, M.ok, W4, hfs, hgl, inB hx, hy.1, hy.2, (by show wv.length ≤ 1000; omega), fun H5 d5 W5 sb t5 => ?_⟩
      exact k H5 d5 W5 ⟨sb.word, by rw [sb.kr]; show kr2.length ≤ _; omega, Nat.le_trans sb.wv (by show wv.length + 1 ≤ _; omega), by rw [sb.hv]; show d.hv.length ≤ _; omega, sb.fs⟩
theorem ok_change_put (T : Txt K mg) : OkC P w K mg base (L2.CX P w) 10 (He.ma K (He.ga K "PutDeed") "change") ["self", "work", "world"] (spChange K "put") := by
  have G_reckoned := ok_reck (P := P) (w := w) (base := base) T 3
  have G_Work_set_list := ok_set_list (P := P) (w := w) (base := base) T
  have G_Work_list_read := ok_lread (P := P) (w := w) (base := base) T
  have G_Fault___init__ := ok_faultI (P := P) (w := w) (base := base) T
  refine okX T.f_PutDeed_change sc_PutDeed_change (fun fd F => F.bindsN fun _ _ _ _ _ _ us hl => match us, hl with | [_, _, _], _ => rfl) (fun vs H Q E h => ?_) (fun cdv A outer s H vs Q E hr h => ?_)
  · obtain ⟨c, F, m, d, gs, f, p, rfl, _⟩ := h
    rfl
  · obtain ⟨c, F, m, d, gs, f, p, rfl, M, W, hfs, hgl, hkr, hwv, hhv, hd, he, k⟩ := h
    obtain ⟨dx, a, r, xs, hobj, hrow, hpl, ⟨rest, rfl⟩, hask⟩ := hd (by decide)
    obtain ⟨l, u, v, rfl, hl, hu, hv⟩ := plain_put hpl
    rw [scOf_L] at hv hl hu
    refine ⟨_, (pss_cons
 (ps_set (i := 3) sc_PutDeed_change.nd rfl (by first | exact Or.inl rfl | exact Or.inr rfl) (ce_call G_reckoned (hr.mono (by omega)) T.g_reckoned T.p_reckoned (passes_call (takes_of rfl rfl rfl rfl) (fun _ _ _ _ h => h)) (pa_cons (pv 1) (pa_cons (pe_ix ix_tup (pe_fld (pv 0) rfl) pe_int (fun _ _ => rfl)) pa_nil)))) (pss_cons
 (ps_set (i := 4) sc_PutDeed_change.nd rfl (by first | exact Or.inl rfl | exact Or.inr rfl) (ce_call G_reckoned (hr.mono (by omega)) T.g_reckoned T.p_reckoned (passes_call (takes_of rfl rfl rfl rfl) (fun _ _ _ _ h => h)) (pa_cons (pv 1) (pa_cons (pe_ix ix_tup (pe_fld (pv 0) rfl) pe_int (fun _ _ => rfl)) pa_nil)))) (pss_cons
 (ps_set (i := 5) sc_PutDeed_change.nd rfl (by first | exact Or.inl rfl | exact Or.inr rfl) (ce_meth G_Work_list_read (hr.mono (by omega)) (pv 1) T.c_Work T.m_Work_list_read pass0 (pa_cons (pe_ix ix_tup (pe_fld (pv 0) rfl) pe_int (fun _ _ => rfl)) pa_nil))) (pss_cons
 (ps_if (pt_cmpR op_ge (pv 3) (pe_callB call_len_seq (by rfl) T.b_len (by decide +kernel) (pa_cons (pv 5) pa_nil)) (nomark _)) (pss_one
 (ps_raiseF rfl T G_Fault___init__ (hr.mono (by omega)) (takes_of rfl rfl rfl rfl) (pa_cons pe_int pa_nil))) pss_nil) (pss_one
 (ps_expr (ce_meth G_Work_set_list (hr.mono (by omega)) (pv 1) T.c_Work T.m_Work_set_list pass0 (pa_cons (pe_ix ix_tup (pe_fld (pv 0) rfl) pe_int (fun _ _ => rfl)) (pa_cons (pe_op op_catS (pe_op op_catS (pe_slice sl_tupS (pv 5) po_none (po_some (pv 3))) (pe_tup (pa_cons (pv 4) pa_nil))) (pe_slice sl_tupS (pv 5) (po_some (pe_op op_add (pv 3) pe_int)) po_none)) pa_nil))))))))), ?_⟩
    refine ⟨_, rfl, _, rfl, p, _, dx, _, _, rfl, W.same _ _ hobj, T.c_PutDeed, T.n_PutDeed_row, rfl, r, _, _, _, rfl, rfl, SqT.of (W.same _ _ hrow), rfl, c, F, m, d, gs, f, u, rfl, W, hfs, hgl, hu, (by omega), ?_, fun H1 kr n W1 hk B1 n0 n1 => ?_⟩
    · exact he.imp fun H' ⟨kr, a1, a2, a3⟩ => ⟨_, a1, rfl, (by show kr.length ≤ _; omega), (by show d.wv.length ≤ _; omega), (by show d.hv.length ≤ _; omega), f.ow, hfs⟩
    refine ⟨_, rfl, _, rfl, p, _, dx, _, _, rfl, W1.same _ _ hobj, T.c_PutDeed, T.n_PutDeed_row, rfl, r, _, _, _, rfl, rfl, SqT.of (W1.same _ _ hrow), rfl, c, F, m, { d with kr := kr }, gs, f, v, rfl, W1, hfs, hgl, hv, (by show kr.length + 2 ^ 3 ≤ 900; omega), ?_, fun H2 kr2 n2 W2 hk2 B2 n20 n21 => ?_⟩
    · exact he.imp fun H' ⟨kr2, a1, a2, a3⟩ => ⟨_, a1, rfl, (by have a2 : kr2.length ≤ kr.length + 2 ^ 3 := a2; show kr2.length ≤ _; omega), (by show d.wv.length ≤ _; omega), (by show d.hv.length ≤ _; omega), f.ow, hfs⟩
    have hk2 : kr2.length ≤ kr.length + 2 ^ 3 := hk2
    refine ⟨_, rfl, m.w, m.dw, _, rfl, W2.obj, rfl, _, rfl, p, _, dx, _, _, rfl, W2.same _ _ hobj, T.c_PutDeed, T.n_PutDeed_row, rfl, r, _, _, _, rfl, rfl, SqT.of (W2.same _ _ hrow), rfl, c, F, m, _, l, rfl, W2, hl, (by show kr2.length ≤ 1000; omega), fun H3 kr3 t W3 hk3 B3 ht => ?_⟩
    have hk3 : kr3.length ≤ kr2.length + 1 := hk3
    obtain ⟨ns, h1, h2, h3⟩ := ht
    refine ⟨_, rfl, _, rfl, t, _, rfl, .inr (SqT.of h1), _, _, rfl, rfl, _, rfl, ite2 (fun _ => ?_) (fun hlt => ?_)⟩
    · exact ⟨2, rfl, fun dd H' s1 hd0 hd => he dd 2 H' ⟨_, W3.keep s1, rfl, (by show kr3.length ≤ _; omega), (by show d.wv.length ≤ _; omega), (by show d.hv.length ≤ _; omega), f.ow, hfs⟩ hd (by decide) (by decide)⟩
    · have hlt2 : n.toNat < ns.length := by
        have q : ¬ ((ns.map V.int).length : Int) ≤ n := fun z => hlt (decide_eq_true z)
        rw [List.length_map] at q
        omega
      refine ⟨_, rfl, m.w, m.dw, _, rfl, W3.obj, rfl, _, rfl, p, _, dx, _, _, rfl, W3.same _ _ hobj, T.c_PutDeed, T.n_PutDeed_row, rfl, r, _, _, _, rfl, rfl, SqT.of (W3.same _ _ hrow), rfl, _, rfl, _, rfl, _, rfl, t, _, rfl, h1, fun p1 H4 s4 hp1 => ⟨_, rfl, szn (by decide : 1 ≤ 1000), fun q hq => ?_⟩⟩
      have s5 := same_new (o := .tup [.int n2]) hq
      obtain ⟨ms, e1, e2, e3⟩ := cut_ints ns none (some n)
      obtain ⟨ks', e4, e5, e6⟩ := cut_ints ns (some (n + 1)) none
      have hl1 : (cutV (ns.map V.int) none (some n)).length ≤ n.toNat := by
        unfold cutV
        rw [HT.sIx_none, List.length_take, List.length_drop, List.length_map]
        have e : n = ((n.toNat : Nat) : Int) := by omega
        rw [e, HT.sIx_nat]
        omega
      have hl2 : (cutV (ns.map V.int) (some (n + 1)) none).length ≤ ns.length - (n.toNat + 1) := by
        unfold cutV
        rw [HT.sIx_none, List.length_take, List.length_drop, List.length_map]
        have e : n + 1 = ((n.toNat + 1 : Nat) : Int) := by omega
        rw [e, HT.sIx_nat]
        omega
      refine ⟨p1, q, _, _, rfl, rfl, s5 _ _ hp1, upd_same, (by rw [List.length_singleton, sizeLine_eq]; omega), fun p3 H5 s6 hp3 => ?_⟩
      refine ⟨_, rfl, _, rfl, _, _, rfl, rfl, _, rfl, t, _, rfl, s6 _ _ (s5 _ _ (s4 _ _ h1)), fun p4 H6 s7 hp4 => ?_⟩
      refine ⟨p3, p4, _, _, rfl, rfl, s7 _ _ hp3, hp4, (by rw [List.length_append, List.length_singleton, sizeLine_eq]; omega), fun p5 H7 s8 hp5 => ?_⟩
      have z := (((s4.trans s5).trans s6).trans s7).trans s8
      have W4 := W3.keep z
      rw [e1] at hl1 hp5
      rw [e4] at hl2 hp5
      rw [List.length_map] at hl1 hl2
      refine ⟨c, F, m, _, l, p5, rfl, M.ok, W4, hl, ⟨ms ++ [n2] ++ ks', (by rw [List.map_append, List.map_append]; exact hp5), (by simp only [List.length_append, List.length_singleton]; omega), fun y hy => ?_⟩, (by show d.wv.length ≤ 1000; omega), fun H8 kl wv W8 hw8 t8 => ?_⟩
      · rcases List.mem_append.mp hy with hy | hy
        · rcases List.mem_append.mp hy with hy | hy
          · exact h3 y (e3 y hy)
          · have e : y = n2 := by simpa using hy
            rw [e]
            exact ⟨n20, n21⟩
        · exact h3 y (e6 y hy)
      · exact k H8 _ W8 ⟨rfl, (by show kr3.length ≤ _; omega), (by have hw8 : wv.length ≤ d.wv.length + 1 := hw8; show wv.length ≤ _; omega), (by show d.hv.length ≤ _; omega), f.ow, hfs⟩
theorem ok_change_tell (T : Txt K mg) : OkC P w K mg base (L2.CX P w) 10 (He.ma K (He.ga K "TellDeed") "change") ["self", "work", "world"] (spChange K "tell") := by
  have G_reckoned := ok_reck (P := P) (w := w) (base := base) T 3
  refine okX T.f_TellDeed_change sc_TellDeed_change (fun fd F => F.bindsN fun _ _ _ _ _ _ us hl => match us, hl with | [_, _, _], _ => rfl) (fun vs H Q E h => ?_) (fun cdv A outer s H vs Q E hr h => ?_)
  · obtain ⟨c, F, m, d, gs, f, p, rfl, _⟩ := h
    rfl
  · obtain ⟨c, F, m, d, gs, f, p, rfl, M, W, hfs, hgl, hkr, hwv, hhv, hd, he, k⟩ := h
    obtain ⟨dx, a, r, xs, hobj, hrow, hpl, ⟨rest, rfl⟩, hask⟩ := hd (by decide)
    obtain ⟨v, rfl, hv⟩ := plain_tell hpl
    rw [scOf_L] at hv
    refine ⟨_, (pss_one
 (ps_expr (pe_bm PySem.F.plainAttrs_list PySem.F.slot_list_append PySem.F.type_list_append mt_append (pe_fld (pv 1) rfl) (pa_cons (ce_call G_reckoned (hr.mono (by omega)) T.g_reckoned T.p_reckoned (passes_call (takes_of rfl rfl rfl rfl) (fun _ _ _ _ h => h)) (pa_cons (pv 1) (pa_cons (pe_ix ix_tup (pe_fld (pv 0) rfl) pe_int (fun _ _ => rfl)) pa_nil))) pa_nil)))), ?_⟩
    refine ⟨_, rfl, m.w, _, m.dw, _, _, rfl, W.obj, T.c_Work, T.n_Work_heard, rfl, .inl ⟨rfl, _, SqL.of W.hd⟩, ?_⟩
    refine ⟨_, rfl, _, rfl, p, _, dx, _, _, rfl, W.same _ _ hobj, T.c_TellDeed, T.n_TellDeed_row, rfl, r, _, _, _, rfl, rfl, SqT.of (W.same _ _ hrow), rfl, c, F, m, d, gs, f, v, rfl, W, hfs, hgl, hv, (by omega), ?_, fun H1 kr n W1 hk B1 n0 n1 => ?_⟩
    · exact he.imp fun H' ⟨kr, a1, a2, a3⟩ => ⟨_, a1, rfl, (by show kr.length ≤ _; omega), (by show d.wv.length ≤ _; omega), (by show d.hv.length ≤ _; omega), f.ow, hfs⟩
    refine ⟨m.hd, _, _, rfl, rfl, W1.hd, (by show d.hv.length < _; rw [sizeLine_eq]; omega), ?_⟩
    exact k _ { d with kr := kr, hv := d.hv ++ [.int n] } (W1.setHd (hv := d.hv ++ [.int n])) ⟨rfl, (by show kr.length ≤ _; omega), (by show d.wv.length ≤ _; omega), (by show (d.hv ++ [V.int n]).length ≤ _; rw [List.length_append, List.length_singleton]; omega), f.ow, hfs⟩
theorem ok_change_fail (T : Txt K mg) : OkC P w K mg base (L2.CX P w) 10 (He.ma K (He.ga K "FailDeed") "change") ["self", "work", "world"] (spChange K "fail") := by
  have G_reckoned := ok_reck (P := P) (w := w) (base := base) T 3
  have G_Fault___init__ := ok_faultI (P := P) (w := w) (base := base) T
  refine okX T.f_FailDeed_change sc_FailDeed_change (fun fd F => F.bindsN fun _ _ _ _ _ _ us hl => match us, hl with | [_, _, _], _ => rfl) (fun vs H Q E h => ?_) (fun cdv A outer s H vs Q E hr h => ?_)
  · obtain ⟨c, F, m, d, gs, f, p, rfl, _⟩ := h
    rfl
  · obtain ⟨c, F, m, d, gs, f, p, rfl, M, W, hfs, hgl, hkr, hwv, hhv, hd, he, k⟩ := h
    obtain ⟨dx, a, r, xs, hobj, hrow, hpl, ⟨rest, rfl⟩, hask⟩ := hd (by decide)
    obtain ⟨v, rfl, hv⟩ := plain_fail hpl
    rw [scOf_L] at hv
    refine ⟨_, (pss_one
 (ps_raiseF rfl T G_Fault___init__ (hr.mono (by omega)) (takes_of rfl rfl rfl rfl) (pa_cons (ce_call G_reckoned (hr.mono (by omega)) T.g_reckoned T.p_reckoned (passes_call (takes_of rfl rfl rfl rfl) (fun _ _ _ _ h => h)) (pa_cons (pv 1) (pa_cons (pe_ix ix_tup (pe_fld (pv 0) rfl) pe_int (fun _ _ => rfl)) pa_nil))) pa_nil))), ?_⟩
    refine ⟨_, rfl, _, rfl, p, _, dx, _, _, rfl, W.same _ _ hobj, T.c_FailDeed, T.n_FailDeed_row, rfl, r, _, _, _, rfl, rfl, SqT.of (W.same _ _ hrow), rfl, c, F, m, d, gs, f, v, rfl, W, hfs, hgl, hv, (by omega), ?_, fun H1 kr n W1 hk B1 n0 n1 => ?_⟩
    · exact he.imp fun H' ⟨kr, a1, a2, a3⟩ => ⟨_, a1, rfl, (by show kr.length ≤ _; omega), (by show d.wv.length ≤ _; omega), (by show d.hv.length ≤ _; omega), f.ow, hfs⟩
    exact ⟨n, rfl, fun dd H' s1 hd0 hd => he dd n H' ⟨_, W1.keep s1, rfl, (by show kr.length ≤ _; omega), (by show d.wv.length ≤ _; omega), (by show d.hv.length ≤ _; omega), f.ow, hfs⟩ hd n0 n1⟩
end
end Rt
/-! ## W10 -/
set_option Elab.async false
set_option linter.all false
set_option maxRecDepth 100000
set_option maxHeartbeats 4000000
namespace Rt
open PySem PySem.Spec PyProof.Rows L2
open L2H (RoomH roomH_of)
section
variable {P : Program} {w : World} {K : PySem.W.Frag} {mg : Str → Option Value} {base : Heap}
theorem ok_change_ask (T : Txt K mg) : OkC P w K mg base (L2.CX P w) 10 (He.ma K (He.ga K "AskDeed") "change") ["self", "work", "world"] (spChange K "ask") := by
  have G_Work_set_box := (ok_set_box (P := P) (w := w) (base := base) T).ok
  refine okX T.f_AskDeed_change sc_AskDeed_change (fun fd F => F.bindsN fun _ _ _ _ _ _ us hl => match us, hl with | [_, _, _], _ => rfl) (fun vs H Q E h => ?_) (fun cdv A outer s H vs Q E hr h => ?_)
  · obtain ⟨c, F, m, d, gs, f, p, rfl, _⟩ := h
    rfl
  · obtain ⟨c, F, m, d, gs, f, p, rfl, M, W, hfs, hgl, hkr, hwv, hhv, hd, he, k⟩ := h
    obtain ⟨dx, a, r, xs, hobj, hrow, hpl, ⟨rest, rfl⟩, hask⟩ := hd (by decide)
    obtain ⟨x, door, rfl, hx⟩ := plain_ask hpl
    have hdoor : door ∈ c.ds := hask x door rfl
    refine ⟨_, (pss_cons
 (ps_set (i := 3) sc_AskDeed_change.nd rfl (by first | exact Or.inl rfl | exact Or.inr rfl) (pe_ix ix_tup (pe_fld (pv 0) rfl) pe_int (fun _ _ => rfl))) (pss_cons
 (ps_set (i := 4) sc_AskDeed_change.nd rfl (by first | exact Or.inl rfl | exact Or.inr rfl) (pe_dget2 (hu_of hr) (pv 2) (pv 3) (pe_tup pa_nil) ⟨rfl, rfl, rfl, rfl⟩)) (pss_cons
 (ps_set (i := 5) sc_AskDeed_change.nd rfl (by first | exact Or.inl rfl | exact Or.inr rfl) pe_int) (C8.pss_cut
 (ps_if (pt_cmpR op_lt (pe_dget (hu_of hr) (pe_fld (pv 1) rfl) (pv 3) (fun _ _ => rfl)) (pe_callB call_len_seq (by rfl) T.b_len (by decide +kernel) (pa_cons (pv 4) pa_nil)) (nomark _)) (pss_one
 (ps_set (i := 5) sc_AskDeed_change.nd rfl (by first | exact Or.inl rfl | exact Or.inr rfl) (pe_ix ix_tup (pv 4) (pe_dget (hu_of hr) (pe_fld (pv 1) rfl) (pv 3) (fun _ _ => rfl)) (fun _ _ => rfl)))) pss_nil) (pss_cons
 (ps_daug (hu_of hr) (pe_fld (pv 1) rfl) (pv 3) pe_int in_add (fun _ _ _ => rfl)) (pss_one
 (ps_expr (ce_meth G_Work_set_box (hr.mono (by omega)) (pv 1) T.c_Work T.m_Work_set_box pass0 (pa_cons (pe_ix ix_tup (pe_fld (pv 0) rfl) pe_int (fun _ _ => rfl)) (pa_cons (pv 5) pa_nil)))))))))), ?_⟩
    refine ⟨_, rfl, p, _, dx, _, _, rfl, W.same _ _ hobj, T.c_AskDeed, T.n_AskDeed_row, rfl, r, _, _, _, rfl, rfl, SqT.of (W.same _ _ hrow), rfl, ?_⟩
    refine ⟨_, rfl, c.g, rfl, .inl ⟨_, .inl (W.same _ _ M.gates)⟩, _, rfl, Nat.zero_le _, fun q hq => ?_⟩
    have s1 := same_new (o := .tup []) hq
    have W1 := W.keep s1
    have hq1 : upd H q (.tup []) q = some (.tup []) := upd_same
    generalize upd H q (.tup []) = H1 at s1 W1 hq1 ⊢
    refine ⟨_, DGet.k (k := ks door) (W1.same _ _ M.gates), ?_⟩
    obtain ⟨t, et, ns, ht, hn1, hn2⟩ : ∃ t, (valV c.gk (ks door)).getD (.ref q) = .ref t ∧ NumsAt H1 t := by
      cases hv : valV c.gk (ks door) with
      | none => exact ⟨q, rfl, [], hq1, Nat.zero_le _, fun n hn => by cases hn⟩
      | some v =>
        unfold valV at hv
        cases hf : c.gk.find? (fun kv => decide (kv.1 = ks door)) with
        | none =>
          rw [hf] at hv
          cases hv
        | some kv =>
          rw [hf] at hv
          obtain ⟨t, et, ht⟩ := M.gk kv (List.mem_of_find?_eq_some hf)
          have e : v = kv.2 := (Option.some.inj hv).symm
          exact ⟨t, by rw [e]; exact et, ht.tk (same_tk W1.same)⟩
    rw [et]
    obtain ⟨v, hcv, cn, rfl, hc0⟩ := W1.good.counts.get hdoor
    have hget : DGet H1 m.ct (kV (ks door)) (some (.int cn)) := by
      rw [← hcv]
      exact DGet.k (k := ks door) W1.ct
    refine ⟨fun σ H' => ∃ n : Int, σ = [some (.ref p), some (.ref m.w), some (.ref c.g), some (.str door), some (.ref t), some (.int n)] ∧ H1 = H' ∧ 0 ≤ n ∧ n < 1000000, ?_, ?_⟩
    · refine ⟨_, rfl, m.w, _, m.dw, _, _, rfl, W1.obj, T.c_Work, T.n_Work_counts, rfl, _, rfl, m.ct, _, rfl, hget, _, rfl, t, _, rfl, .inr (SqT.of ht), _, _, rfl, rfl, _, rfl, ite2 (fun hlt => ?_) (fun _ => ⟨0, rfl, rfl, by decide, by decide⟩)⟩
      have hlt2 : cn.toNat < ns.length := by
        have q := of_decide_eq_true hlt
        rw [List.length_map] at q
        omega
      have hm := hn2 _ (List.getElem_mem hlt2)
      exact ⟨_, rfl, _, rfl, m.w, _, m.dw, _, _, rfl, W1.obj, T.c_Work, T.n_Work_counts, rfl, _, rfl, m.ct, _, rfl, hget, t, _, _, _, rfl, rfl, SqT.of ht, at_k hc0 (by rw [List.getElem?_map, List.getElem?_eq_getElem hlt2]; rfl), _, rfl, rfl, hm.1, hm.2⟩
    · rintro σ H' ⟨n, rfl, rfl, n0, n1⟩
      have hlc := W1.good.counts.len
      have hd3 := doors_len M
      refine ⟨_, rfl, m.w, _, m.dw, _, _, rfl, W1.obj, T.c_Work, T.n_Work_counts, rfl, _, rfl, m.ct, _, rfl, hget, _, _, rfl, rfl, _, DPut.k (k := ks door) W1.ct (by rw [sizeLine_eq]; omega), ?_⟩
      have W2 := W1.setCt (kc := putK d.kc (ks door) (.int (cn + 1))) (W1.good.counts.put hdoor ⟨cn + 1, rfl, by omega⟩)
      refine ⟨_, rfl, m.w, m.dw, _, rfl, W2.obj, rfl, _, rfl, p, _, dx, _, _, rfl, W2.same _ _ hobj, T.c_AskDeed, T.n_AskDeed_row, rfl, r, _, _, _, rfl, rfl, SqT.of (W2.same _ _ hrow), rfl, _, rfl, c, F, m, _, gs, f, x, n, rfl, M.ok, W2, hfs, hgl, inB hx, n0, n1, (by show d.wv.length ≤ 1000; omega), fun H3 d3 W3 sb t3 => ?_⟩
      exact k H3 d3 W3 ⟨sb.word, by rw [sb.kr]; show d.kr.length ≤ _; omega, Nat.le_trans sb.wv (by show d.wv.length + 1 ≤ _; omega), by rw [sb.hv]; show d.hv.length ≤ _; omega, sb.fs⟩
end
end Rt
/-! ## W11 -/
set_option Elab.async false
set_option linter.all false
set_option maxRecDepth 100000
set_option maxHeartbeats 4000000
namespace Rt
open PySem PySem.Spec PyProof.Rows L2
open L2H (RoomH roomH_of)
/-! ### onward, do -/
/-- the deed at p is the one of a node of title t, of word w -/
def DoIn (K : PySem.W.Frag) (c : Mc) (F : Hp) (p : Addr) (w t : Str) : Prop := ∃ (j : Nat) (a : Addr) (dd : Nat), c.A[j]? = some a ∧ c.D[j]? = some (t, w, dd) ∧ DeedAt K F c.D a t w (.ref p)
def OnIn (K : PySem.W.Frag) (c : Mc) (F : Hp) (p : Addr) (w t : Str) : Prop := ((w = "while" ∨ w = "if") ∧ ∃ (dx a r : Addr) (cc oo : Int) (cond : V) (rest : List V), F p = some (.ins (He.ga K "ChooseDeed") dx (chooseF a r cc oo)) ∧ PtOk c.D t cc ∧ PtOk c.D t oo ∧ F r = some (.tup (.str w :: cond :: rest)) ∧ WVal (scOf c.I t).B c.I.L F 3 cond) ∨
  (w ≠ "while" ∧ w ≠ "if" ∧ ∃ (dx a r : Addr) (b : Int), F p = some (.ins (clsW K w) dx (deedF a r)) ∧ IsNode K F a r t b ∧ PtOk c.D t b)
def spOnw (K : PySem.W.Frag) (w : Str) : Sp := fun vs H Q E => ∃ (c : Mc) (F : Hp) (m : Wm) (d : Wd) (gs : List FrD) (f : FrD) (p : Addr), vs = [.ref p, .ref m.w] ∧ MachOk K c F ∧ WkOk K c F m d H ∧ d.fs = gs ++ [f] ∧ gs.length ≤ 100 ∧ d.kr.length ≤ 200 ∧ OnIn K c F p w f.t ∧
  FE K E (fun H' => ∃ kr, WkOk K c F m { d with kr := kr } H' ∧ kr.length ≤ d.kr.length + 8) ∧ ∀ H' kr n, WkOk K c F m { d with kr := kr } H' → kr.length ≤ d.kr.length + 8 → PtOk c.D f.t n → Q (.int n) H'
/-- what stands at a node -/
theorem DoIn.node {K : PySem.W.Frag} {c : Mc} {F : Hp} {p : Addr} {w t : Str} (M : MachOk K c F) (h : DoIn K c F p w t) : ∃ (a r : Addr) (b : Int), IsNode K F a r t b ∧ PtOk c.D t b ∧ RowAt c.I F t w r ∧
    (((w = "while" ∨ w = "if") ∧ ∃ (dx : Addr) (cc oo : Int), F p = some (.ins (He.ga K "ChooseDeed") dx (chooseF a r cc oo)) ∧ PtOk c.D t cc ∧ PtOk c.D t oo) ∨ (w ≠ "while" ∧ w ≠ "if" ∧ ∃ dx, F p = some (.ins (clsW K w) dx (deedF a r)))) := by
  obtain ⟨j, a, dd, hA, hD, p', dx, r, b, e, ⟨dn, i, fl, sl, en, g, hx⟩, hd⟩ := h
  cases e
  obtain ⟨dx2, r2, fl2, sl2, e2, b2, g2, hx2, hrow, _, _, _, _, _, hb, _⟩ := M.lay.lay.nodes j a _ hA hD
  rw [hx] at hx2
  injection hx2 with hx2
  injection hx2 with _ _ hx2
  unfold nodeF at hx2
  simp only [List.cons.injEq, Prod.mk.injEq, V.ref.injEq, V.int.injEq, and_true, true_and] at hx2
  obtain ⟨_, er, _, _, _, eb, _⟩ := hx2
  refine ⟨a, r, b, ⟨dn, i, fl, sl, en, g, hx⟩, by rw [eb]; exact hb, by rw [er]; exact hrow, ?_⟩
  rcases hd with ⟨hw, cc, oo, h1, h2, h3⟩ | ⟨h1, h2, h3⟩
  · exact .inl ⟨hw, dx, cc, oo, h1, h2, h3⟩
  · exact .inr ⟨h1, h2, dx, h3⟩
theorem row_plain {I : PI} {F : Hp} {t w : Str} {r : Addr} (h : RowAt I F t w r) (hw : w ∈ plainW) : I.P r ∧ ∃ rest, F r = some (.tup (.str w :: rest)) ∧ Plain (scOf I t) F (.str w :: rest) := by
  obtain ⟨⟨rest, h1⟩, h2⟩ := h
  rcases h2 with ⟨e, _⟩ | ⟨hP, n, d, a, e, h⟩
  · rw [e] at hw
    exact absurd hw (by decide)
  · cases e
    refine ⟨hP, rest, h1, ?_⟩
    obtain ⟨e1, e2, e3, _⟩ := plain_ne hw
    rcases h with ⟨xs, g1, g2, g3⟩ | ⟨c', r1, r2, xs, ys, n1, n2, g1, _⟩ | ⟨c', r1, xs, n1, g1, _⟩ | ⟨x, r1, r2, xs, ys, n1, n2, g1, _⟩
    · cases HO.tup.inj (Option.some.inj (h1.symm.trans g1))
      exact g2
    · have e := HO.tup.inj (Option.some.inj (h1.symm.trans g1))
      injection e with e
      exact absurd e e1
    · have e := HO.tup.inj (Option.some.inj (h1.symm.trans g1))
      injection e with e
      exact absurd e e2
    · have e := HO.tup.inj (Option.some.inj (h1.symm.trans g1))
      injection e with e
      exact absurd e e3
theorem row_choose {I : PI} {F : Hp} {t w : Str} {r : Addr} (h : RowAt I F t w r) (hw : w = "while" ∨ w = "if") : ∃ cond rest, F r = some (.tup (.str w :: cond :: rest)) ∧ WVal (scOf I t).B (scOf I t).L F 3 cond := by
  obtain ⟨⟨rest, h1⟩, h2⟩ := h
  rcases h2 with ⟨e, _⟩ | ⟨hP, n, d, a, e, h⟩
  · rcases hw with hw | hw <;> rw [hw] at e <;> cases e
  · cases e
    rcases h with ⟨xs, g1, g2, g3⟩ | ⟨c', r1, r2, xs, ys, n1, n2, g1, hc, _⟩ | ⟨c', r1, xs, n1, g1, hc, _⟩ | ⟨x, r1, r2, xs, ys, n1, n2, g1, _⟩
    · obtain ⟨s, rest', rfl, hs⟩ := g2.head
      have e := HO.tup.inj (Option.some.inj (h1.symm.trans g1))
      injection e with e
      obtain ⟨e1, e2, _, _⟩ := plain_ne hs
      rcases hw with hw | hw <;> rw [hw] at e
      · exact absurd e.symm e2
      · exact absurd e.symm e1
    · have e := HO.tup.inj (Option.some.inj (h1.symm.trans g1))
      injection e with e er
      exact ⟨c', _, by rw [h1, er], hc⟩
    · have e := HO.tup.inj (Option.some.inj (h1.symm.trans g1))
      injection e with e er
      exact ⟨c', _, by rw [h1, er], hc⟩
    · have e := HO.tup.inj (Option.some.inj (h1.symm.trans g1))
      injection e with e er
      rcases hw with hw | hw <;> rw [hw] at e <;> cases e
theorem DoIn.on {K : PySem.W.Frag} {c : Mc} {F : Hp} {p : Addr} {w t : Str} (M : MachOk K c F) (h : DoIn K c F p w t) : OnIn K c F p w t := by
  obtain ⟨a, r, b, hn, hb, hrow, hd⟩ := h.node M
  rcases hd with ⟨hw, dx, cc, oo, h1, h2, h3⟩ | ⟨h1, h2, dx, h3⟩
  · obtain ⟨cond, rest, g1, g2⟩ := row_choose hrow hw
    rw [scOf_L] at g2
    exact .inl ⟨hw, dx, a, r, cc, oo, cond, rest, h1, h2, h3, g1, g2⟩
  · exact .inr ⟨h1, h2, dx, a, r, b, h3, hn, hb⟩
theorem DoIn.din {K : PySem.W.Frag} {c : Mc} {F : Hp} {p : Addr} {w t : Str} (M : MachOk K c F) (h : DoIn K c F p w t) (hw : w ∈ plainW) : ∃ dx a r xs, DIn K c F p dx a r w t xs := by
  obtain ⟨a, r, b, hn, hb, hrow, hd⟩ := h.node M
  obtain ⟨hP, rest, h1, h2⟩ := row_plain hrow hw
  rcases hd with ⟨hw2, _⟩ | ⟨_, _, dx, h3⟩
  · rcases hw2 with e | e <;> rw [e] at hw <;> exact absurd hw (by decide)
  · refine ⟨dx, a, r, _, h3, h1, h2, ⟨rest, rfl⟩, fun x d e => ?_⟩
    obtain ⟨xs, g1, g2⟩ := M.asks r hP
    rw [h1] at g1
    cases g1
    exact g2 x d e
section
variable {P : Program} {w : World} {K : PySem.W.Frag} {mg : Str → Option Value} {base : Heap}
theorem ok_onw0 (T : Txt K mg) {wd : Str} {C : Addr} (hC : clsW K wd = C) (hcl : Cls K C) (hno : NoAttr K C "node") (h1 : wd ≠ "while") (h2 : wd ≠ "if") : OkC P w K mg base (L2.CX P w) 11 (He.ma K (He.ga K "Deed") "onward") ["self", "work"] (spOnw K wd) := by
  refine OkC.mono (k := 1) ?_ (by decide)
  refine okX T.f_Deed_onward sc_Deed_onward (fun fd F => F.bindsN fun _ _ _ _ _ _ us hl => match us, hl with | [_, _], _ => rfl) (fun vs H Q E h => ?_) (fun cdv A outer s H vs Q E hr h => ?_)
  · obtain ⟨c, F, m, d, gs, f, p, rfl, _⟩ := h
    rfl
  · obtain ⟨c, F, m, d, gs, f, p, rfl, M, W, hfs, hgl, hkr, hon, he, k⟩ := h
    refine ⟨_, (pss_one
 (ps_ret (pe_fld (pe_fld (pv 0) rfl) rfl))), ?_⟩
    rcases hon with ⟨hw, _⟩ | ⟨_, _, dx, a, r, b, hp, ⟨dn, i, fl, sl, en, g, hx⟩, hb⟩
    · rcases hw with hw | hw
      · exact absurd hw h1
      · exact absurd hw h2
    · rw [hC] at hp
      exact ⟨_, rfl, p, _, dx, _, _, rfl, W.same _ _ hp, hcl, hno, rfl, a, _, dn, _, _, rfl, W.same _ _ hx, T.c_Node, T.n_Node_behind, rfl, k H d.kr b W (Nat.le_add_right _ _) hb⟩
theorem ok_onwC (T : Txt K mg) {wd : Str} (hw : wd = "while" ∨ wd = "if") : OkC P w K mg base (L2.CX P w) 11 (He.ma K (He.ga K "ChooseDeed") "onward") ["self", "work"] (spOnw K wd) := by
  have G_reckoned := ok_reck (P := P) (w := w) (base := base) T 3
  refine okX T.f_ChooseDeed_onward sc_ChooseDeed_onward (fun fd F => F.bindsN fun _ _ _ _ _ _ us hl => match us, hl with | [_, _], _ => rfl) (fun vs H Q E h => ?_) (fun cdv A outer s H vs Q E hr h => ?_)
  · obtain ⟨c, F, m, d, gs, f, p, rfl, _⟩ := h
    rfl
  · obtain ⟨c, F, m, d, gs, f, p, rfl, M, W, hfs, hgl, hkr, hon, he, k⟩ := h
    refine ⟨_, (pss_cons
 (ps_if (pt_cmpR op_eq (ce_call G_reckoned (hr.mono (by omega)) T.g_reckoned T.p_reckoned (passes_call (takes_of rfl rfl rfl rfl) (fun _ _ _ _ h => h)) (pa_cons (pv 1) (pa_cons (pe_ix ix_tup (pe_fld (pv 0) rfl) pe_int (fun _ _ => rfl)) pa_nil))) pe_int (nomark _)) (pss_one
 (ps_ret (pe_fld (pv 0) rfl))) pss_nil) (pss_one
 (ps_ret (pe_fld (pv 0) rfl)))), ?_⟩
    rcases hon with ⟨_, dx, a, r, cc, oo, cond, rest, hp, hcc, hoo, hr1, hcond⟩ | ⟨h1, h2, _⟩
    · refine ⟨_, rfl, _, rfl, p, _, dx, _, _, rfl, W.same _ _ hp, T.c_ChooseDeed, T.n_ChooseDeed_row, rfl, r, _, _, _, rfl, rfl, SqT.of (W.same _ _ hr1), at_k (by decide) rfl, c, F, m, d, gs, f, cond, rfl, W, hfs, hgl, hcond, (by omega), ?_, fun H1 kr n W1 hk B1 n0 n1 => ?_⟩
      · exact he.imp fun H' ⟨kr, a1, a2, a3⟩ => ⟨kr, a1, a2⟩
      · refine ⟨rfl, _, rfl, ite2 (fun _ => ?_) (fun _ => ?_)⟩
        · exact ⟨_, rfl, p, _, dx, _, _, rfl, W1.same _ _ hp, T.c_ChooseDeed, T.n_ChooseDeed_otherwise, rfl, k H1 kr oo W1 hk hoo⟩
        · exact ⟨_, rfl, p, _, dx, _, _, rfl, W1.same _ _ hp, T.c_ChooseDeed, T.n_ChooseDeed_chosen, rfl, k H1 kr cc W1 hk hcc⟩
    · rcases hw with hw | hw
      · exact absurd hw h1
      · exact absurd hw h2
end
end Rt
/-! ## W12 -/
set_option Elab.async false
set_option linter.all false
set_option maxRecDepth 100000
set_option maxHeartbeats 4000000
namespace Rt
open PySem PySem.Spec PyProof.Rows L2
open L2H (RoomH roomH_of)
def nw0 : List Str := ["set", "push", "pop", "put", "ask", "tell", "fail", "while", "if", "try"]
def cw (K : PySem.W.Frag) (w : Str) : Addr := if w = "while" ∨ w = "if" then He.ga K "ChooseDeed" else clsW K w
def TitlesOk (c : Mc) (fs : List FrD) : Prop := ∀ (i : Nat) (f : FrD), fs[i]? = some f → (i = 0 → f.t = "") ∧ (0 < i → f.t ∈ c.I.fs.map Prod.fst)
structure FrsOk (c : Mc) (gs : List FrD) (f : FrD) : Prop where
  callers : ∀ g ∈ gs, ∃ (j dd : Nat), g.p = (j : Int) ∧ c.D[j]? = some (g.t, ("call" : Str), dd)
  pt : PtOk c.D f.t f.p
  few : gs.length ≤ 7
  titles : TitlesOk c (gs ++ [f])
structure DoEnd (c : Mc) (d d' : Wd) : Prop where
  word : d'.word = d.word
  kr : d'.kr.length ≤ 50
  wv : d'.wv.length ≤ 50
  hv : d'.hv.length ≤ d.hv.length + 1
  fs : ∃ gs f, d'.fs = gs ++ [f] ∧ FrsOk c gs f
structure DoExc (d d' : Wd) (gs : List FrD) (f : FrD) : Prop where
  word : d'.word = d.word
  kr : d'.kr.length ≤ 50
  wv : d'.wv.length ≤ 50
  hv : d'.hv.length ≤ d.hv.length + 1
  fs : ∃ ow, d'.fs = gs ++ [{ f with ow := ow }]
def spDo (K : PySem.W.Frag) (w : Str) : Sp := fun vs H Q E => ∃ (c : Mc) (F : Hp) (m : Wm) (d : Wd) (gs : List FrD) (f : FrD) (p : Addr), vs = [.ref p, .ref m.w, .ref c.g] ∧ MachOk K c F ∧ WkOk K c F m d H ∧ d.fs = gs ++ [f] ∧ FrsOk c gs f ∧ d.kr.length ≤ 10 ∧ d.wv.length ≤ 10 ∧ d.hv.length ≤ 900 ∧ DoIn K c F p w f.t ∧
  (w = "call" → ∃ (j dd : Nat), f.p = (j : Int) ∧ c.D[j]? = some (f.t, ("call" : Str), dd)) ∧ (w = "def" → 0 < gs.length) ∧
  FE K E (fun H' => ∃ d', WkOk K c F m d' H' ∧ DoExc d d' gs f) ∧ ∀ H' d', WkOk K c F m d' H' → DoEnd c d d' → Q .non H'
theorem TitlesOk.sub {c : Mc} {gs : List FrD} {f : FrD} {ow : List (Key × V)} {p : Int} (h : TitlesOk c (gs ++ [f])) : TitlesOk c (gs ++ [{ f with ow := ow, p := p }]) := by
  intro i g hg
  by_cases hi : i < gs.length
  · rw [List.getElem?_append_left hi] at hg
    exact h i g (by rw [List.getElem?_append_left hi]; exact hg)
  · have hi2 : i = gs.length := by
      have := (List.getElem?_eq_some_iff.mp hg).1
      rw [List.length_append, List.length_singleton] at this
      omega
    subst hi2
    rw [List.getElem?_append_right (Nat.le_refl _), Nat.sub_self] at hg
    have e : { f with ow := ow, p := p } = g := by simpa using hg
    rw [← e]
    exact h gs.length f (by rw [List.getElem?_append_right (Nat.le_refl _), Nat.sub_self]; rfl)
section
variable {P : Program} {w : World} {K : PySem.W.Frag} {mg : Str → Option Value} {base : Heap}
def RChg (K : PySem.W.Frag) (C : Addr) (sp : Sp) : Prop := ∃ wd, wd ∈ nw0 ∧ C = cw K wd ∧ sp = spChange K wd
def ROnw (K : PySem.W.Frag) (C : Addr) (sp : Sp) : Prop := ∃ wd, wd ∈ nw0 ∧ C = cw K wd ∧ sp = spOnw K wd
theorem disp_change (T : Txt K mg) : Disp P w K mg base (L2.CX P w) 10 "change" ["self", "work", "world"] (RChg K) := by
  rintro C sp ⟨wd, hw, rfl, rfl⟩
  unfold nw0 at hw
  simp only [List.mem_cons, List.not_mem_nil, or_false] at hw
  rcases hw with rfl | rfl | rfl | rfl | rfl | rfl | rfl | rfl | rfl | rfl
  · exact ⟨T.c_SetDeed, _, T.m_SetDeed_change, ok_change_set T⟩
  · exact ⟨T.c_PushDeed, _, T.m_PushDeed_change, ok_change_push T⟩
  · exact ⟨T.c_PopDeed, _, T.m_PopDeed_change, ok_change_pop T⟩
  · exact ⟨T.c_PutDeed, _, T.m_PutDeed_change, ok_change_put T⟩
  · exact ⟨T.c_AskDeed, _, T.m_AskDeed_change, ok_change_ask T⟩
  · exact ⟨T.c_TellDeed, _, T.m_TellDeed_change, ok_change_tell T⟩
  · exact ⟨T.c_FailDeed, _, T.m_FailDeed_change, ok_change_fail T⟩
  · exact ⟨T.c_ChooseDeed, _, T.m_ChooseDeed_change, by rw [T.e_ChooseDeed_change]; exact (ok_change0 T).mono (by decide)⟩
  · exact ⟨T.c_ChooseDeed, _, T.m_ChooseDeed_change, by rw [T.e_ChooseDeed_change]; exact (ok_change0 T).mono (by decide)⟩
  · exact ⟨T.c_Deed, _, T.m_Deed_change, (ok_change0 T).mono (by decide)⟩
theorem disp_onward (T : Txt K mg) : Disp P w K mg base (L2.CX P w) 11 "onward" ["self", "work"] (ROnw K) := by
  rintro C sp ⟨wd, hw, rfl, rfl⟩
  unfold nw0 at hw
  simp only [List.mem_cons, List.not_mem_nil, or_false] at hw
  rcases hw with rfl | rfl | rfl | rfl | rfl | rfl | rfl | rfl | rfl | rfl
  · exact ⟨T.c_SetDeed, _, T.m_SetDeed_onward, by rw [T.e_SetDeed_onward]; exact ok_onw0 T rfl T.c_SetDeed T.n_SetDeed_node (by decide) (by decide)⟩
  · exact ⟨T.c_PushDeed, _, T.m_PushDeed_onward, by rw [T.e_PushDeed_onward]; exact ok_onw0 T rfl T.c_PushDeed T.n_PushDeed_node (by decide) (by decide)⟩
  · exact ⟨T.c_PopDeed, _, T.m_PopDeed_onward, by rw [T.e_PopDeed_onward]; exact ok_onw0 T rfl T.c_PopDeed T.n_PopDeed_node (by decide) (by decide)⟩
  · exact ⟨T.c_PutDeed, _, T.m_PutDeed_onward, by rw [T.e_PutDeed_onward]; exact ok_onw0 T rfl T.c_PutDeed T.n_PutDeed_node (by decide) (by decide)⟩
  · exact ⟨T.c_AskDeed, _, T.m_AskDeed_onward, by rw [T.e_AskDeed_onward]; exact ok_onw0 T rfl T.c_AskDeed T.n_AskDeed_node (by decide) (by decide)⟩
  · exact ⟨T.c_TellDeed, _, T.m_TellDeed_onward, by rw [T.e_TellDeed_onward]; exact ok_onw0 T rfl T.c_TellDeed T.n_TellDeed_node (by decide) (by decide)⟩
  · exact ⟨T.c_FailDeed, _, T.m_FailDeed_onward, by rw [T.e_FailDeed_onward]; exact ok_onw0 T rfl T.c_FailDeed T.n_FailDeed_node (by decide) (by decide)⟩
  · exact ⟨T.c_ChooseDeed, _, T.m_ChooseDeed_onward, ok_onwC T (.inl rfl)⟩
  · exact ⟨T.c_ChooseDeed, _, T.m_ChooseDeed_onward, ok_onwC T (.inr rfl)⟩
  · exact ⟨T.c_Deed, _, T.m_Deed_onward, ok_onw0 T rfl T.c_Deed T.n_Deed_node (by decide) (by decide)⟩
theorem DoIn.obj {c : Mc} {F : Hp} {p : Addr} {wd t : Str} (h : DoIn K c F p wd t) : ∃ dx fs, F p = some (.ins (cw K wd) dx fs) ∧ fs.lookup ("change" : Str) = none ∧ fs.lookup ("onward" : Str) = none ∧ fs.lookup ("do" : Str) = none ∧ fs.lookup ("kind" : Str) = none ∧ fs.lookup ("gives" : Str) = none := by
  obtain ⟨j, a, dd, hA, hD, p', dx, r, b, e, _, hd⟩ := h
  cases e
  unfold cw
  rcases hd with ⟨hw, cc, oo, h1, _⟩ | ⟨h1, h2, h3⟩
  · rw [if_pos hw]
    exact ⟨dx, _, h1, rfl, rfl, rfl, rfl, rfl⟩
  · rw [if_neg (fun z => z.elim h1 h2)]
    exact ⟨dx, _, h3, rfl, rfl, rfl, rfl, rfl⟩
theorem ok_do0 (T : Txt K mg) {wd : Str} (hwd : wd ∈ nw0) : OkC P w K mg base (L2.CX P w) 12 (He.ma K (He.ga K "Deed") "do") ["self", "work", "world"] (spDo K wd) := by
  have G_change := disp_change (P := P) (w := w) (base := base) T
  have G_onward := disp_onward (P := P) (w := w) (base := base) T
  have G_Work_top := (ok_top (P := P) (w := w) (base := base) T).ok
  refine okX T.f_Deed_do sc_Deed_do (fun fd F => F.bindsN fun _ _ _ _ _ _ us hl => match us, hl with | [_, _, _], _ => rfl) (fun vs H Q E h => ?_) (fun cdv A outer s H vs Q E hr h => ?_)
  · obtain ⟨c, F, m, d, gs, f, p, rfl, _⟩ := h
    rfl
  · obtain ⟨c, F, m, d, gs, f, p, rfl, M, W, hfs, hfr, hkr, hwv, hhv, hdo, _, _, he, k⟩ := h
    refine ⟨_, (pss_cons
 (ps_expr (ce_methD G_change (hr.mono (by omega)) (pv 0) (passes_call (takes_of rfl rfl rfl rfl) (fun _ _ _ _ h => h)) (pa_cons (pv 1) (pa_cons (pv 2) pa_nil)))) (pss_cons
 (ps_set (i := 3) sc_Deed_do.nd rfl (by first | exact Or.inl rfl | exact Or.inr rfl) (ce_meth0 G_Work_top (hr.mono (by omega)) (pv 1) T.c_Work T.m_Work_top pass0)) (pss_one
 (ps_fld (pv 3) (ce_methD G_onward (hr.mono (by omega)) (pv 0) (passes_call (takes_of rfl rfl rfl rfl) (fun _ _ _ _ h => h)) (pa_cons (pv 1) pa_nil)) rfl)))), ?_⟩
    obtain ⟨dx, fs, hp, lk1, lk2, _⟩ := hdo.obj
    have hfew := hfr.few
    refine ⟨_, rfl, _, _, p, dx, fs, ⟨wd, hwd, rfl, rfl⟩, rfl, W.same _ _ hp, lk1, _, rfl, _, rfl, c, F, m, d, gs, f, p, rfl, M, W, hfs, by omega, by omega, by omega, by omega, (fun hw => hdo.din M (by unfold doW at hw; unfold plainW; simp only [List.mem_cons, List.not_mem_nil, or_false] at hw ⊢; rcases hw with rfl | rfl | rfl | rfl | rfl | rfl | rfl <;> simp)), ?_, fun H1 d1 W1 ch => ?_⟩
    · exact he.imp fun H' ⟨d', a1, a2⟩ => ⟨d', a1, a2.word, by have := a2.kr; omega, by have := a2.wv; omega, a2.hv, a2.fs⟩
    obtain ⟨ow, hfs1⟩ := ch.fs
    have hk1 := ch.kr
    have hw1 := ch.wv
    have hf1 : { f with ow := ow } ∈ d1.fs := by
      rw [hfs1]
      simp
    refine ⟨_, rfl, m.w, m.dw, _, rfl, W1.obj, rfl, c, F, m, d1, gs, _, rfl, W1, hfs1, ?_⟩
    refine ⟨_, rfl, _, _, p, dx, fs, ⟨wd, hwd, rfl, rfl⟩, rfl, W1.same _ _ hp, lk2, _, rfl, c, F, m, d1, gs, _, p, rfl, M, W1, hfs1, by omega, by omega, hdo.on M, ?_, fun H2 kr n W2 hk hn => ?_⟩
    · exact he.imp fun H' ⟨kr, a1, a2⟩ => ⟨_, a1, ch.word, by show kr.length ≤ 50; omega, by show d1.wv.length ≤ 50; omega, ch.hv, ow, hfs1⟩
    refine ⟨_, rfl, f.fa, _, f.dx, _, rfl, W2.fa (f := { f with ow := ow }) hf1, T.c_Frame, T.n_Frame_point, few rfl, ?_⟩
    have W3 := W2.setPt (gs := gs) (f := { f with ow := ow }) (p := n) hfs1
    exact k _ _ W3 ⟨ch.word, by show kr.length ≤ 50; omega, by show d1.wv.length ≤ 50; omega, ch.hv, gs, _, rfl, hfr.callers, hn, hfr.few, hfr.titles.sub⟩
end
end Rt
/-! ## W13 -/
set_option Elab.async false
set_option linter.all false
set_option maxRecDepth 100000
set_option maxHeartbeats 4000000
namespace Rt
open PySem PySem.Spec PyProof.Rows L2
open L2H (RoomH roomH_of)
def spGives (K : PySem.W.Frag) (w : Str) : Sp := fun vs H Q E => ∃ (c : Mc) (F : Hp) (m : Wm) (d : Wd) (gs : List FrD) (f : FrD) (p : Addr), vs = [.ref p, .ref m.w] ∧ MachOk K c F ∧ WkOk K c F m d H ∧ d.fs = gs ++ [f] ∧ gs.length ≤ 100 ∧ d.kr.length ≤ 200 ∧ (w = "return" → ∃ dx a r xs, DIn K c F p dx a r w f.t xs) ∧
  FE K E (fun H' => ∃ kr, WkOk K c F m { d with kr := kr } H' ∧ kr.length ≤ d.kr.length + 8) ∧ ∀ H' kr n, WkOk K c F m { d with kr := kr } H' → kr.length ≤ d.kr.length + 8 → 0 ≤ n → n < 1000000 → Q (.int n) H'
theorem inside_title {I : PI} {t : Str} (h : (scOf I t).inside = true) : t ∈ I.fs.map Prod.fst := by
  unfold scOf at h
  cases q : I.fs.find? (fun f => f.1 == t) with
  | none =>
    rw [q] at h
    cases h
  | some f =>
    have e : (f.1 == t) = true := List.find?_some (p := fun f : Str × List Str × List Str => f.1 == t) q
    rw [← eq_of_beq e]
    exact List.mem_map_of_mem (List.mem_of_find?_eq_some q)
/-- the node at a caller's point -/
theorem call_node {K : PySem.W.Frag} {c : Mc} {F : Hp} {t : Str} {j dd : Nat} (M : MachOk K c F) (hD : c.D[j]? = some (t, ("call" : Str), dd)) : ∃ (a dn r fl sl : Addr) (e b g : Int) (x : Str) (rest : List V), c.A[j]? = some a ∧ F a = some (.ins (He.ga K "Node") dn (nodeF j r t fl sl e b g)) ∧ PtOk c.D t b ∧
    F r = some (.tup (.str "call" :: .str x :: rest)) ∧ x ∈ (scOf c.I t).B := by
  have hj : j < c.A.length := by
    rw [M.lay.lay.len]
    exact (List.getElem?_eq_some_iff.mp hD).1
  obtain ⟨dn, r, fl, sl, e, b, g, hx, hrow, _, _, _, _, _, hb, _⟩ := M.lay.lay.nodes j c.A[j] _ (List.getElem?_eq_getElem hj) hD
  obtain ⟨_, rest, h1, h2⟩ := row_plain hrow (show ("call" : Str) ∈ plainW by decide)
  obtain ⟨x, fn, a', vs, rfl, hx2, _⟩ := plain_call h2
  exact ⟨c.A[j], dn, r, fl, sl, e, b, g, x, _, List.getElem?_eq_getElem hj, hx, hb, h1, hx2⟩
theorem at_nat {A : List Addr} {j : Nat} {a : Addr} (h : A[j]? = some a) : atI (A.map V.ref) (j : Int) = some (.ref a) := by
  have hj := (List.getElem?_eq_some_iff.mp h).1
  unfold atI
  rw [List.length_map, ixN_nat hj]
  show (A.map V.ref)[j]? = _
  rw [List.getElem?_map, h]
  rfl
section
variable {P : Program} {w : World} {K : PySem.W.Frag} {mg : Str → Option Value} {base : Heap}
theorem ok_gives_ret (T : Txt K mg) : OkC P w K mg base (L2.CX P w) 10 (He.ma K (He.ga K "ReturnDeed") "gives") ["self", "work"] (spGives K "return") := by
  have G_reckoned := ok_reck (P := P) (w := w) (base := base) T 3
  refine okX T.f_ReturnDeed_gives sc_ReturnDeed_gives (fun fd F => F.bindsN fun _ _ _ _ _ _ us hl => match us, hl with | [_, _], _ => rfl) (fun vs H Q E h => ?_) (fun cdv A outer s H vs Q E hr h => ?_)
  · obtain ⟨c, F, m, d, gs, f, p, rfl, _⟩ := h
    rfl
  · obtain ⟨c, F, m, d, gs, f, p, rfl, M, W, hfs, hgl, hkr, hd, he, k⟩ := h
    obtain ⟨dx, a, r, xs, hobj, hrow, hpl, ⟨rest, rfl⟩, hask⟩ := hd rfl
    obtain ⟨v, rfl, hi, hv⟩ := plain_ret hpl
    rw [scOf_L] at hv
    refine ⟨_, (pss_one
 (ps_ret (ce_call G_reckoned (hr.mono (by omega)) T.g_reckoned T.p_reckoned (passes_call (takes_of rfl rfl rfl rfl) (fun _ _ _ _ h => h)) (pa_cons (pv 1) (pa_cons (pe_ix ix_tup (pe_fld (pv 0) rfl) pe_int (fun _ _ => rfl)) pa_nil))))), ?_⟩
    refine ⟨_, rfl, _, rfl, p, _, dx, _, _, rfl, W.same _ _ hobj, T.c_ReturnDeed, T.n_ReturnDeed_row, rfl, r, _, _, _, rfl, rfl, SqT.of (W.same _ _ hrow), rfl, c, F, m, d, gs, f, v, rfl, W, hfs, hgl, hv, (by omega), ?_, fun H1 kr n W1 hk B1 n0 n1 => k H1 kr n W1 hk n0 n1⟩
    exact he.imp fun H' ⟨kr, a1, a2, a3⟩ => ⟨kr, a1, a2⟩
theorem ok_gives_off (T : Txt K mg) : OkC P w K mg base (L2.CX P w) 10 (He.ma K (He.ga K "OffDeed") "gives") ["self", "work"] (spGives K "def") := by
  refine OkC.mono (k := 1) ?_ (by decide)
  refine okX T.f_OffDeed_gives sc_OffDeed_gives (fun fd F => F.bindsN fun _ _ _ _ _ _ us hl => match us, hl with | [_, _], _ => rfl) (fun vs H Q E h => ?_) (fun cdv A outer s H vs Q E hr h => ?_)
  · obtain ⟨c, F, m, d, gs, f, p, rfl, _⟩ := h
    rfl
  · obtain ⟨c, F, m, d, gs, f, p, rfl, M, W, hfs, hgl, hkr, hd, he, k⟩ := h
    refine ⟨_, (pss_one
 (ps_ret pe_int)), ?_⟩
    exact k H d.kr 0 W (Nat.le_add_right _ _) (by decide) (by decide)
def RGiv (K : PySem.W.Frag) (C : Addr) (sp : Sp) : Prop := ∃ wd : Str, (wd = "return" ∨ wd = "def") ∧ C = cw K wd ∧ sp = spGives K wd
theorem disp_gives (T : Txt K mg) : Disp P w K mg base (L2.CX P w) 10 "gives" ["self", "work"] (RGiv K) := by
  rintro C sp ⟨wd, hw, rfl, rfl⟩
  rcases hw with rfl | rfl
  · exact ⟨T.c_ReturnDeed, _, T.m_ReturnDeed_gives, ok_gives_ret T⟩
  · exact ⟨T.c_OffDeed, _, T.m_OffDeed_gives, ok_gives_off T⟩
theorem ok_do_ret (T : Txt K mg) {wd : Str} (hwd : wd = "return" ∨ wd = "def") : OkC P w K mg base (L2.CX P w) 12 (He.ma K (He.ga K "ReturnDeed") "do") ["self", "work", "world"] (spDo K wd) := by
  have G_gives := disp_gives (P := P) (w := w) (base := base) T
  have G_Work_top := (ok_top (P := P) (w := w) (base := base) T).ok
  have G_Work_set_box := (ok_set_box (P := P) (w := w) (base := base) T).ok
  refine okX T.f_ReturnDeed_do sc_ReturnDeed_do (fun fd F => F.bindsN fun _ _ _ _ _ _ us hl => match us, hl with | [_, _, _], _ => rfl) (fun vs H Q E h => ?_) (fun cdv A outer s H vs Q E hr h => ?_)
  · obtain ⟨c, F, m, d, gs, f, p, rfl, _⟩ := h
    rfl
  · obtain ⟨c, F, m, d, gs, f, p, rfl, M, W, hfs, hfr, hkr, hwv, hhv, hdo, _, hdef, he, k⟩ := h
    refine ⟨_, (pss_cons
 (ps_set (i := 3) sc_ReturnDeed_do.nd rfl (by first | exact Or.inl rfl | exact Or.inr rfl) (ce_methD G_gives (hr.mono (by omega)) (pv 0) (passes_call (takes_of rfl rfl rfl rfl) (fun _ _ _ _ h => h)) (pa_cons (pv 1) pa_nil))) (pss_cons
 (ps_expr (pe_bm0 PySem.F.plainAttrs_list PySem.F.slot_list_pop PySem.F.type_list_pop mt_pop (pe_fld (pv 1) rfl))) (pss_cons
 (ps_set (i := 4) sc_ReturnDeed_do.nd rfl (by first | exact Or.inl rfl | exact Or.inr rfl) (pe_ix ix_list (pe_fld (pe_fld (pv 1) rfl) rfl) (pe_fld (ce_meth0 G_Work_top (hr.mono (by omega)) (pv 1) T.c_Work T.m_Work_top pass0) rfl) (fun _ _ => rfl))) (pss_cons
 (ps_expr (ce_meth G_Work_set_box (hr.mono (by omega)) (pv 1) T.c_Work T.m_Work_set_box pass0 (pa_cons (pe_ix ix_tup (pe_fld (pv 4) rfl) pe_int (fun _ _ => rfl)) (pa_cons (pv 3) pa_nil)))) (pss_cons
 (ps_set (i := 5) sc_ReturnDeed_do.nd rfl (by first | exact Or.inl rfl | exact Or.inr rfl) (ce_meth0 G_Work_top (hr.mono (by omega)) (pv 1) T.c_Work T.m_Work_top pass0)) (pss_one
 (ps_fld (pv 5) (pe_fld (pv 4) rfl) rfl))))))), ?_⟩
    obtain ⟨dx, fs, hp, _, _, _, _, lk⟩ := hdo.obj
    have hfew := hfr.few
    have hdin : wd = "return" → ∃ dx a r xs, DIn K c F p dx a r wd f.t xs := fun e => hdo.din M (by rw [e]; decide)
    have hgs : 0 < gs.length := by
      rcases hwd with e | e
      · obtain ⟨dx', a, r, xs, q⟩ := hdin e
        obtain ⟨rest, hxs⟩ := q.hd
        have hpl := q.pl
        rw [hxs, e] at hpl
        obtain ⟨v, _, hi, _⟩ := plain_ret hpl
        have ht := inside_title hi
        cases gs with
        | cons g gs => exact Nat.zero_lt_succ _
        | nil =>
          have e1 := (hfr.titles 0 f rfl).1 rfl
          obtain ⟨g, hg, e2⟩ := List.mem_map.mp ht
          have := M.ok.tp g hg
          rw [e2, e1] at this
          cases this
      · exact hdef e
    obtain ⟨gs', g, rfl⟩ : ∃ gs' g, gs = gs' ++ [g] := by
      have hn : gs ≠ [] := fun z => by rw [z] at hgs; cases hgs
      exact ⟨gs.dropLast, gs.getLast hn, (List.dropLast_concat_getLast hn).symm⟩
    refine ⟨_, rfl, _, _, p, dx, fs, ⟨wd, hwd, rfl, rfl⟩, rfl, W.same _ _ hp, lk, _, rfl, c, F, m, d, gs' ++ [g], f, p, rfl, M, W, hfs, by omega, by omega, hdin, ?_, fun H1 kr n W1 hk n0 n1 => ?_⟩
    · exact he.imp fun H' ⟨kr, a1, a2⟩ => ⟨_, a1, rfl, by show kr.length ≤ 50; omega, by show d.wv.length ≤ 50; omega, by show d.hv.length ≤ _; omega, f.ow, hfs⟩
    -- the frame goes
    refine ⟨_, rfl, m.w, _, m.dw, _, _, rfl, W1.obj, T.c_Work, T.n_Work_frames, rfl, .inl ⟨rfl, _, SqL.of W1.fr⟩, m.fr, _, .ref f.fa, rfl, rfl, W1.fr, ?_, ?_⟩
    · show (d.fs.map fun f => V.ref f.fa)[(d.fs.map fun f => V.ref f.fa).length - 1]? = _
      rw [hfs, List.map_append, List.length_append]
      simp
    have W2 := W1.pop (gs := gs' ++ [g]) (f := f) hfs
    have ed : (d.fs.map fun f => V.ref f.fa).dropLast = ((gs' ++ [g]).map fun f => V.ref f.fa) := by
      rw [hfs, List.map_append (l₁ := gs' ++ [g])]
      exact List.dropLast_concat
    show tSeq _ _ _ _ (upd H1 m.fr (.lst (d.fs.map fun f => V.ref f.fa).dropLast))
    rw [ed]
    generalize upd H1 m.fr (.lst ((gs' ++ [g]).map fun f => V.ref f.fa)) = H2 at W2 ⊢
    -- the caller
    obtain ⟨j, dd, hgp, hgD⟩ := hfr.callers g (by simp)
    obtain ⟨a, dn, r, fl, sl, en, b, gd, x, rest, hA, hx, hb, hrow, hxB⟩ := call_node M hgD
    have hgm : g ∈ gs' ++ [g] := by simp
    refine ⟨_, rfl, m.w, _, m.dw, _, _, rfl, W2.obj, T.c_Work, T.n_Work_layout, rfl, c.lx, _, c.ldx, _, _, rfl, W2.same _ _ M.lay.obj, T.c_Layout, T.n_Layout_nodes, rfl, ?_⟩
    refine ⟨_, rfl, m.w, m.dw, _, rfl, W2.obj, rfl, c, F, m, _, gs', g, rfl, W2, rfl, g.fa, _, g.dx, _, _, rfl, W2.fa hgm, T.c_Frame, T.n_Frame_point, rfl, c.l, _, _, _, rfl, rfl, SqL.of (W2.same _ _ M.lay.lay.lst), (by rw [hgp]; exact at_nat hA), ?_⟩
    refine ⟨_, rfl, m.w, m.dw, _, rfl, W2.obj, rfl, _, rfl, a, _, dn, _, _, rfl, W2.same _ _ hx, T.c_Node, T.n_Node_row, rfl, r, _, _, _, rfl, rfl, SqT.of (W2.same _ _ hrow), at_k (by decide) rfl, _, rfl, c, F, m, _, gs', g, x, n, rfl, M.ok, W2, rfl, (by rw [List.length_append] at hfew; omega), inB hxB, n0, n1, (by show d.wv.length ≤ 1000; omega), fun H3 d3 W3 sb t3 => ?_⟩
    obtain ⟨ow, hfs3⟩ := sb.fs
    have hgm3 : { g with ow := ow } ∈ d3.fs := by
      rw [hfs3]
      simp
    refine ⟨_, rfl, m.w, m.dw, _, rfl, W3.obj, rfl, c, F, m, d3, gs', _, rfl, W3, hfs3, ?_⟩
    refine ⟨_, rfl, a, _, dn, _, _, rfl, W3.same _ _ hx, T.c_Node, T.n_Node_behind, rfl, _, rfl, g.fa, _, g.dx, _, rfl, W3.fa (f := { g with ow := ow }) hgm3, T.c_Frame, T.n_Frame_point, few rfl, ?_⟩
    have W4 := W3.setPt (gs := gs') (f := { g with ow := ow }) (p := b) hfs3
    refine k _ _ W4 ⟨sb.word, by show d3.kr.length ≤ 50; rw [sb.kr]; show kr.length ≤ 50; omega, by show d3.wv.length ≤ 50; have := sb.wv; have : d3.wv.length ≤ d.wv.length + 1 := this; omega, by show d3.hv.length ≤ _; rw [sb.hv]; show d.hv.length ≤ _; omega, gs', _, rfl, fun g' hg' => hfr.callers g' (List.mem_append_left _ hg'), hb, (by rw [List.length_append] at hfew; omega), ?_⟩
    have tt : TitlesOk c (gs' ++ [g]) := fun i f' hf' => hfr.titles i f' (get_app hf')
    exact tt.sub
end
end Rt
/-! ## W14 -/
set_option Elab.async false
set_option linter.all false
set_option maxRecDepth 100000
set_option maxHeartbeats 4000000
namespace Rt
open PySem PySem.Spec PyProof.Rows L2
open L2H (RoomH roomH_of)
/-- a new frame -/
theorem WkOk.push {K : PySem.W.Frag} {c : Mc} {F H H' : Hp} {m : Wm} {d : Wd} {f : FrD} (W : WkOk K c F m d H) (s : Same H H') (ha : H f.fa = none) (ho : H f.oa = none) (hne : f.fa ≠ f.oa) (ha' : H' f.fa = some (.ins (He.ga K "Frame") f.dx (frF f))) (ho' : H' f.oa = some (.dK f.ow)) (g : DAll NumV f.ow (namesOf c.I f.t)) :
    WkOk K c F m { d with fs := d.fs ++ [f] } (upd H' m.fr (.lst ((d.fs.map fun f => V.ref f.fa) ++ [.ref f.fa]))) := by
  have h1 := W.holds.grow s ha ha'
  have h2 := h1.push ho' (fun p hp z => by
    rcases List.mem_append.mp hp with hp | hp
    · have e := W.holds.at_ p hp
      rw [z, ho] at e
      cases e
    · have e : p = (f.fa, .ins (He.ga K "Frame") f.dx (frF f)) := by simpa using hp
      rw [e] at z
      exact hne z) (W.same.free ho)
  have h3 : Holds F H' ([(m.w, .ins (He.ga K "Work") m.dw (wkF c.lx m d.word)), (m.bx, .dK d.kb), (m.ls, .dK d.kl)] ++ (m.fr, .lst (d.fs.map fun f => V.ref f.fa)) :: ((m.ct, .dK d.kc) :: (m.hd, .lst d.hv) :: (m.rd, .dT d.kr) :: (m.wr, .lst d.wv) :: (d.fs ++ [f]).flatMap (frT K))) := by
    have e : wT K c.lx m d ++ [(f.fa, .ins (He.ga K "Frame") f.dx (frF f))] ++ [(f.oa, .dK f.ow)] = ([(m.w, .ins (He.ga K "Work") m.dw (wkF c.lx m d.word)), (m.bx, .dK d.kb), (m.ls, .dK d.kl)] ++ (m.fr, .lst (d.fs.map fun f => V.ref f.fa)) :: ((m.ct, .dK d.kc) :: (m.hd, .lst d.hv) :: (m.rd, .dT d.kr) :: (m.wr, .lst d.wv) :: (d.fs ++ [f]).flatMap (frT K))) := by
      unfold wT
      rw [List.flatMap_append]
      simp [frT]
    rw [← e]
    exact h2
  have h4 := h3.set (u := .lst ((d.fs.map fun f => V.ref f.fa) ++ [.ref f.fa]))
  refine ⟨?_, ?_⟩
  · have e2 : wT K c.lx m { d with fs := d.fs ++ [f] } = ([(m.w, .ins (He.ga K "Work") m.dw (wkF c.lx m d.word)), (m.bx, .dK d.kb), (m.ls, .dK d.kl)] ++ (m.fr, .lst ((d.fs.map fun f => V.ref f.fa) ++ [.ref f.fa])) :: ((m.ct, .dK d.kc) :: (m.hd, .lst d.hv) :: (m.rd, .dT d.kr) :: (m.wr, .lst d.wv) :: (d.fs ++ [f]).flatMap (frT K))) := by
      unfold wT
      rw [List.map_append]
      rfl
    rw [e2]
    exact h4
  · have t : Tk H (upd H' m.fr (.lst ((d.fs.map fun f => V.ref f.fa) ++ [.ref f.fa]))) := fun b zs e => by
      rw [upd_ne (ne_of e W.fr (by intro z; cases z))]
      exact s _ _ e
    have q := W.good.tk t
    refine ⟨q.boxes, q.lists, q.counts, q.reads, q.wrote, fun g' hg' => ?_⟩
    rcases List.mem_append.mp hg' with hg' | hg'
    · exact q.owns g' hg'
    · have e : g' = f := by simpa using hg'
      rw [e]
      exact g
/-- a list that is no part of the work changes -/
theorem WkOk.other {K : PySem.W.Frag} {c : Mc} {F H : Hp} {m : Wm} {d : Wd} {D : Addr} {o u : HO} (W : WkOk K c F m d H) (hD : D ∉ (wT K c.lx m d).map Prod.fst) (hF : F D = none) (h : H D = some u) (hn : ∀ xs, u ≠ .tup xs) : WkOk K c F m d (upd H D o) :=
  ⟨⟨W.holds.nd, fun p hp => by
    have hne : p.1 ≠ D := fun z => hD (z ▸ List.mem_map_of_mem hp)
    rw [upd_ne hne]
    exact W.holds.at_ p hp, W.holds.new, fun b v e => by
    have hne : b ≠ D := fun z => by rw [z, hF] at e; cases e
    rw [upd_ne hne]
    exact W.same _ _ e⟩, W.good.tk (W.tkU h hn)⟩
theorem WkOk.fresh {K : PySem.W.Frag} {c : Mc} {F H : Hp} {m : Wm} {d : Wd} {D : Addr} (W : WkOk K c F m d H) (hD : H D = none) : D ∉ (wT K c.lx m d).map Prod.fst ∧ F D = none := by
  refine ⟨fun hm => ?_, W.same.free hD⟩
  obtain ⟨p, hp, e⟩ := List.mem_map.mp hm
  have q := W.holds.at_ p hp
  rw [e, hD] at q
  cases q
section
variable {P : Program} {w : World} {K : PySem.W.Frag} {mg : Str → Option Value} {base : Heap}
theorem ok_do_call (T : Txt K mg) : OkC P w K mg base (L2.CX P w) 12 (He.ma K (He.ga K "CallDeed") "do") ["self", "work", "world"] (spDo K "call") := by
  obtain ⟨tM, hC_MOST_FRAMES⟩ := T.i_MOST_FRAMES
  have G_reckoned := ok_reck (P := P) (w := w) (base := base) T 3
  have G_Frame___init__ := ok_frame (P := P) (w := w) (base := base) T
  have G_Fault___init__ := ok_faultI (P := P) (w := w) (base := base) T
  refine okX T.f_CallDeed_do sc_CallDeed_do (fun fd F => F.bindsN fun _ _ _ _ _ _ us hl => match us, hl with | [_, _, _], _ => rfl) (fun vs H Q E h => ?_) (fun cdv A outer s H vs Q E hr h => ?_)
  · obtain ⟨c, F, m, d, gs, f, p, rfl, _⟩ := h
    rfl
  · obtain ⟨c, F, m, d, gs, f, p, rfl, M, W, hfs, hfr, hkr, hwv, hhv, hdo, hcp, _, he, k⟩ := h
    refine ⟨_, (pss_cons
 (ps_setLcX (i := 3) (takes_of rfl rfl rfl rfl) (own := [("value", 6)]) rfl sc_CallDeed_do.nd rfl rfl (sw_true rfl rfl rfl (by decide +kernel)) (pi_tup (pe_ix ix_tup (pe_fld (pv 0) rfl) pe_int (fun _ _ => rfl))) (blkOk_by (N := N_CallDeed_do) (sc := defScope s_CallDeed_do) (by decide +kernel)) (fun _ _ _ _ _ => (pg_name (i := 6) sc_CallDeed_do.nd rfl (by first | exact Or.inl rfl | exact Or.inr rfl))) (fun _ _ _ _ _ => pts_nil) (fun _ _ _ _ _ _ px => (ce_call G_reckoned (hr.mono (by omega)) T.g_reckoned T.p_reckoned px (pa_cons (pv 1) (pa_cons (pv 6) pa_nil))))) (pss_cons
 (ps_if (pt_cmpR op_ge (pe_callB call_len_seq (by rfl) T.b_len (by decide +kernel) (pa_cons (pe_fld (pv 1) rfl) pa_nil)) (pe_glob (v := .int 8) rfl hC_MOST_FRAMES ⟨_, rfl⟩) (nomark _)) (pss_one
 (ps_raiseF rfl T G_Fault___init__ (hr.mono (by omega)) (takes_of rfl rfl rfl rfl) (pa_cons pe_int pa_nil))) pss_nil) (pss_cons
 (ps_set (i := 4) sc_CallDeed_do.nd rfl (by first | exact Or.inl rfl | exact Or.inr rfl) (pe_dget (hu_of hr) (pe_fld (pe_fld (pv 1) rfl) rfl) (pe_ix ix_tup (pe_fld (pv 0) rfl) pe_int (fun _ _ => rfl)) (fun _ _ => rfl))) (pss_cons
 (ps_aug (i := 3) sc_CallDeed_do.nd rfl (by first | exact Or.inl rfl | exact Or.inr rfl) (pe_op op_rep (pe_lst (pa_cons pe_int pa_nil)) (pe_op op_sub (pe_callB call_len_seq (by rfl) T.b_len (by decide +kernel) (pa_cons (pe_fld (pv 4) rfl) pa_nil)) (pe_callB call_len_seq (by rfl) T.b_len (by decide +kernel) (pa_cons (pv 3) pa_nil)))) iop_ext) (pss_cons
 (ps_expr (pe_bm PySem.F.plainAttrs_list PySem.F.slot_list_append PySem.F.type_list_append mt_append (pe_fld (pv 1) rfl) (pa_cons (ce_make G_Frame___init__ (hr.mono (by omega)) T.k_Frame T.g_Frame pass0 (pa_cons (pe_ix ix_tup (pe_fld (pv 0) rfl) pe_int (fun _ _ => rfl)) (pa_cons (pe_fld (pv 4) rfl) (pa_cons (pv 3) (pa_cons (pe_fld (pv 4) rfl) pa_nil))))) pa_nil))) (pss_one
 (ps_for (passes_of rfl) rfl (pi_tup (pe_fld (pv 4) rfl)) (pg_name (i := 5) sc_CallDeed_do.nd rfl (by first | exact Or.inl rfl | exact Or.inr rfl)) (pss_one
 (ps_expr (pe_bm PySem.F.plainAttrs_list PySem.F.slot_list_append PySem.F.type_list_append mt_append (pe_fld (pv 1) rfl) (pa_cons (pe_tup (pa_cons pe_str (pa_cons (pe_op op_sub (pe_callB call_len_seq (by rfl) T.b_len (by decide +kernel) (pa_cons (pe_fld (pv 1) rfl) pa_nil)) pe_int) (pa_cons (pv 5) pa_nil)))) pa_nil))))))))))), ?_⟩
    obtain ⟨dx, a, r, xs, hobj, hrow, hpl, ⟨rest, rfl⟩, _⟩ := hdo.din M (by decide)
    obtain ⟨x, fn, va, vs, rfl, hx, hfn, hva, hvs⟩ := plain_call hpl
    rw [scOf_F] at hfn
    have hvl : vs.length ≤ 2 := M.ok.f2 _ hfn
    have hft : fn ∈ c.I.fs.map Prod.fst := by
      rw [← M.ok.f]
      exact List.mem_map_of_mem (f := Prod.fst) hfn
    have hfew := hfr.few
    refine ⟨_, rfl, p, _, dx, _, _, rfl, W.same _ _ hobj, T.c_CallDeed, T.n_CallDeed_row, rfl, r, _, _, _, rfl, rfl, SqT.of (W.same _ _ hrow), at_k (by decide) rfl, va, rfl, ⟨_, SqT.of (W.same _ _ hva)⟩, fun D hD => ?_⟩
    obtain ⟨hDk, hDF⟩ := W.fresh hD
    refine lc_tup (xs := vs) (fun i H' => ∃ kr, WkOk K c F m { d with kr := kr } H' ∧ kr.length ≤ d.kr.length + 8 * i ∧ ∃ ns : List Int, H' D = some (.lst (ns.map V.int)) ∧ ns.length = i ∧ ∀ n ∈ ns, 0 ≤ n ∧ n < 1000000) ?_ ?_ ?_ ?_
    · exact ⟨d.kr, W.keep (same_new hD), Nat.le_refl _, [], upd_same, rfl, fun n hn => by cases hn⟩
    · rintro i H' _ ⟨kr, W1, _⟩
      exact SqT.of (W1.same _ _ hva)
    · rintro i v H1 hv ⟨kr, W1, hk1, ns, hns, hnl, hnb⟩
      have hi : i < vs.length := (List.getElem?_eq_some_iff.mp hv).1
      have hwv2 := hvs v (List.mem_of_getElem? hv)
      rw [scOf_L] at hwv2
      refine ⟨rfl, tyes ?_⟩
      refine ⟨_, rfl, _, rfl, c, F, m, { d with kr := kr }, gs, f, v, rfl, W1, hfs, by omega, hwv2, (by show kr.length + 2 ^ 3 ≤ 900; omega), ?_, fun H2 kr2 n W2 hk2 B2 n0 n1 => ?_⟩
      · exact he.imp fun H' ⟨kr2, a1, a2, a3⟩ => ⟨_, a1, rfl, (by have a2 : kr2.length ≤ kr.length + 2 ^ 3 := a2; show kr2.length ≤ 50; omega), (by show d.wv.length ≤ 50; omega), (by show d.hv.length ≤ _; omega), f.ow, hfs⟩
      · have hk2 : kr2.length ≤ kr.length + 2 ^ 3 := hk2
        have d2 := B2 _ _ (ne_of hns W1.rd (by intro z; cases z)) hns
        refine ⟨_, d2, by rw [List.length_map, hnl, sizeLine_eq]; omega, kr2, W2.other hDk hDF d2 (fun _ z => by cases z), by omega, ns ++ [n], by rw [List.map_append]; exact upd_same, by rw [List.length_append, hnl]; rfl, fun u hu => ?_⟩
        rcases List.mem_append.mp hu with hu | hu
        · exact hnb u hu
        · have e : u = n := by simpa using hu
          rw [e]
          exact ⟨n0, n1⟩
    · rintro H1 ⟨kr, W1, hk1, ns, hns, hnl, hnb⟩
      refine ⟨_, rfl, m.w, _, m.dw, _, _, rfl, W1.obj, T.c_Work, T.n_Work_frames, rfl, m.fr, _, rfl, .inl (SqL.of W1.fr), _, _, rfl, rfl, _, rfl, ite2 (fun _ => ?_) (fun hlt => ?_)⟩
      · exact ⟨5, rfl, fun dd H' s1 hd0 hd => he dd 5 H' ⟨_, W1.keep s1, rfl, (by show kr.length ≤ 50; omega), (by show d.wv.length ≤ 50; omega), (by show d.hv.length ≤ _; omega), f.ow, hfs⟩ hd (by decide) (by decide)⟩
      have hfl : d.fs.length < 8 := by
        have q : ¬ (8 : Int) ≤ ((d.fs.map fun f => V.ref f.fa).length : Int) := fun z => hlt (decide_eq_true z)
        rw [List.length_map] at q
        omega
      obtain ⟨fp, dp, pa, nm, fj, fdd, en, hfv, hfp, hnm, hfD, hen⟩ := M.lay.fun M.ok hft
      have hn4 := names_nd M.ok fn
      refine ⟨_, rfl, m.w, _, m.dw, _, _, rfl, W1.obj, T.c_Work, T.n_Work_layout, rfl, c.lx, _, c.ldx, _, _, rfl, W1.same _ _ M.lay.obj, T.c_Layout, T.n_Layout_functions, rfl, _, rfl, p, _, dx, _, _, rfl, W1.same _ _ hobj, T.c_CallDeed, T.n_CallDeed_row, rfl, r, _, _, _, rfl, rfl, SqT.of (W1.same _ _ hrow), at_k (by decide) rfl, c.fd, _, rfl, (by rw [← hfv]; exact DGet.k (k := ks fn) (W1.same _ _ M.lay.dct)), ?_⟩
      -- numbers
      refine ⟨_, rfl, szn (by decide : 1 ≤ 1000), fun z hz => ?_⟩
      have s2 := same_new (o := .lst [.int 0]) hz
      have W2 := W1.keep s2
      refine ⟨_, rfl, fp, _, dp, _, _, rfl, W2.same _ _ hfp, T.c_Function, T.n_Function_names, rfl, nm, _, rfl, .inr (SqT.of (W2.same _ _ hnm)), _, rfl, D, _, rfl, .inl (SqL.of (s2 _ _ hns)), _, _, rfl, rfl, ?_⟩
      rw [List.length_map, List.length_map]
      refine ⟨z, _, _, rfl, rfl, upd_same, by omega, by omega, by rw [List.length_singleton, sizeLine_eq]; omega, fun y hy => ?_⟩
      generalize hkn : (((namesOf c.I fn).length : Int) - (ns.length : Int)).toNat = kn
      have ez : (List.replicate kn [V.int 0]).flatten = (List.replicate kn (0 : Int)).map V.int := by
        rw [List.map_replicate]
        clear hkn
        induction kn with
        | zero => rfl
        | succ n ih =>
          rw [List.replicate_succ, List.flatten_cons, ih, List.replicate_succ]
          rfl
      rw [ez]
      have s3 := same_new (o := .lst ((List.replicate kn (0 : Int)).map V.int)) hy
      have hns3 := s3 _ _ (s2 _ _ hns)
      refine ⟨D, y, _, _, rfl, rfl, hns3, upd_same, by rw [List.length_map, List.length_map, List.length_replicate, sizeLine_eq]; omega, ?_⟩
      rw [← List.map_append]
      have W3 := (W2.keep s3).other (o := .lst ((ns ++ List.replicate kn (0 : Int)).map V.int)) hDk hDF hns3 (fun _ z => by cases z)
      have hD3 : upd (upd (upd H1 z (.lst [.int 0])) y (.lst ((List.replicate kn (0 : Int)).map V.int))) D (.lst ((ns ++ List.replicate kn (0 : Int)).map V.int)) D = some (.lst ((ns ++ List.replicate kn (0 : Int)).map V.int)) := upd_same
      show tSeq _ _ _ _ (upd (upd (upd H1 z (.lst [.int 0])) y (.lst ((List.replicate kn (0 : Int)).map V.int))) D (.lst ((ns ++ List.replicate kn (0 : Int)).map V.int)))
      generalize upd (upd (upd H1 z (.lst [.int 0])) y (.lst ((List.replicate kn (0 : Int)).map V.int))) D (.lst ((ns ++ List.replicate kn (0 : Int)).map V.int)) = H3 at W3 hD3 ⊢
      have hnl2 : (ns ++ List.replicate kn (0 : Int)).length ≤ 6 := by
        rw [List.length_append, List.length_replicate]
        omega
      have hge : (namesOf c.I fn).length ≤ (ns ++ List.replicate kn (0 : Int)).length := by
        rw [List.length_append, List.length_replicate]
        omega
      have hnb2 : ∀ u ∈ (ns ++ List.replicate kn (0 : Int)).map V.int, NumV u := fun u hu => by
        obtain ⟨n, hn, rfl⟩ := List.mem_map.mp hu
        rcases List.mem_append.mp hn with hn | hn
        · exact ⟨n, rfl, hnb n hn⟩
        · have e := (List.mem_replicate.mp hn).2
          exact ⟨n, rfl, by omega, by omega⟩
      -- the frame
      refine ⟨_, rfl, m.w, _, m.dw, _, _, rfl, W3.obj, T.c_Work, T.n_Work_frames, rfl, .inl ⟨rfl, _, SqL.of W3.fr⟩, ?_⟩
      refine ⟨_, rfl, p, _, dx, _, _, rfl, W3.same _ _ hobj, T.c_CallDeed, T.n_CallDeed_row, rfl, r, _, _, _, rfl, rfl, SqT.of (W3.same _ _ hrow), at_k (by decide) rfl, ?_⟩
      refine ⟨_, rfl, fp, _, dp, _, _, rfl, W3.same _ _ hfp, T.c_Function, T.n_Function_names, rfl, _, rfl, _, rfl, fp, _, dp, _, _, rfl, W3.same _ _ hfp, T.c_Function, T.n_Function_entry, rfl, fun y2 dy hy2 hdy hyd => ?_⟩
      have sm : Same H3 (upd (upd H3 dy (.own y2)) y2 (.ins (He.ga K "Frame") dy [])) := fun b o e => by
        rw [upd_ne (fun z => by rw [z, hy2] at e; cases e), upd_ne (fun z => by rw [z, hdy] at e; cases e)]
        exact e
      refine ⟨y2, dy, nm, D, fn, en, namesOf c.I fn, _, rfl, upd_same, sm _ _ (W3.same _ _ hnm), .inl (sm _ _ hD3), hn4.1, by rw [List.length_map]; exact hge, by rw [List.length_map]; omega, hnb2, fun H4 oa ow B4 hoa0 hy4 hoa how => ⟨rfl, ?_⟩⟩
      have s4 : Same H3 H4 := fun b o e => B4 b o (fun z => by rw [z, hy2] at e; cases e) (sm _ _ e)
      have hne : y2 ≠ oa := fun z => by rw [← z, upd_same] at hoa0; cases hoa0
      have W4 := (W3.keep s4)
      refine ⟨m.fr, _, _, rfl, rfl, W4.fr, (by show (d.fs.map fun f => V.ref f.fa).length < _; rw [List.length_map, sizeLine_eq]; omega), ?_⟩
      have W5 := W3.push (f := ⟨y2, dy, oa, fn, en, ow⟩) s4 hy2 (sm.free hoa0) hne hy4 hoa how
      -- what it wrote
      refine ⟨_, rfl, fp, _, dp, _, _, rfl, W5.same _ _ hfp, T.c_Function, T.n_Function_names, rfl, nm, rfl, ⟨_, SqT.of (W5.same _ _ hnm)⟩, for_tup (xs := (namesOf c.I fn).map V.str) (fun i σ H' => ∃ (o5 o6 : Option V) (wv : List V), σ = [some (.ref p), some (.ref m.w), some (.ref c.g), some (.ref D), some (.ref fp), o5, o6] ∧ WkOk K c F m { d with kr := kr, fs := d.fs ++ [⟨y2, dy, oa, fn, en, ow⟩], wv := wv } H' ∧ wv.length ≤ d.wv.length + i) ?_ ?_ ?_ ?_⟩
      · exact ⟨_, _, d.wv, rfl, W5, Nat.le_refl _⟩
      · rintro i σ H' _ ⟨o5, o6, wv, rfl, W6, _⟩
        exact SqT.of (W6.same _ _ hnm)
      · rintro i v σ H6 hv ⟨o5, o6, wv, rfl, W6, hwl⟩
        have hi : i < (namesOf c.I fn).length := by
          have := (List.getElem?_eq_some_iff.mp hv).1
          rw [List.length_map] at this
          exact this
        rw [List.getElem?_map] at hv
        obtain ⟨nmx, enm, rfl⟩ := Option.map_eq_some_iff.mp hv
        refine ⟨_, rfl, m.w, _, m.dw, _, _, rfl, W6.obj, T.c_Work, T.n_Work_wrote, rfl, .inl ⟨rfl, _, SqL.of W6.wr⟩, ?_⟩
        refine ⟨_, rfl, m.w, _, m.dw, _, _, rfl, W6.obj, T.c_Work, T.n_Work_frames, rfl, m.fr, _, rfl, .inl (SqL.of W6.fr), _, _, rfl, rfl, _, rfl, szn (by decide : 3 ≤ 1000), fun q hq => ?_⟩
        refine ⟨m.wr, _, _, rfl, rfl, (W6.keep (same_new hq)).wr, (by show wv.length < _; rw [sizeLine_eq]; omega), ?_⟩
        refine ⟨_, _, wv ++ [.ref q], rfl, (W6.keep (same_new hq)).setWr (fun u hu => ?_), by rw [List.length_append, List.length_singleton]; omega⟩
        rcases List.mem_append.mp hu with hu | hu
        · exact (W6.keep (same_new hq)).good.wrote u hu
        · have e : u = .ref q := by simpa using hu
          rw [e]
          exact ⟨q, [ks "own", ki _, ks nmx], rfl, upd_same, .inr (.inr ⟨_, nmx, rfl⟩)⟩
      · rintro σ H6 ⟨o5, o6, wv, rfl, W6, hwl⟩
        rw [List.length_map] at hwl
        refine k H6 _ W6 ⟨rfl, (by show kr.length ≤ 50; omega), (by show wv.length ≤ 50; omega), (by show d.hv.length ≤ _; omega), gs ++ [f], ⟨y2, dy, oa, fn, en, ow⟩, (by show d.fs ++ _ = _; rw [hfs]), fun g hg => ?_, hen, (by rw [hfs] at hfl; rw [List.length_append, List.length_singleton] at hfl ⊢; omega), fun i g hg => ?_⟩
        · rcases List.mem_append.mp hg with hg | hg
          · exact hfr.callers g hg
          · have e : g = f := by simpa using hg
            rw [e]
            exact hcp rfl
        · by_cases hi : i < (gs ++ [f]).length
          · rw [List.getElem?_append_left hi] at hg
            exact hfr.titles i g hg
          · have hi2 : i = (gs ++ [f]).length := by
              have := (List.getElem?_eq_some_iff.mp hg).1
              rw [List.length_append, List.length_singleton] at this
              omega
            subst hi2
            rw [List.getElem?_append_right (Nat.le_refl _), Nat.sub_self] at hg
            have e : (⟨y2, dy, oa, fn, en, ow⟩ : FrD) = g := by simpa using hg
            rw [← e]
            refine ⟨fun z => ?_, fun _ => hft⟩
            rw [List.length_append, List.length_singleton] at z
            omega
end
end Rt
/-! ## W15 -/
set_option Elab.async false
set_option linter.all false
set_option maxRecDepth 100000
set_option maxHeartbeats 4000000
namespace Rt
open PySem PySem.Spec PyProof.Rows L2
open L2H (RoomH roomH_of)
/-- the frames that a state tells -/
structure FrL (c : Mc) (gs : List (Str × Int)) (l : Str × Int) (word : Str) : Prop where
  callers : ∀ g ∈ gs, ∃ (j dd : Nat), g.2 = (j : Int) ∧ c.D[j]? = some (g.1, ("call" : Str), dd)
  pt : PtOk c.D l.1 l.2
  few : gs.length ≤ 7
  titles : ∀ (i : Nat) (f : Str × Int), (gs ++ [l])[i]? = some f → (i = 0 → f.1 = "") ∧ (0 < i → f.1 ∈ c.I.fs.map Prod.fst)
  on : word = "on" → gs = [] → l.2 ≠ -1
def spFirst (K : PySem.W.Frag) : Sp := fun vs H Q _ => ∃ c : Mc, vs = [.ref c.x] ∧ MachOk K c H ∧ ∀ H' st word, Same H H' → StOk c H' st [("", c.e)] word 0 → FrL c [] ("", c.e) word → Q (.ref st) H'
def spNextRow (K : PySem.W.Frag) : Sp := fun vs H Q _ => ∃ (c : Mc) (st : Addr) (gs : List (Str × Int)) (l : Str × Int) (nh : Nat), vs = [.ref c.x, .ref st] ∧ MachOk K c H ∧ StOk c H st (gs ++ [l]) "on" nh ∧ FrL c gs l "on" ∧
  ∀ (j dd : Nat) (wd : Str), c.D[j]? = some (l.1, wd, dd) → (l.2 = (j : Int) ∨ wd = "def") → Q (.int (j : Int)) H
theorem fn_of_title {I : PI} {t : Str} (h : t ∈ I.fs.map Prod.fst) (ok : PI.Ok I) : t ≠ "" := fun e => by
  obtain ⟨f, hf, e2⟩ := List.mem_map.mp h
  have := ok.tp f hf
  rw [e2, e] at this
  cases this
theorem atI_end {xs : List V} {n : Nat} {v : V} (h : xs.length = n + 1) (e : xs[n]? = some v) : atI xs (-1) = some v := by
  have hn : xs ≠ [] := by
    intro z
    rw [z] at h
    cases h
  have e1 := (List.dropLast_concat_getLast hn).symm
  have e2 : xs.getLast hn = v := by
    rw [List.getLast_eq_getElem]
    have q := (List.getElem?_eq_some_iff.mp e).2
    simpa [h] using q
  rw [e1, e2]
  exact atI_last _ _
section
variable {P : Program} {w : World} {K : PySem.W.Frag} {mg : Str → Option Value} {base : Heap}
theorem ok_next_row (T : Txt K mg) : OkC P w K mg base CX0 1 (He.ma K (He.ga K "Machine") "next_row") ["self", "state"] (spNextRow K) := by
  refine okC T.f_Machine_next_row sc_Machine_next_row (fun fd F => F.bindsN fun _ _ _ _ _ _ us hl => match us, hl with | [_, _], _ => rfl) (fun vs H Q E h => ?_) (fun cdv A outer s H vs Q E hr h => ?_)
  · obtain ⟨c, st, gs, l, nh, rfl, _⟩ := h
    rfl
  · obtain ⟨c, st, gs, l, nh, rfl, M, S, L, k⟩ := h
    refine ⟨_, (pss_cons
 (ps_if (pt_cmpR op_ne (pe_ix ix_tup (pv 1) pe_int (fun _ _ => rfl)) pe_str (nomark _)) (pss_one
 (ps_ret (pe_un un_neg pe_int))) pss_nil) (pss_cons
 (ps_asg (pe_ix ix_tup (pe_ix ix_tup (pv 1) pe_int (fun _ _ => rfl)) (pe_un un_neg pe_int) (fun _ _ => rfl)) (pg_tup rfl (pgs_cons (pg_name (i := 2) sc_Machine_next_row.nd rfl (by first | exact Or.inl rfl | exact Or.inr rfl)) (pgs_cons (pg_name (i := 3) sc_Machine_next_row.nd rfl (by first | exact Or.inl rfl | exact Or.inr rfl)) (pgs_cons (pg_name (i := 4) sc_Machine_next_row.nd rfl (by first | exact Or.inl rfl | exact Or.inr rfl)) pgs_nil))))) (pss_cons
 (ps_if (pt_cmpR op_eq (pv 4) (pe_un un_neg pe_int) (nomark _)) (pss_one
 (ps_ret (pe_fld (pe_dget (hu_of hr) (pe_fld (pe_fld (pv 0) rfl) rfl) (pv 2) (fun _ _ => rfl)) rfl))) pss_nil) (pss_one
 (ps_ret (pv 4)))))), ?_⟩
    obtain ⟨bx, ls, fr, ct, hd, bs, ts, fvs, cs, hs, h1, h2, h3, h4, h5, h6, h7, h8, h9, h10, h11, h12, h13, h14⟩ := S.ex
    refine ⟨_, rfl, st, _, _, _, rfl, rfl, SqT.of h1, rfl, rfl, _, rfl, ite2 (fun h => absurd h (by decide)) (fun _ => ?_)⟩
    have hfl := h9.len
    rw [List.length_append, List.length_singleton] at hfl
    have hlast : fvs[gs.length]? = some fvs[gs.length] := List.getElem?_eq_getElem (by omega)
    have hl0 : (gs ++ [l])[gs.length]? = some l := by rw [List.getElem?_append_right (Nat.le_refl _), Nat.sub_self]; rfl
    obtain ⟨p, nu, us, ep, hp, hnu, _⟩ := h9.get hl0 hlast
    have hat : atI fvs (-1) = some (.ref p) := atI_end hfl.symm (by rw [hlast, ep])
    refine ⟨_, rfl, st, _, _, _, rfl, rfl, SqT.of h1, rfl, _, rfl, fr, _, _, _, rfl, rfl, SqT.of h8, hat, ?_⟩
    refine ⟨p, _, rfl, SqT.of hp, rfl, _, _, rfl, _, _, rfl, _, _, rfl, rfl, ?_⟩
    refine ⟨_, rfl, _, rfl, rfl, _, rfl, ite2 (fun h => ?_) (fun h => ?_)⟩
    · have e : l.2 = -1 := by
        have z := of_decide_eq_true h
        injection z
      have hgs : gs ≠ [] := fun z => L.on rfl z e
      have ht : l.1 ∈ c.I.fs.map Prod.fst := (L.titles gs.length l hl0).2 (List.length_pos_iff.mpr hgs)
      obtain ⟨fp, dp, pa, nm, fj, fdd, en, hfv, hfp, hnm, hfD, hen⟩ := M.lay.fun M.ok ht
      exact ⟨_, rfl, c.x, _, c.dx, _, _, rfl, M.obj, T.c_Machine, T.n_Machine_layout, rfl, c.lx, _, c.ldx, _, _, rfl, M.lay.obj, T.c_Layout, T.n_Layout_functions, rfl, _, rfl, c.fd, _, rfl, (by rw [← hfv]; exact DGet.k (k := ks l.1) M.lay.dct), fp, _, dp, _, _, rfl, hfp, T.c_Function, T.n_Function_number, rfl, k fj fdd "def" hfD (.inr rfl)⟩
    · rcases L.pt with e | ⟨j, wd, dd, e, hD⟩
      · exact absurd (decide_eq_true (by rw [e])) h
      · refine ⟨_, rfl, ?_⟩
        rw [e]
        exact k j dd wd hD (.inl e)
theorem ok_first (T : Txt K mg) : OkC P w K mg base CX0 1 (He.ma K (He.ga K "Machine") "first") ["self"] (spFirst K) := by
  refine okC T.f_Machine_first sc_Machine_first (fun fd F => F.bindsN fun _ _ _ _ _ _ us hl => match us, hl with | [_], _ => rfl) (fun vs H Q E h => ?_) (fun cdv A outer s H vs Q E hr h => ?_)
  · obtain ⟨c, rfl, _⟩ := h
    rfl
  · obtain ⟨c, rfl, M, k⟩ := h
    refine ⟨_, (pss_cons
 (ps_set (i := 1) sc_Machine_first.nd rfl (by first | exact Or.inl rfl | exact Or.inr rfl) pe_str) (C8.pss_cut
 (ps_if (pt_cmpR op_eq (pe_fld (pe_fld (pv 0) rfl) rfl) (pe_un un_neg pe_int) (nomark _)) (pss_one
 (ps_set (i := 1) sc_Machine_first.nd rfl (by first | exact Or.inl rfl | exact Or.inr rfl) pe_str)) pss_nil) (pss_cons
 (ps_set (i := 2) sc_Machine_first.nd rfl (by first | exact Or.inl rfl | exact Or.inr rfl) (pe_callTy call_tuple_of (by rfl) T.b_tuple (by decide +kernel) (pa_cons (pe_lc (own := [("name", 5), ("number", 6)]) rfl sc_Machine_first.nd (pi_tup (pe_ix ix_tup (pe_fld (pv 0) rfl) pe_int (fun _ _ => rfl))) (blkOk_by (N := N_Machine_first) (sc := defScope s_Machine_first) (by decide +kernel)) (fun _ _ _ _ _ => (pg_tupK (K := K) (n := 2) (pgs_cons (pg_name (i := 5) sc_Machine_first.nd rfl (by first | exact Or.inl rfl | exact Or.inr rfl)) (pgs_cons (pg_name (i := 6) sc_Machine_first.nd rfl (by first | exact Or.inl rfl | exact Or.inr rfl)) pgs_nil)))) (fun _ _ _ _ _ => pts_nil) (fun _ _ _ _ _ => (pv 6))) pa_nil))) (pss_cons
 (ps_set (i := 3) sc_Machine_first.nd rfl (by first | exact Or.inl rfl | exact Or.inr rfl) (pe_callTy call_tuple_of (by rfl) T.b_tuple (by decide +kernel) (pa_cons (pe_lc (own := [("name", 5), ("things", 7)]) rfl sc_Machine_first.nd (pi_tup (pe_ix ix_tup (pe_fld (pv 0) rfl) pe_int (fun _ _ => rfl))) (blkOk_by (N := N_Machine_first) (sc := defScope s_Machine_first) (by decide +kernel)) (fun _ _ _ _ _ => (pg_tupK (K := K) (n := 2) (pgs_cons (pg_name (i := 5) sc_Machine_first.nd rfl (by first | exact Or.inl rfl | exact Or.inr rfl)) (pgs_cons (pg_name (i := 7) sc_Machine_first.nd rfl (by first | exact Or.inl rfl | exact Or.inr rfl)) pgs_nil)))) (fun _ _ _ _ _ => pts_nil) (fun _ _ _ _ _ => (pv 7))) pa_nil))) (pss_cons
 (ps_set (i := 4) sc_Machine_first.nd rfl (by first | exact Or.inl rfl | exact Or.inr rfl) (pe_tup (pa_cons (pe_tup (pa_cons pe_str (pa_cons (pe_tup pa_nil) (pa_cons (pe_fld (pe_fld (pv 0) rfl) rfl) pa_nil)))) pa_nil))) (pss_one
 (ps_ret (pe_tup (pa_cons (pv 2) (pa_cons (pv 3) (pa_cons (pv 4) (pa_cons (pe_callTy call_tuple_of (by rfl) T.b_tuple (by decide +kernel) (pa_cons (pe_lc (own := [("door", 8)]) rfl sc_Machine_first.nd (pi_list (pe_fld (pv 0) rfl)) (blkOk_by (N := N_Machine_first) (sc := defScope s_Machine_first) (by decide +kernel)) (fun _ _ _ _ _ => (pg_name (i := 8) sc_Machine_first.nd rfl (by first | exact Or.inl rfl | exact Or.inr rfl))) (fun _ _ _ _ _ => pts_nil) (fun _ _ _ _ _ => pe_int)) pa_nil)) (pa_cons (pe_tup pa_nil) (pa_cons (pv 1) pa_nil)))))))))))))), ?_⟩
    obtain ⟨pa, ta, fa, ra, ps, ths, us, n, g1, g2, g3, g4, g5, g6, g7, g8, g9⟩ := M.prog.ex
    refine ⟨fun σ H' => ∃ word : Str, σ = [some (.ref c.x), some (.str word), none, none, none, none, none, none, none] ∧ H = H' ∧ (word = "on" → c.e ≠ -1), ?_, ?_⟩
    · refine ⟨_, rfl, c.x, _, c.dx, _, _, rfl, M.obj, T.c_Machine, T.n_Machine_layout, rfl, c.lx, _, c.ldx, _, _, rfl, M.lay.obj, T.c_Layout, T.n_Layout_entry, rfl, _, rfl, rfl, _, rfl, ite2 (fun h => ?_) (fun h => ?_)⟩
      · exact ⟨_, rfl, rfl, fun z => by cases z⟩
      · exact ⟨_, rfl, rfl, fun _ z => h (decide_eq_true (by rw [z]))⟩
    rintro σ H' ⟨word, rfl, rfl, hon⟩
    -- boxes
    refine ⟨_, rfl, c.x, _, c.dx, _, _, rfl, M.obj, T.c_Machine, T.n_Machine_source, rfl, c.a, _, _, _, rfl, rfl, SqT.of g1, rfl, pa, rfl, ⟨_, SqT.of g2⟩, fun D hD => ?_⟩
    refine lc_tup (xs := ps) (fun i H' => (∀ b o, b ≠ D → H b = some o → H' b = some o) ∧ ∃ bs, H' D = some (.lst bs) ∧ bs.length = i ∧ ∀ v ∈ bs, NumV v) ?_ ?_ ?_ ?_
    · exact ⟨fun b o hb e => by rw [upd_ne hb]; exact e, [], upd_same, rfl, fun v hv => by cases hv⟩
    · rintro i H' _ ⟨kp, _⟩
      exact SqT.of (kp _ _ (fun z => by rw [← z] at hD; rw [g2] at hD; cases hD) g2)
    · rintro i v H' hv ⟨kp, bs, hDl, hbl, hbn⟩
      have hi : i < c.I.B.length := by rw [g3.len]; exact (List.getElem?_eq_some_iff.mp hv).1
      obtain ⟨p, nn, rfl, hp, hn0, hn1⟩ := g3.get (List.getElem?_eq_getElem hi) hv
      have hp' := kp _ _ (fun z => by rw [← z] at hD; rw [hp] at hD; cases hD) hp
      have hbl3 := M.ok.bl
      refine ⟨p, _, rfl, SqT.of hp', rfl, _, _, rfl, _, _, rfl, rfl, rfl, tyes ⟨_, rfl, bs, hDl, by rw [sizeLine_eq]; omega, fun b o hb e => ?_, bs ++ [.int nn], upd_same, by rw [List.length_append, hbl]; rfl, fun u hu => ?_⟩⟩
      · rw [upd_ne hb]
        exact kp _ _ hb e
      · rcases List.mem_append.mp hu with hu | hu
        · exact hbn u hu
        · have e : u = .int nn := by simpa using hu
          rw [e]
          exact ⟨nn, rfl, hn0, hn1⟩
    rintro H1 ⟨kp1, bs, hDl, hbl, hbn⟩
    have s1 : Same H H1 := fun b o e => kp1 b o (fun z => by rw [z, hD] at e; cases e) e
    refine ⟨D, _, rfl, .inl ⟨SqL.of hDl, fun bx hbx => ?_⟩⟩
    have s2 := s1.trans (same_new (o := .tup bs) hbx)
    have hbx2 : upd H1 bx (.tup bs) bx = some (.tup bs) := upd_same
    generalize upd H1 bx (.tup bs) = H2 at s2 hbx2 ⊢
    clear kp1 s1 hDl hbx hD
    -- lists
    refine ⟨_, rfl, c.x, _, c.dx, _, _, rfl, s2 _ _ M.obj, T.c_Machine, T.n_Machine_source, rfl, c.a, _, _, _, rfl, rfl, SqT.of (s2 _ _ g1), rfl, ta, rfl, ⟨_, SqT.of (s2 _ _ g4)⟩, fun D hD => ?_⟩
    refine lc_tup (xs := ths) (fun i H' => (∀ b o, b ≠ D → H2 b = some o → H' b = some o) ∧ ∃ ts, H' D = some (.lst ts) ∧ ts.length = i ∧ ∀ v ∈ ts, LstV H v) ?_ ?_ ?_ ?_
    · exact ⟨fun b o hb e => by rw [upd_ne hb]; exact e, [], upd_same, rfl, fun v hv => by cases hv⟩
    · rintro i H' _ ⟨kp, _⟩
      exact SqT.of (kp _ _ (fun z => by rw [← z] at hD; rw [s2 _ _ g4] at hD; cases hD) (s2 _ _ g4))
    · rintro i v H' hv ⟨kp, ts, hDl, htl, htn⟩
      have hi : i < c.I.L.length := by rw [g5.len]; exact (List.getElem?_eq_some_iff.mp hv).1
      obtain ⟨p, t, rfl, hp, ht⟩ := g5.get (List.getElem?_eq_getElem hi) hv
      have hp' := kp _ _ (fun z => by rw [← z] at hD; rw [s2 _ _ hp] at hD; cases hD) (s2 _ _ hp)
      have hll := M.ok.ll
      refine ⟨p, _, rfl, SqT.of hp', rfl, _, _, rfl, _, _, rfl, rfl, rfl, tyes ⟨_, rfl, ts, hDl, by rw [sizeLine_eq]; omega, fun b o hb e => ?_, ts ++ [.ref t], upd_same, by rw [List.length_append, htl]; rfl, fun u hu => ?_⟩⟩
      · rw [upd_ne hb]
        exact kp _ _ hb e
      · rcases List.mem_append.mp hu with hu | hu
        · exact htn u hu
        · have e : u = .ref t := by simpa using hu
          rw [e]
          exact ⟨t, rfl, ht⟩
    rintro H3 ⟨kp3, ts, hDl, htl, htn⟩
    have s3 : Same H2 H3 := fun b o e => kp3 b o (fun z => by rw [z, hD] at e; cases e) e
    refine ⟨D, _, rfl, .inl ⟨SqL.of hDl, fun ls hls => ?_⟩⟩
    have s4 := s3.trans (same_new (o := .tup ts) hls)
    have hls4 : upd H3 ls (.tup ts) ls = some (.tup ts) := upd_same
    generalize upd H3 ls (.tup ts) = H4 at s4 hls4 ⊢
    have s04 := s2.trans s4
    clear kp3 s3 hDl hls hD
    -- frames
    refine ⟨Nat.zero_le _, fun nu hnu => ?_⟩
    have s5 := same_new (o := .tup []) hnu
    refine ⟨_, rfl, c.x, _, c.dx, _, _, rfl, s5 _ _ (s04 _ _ M.obj), T.c_Machine, T.n_Machine_layout, rfl, c.lx, _, c.ldx, _, _, rfl, s5 _ _ (s04 _ _ M.lay.obj), T.c_Layout, T.n_Layout_entry, rfl, szn (by decide : 3 ≤ 1000), fun p hp => ⟨szn (by decide : 1 ≤ 1000), fun fr hfr => ?_⟩⟩
    have s6 := same_new (o := .tup [.str "", .ref nu, .int c.e]) hp
    have s7 := same_new (o := .tup [.ref p]) hfr
    have f1 := s7 _ _ (s6 _ _ (upd_same (H := H4) (a := nu) (o := .tup [])))
    have f2 := s7 _ _ (upd_same (H := upd H4 nu (.tup [])) (a := p) (o := .tup [.str "", .ref nu, .int c.e]))
    have f3 : upd (upd (upd H4 nu (.tup [])) p (.tup [.str "", .ref nu, .int c.e])) fr (.tup [.ref p]) fr = some (.tup [.ref p]) := upd_same
    have s8 := (s5.trans s6).trans s7
    generalize upd (upd (upd H4 nu (.tup [])) p (.tup [.str "", .ref nu, .int c.e])) fr (.tup [.ref p]) = H5 at f1 f2 f3 s8 ⊢
    have s05 := s04.trans s8
    refine ⟨_, rfl, _, rfl, _, rfl, _, rfl, c.x, _, c.dx, _, _, rfl, s05 _ _ M.obj, T.c_Machine, T.n_Machine_doors, rfl, c.dr, rfl, ⟨_, SqL.of (s05 _ _ M.doors)⟩, fun D hD => ?_⟩
    refine lc_list (xs := c.ds.map V.str) (fun i H' => (∀ b o, b ≠ D → H5 b = some o → H' b = some o) ∧ ∃ cs, H' D = some (.lst cs) ∧ cs.length = i ∧ ∀ v ∈ cs, CntV v) ?_ ?_ ?_ ?_
    · exact ⟨fun b o hb e => by rw [upd_ne hb]; exact e, [], upd_same, rfl, fun v hv => by cases hv⟩
    · rintro i H' _ ⟨kp, _⟩
      exact SqL.of (kp _ _ (fun z => by rw [← z] at hD; rw [s05 _ _ M.doors] at hD; cases hD) (s05 _ _ M.doors))
    · rintro i v H' hv ⟨kp, cs, hDl, hcl, hcn⟩
      have hi := (List.getElem?_eq_some_iff.mp hv).1
      rw [List.length_map] at hi
      have hd3 := doors_len M
      refine ⟨rfl, tyes ⟨cs, hDl, by rw [sizeLine_eq]; omega, fun b o hb e => ?_, cs ++ [.int 0], upd_same, by rw [List.length_append, hcl]; rfl, fun u hu => ?_⟩⟩
      · rw [upd_ne hb]
        exact kp _ _ hb e
      · rcases List.mem_append.mp hu with hu | hu
        · exact hcn u hu
        · have e : u = .int 0 := by simpa using hu
          rw [e]
          exact ⟨0, rfl, by decide⟩
    rintro H6 ⟨kp6, cs, hDl, hcl, hcn⟩
    rw [List.length_map] at hcl
    have s9 : Same H5 H6 := fun b o e => kp6 b o (fun z => by rw [z, hD] at e; cases e) e
    refine ⟨D, _, rfl, .inl ⟨SqL.of hDl, fun ct hct => ⟨Nat.zero_le _, fun hd hhd => ⟨_, rfl, szn (by decide : 6 ≤ 1000), fun st hst => ?_⟩⟩⟩⟩
    have n1 := same_new (o := .tup cs) hct
    have n2 := same_new (o := .tup []) hhd
    have n3 := same_new (o := .tup [.ref bx, .ref ls, .ref fr, .ref ct, .ref hd, .str word]) hst
    have z := ((s9.trans n1).trans n2).trans n3
    refine k _ st word (s05.trans z) ⟨⟨bx, ls, fr, ct, hd, bs, ts, [.ref p], cs, [], upd_same, z _ _ (s8 _ _ (s4 _ _ hbx2)), by rw [hbl, g3.len], hbn, z _ _ (s8 _ _ hls4), by rw [htl, g5.len], fun v hv => NumsAt.lstV (htn v hv) (same_tk (s05.trans z)), z _ _ f3, .cons ⟨p, nu, [], rfl, z _ _ f2, z _ _ f1, by rw [names_main M.ok]; rfl, fun u hu => by cases hu⟩ .nil, n3 _ _ (n2 _ _ upd_same), hcl, hcn, n3 _ _ upd_same, Nat.le_refl _⟩, fun f hf => ?_, by simp⟩ ⟨(fun g hg => by cases hg), M.lay.entry, Nat.zero_le _, fun i f hf => ?_, fun e _ => hon e⟩
    · have e : f = (("" : Str), c.e) := by simpa using hf
      rw [e]
      exact .inl rfl
    · have hi := (List.getElem?_eq_some_iff.mp hf).1
      have hi0 : i = 0 := by simpa using hi
      subst hi0
      have e : ((("" : Str), c.e) : Str × Int) = f := by simpa using hf
      rw [← e]
      exact ⟨fun _ => rfl, fun z => absurd z (Nat.lt_irrefl 0)⟩
end
end Rt
/-! ## W16 -/
set_option Elab.async false
set_option linter.all false
set_option maxRecDepth 100000
set_option maxHeartbeats 4000000
namespace Rt
open PySem PySem.Spec PyProof.Rows L2
open L2H (RoomH roomH_of)
def allW : List Str := ["set", "push", "pop", "put", "ask", "tell", "fail", "while", "if", "try", "call", "return", "def"]
def spKind : Sp := fun vs H Q _ => ∃ v, vs = [v] ∧ ∀ s : Str, Q (.str s) H
def RKind (K : PySem.W.Frag) (C : Addr) (sp : Sp) : Prop := ∃ wd, wd ∈ allW ∧ C = cw K wd ∧ sp = spKind
def RDo (K : PySem.W.Frag) (C : Addr) (sp : Sp) : Prop := ∃ wd, wd ∈ allW ∧ C = cw K wd ∧ sp = spDo K wd
section
variable {P : Program} {w : World} {K : PySem.W.Frag} {mg : Str → Option Value} {base : Heap}
theorem ok_kind0 (T : Txt K mg) : OkC P w K mg base CX0 1 (He.ma K (He.ga K "Deed") "kind") ["self"] spKind := by
  refine okC T.f_Deed_kind sc_Deed_kind (fun fd F => F.bindsN fun _ _ _ _ _ _ us hl => match us, hl with | [_], _ => rfl) (fun vs H Q E h => ?_) (fun cdv A outer s H vs Q E hr h => ?_)
  · obtain ⟨v, rfl, _⟩ := h
    rfl
  · obtain ⟨v, rfl, k⟩ := h
    exact ⟨_, (pss_one
 (ps_ret pe_str)), k _⟩
theorem ok_kindC (T : Txt K mg) : OkC P w K mg base CX0 1 (He.ma K (He.ga K "CallDeed") "kind") ["self"] spKind := by
  refine okC T.f_CallDeed_kind sc_CallDeed_kind (fun fd F => F.bindsN fun _ _ _ _ _ _ us hl => match us, hl with | [_], _ => rfl) (fun vs H Q E h => ?_) (fun cdv A outer s H vs Q E hr h => ?_)
  · obtain ⟨v, rfl, _⟩ := h
    rfl
  · obtain ⟨v, rfl, k⟩ := h
    exact ⟨_, (pss_one
 (ps_ret pe_str)), k _⟩
theorem ok_kindR (T : Txt K mg) : OkC P w K mg base CX0 1 (He.ma K (He.ga K "ReturnDeed") "kind") ["self"] spKind := by
  refine okC T.f_ReturnDeed_kind sc_ReturnDeed_kind (fun fd F => F.bindsN fun _ _ _ _ _ _ us hl => match us, hl with | [_], _ => rfl) (fun vs H Q E h => ?_) (fun cdv A outer s H vs Q E hr h => ?_)
  · obtain ⟨v, rfl, _⟩ := h
    rfl
  · obtain ⟨v, rfl, k⟩ := h
    exact ⟨_, (pss_one
 (ps_ret pe_str)), k _⟩
theorem ok_kindO (T : Txt K mg) : OkC P w K mg base CX0 1 (He.ma K (He.ga K "OffDeed") "kind") ["self"] spKind := by
  refine okC T.f_OffDeed_kind sc_OffDeed_kind (fun fd F => F.bindsN fun _ _ _ _ _ _ us hl => match us, hl with | [_], _ => rfl) (fun vs H Q E h => ?_) (fun cdv A outer s H vs Q E hr h => ?_)
  · obtain ⟨v, rfl, _⟩ := h
    rfl
  · obtain ⟨v, rfl, k⟩ := h
    exact ⟨_, (pss_one
 (ps_ret pe_str)), k _⟩
theorem disp_kind (T : Txt K mg) : Disp P w K mg base CX0 1 "kind" ["self"] (RKind K) := by
  rintro C sp ⟨wd, hw, rfl, rfl⟩
  unfold allW at hw
  simp only [List.mem_cons, List.not_mem_nil, or_false] at hw
  rcases hw with rfl | rfl | rfl | rfl | rfl | rfl | rfl | rfl | rfl | rfl | rfl | rfl | rfl
  · exact ⟨T.c_SetDeed, _, T.m_SetDeed_kind, by rw [T.e_SetDeed_kind]; exact ok_kind0 T⟩
  · exact ⟨T.c_PushDeed, _, T.m_PushDeed_kind, by rw [T.e_PushDeed_kind]; exact ok_kind0 T⟩
  · exact ⟨T.c_PopDeed, _, T.m_PopDeed_kind, by rw [T.e_PopDeed_kind]; exact ok_kind0 T⟩
  · exact ⟨T.c_PutDeed, _, T.m_PutDeed_kind, by rw [T.e_PutDeed_kind]; exact ok_kind0 T⟩
  · exact ⟨T.c_AskDeed, _, T.m_AskDeed_kind, by rw [T.e_AskDeed_kind]; exact ok_kind0 T⟩
  · exact ⟨T.c_TellDeed, _, T.m_TellDeed_kind, by rw [T.e_TellDeed_kind]; exact ok_kind0 T⟩
  · exact ⟨T.c_FailDeed, _, T.m_FailDeed_kind, by rw [T.e_FailDeed_kind]; exact ok_kind0 T⟩
  · exact ⟨T.c_ChooseDeed, _, T.m_ChooseDeed_kind, by rw [T.e_ChooseDeed_kind]; exact ok_kind0 T⟩
  · exact ⟨T.c_ChooseDeed, _, T.m_ChooseDeed_kind, by rw [T.e_ChooseDeed_kind]; exact ok_kind0 T⟩
  · exact ⟨T.c_Deed, _, T.m_Deed_kind, ok_kind0 T⟩
  · exact ⟨T.c_CallDeed, _, T.m_CallDeed_kind, ok_kindC T⟩
  · exact ⟨T.c_ReturnDeed, _, T.m_ReturnDeed_kind, ok_kindR T⟩
  · exact ⟨T.c_OffDeed, _, T.m_OffDeed_kind, ok_kindO T⟩
theorem disp_do (T : Txt K mg) : Disp P w K mg base (L2.CX P w) 12 "do" ["self", "work", "world"] (RDo K) := by
  rintro C sp ⟨wd, hw, rfl, rfl⟩
  unfold allW at hw
  simp only [List.mem_cons, List.not_mem_nil, or_false] at hw
  rcases hw with rfl | rfl | rfl | rfl | rfl | rfl | rfl | rfl | rfl | rfl | rfl | rfl | rfl
  · exact ⟨T.c_SetDeed, _, T.m_SetDeed_do, by rw [T.e_SetDeed_do]; exact ok_do0 T (by decide)⟩
  · exact ⟨T.c_PushDeed, _, T.m_PushDeed_do, by rw [T.e_PushDeed_do]; exact ok_do0 T (by decide)⟩
  · exact ⟨T.c_PopDeed, _, T.m_PopDeed_do, by rw [T.e_PopDeed_do]; exact ok_do0 T (by decide)⟩
  · exact ⟨T.c_PutDeed, _, T.m_PutDeed_do, by rw [T.e_PutDeed_do]; exact ok_do0 T (by decide)⟩
  · exact ⟨T.c_AskDeed, _, T.m_AskDeed_do, by rw [T.e_AskDeed_do]; exact ok_do0 T (by decide)⟩
  · exact ⟨T.c_TellDeed, _, T.m_TellDeed_do, by rw [T.e_TellDeed_do]; exact ok_do0 T (by decide)⟩
  · exact ⟨T.c_FailDeed, _, T.m_FailDeed_do, by rw [T.e_FailDeed_do]; exact ok_do0 T (by decide)⟩
  · exact ⟨T.c_ChooseDeed, _, T.m_ChooseDeed_do, by rw [T.e_ChooseDeed_do]; exact ok_do0 T (by decide)⟩
  · exact ⟨T.c_ChooseDeed, _, T.m_ChooseDeed_do, by rw [T.e_ChooseDeed_do]; exact ok_do0 T (by decide)⟩
  · exact ⟨T.c_Deed, _, T.m_Deed_do, ok_do0 T (by decide)⟩
  · exact ⟨T.c_CallDeed, _, T.m_CallDeed_do, ok_do_call T⟩
  · exact ⟨T.c_ReturnDeed, _, T.m_ReturnDeed_do, ok_do_ret T (.inl rfl)⟩
  · exact ⟨T.c_OffDeed, _, T.m_OffDeed_do, by rw [T.e_OffDeed_do]; exact ok_do_ret T (.inr rfl)⟩
end
end Rt
/-! ## W17 -/
set_option Elab.async false
set_option linter.all false
set_option maxRecDepth 100000
set_option maxHeartbeats 4000000
namespace Rt
open PySem PySem.Spec PyProof.Rows L2
open L2H (RoomH roomH_of)
structure OutEnd (c : Mc) (d d' : Wd) : Prop where
  kr : d'.kr = d.kr
  wv : d'.wv.length ≤ d.wv.length + 1
  hv : d'.hv = d.hv
  fs : ∃ gs f, d'.fs = gs ++ [f] ∧ FrsOk c gs f
theorem row_try {I : PI} {F : Hp} {t : Str} {r : Addr} (h : RowAt I F t "try" r) : ∃ (r1 r2 : Addr) (x : Str), F r = some (.tup [.str "try", .ref r1, .str x, .ref r2]) ∧ x ∈ (scOf I t).B := by
  obtain ⟨⟨rest, h1⟩, h2⟩ := h
  rcases h2 with ⟨e, _⟩ | ⟨hP, n, d, a, e, h⟩
  · cases e
  · cases e
    rcases h with ⟨xs, g1, g2, g3⟩ | ⟨c', r1, r2, xs, ys, n1, n2, g1, _⟩ | ⟨c', r1, xs, n1, g1, _⟩ | ⟨x, r1, r2, xs, ys, n1, n2, g1, hx, _⟩
    · obtain ⟨s, rest', rfl, hs⟩ := g2.head
      have e := HO.tup.inj (Option.some.inj (h1.symm.trans g1))
      injection e with e
      exact absurd e.symm (plain_ne hs).2.2.1
    · have e := HO.tup.inj (Option.some.inj (h1.symm.trans g1))
      injection e with e
      cases e
    · have e := HO.tup.inj (Option.some.inj (h1.symm.trans g1))
      injection e with e
      cases e
    · exact ⟨r1, r2, x, g1, hx⟩
def spOut (K : PySem.W.Frag) : Sp := fun vs H Q _ => ∃ (c : Mc) (F : Hp) (m : Wm) (d : Wd) (gs : List FrD) (f : FrD) (j dd : Nat) (wd : Str) (n : Int), vs = [.ref c.x, .ref m.w, .int (j : Int), .int n] ∧ MachOk K c F ∧ WkOk K c F m d H ∧ d.fs = gs ++ [f] ∧ FrsOk c gs f ∧ d.wv.length ≤ 900 ∧ c.D[j]? = some (f.t, wd, dd) ∧ 0 ≤ n ∧ n < 1000000 ∧
  ∀ H' d' z, WkOk K c F m d' H' → OutEnd c d d' → Q (.int z) H'
section
variable {P : Program} {w : World} {K : PySem.W.Frag} {mg : Str → Option Value} {base : Heap}
theorem ok_outward (T : Txt K mg) : OkA P w K mg base CX0 4 (He.ma K (He.ga K "Machine") "outward") ["self", "work", "point", "number"] (spOut K) := by
  have G_Work_top := ok_top (P := P) (w := w) (base := base) T
  have G_Work_set_box := ok_set_box (P := P) (w := w) (base := base) T
  refine okA T.f_Machine_outward sc_Machine_outward (fun fd F => F.bindsN fun _ _ _ _ _ _ us hl => match us, hl with | [_, _, _, _], _ => rfl) (fun vs H Q E h => ?_) (fun cdv A outer s H vs Q E pp hr h => ?_)
  · obtain ⟨c, F, m, d, gs, f, j, dd, wd, n, rfl, _⟩ := h
    rfl
  · obtain ⟨c, F, m, d0, gs, f, j, dd, wd, n, rfl, M, W, hfs, hfr, hwv, hD, n0, n1, k⟩ := h
    refine ⟨_, (pss_one
 (ps_while (passes_of rfl) (pt_val pe_bl) (pss_cons
 (ps_set (i := 4) sc_Machine_outward.nd rfl (by first | exact Or.inl rfl | exact Or.inr rfl) (pe_fld (pe_ix ix_list (pe_fld (pe_fld (pv 0) rfl) rfl) (pv 2) (fun _ _ => rfl)) rfl)) (pss_cons
 (ps_if (pt_cmpR op_ge (pv 4) pe_int (nomark _)) (pss_cons
 (ps_set (i := 5) sc_Machine_outward.nd rfl (by first | exact Or.inl rfl | exact Or.inr rfl) (pe_ix ix_list (pe_fld (pe_fld (pv 0) rfl) rfl) (pv 4) (fun _ _ => rfl))) (pss_cons
 (ps_expr (ce_methA G_Work_set_box (hr.mono (by omega)) (pv 1) T.c_Work T.m_Work_set_box pass0 (pa_cons (pe_ix ix_tup (pe_fld (pv 5) rfl) pe_int (fun _ _ => rfl)) (pa_cons (pv 3) pa_nil)))) (pss_cons
 (ps_set (i := 6) sc_Machine_outward.nd rfl (by first | exact Or.inl rfl | exact Or.inr rfl) (ce_methA0 G_Work_top (hr.mono (by omega)) (pv 1) T.c_Work T.m_Work_top pass0)) (pss_cons
 (ps_fld (pv 6) (pe_fld (pv 5) rfl) rfl) (C8.pss_cut
 (ps_if (pt_truth (pe_fld (pv 5) rfl) (by intro _; rfl)) (pss_one
 (ps_fld (pv 6) (pe_fld (pe_ix ix_list (pe_fld (pv 5) rfl) pe_int (fun _ _ => rfl)) rfl) rfl)) pss_nil) (pss_one
 (ps_ret (pv 4)))))))) pss_nil) (pss_cons
 (ps_if (pt_cmpR op_eq (pe_callB call_len_seq (by rfl) T.b_len (by decide +kernel) (pa_cons (pe_fld (pv 1) rfl) pa_nil)) pe_int (nomark _)) (pss_cons
 (ps_fld (pv 1) pe_str rfl) (pss_one
 (ps_ret (pe_un un_neg pe_int)))) pss_nil) (pss_cons
 (ps_expr (pe_bm0 PySem.F.plainAttrs_list PySem.F.slot_list_pop PySem.F.type_list_pop mt_pop (pe_fld (pv 1) rfl))) (pss_one
 (ps_set (i := 2) sc_Machine_outward.nd rfl (by first | exact Or.inl rfl | exact Or.inr rfl) (pe_fld (ce_methA0 G_Work_top (hr.mono (by omega)) (pv 1) T.c_Work T.m_Work_top pass0) rfl))))))))), ?_⟩
    refine ⟨fun mm σ H' => ∃ (d : Wd) (gs : List FrD) (f : FrD) (j dd : Nat) (wd : Str) (o4 o5 o6 : Option V), mm = gs.length ∧ σ = [some (.ref c.x), some (.ref m.w), some (.int (j : Int)), some (.int n), o4, o5, o6] ∧ WkOk K c F m d H' ∧ d.fs = gs ++ [f] ∧ FrsOk c gs f ∧ d.kr = d0.kr ∧ d.wv = d0.wv ∧ d.hv = d0.hv ∧ c.D[j]? = some (f.t, wd, dd), ⟨gs.length, d0, gs, f, j, dd, wd, none, none, none, rfl, rfl, W, hfs, hfr, rfl, rfl, rfl, hD⟩, ?_⟩
    clear W hfs hfr hD
    rintro mm σ H1 ⟨d, gs, f, j, dd, wd, o4, o5, o6, rfl, rfl, W, hfs, hfr, ekr, ewv, ehv, hD⟩
    have hj : j < c.A.length := by
      rw [M.lay.lay.len]
      exact (List.getElem?_eq_some_iff.mp hD).1
    have hA : c.A[j]? = some c.A[j] := List.getElem?_eq_getElem hj
    obtain ⟨dn, r, fl, sl, en, b, g, hx, hrow, _, _, _, _, _, _, hg⟩ := M.lay.lay.nodes j _ _ hA hD
    generalize c.A[j] = a at hA hx
    have hfew := hfr.few
    refine ⟨true, rfl, iteT ⟨fun σ' H' => ∃ m', m' < gs.length ∧ ∃ (d : Wd) (gs : List FrD) (f : FrD) (j dd : Nat) (wd : Str) (o4 o5 o6 : Option V), m' = gs.length ∧ σ' = [some (.ref c.x), some (.ref m.w), some (.int (j : Int)), some (.int n), o4, o5, o6] ∧ WkOk K c F m d H' ∧ d.fs = gs ++ [f] ∧ FrsOk c gs f ∧ d.kr = d0.kr ∧ d.wv = d0.wv ∧ d.hv = d0.hv ∧ c.D[j]? = some (f.t, wd, dd), fun _ _ h => h, ?_⟩⟩
    refine ⟨_, rfl, c.x, _, c.dx, _, _, rfl, W.same _ _ M.obj, T.c_Machine, T.n_Machine_layout, rfl, c.lx, _, c.ldx, _, _, rfl, W.same _ _ M.lay.obj, T.c_Layout, T.n_Layout_nodes, rfl, _, rfl, c.l, _, _, _, rfl, rfl, SqL.of (W.same _ _ M.lay.lay.lst), at_nat hA, a, _, dn, _, _, rfl, W.same _ _ hx, T.c_Node, T.n_Node_guard, rfl, ?_⟩
    refine ⟨_, rfl, _, _, rfl, rfl, _, rfl, ite2 (fun hge => ?_) (fun hge => ?_)⟩
    · obtain ⟨jg, dg, rfl, hDg⟩ : ∃ (jg dg : Nat), g = (jg : Int) ∧ c.D[jg]? = some (f.t, ("try" : Str), dg) := by
        rcases hg with e | ⟨jg, dg, e, h⟩
        · have q : (0 : Int) ≤ g := of_decide_eq_true hge
          omega
        · exact ⟨jg, dg, e, h⟩
      have hjg : jg < c.A.length := by
        rw [M.lay.lay.len]
        exact (List.getElem?_eq_some_iff.mp hDg).1
      have hAg : c.A[jg]? = some c.A[jg] := List.getElem?_eq_getElem hjg
      obtain ⟨dn2, r2, fl2, sl2, en2, b2, g2, hx2, hrow2, _, _, _, hks, _, hb2, _⟩ := M.lay.lay.nodes jg _ _ hAg hDg
      generalize c.A[jg] = a2 at hAg hx2
      obtain ⟨t1, t2, x, hr2, hxB⟩ := row_try hrow2
      refine ⟨_, rfl, c.x, _, c.dx, _, _, rfl, W.same _ _ M.obj, T.c_Machine, T.n_Machine_layout, rfl, c.lx, _, c.ldx, _, _, rfl, W.same _ _ M.lay.obj, T.c_Layout, T.n_Layout_nodes, rfl, _, rfl, c.l, _, _, _, rfl, rfl, SqL.of (W.same _ _ M.lay.lay.lst), at_nat hAg, ?_⟩
      refine ⟨_, rfl, m.w, m.dw, _, rfl, W.obj, rfl, _, rfl, a2, _, dn2, _, _, rfl, W.same _ _ hx2, T.c_Node, T.n_Node_row, rfl, r2, _, _, _, rfl, rfl, SqT.of (W.same _ _ hr2), rfl, _, rfl, c, F, m, d, gs, f, x, n, rfl, M.ok, W, hfs, by omega, inB hxB, n0, n1, by rw [ewv]; omega, fun H2 d2 W2 sb t2 => ?_⟩
      obtain ⟨ow, hfs2⟩ := sb.fs
      have hfm : { f with ow := ow } ∈ d2.fs := by
        rw [hfs2]
        simp
      refine ⟨_, rfl, m.w, m.dw, _, rfl, W2.obj, rfl, c, F, m, d2, gs, _, rfl, W2, hfs2, ?_⟩
      refine ⟨_, rfl, a2, _, dn2, _, _, rfl, W2.same _ _ hx2, T.c_Node, T.n_Node_behind, rfl, _, rfl, f.fa, _, f.dx, _, rfl, W2.fa (f := { f with ow := ow }) hfm, T.c_Frame, T.n_Frame_point, few rfl, ?_⟩
      have W3 := W2.setPt (gs := gs) (f := { f with ow := ow }) (p := b2) hfs2
      obtain ⟨kv, hkq, hkl, hkk⟩ := hks
      have oe : ∀ z : Int, PtOk c.D f.t z → OutEnd c d0 { d2 with fs := gs ++ [{ f with ow := ow, p := z }] } := fun z hz => ⟨by show d2.kr = _; rw [sb.kr, ekr], by show d2.wv.length ≤ _; rw [← ewv]; exact sb.wv, by show d2.hv = _; rw [sb.hv, ehv], gs, _, rfl, hfr.callers, hz, hfr.few, hfr.titles.sub⟩
      refine ⟨fun σ H' => (∃ o6 : Option V, σ = [some (.ref c.x), some (.ref m.w), some (.int (j : Int)), some (.int n), some (.int (jg : Int)), some (.ref a2), o6]) ∧ ∃ z : Int, PtOk c.D f.t z ∧ WkOk K c F m { d2 with fs := gs ++ [{ f with ow := ow, p := z }] } H', ?_, ?_⟩
      · refine ⟨_, rfl, a2, _, dn2, _, _, rfl, W3.same _ _ hx2, T.c_Node, T.n_Node_seconds, rfl, _, .inl ⟨kv, SqL.of (W3.same _ _ hkq), rfl⟩, ?_⟩
        cases kv with
        | nil => exact iteF ⟨⟨_, rfl⟩, b2, hb2, W3⟩
        | cons v kv =>
          obtain ⟨j3, a3, w3, d3, e1, rfl, e3, e4, dx3, r3, fl3, sl3, en3, b3, g3, hx3, _, _, _, _, _, he3, _⟩ := KidsAt.at M.lay.lay hkk List.mem_cons_self
          refine iteT ⟨_, rfl, a2, _, dn2, _, _, rfl, W3.same _ _ hx2, T.c_Node, T.n_Node_seconds, rfl, sl2, _, _, _, rfl, rfl, SqL.of (W3.same _ _ hkq), at0, a3, _, dx3, _, _, rfl, W3.same _ _ hx3, T.c_Node, T.n_Node_entry, rfl, _, rfl, f.fa, _, f.dx, _, rfl, W3.fa (f := { f with ow := ow, p := b2 }) (by simp), T.c_Frame, T.n_Frame_point, few rfl, ⟨_, rfl⟩, en3, he3, ?_⟩
          exact W3.setPt (gs := gs) (f := { f with ow := ow, p := b2 }) (p := en3) rfl
      · rintro σ H4 ⟨⟨o6', rfl⟩, z, hz, W4⟩
        exact ⟨_, rfl, k H4 _ _ W4 (oe z hz)⟩
    · refine ⟨_, rfl, m.w, _, m.dw, _, _, rfl, W.obj, T.c_Work, T.n_Work_frames, rfl, m.fr, _, rfl, .inl (SqL.of W.fr), rfl, _, rfl, ite2 (fun _ => ?_) (fun hne => ?_)⟩
      · refine ⟨_, rfl, m.w, _, m.dw, _, rfl, W.obj, T.c_Work, T.n_Work_word, few rfl, ?_⟩
        have W2 := W.setWord (word := "broken")
        exact ⟨_, rfl, k _ _ _ W2 ⟨ekr, by show d.wv.length ≤ _; rw [ewv]; omega, ehv, gs, f, hfs, hfr⟩⟩
      · have hgl : 0 < gs.length := by
          cases gs with
          | cons g' gs' => exact Nat.zero_lt_succ _
          | nil => exact absurd (decide_eq_true (by rw [hfs]; rfl)) hne
        obtain ⟨gs', g', rfl⟩ : ∃ gs' g', gs = gs' ++ [g'] := by
          have hn : gs ≠ [] := fun z => by rw [z] at hgl; cases hgl
          exact ⟨gs.dropLast, gs.getLast hn, (List.dropLast_concat_getLast hn).symm⟩
        refine ⟨_, rfl, m.w, _, m.dw, _, _, rfl, W.obj, T.c_Work, T.n_Work_frames, rfl, .inl ⟨rfl, _, SqL.of W.fr⟩, m.fr, _, .ref f.fa, rfl, rfl, W.fr, ?_, ?_⟩
        · rw [hfs, List.map_append, List.length_append]
          simp
        have W2 := W.pop (gs := gs' ++ [g']) (f := f) hfs
        have ed : (d.fs.map fun f => V.ref f.fa).dropLast = ((gs' ++ [g']).map fun f => V.ref f.fa) := by
          rw [hfs, List.map_append (l₁ := gs' ++ [g'])]
          exact List.dropLast_concat
        rw [ed]
        obtain ⟨j2, dd2, hgp, hgD⟩ := hfr.callers g' (by simp)
        refine ⟨_, rfl, m.w, m.dw, _, rfl, W2.obj, rfl, c, F, m, _, gs', g', rfl, W2, rfl, g'.fa, _, g'.dx, _, _, rfl, W2.fa (f := g') (by simp), T.c_Frame, T.n_Frame_point, rfl, ?_⟩
        rw [hgp]
        refine ⟨gs'.length, (by rw [List.length_append, List.length_singleton]; omega), _, gs', g', j2, dd2, "call", _, _, _, rfl, rfl, W2, rfl, ⟨fun g'' h'' => hfr.callers g'' (List.mem_append_left _ h''), .inr ⟨j2, _, dd2, hgp, hgD⟩, (by rw [List.length_append] at hfew; omega), fun i f' hf' => hfr.titles i f' (get_app hf')⟩, ekr, ewv, ehv, hgD⟩
end
end Rt
/-! ## W18 -/
set_option Elab.async false
set_option linter.all false
set_option maxRecDepth 100000
set_option maxHeartbeats 4000000
namespace Rt
open PySem PySem.Spec PyProof.Rows L2
open L2H (RoomH roomH_of)
theorem row_word {I : PI} {F : Hp} {t wd : Str} {r : Addr} (h : RowAt I F t wd r) : wd ∈ allW ∧ (wd = "def" → t ∈ I.fs.map Prod.fst) := by
  obtain ⟨⟨rest, h1⟩, h2⟩ := h
  rcases h2 with ⟨e, ht⟩ | ⟨hP, n, d, a, e, h⟩
  · exact ⟨by rw [e]; decide, fun _ => ht⟩
  · cases e
    rcases h with ⟨xs, g1, g2, g3⟩ | ⟨c', r1, r2, xs, ys, n1, n2, g1, _⟩ | ⟨c', r1, xs, n1, g1, _⟩ | ⟨x, r1, r2, xs, ys, n1, n2, g1, _⟩
    · obtain ⟨s, rest', rfl, hs⟩ := g2.head
      have e := HO.tup.inj (Option.some.inj (h1.symm.trans g1))
      injection e with e
      injection e with e
      subst e
      have q := (plain_ne hs).2.2.2
      refine ⟨?_, fun z => absurd (by rw [z]) q⟩
      unfold plainW at hs
      unfold allW
      simp only [List.mem_cons, List.not_mem_nil, or_false] at hs ⊢
      rcases hs with rfl | rfl | rfl | rfl | rfl | rfl | rfl | rfl | rfl <;> simp
    · have e := HO.tup.inj (Option.some.inj (h1.symm.trans g1))
      injection e with e
      injection e with e
      subst e
      exact ⟨by decide, fun z => by cases z⟩
    · have e := HO.tup.inj (Option.some.inj (h1.symm.trans g1))
      injection e with e
      injection e with e
      subst e
      exact ⟨by decide, fun z => by cases z⟩
    · have e := HO.tup.inj (Option.some.inj (h1.symm.trans g1))
      injection e with e
      injection e with e
      subst e
      exact ⟨by decide, fun z => by cases z⟩
theorem atI_end2 {α : Type} (xs : List α) (a b : α) : atI (xs ++ [a, b]) (-2) = some a := by
  have hl : (xs ++ [a, b]).length = xs.length + 2 := by simp
  have e : ixN (xs ++ [a, b]).length (-2) = some xs.length := by
    unfold ixN
    rw [hl, if_neg (by decide), if_pos (by omega)]
    congr 1
    omega
  unfold atI
  rw [e]
  simp
theorem StOk.more {c : Mc} {H : Hp} {st : Addr} {frs : List (Str × Int)} {word : Str} {n m : Nat} (s : StOk c H st frs word n) (h : n ≤ m) : StOk c H st frs word m := by
  obtain ⟨bx, ls, fr, ct, hd, bs, ts, fvs, cs, hs, h1, h2, h3, h4, h5, h6, h7, h8, h9, h10, h11, h12, h13, h14⟩ := s.ex
  exact ⟨⟨bx, ls, fr, ct, hd, bs, ts, fvs, cs, hs, h1, h2, h3, h4, h5, h6, h7, h8, h9, h10, h11, h12, h13, Nat.le_trans h14 h⟩, s.titles, s.few⟩
/-- the work behind a step's deed -/
structure Ended (c : Mc) (nh : Nat) (d' : Wd) : Prop where
  kr : d'.kr.length ≤ 60
  wv : d'.wv.length ≤ 60
  hv : d'.hv.length ≤ nh + 1
  fs : ∃ gs f, d'.fs = gs ++ [f] ∧ FrsOk c gs f
theorem frl_frs {c : Mc} {gs : List (Str × Int)} {l : Str × Int} {word : Str} {fs : List FrD} (L : FrL c gs l word) (e : (fs.map fun f => (f.t, f.p)) = gs ++ [l]) :
    ∃ fgs f, fs = fgs ++ [f] ∧ (fgs.map fun f => (f.t, f.p)) = gs ∧ (f.t, f.p) = l ∧ FrsOk c fgs f := by
  have hne : fs ≠ [] := by
    intro z
    rw [z] at e
    have := congrArg List.length e
    simp at this
  obtain ⟨fgs, f, rfl⟩ : ∃ fgs f, fs = fgs ++ [f] := ⟨fs.dropLast, fs.getLast hne, (List.dropLast_concat_getLast hne).symm⟩
  have e0 := e
  rw [List.map_append] at e
  obtain ⟨e1, e2⟩ := List.append_inj' e rfl
  have e2 : (f.t, f.p) = l := by simpa using e2
  refine ⟨fgs, f, rfl, e1, e2, fun g hg => ?_, ?_, ?_, fun i g hg => ?_⟩
  · exact L.callers (g.t, g.p) (by rw [← e1]; exact List.mem_map_of_mem (f := fun f : FrD => (f.t, f.p)) hg)
  · have q := L.pt
    rw [← e2] at q
    exact q
  · have q := L.few
    rw [← e1, List.length_map] at q
    exact q
  · refine L.titles i (g.t, g.p) ?_
    rw [← e0, List.getElem?_map, hg]
    rfl
theorem frs_frl {c : Mc} {fgs : List FrD} {f : FrD} {word : Str} (L : FrsOk c fgs f) (on : word = "on" → fgs = [] → f.p ≠ -1) : FrL c (fgs.map fun f => (f.t, f.p)) (f.t, f.p) word := by
  refine ⟨fun g hg => ?_, L.pt, by rw [List.length_map]; exact L.few, fun i g hg => ?_, fun h1 h2 => on h1 (List.map_eq_nil_iff.mp h2)⟩
  · obtain ⟨g', hg', rfl⟩ := List.mem_map.mp hg
    exact L.callers g' hg'
  · have e : (fgs.map fun f => (f.t, f.p)) ++ [(f.t, f.p)] = ((fgs ++ [f]).map fun f => (f.t, f.p)) := by rw [List.map_append]; rfl
    rw [e, List.getElem?_map] at hg
    obtain ⟨g', h1, rfl⟩ := Option.map_eq_some_iff.mp hg
    exact L.titles i g' h1
def spStep (K : PySem.W.Frag) : Sp := fun vs H Q _ => ∃ (c : Mc) (st : Addr) (gs : List (Str × Int)) (l : Str × Int) (nh : Nat), vs = [.ref c.x, .ref st] ∧ MachOk K c H ∧ StOk c H st (gs ++ [l]) "on" nh ∧ FrL c gs l "on" ∧ nh ≤ 800 ∧
  ∀ H' p st' note (n : Int) rest gs' l' word', Same H H' → H' p = some (.tup [.ref st', .ref note]) → H' note = some (.tup (.int n :: rest)) → 0 ≤ n → StOk c H' st' (gs' ++ [l']) word' (nh + 1) → FrL c gs' l' word' → Q (.ref p) H'
section
variable {P : Program} {w : World} {K : PySem.W.Frag} {mg : Str → Option Value} {base : Heap}
theorem ok_step (T : Txt K mg) : OkC P w K mg base CX0 14 (He.ma K (He.ga K "Machine") "step") ["self", "state"] (spStep K) := by
  have G_Machine_next_row := ok_next_row (P := P) (w := w) (base := base) T
  have G_Machine_outward := ok_outward (P := P) (w := w) (base := base) T
  have G_Work___init__ := ok_work (P := P) (w := w) (base := base) T
  have G_Work_state := ok_state2 (P := P) (w := w) (base := base) T
  have G_Work_top := (ok_top (P := P) (w := w) (base := base) T).ok
  have G_kind := disp_kind (P := P) (w := w) (base := base) T
  have G_do := disp_do (P := P) (w := w) (base := base) T
  refine okC T.f_Machine_step sc_Machine_step (fun fd F => F.bindsN fun _ _ _ _ _ _ us hl => match us, hl with | [_, _], _ => rfl) (fun vs H Q E h => ?_) (fun cdv A outer s H vs Q E hr h => ?_)
  · obtain ⟨c, st, gs, l, nh, rfl, _⟩ := h
    rfl
  · obtain ⟨c, st, gs, l, nh, rfl, M, S, L, hnh, k⟩ := h
    refine ⟨_, (pss_cons
 (ps_set (i := 2) sc_Machine_step.nd rfl (by first | exact Or.inl rfl | exact Or.inr rfl) (ce_meth G_Machine_next_row (hr.mono (by omega)) (pv 0) T.c_Machine T.m_Machine_next_row pass0 (pa_cons (pv 1) pa_nil))) (pss_cons
 (ps_if (pt_cmpR op_eq (pv 2) (pe_un un_neg pe_int) (nomark _)) (pss_one
 ps_never) pss_nil) (pss_cons
 (ps_set (i := 3) sc_Machine_step.nd rfl (by first | exact Or.inl rfl | exact Or.inr rfl) (ce_make G_Work___init__ (hr.mono (by omega)) T.k_Work T.g_Work pass0 (pa_cons (pe_fld (pv 0) rfl) (pa_cons (pe_fld (pv 0) rfl) (pa_cons (pe_fld (pv 0) rfl) (pa_cons (pv 1) pa_nil)))))) (pss_cons
 (ps_set (i := 4) sc_Machine_step.nd rfl (by first | exact Or.inl rfl | exact Or.inr rfl) (pe_un un_neg pe_int)) (C8.pss_cut
 (ps_if (pt_cmpR op_gt (pe_callB call_len_seq (by rfl) T.b_len (by decide +kernel) (pa_cons (pe_fld (pv 3) rfl) pa_nil)) pe_int (nomark _)) (pss_one
 (ps_set (i := 4) sc_Machine_step.nd rfl (by first | exact Or.inl rfl | exact Or.inr rfl) (pe_fld (pe_ix ix_list (pe_fld (pv 3) rfl) (pe_un un_neg pe_int) (fun _ _ => rfl)) rfl))) pss_nil) (pss_cons
 (ps_set (i := 5) sc_Machine_step.nd rfl (by first | exact Or.inl rfl | exact Or.inr rfl) (pe_ix ix_list (pe_fld (pv 0) rfl) (pv 2) (fun _ _ => rfl))) (pss_cons
 (ps_set (i := 6) sc_Machine_step.nd rfl (by first | exact Or.inl rfl | exact Or.inr rfl) (ce_methD0 G_kind (hr.mono (by omega)) (pv 5) pass0)) (pss_cons
 (ps_set (i := 7) sc_Machine_step.nd rfl (by first | exact Or.inl rfl | exact Or.inr rfl) (pe_un un_neg pe_int)) (C8.pss_cut
 (ps_try_as (i := 8) (tb := fun W => tDrop (tMethDS (RDo K) "do" (WE W) (tVar 5) (tCons (tVar 3) (tCons (tFld K (tVar 0) "gates") tNil)))) (ts := fun a cls d => tSeq (tAsg (tC (.str "fault")) (gName 6)) (tAsg (tMeth (He.ga K "Machine") "outward" (spOut K) [] E (tVar 0) (tCons (tVar 3) (tCons (tVar 2) (tCons (tByF (He.ga K "Fault") a cls d (tVar 8)) tNil)))) (gName 7))) (Wout := fun _ _ _ _ => False) rfl rfl sc_Machine_step.nd rfl rfl ⟨rfl, by decide, .inl T.g_Fault⟩ takes0 (fun W pn xe tk _ => pss_one (ps_expr (by exact (ce_methDS G_do (hr.mono (by omega)) (pv 5) (fun σ => passAt tk σ) (pa_cons (pv 3) (pa_cons (pe_fld (pv 0) rfl) pa_nil)))))) (fun a oe cls d pn hz hf => pss_cons (ps_set (i := 6) sc_Machine_step.nd rfl (Or.inl rfl) pe_str) (pss_one (ps_set (i := 7) sc_Machine_step.nd rfl (Or.inl rfl) (by exact (ce_methA G_Machine_outward ⟨(roomH_of (hr.mono (j := 4) (by omega))).dp, (roomH_of (hr.mono (j := 4) (by omega))).un⟩ (pv 0) T.c_Machine T.m_Machine_outward pass0 (pa_cons (pv 3) (pa_cons (pv 2) (pa_cons (pe_byF T.fault hz hf (pv 8)) pa_nil))))))))) (C8.pss_cut
 (ps_if (PW.pt (pw_and (pt_cmpR op_eq (pe_fld (pv 3) rfl) pe_str (nomark _)) (pw_and (pt_cmpR op_eq (pe_callB call_len_seq (by rfl) T.b_len (by decide +kernel) (pa_cons (pe_fld (pv 3) rfl) pa_nil)) pe_int (nomark _)) (pw_and1 (pt_cmpR op_eq (pe_fld (ce_meth0 G_Work_top (hr.mono (by omega)) (pv 3) T.c_Work T.m_Work_top pass0) rfl) (pe_un un_neg pe_int) (nomark _)))))) (pss_one
 (ps_fld (pv 3) pe_str rfl)) pss_nil) (pss_cons
 (ps_set (i := 9) sc_Machine_step.nd rfl (by first | exact Or.inl rfl | exact Or.inr rfl) (pe_tup (pa_cons (pv 2) (pa_cons (pv 6) (pa_cons (pe_callTy call_tuple_of (by rfl) T.b_tuple (by decide +kernel) (pa_cons (pe_callB (cr_sortedC hr.units) (by rfl) T.b_sorted (by decide +kernel) (pa_cons (pe_fld (pv 3) rfl) pa_nil)) pa_nil)) (pa_cons (pe_callTy call_tuple_of (by rfl) T.b_tuple (by decide +kernel) (pa_cons (pe_callB (cr_sortedC hr.units) (by rfl) T.b_sorted (by decide +kernel) (pa_cons (pe_fld (pv 3) rfl) pa_nil)) pa_nil)) (pa_cons (pv 4) (pa_cons (pv 7) pa_nil)))))))) (pss_one
 (ps_ret (pe_tup (pa_cons (ce_meth0 G_Work_state (hr.mono (by omega)) (pv 3) T.c_Work T.m_Work_state pass0) (pa_cons (pv 9) pa_nil)))))))))))))))), ?_⟩
    -- the row that comes
    refine ⟨_, rfl, c.x, c.dx, _, rfl, M.obj, rfl, _, rfl, c, st, gs, l, nh, rfl, M, S, L, fun j dd wd hD hp => ?_⟩
    have hl0 : (gs ++ [l])[gs.length]? = some l := by rw [List.getElem?_append_right (Nat.le_refl _), Nat.sub_self]; rfl
    have hj : j < c.A.length := by
      rw [M.lay.lay.len]
      exact (List.getElem?_eq_some_iff.mp hD).1
    have hA : c.A[j]? = some c.A[j] := List.getElem?_eq_getElem hj
    obtain ⟨dn, r, fl, sl, en, b, g, hx, hrow, _⟩ := M.lay.lay.nodes j _ _ hA hD
    obtain ⟨hwd, hdt⟩ := row_word hrow
    obtain ⟨v, hv, hda⟩ := M.dl j _ _ hA hD
    have hdoin : ∃ p, v = .ref p ∧ DoIn K c H p wd l.1 := by
      obtain ⟨p, dx, r, b, en, rest⟩ := id hda
      subst en
      exact ⟨p, rfl, j, _, dd, hA, hD, hda⟩
    obtain ⟨p, rfl, hdo⟩ := hdoin
    refine ⟨_, rfl, _, rfl, rfl, _, rfl, ite2 (fun h => ?_) (fun _ => ?_)⟩
    · have z := of_decide_eq_true h
      injection z with z
      omega
    -- the work
    refine ⟨_, rfl, c.x, _, c.dx, _, _, rfl, M.obj, T.c_Machine, T.n_Machine_layout, rfl, _, rfl, c.x, _, c.dx, _, _, rfl, M.obj, T.c_Machine, T.n_Machine_source, rfl, _, rfl, c.x, _, c.dx, _, _, rfl, M.obj, T.c_Machine, T.n_Machine_doors, rfl, _, rfl, fun y dy hy hdy hyd => ?_⟩
    have sm : Same H (upd (upd H dy (.own y)) y (.ins (He.ga K "Work") dy [])) := fun b o e => by
      rw [upd_ne (fun z => by rw [z, hy] at e; cases e), upd_ne (fun z => by rw [z, hdy] at e; cases e)]
      exact e
    refine ⟨y, dy, st, c, H, gs ++ [l], "on", nh, rfl, upd_same, hy, sm, M, S, by omega, fun H1 m d W hm hword hfs hkr hwv hhv => ⟨rfl, ?_⟩⟩
    subst hm
    obtain ⟨fgs, f, hfs1, hfs2, hfs3, hfr⟩ := frl_frs L hfs
    have hft : f.t = l.1 := congrArg Prod.fst hfs3
    have hfp : f.p = l.2 := congrArg Prod.snd hfs3
    have hfew := hfr.few
    -- the caller
    refine ⟨_, rfl, ?_⟩
    refine ⟨fun σ H' => ∃ z : Int, σ = [some (.ref c.x), some (.ref st), some (.int (j : Int)), some (.ref m.w), some (.int z), none, none, none, none, none] ∧ H1 = H', ?_, ?_⟩
    · refine ⟨_, rfl, m.w, _, m.dw, _, _, rfl, W.obj, T.c_Work, T.n_Work_frames, rfl, m.fr, _, rfl, .inl (SqL.of W.fr), _, _, rfl, rfl, _, rfl, ite2 (fun h => ?_) (fun _ => ⟨_, rfl, rfl⟩)⟩
      have h2 : (1 : Int) < ((d.fs.map fun f => V.ref f.fa).length : Int) := of_decide_eq_true h
      rw [List.length_map, hfs1, List.length_append, List.length_singleton] at h2
      have hn : fgs ≠ [] := fun z => by
        rw [z] at h2
        simp at h2
      obtain ⟨fg2, fg, rfl⟩ : ∃ fg2 fg, fgs = fg2 ++ [fg] := ⟨fgs.dropLast, fgs.getLast hn, (List.dropLast_concat_getLast hn).symm⟩
      have hmem : fg ∈ d.fs := by
        rw [hfs1]
        simp
      refine ⟨_, rfl, m.w, _, m.dw, _, _, rfl, W.obj, T.c_Work, T.n_Work_frames, rfl, _, rfl, m.fr, _, _, _, rfl, rfl, SqL.of W.fr, ?_, fg.fa, _, fg.dx, _, _, rfl, W.fa hmem, T.c_Frame, T.n_Frame_point, rfl, ⟨_, rfl, rfl⟩⟩
      rw [hfs1, List.append_assoc, List.map_append]
      exact atI_end2 _ _ _
    rintro σ H' ⟨z0, rfl, rfl⟩
    -- the deed
    obtain ⟨dx, fs, hpo, _, _, lkdo, lkk, _⟩ := hdo.obj
    refine ⟨_, rfl, c.x, _, c.dx, _, _, rfl, W.same _ _ M.obj, T.c_Machine, T.n_Machine_deeds, rfl, _, rfl, c.de, _, _, _, rfl, rfl, SqL.of (W.same _ _ M.deeds), atI_nat hv, ?_⟩
    refine ⟨_, rfl, _, _, p, dx, fs, ⟨wd, hwd, rfl, rfl⟩, rfl, W.same _ _ hpo, lkk, _, rfl, fun kd => ?_⟩
    refine ⟨_, rfl, ?_⟩
    -- it is done
    refine ⟨fun σ H' => ∃ (s6 : Str) (z7 : Int) (d' : Wd), σ = [some (.ref c.x), some (.ref st), some (.int (j : Int)), some (.ref m.w), some (.int z0), some (.ref p), some (.str s6), some (.int z7), none, none] ∧ WkOk K c H m d' H' ∧ Ended c nh d', ?_, ?_⟩
    · refine ⟨_, rfl, _, _, p, dx, fs, ⟨wd, hwd, rfl, rfl⟩, rfl, W.same _ _ hpo, lkdo, _, rfl, _, rfl, c.x, _, c.dx, _, _, rfl, W.same _ _ M.obj, T.c_Machine, T.n_Machine_gates, rfl, ?_⟩
      refine ⟨c, H, m, d, fgs, f, p, rfl, M, W, hfs1, hfr, by rw [hkr]; exact Nat.zero_le _, by rw [hwv]; exact Nat.zero_le _, by omega, by rw [hft]; exact hdo, fun e => ?_, fun e => ?_, fun df n H2 ⟨d2, W2, ex⟩ hdf n0 n1 => ?_, fun H2 d2 W2 de => ?_⟩
      · rcases hp with e2 | e2
        · exact ⟨j, dd, by rw [hfp]; exact e2, by rw [hft, hD, e]⟩
        · rw [e] at e2
          cases e2
      · have ht := hdt e
        cases fgs with
        | cons _ _ => exact Nat.zero_lt_succ _
        | nil =>
          have e3 := (hfr.titles 0 f rfl).1 rfl
          rw [hft] at e3
          exact absurd e3 (fn_of_title ht M.ok)
      · -- a fault
        refine ⟨true, T.fault.te, fun _ a ha => ?_, fun q => nomatch q⟩
        obtain ⟨ow, hfs2⟩ := ex.fs
        have hkr2 := ex.kr
        have hwv2 := ex.wv
        have hhv2 := ex.hv
        refine ⟨_, rfl, c.x, c.dx, _, rfl, W2.same _ _ M.obj, rfl, _, rfl, _, rfl, _, rfl, rfl, rfl, df, _, rfl, hdf, ?_⟩
        refine ⟨c, H, m, d2, fgs, _, j, dd, wd, n, rfl, M, W2, hfs2, ⟨hfr.callers, hfr.pt, hfr.few, hfr.titles.sub⟩, by omega, by show c.D[j]? = some (f.t, wd, dd); rw [hft]; exact hD, n0, n1, fun H3 d3 z W3 oe => ?_⟩
        have w3 := oe.wv
        exact ⟨_, _, d3, rfl, W3, by rw [oe.kr]; omega, by omega, by rw [oe.hv]; omega, oe.fs⟩
      · have a1 := de.kr
        have a2 := de.wv
        have a3 := de.hv
        exact ⟨_, _, d2, rfl, W2, by omega, by omega, by omega, de.fs⟩
    rintro σ H2 ⟨s6, z7, d2, rfl, W2, en2⟩
    obtain ⟨gs3, f3, hfs3', hfr3⟩ := en2.fs
    -- the word
    refine ⟨fun σ H' => σ = [some (.ref c.x), some (.ref st), some (.int (j : Int)), some (.ref m.w), some (.int z0), some (.ref p), some (.str s6), some (.int z7), none, none] ∧ ∃ word, WkOk K c H m { d2 with word := word } H' ∧ (word = "on" → gs3 = [] → f3.p ≠ -1), ?_, ?_⟩
    · refine ⟨_, rfl, m.w, _, m.dw, _, _, rfl, W2.obj, T.c_Work, T.n_Work_word, rfl, rfl, _, rfl, ite2 (fun h1 => ?_) (fun h1 => iteF ⟨rfl, d2.word, W2, fun e => absurd (decide_eq_true (by rw [e])) h1⟩)⟩
      refine ⟨_, rfl, m.w, _, m.dw, _, _, rfl, W2.obj, T.c_Work, T.n_Work_frames, rfl, m.fr, _, rfl, .inl (SqL.of W2.fr), rfl, _, rfl, ite2 (fun h2 => ?_) (fun h2 => iteF ⟨rfl, d2.word, W2, fun _ e => absurd (decide_eq_true (by rw [hfs3', e]; rfl)) h2⟩)⟩
      refine ⟨_, rfl, m.w, m.dw, _, rfl, W2.obj, rfl, c, H, m, d2, gs3, f3, rfl, W2, hfs3', f3.fa, _, f3.dx, _, _, rfl, W2.fa (by rw [hfs3']; simp), T.c_Frame, T.n_Frame_point, rfl, _, rfl, rfl, _, rfl, ite2 (fun h3 => ?_) (fun h3 => ⟨rfl, d2.word, W2, fun _ _ e => h3 (decide_eq_true (by rw [e]))⟩)⟩
      refine ⟨_, rfl, m.w, _, m.dw, _, rfl, W2.obj, T.c_Work, T.n_Work_word, few rfl, rfl, "done", W2.setWord, fun e => by cases e⟩
    rintro σ H3 ⟨rfl, word, W3, hon⟩
    have k60 := en2.kr
    have w60 := en2.wv
    have h60 := en2.hv
    -- the note
    refine ⟨_, rfl, _, rfl, _, rfl, m.w, _, m.dw, _, _, rfl, W3.obj, T.c_Work, T.n_Work_reads, rfl, m.rd, rfl, .inr ⟨_, W3.rd, (by show d2.kr.length < 64; omega), W3.good.reads⟩, fun p1 y1 hp1 hy1 => ?_⟩
    have s1 := same_new (o := .lst y1) hp1
    refine ⟨p1, _, rfl, .inl ⟨SqL.of upd_same, fun q1 hq1 => ?_⟩⟩
    have s2 := s1.trans (same_new (o := .tup y1) hq1)
    have W4 := W3.keep s2
    generalize upd (upd H3 p1 (.lst y1)) q1 (.tup y1) = H4 at s2 W4 ⊢
    refine ⟨_, rfl, m.w, _, m.dw, _, _, rfl, W4.obj, T.c_Work, T.n_Work_wrote, rfl, m.wr, rfl, .inl ⟨_, W4.wr, (by show d2.wv.length < 64; omega), W4.good.wrote⟩, fun p2 y2 hp2 hy2 => ?_⟩
    have s3 := same_new (o := .lst y2) hp2
    refine ⟨p2, _, rfl, .inl ⟨SqL.of upd_same, fun q2 hq2 => ?_⟩⟩
    have s4 := s3.trans (same_new (o := .tup y2) hq2)
    have W5 := W4.keep s4
    generalize upd (upd H4 p2 (.lst y2)) q2 (.tup y2) = H5 at s4 W5 ⊢
    refine ⟨_, rfl, _, rfl, szn (by decide : 6 ≤ 1000), fun nt hnt => ?_⟩
    have s5 := same_new (o := .tup [.int (j : Int), .str s6, .ref q1, .ref q2, .int z0, .int z7]) hnt
    have W6 := W5.keep s5
    have n6 : upd H5 nt (.tup [.int (j : Int), .str s6, .ref q1, .ref q2, .int z0, .int z7]) nt = some (.tup [.int (j : Int), .str s6, .ref q1, .ref q2, .int z0, .int z7]) := upd_same
    show gName 9 (V.ref nt) _ (upd H5 nt (.tup [.int (j : Int), .str s6, .ref q1, .ref q2, .int z0, .int z7])) _
    generalize upd H5 nt (.tup [.int (j : Int), .str s6, .ref q1, .ref q2, .int z0, .int z7]) = H6 at W6 n6 ⊢
    refine ⟨_, rfl, m.w, m.dw, _, rfl, W6.obj, rfl, c, H, m, _, rfl, M.ok, doors_len M, W6, (by show d2.hv.length ≤ 1000; omega), fun f' hf' => ?_, ?_, fun H7 st' s7 S7 => ?_⟩
    · have hf' : f' ∈ gs3 ++ [f3] := by rw [← hfs3']; exact hf'
      obtain ⟨i, hi, ei⟩ := List.mem_iff_getElem.mp hf'
      have tt := hfr3.titles i f' (by rw [← ei]; exact List.getElem?_eq_getElem hi)
      by_cases h0 : i = 0
      · exact .inl (tt.1 h0)
      · exact .inr (tt.2 (by omega))
    · show d2.fs.length ≤ 8
      rw [hfs3', List.length_append, List.length_singleton]
      have := hfr3.few
      omega
    · refine ⟨_, rfl, szn (by decide : 2 ≤ 1000), fun pt hpt => ?_⟩
      have s8 := same_new (o := .tup [.ref st', .ref nt]) hpt
      have efs : (({ d2 with word := word } : Wd).fs.map fun f => (f.t, f.p)) = (gs3.map fun f => (f.t, f.p)) ++ [(f3.t, f3.p)] := by
        show (d2.fs.map fun f => (f.t, f.p)) = _
        rw [hfs3', List.map_append]
        rfl
      rw [efs] at S7
      refine k _ pt st' nt (j : Int) _ _ _ word ((W6.same.trans s7).trans s8) upd_same (s8 _ _ (s7 _ _ n6)) (Int.natCast_nonneg j) ((S7.tk (same_tk s8)).more (by show d2.hv.length ≤ _; omega)) (frs_frl hfr3 hon)
end
end Rt
/-! ## W19 -/
set_option Elab.async false
set_option linter.all false
set_option maxRecDepth 100000
set_option maxHeartbeats 4000000
namespace Rt
open PySem PySem.Spec PyProof.Rows L2
open L2H (RoomH roomH_of)
/-! ### the run, the kept steps -/
/-- notes, told by their numbers -/
def NoteV (H : Hp) (n : Int) (v : V) : Prop := ∃ (t : Addr) (rest : List V), v = .ref t ∧ H t = some (.tup (.int n :: rest))
theorem NoteV.tk {H H' : Hp} {n : Int} {v : V} (h : NoteV H n v) (k : Tk H H') : NoteV H' n v := by
  obtain ⟨t, rest, e, q⟩ := h
  exact ⟨t, rest, e, k _ _ q⟩
def spRun (K : PySem.W.Frag) : Sp := fun vs H Q _ => ∃ (c : Mc) (n : Int), vs = [.ref c.x, .int n] ∧ MachOk K c H ∧ 0 ≤ n ∧ n ≤ 60 ∧
  ∀ H' p v l ns vs, Same H H' → H' p = some (.lst [v, .ref l]) → H' l = some (.lst vs) → All2 (NoteV H') ns vs → ns.length ≤ 60 → H p = none → H l = none → p ≠ l → Q (.ref p) H'
/-- did step k do one of R's rows? -/
def didB (ns R : List Int) (k : Nat) : Bool := match ns[k]? with
  | some n => decide (n ∈ R)
  | none => false
/-- the numbers of the first i steps that did one of R's rows -/
def keptN (ns R : List Int) (i : Nat) : List Int := ((List.range i).filter fun (k : Nat) => didB ns R k).map fun (k : Nat) => (k : Int) + 1
theorem keptN_succ {ns R : List Int} {i : Nat} {n : Int} (e : ns[i]? = some n) : keptN ns R (i + 1) = keptN ns R i ++ (if decide (n ∈ R) = true then [(i : Int) + 1] else []) := by
  unfold keptN
  rw [List.range_succ, List.filter_append, List.map_append]
  congr 1
  have q : didB ns R i = decide (n ∈ R) := by
    unfold didB
    rw [e]
  cases h : decide (n ∈ R) with
  | true =>
    rw [List.filter_cons_of_pos (by rw [q, h])]
    rfl
  | false =>
    rw [List.filter_cons_of_neg (by rw [q, h]; exact Bool.false_ne_true)]
    rfl
theorem keptN_len (ns R : List Int) (i : Nat) : (keptN ns R i).length ≤ i := by
  unfold keptN
  rw [List.length_map]
  refine Nat.le_trans (List.length_filter_le _ _) ?_
  rw [List.length_range]
  exact Nat.le_refl _
def spKept : Sp := fun vs H Q _ => ∃ (l r : Addr) (vs' : List V) (ns R : List Int), vs = [.ref l, .ref r] ∧ H l = some (.lst vs') ∧ All2 (NoteV H) ns vs' ∧ ns.length ≤ 60 ∧ H r = some (.lst (R.map V.int)) ∧
  ∀ H' p, Same H H' → H p = none → H' p = some (.lst ((keptN ns R ns.length).map V.int)) → Q (.ref p) H'
theorem inV_ints {n : Int} {R : List Int} : inV (.int n) (R.map V.int) = decide (n ∈ R) := by
  induction R with
  | nil => rfl
  | cons x R ih =>
    show (eqV (.int x) (.int n) || inV (.int n) (R.map V.int)) = _
    rw [ih]
    have e : eqV (.int x) (.int n) = decide (n = x) := by
      show (x == n) = decide (n = x)
      by_cases h : n = x
      · subst h
        simp
      · rw [decide_eq_false h]
        exact beq_eq_false_iff_ne.mpr fun z => h z.symm
    rw [e]
    simp [List.mem_cons]
theorem op_in_seqK {X : Cx} {K : PySem.W.Frag} (h : X.K = K := by rfl) : OpR X (compareOp .In) (rIn K false) := by
  subst h
  exact op_in_seq
theorem flat_ints (R : List Int) : (R.map V.int).all flatV = true := by
  rw [List.all_map]
  exact List.all_eq_true.mpr fun _ _ => rfl
section
variable {P : Program} {w : World} {K : PySem.W.Frag} {mg : Str → Option Value} {base : Heap}
theorem ok_run (T : Txt K mg) : OkC P w K mg base CX0 15 (He.ga K "_law_run") ["_law_machine", "_law_most"] (spRun K) := by
  have G_Machine_first := ok_first (P := P) (w := w) (base := base) T
  have G_Machine_step := ok_step (P := P) (w := w) (base := base) T
  refine okC T.f__law_run sc__law_run (fun fd F => F.bindsN fun _ _ _ _ _ _ us hl => match us, hl with | [_, _], _ => rfl) (fun vs H Q E h => ?_) (fun cdv A outer s H vs Q E hr h => ?_)
  · obtain ⟨c, n, rfl, _⟩ := h
    rfl
  · obtain ⟨c, n, rfl, M, n0, n1, k⟩ := h
    refine ⟨_, (pss_cons
 (ps_set (i := 2) sc__law_run.nd rfl (by first | exact Or.inl rfl | exact Or.inr rfl) (ce_meth0 G_Machine_first (hr.mono (by omega)) (pv 0) T.c_Machine T.m_Machine_first pass0)) (pss_cons
 (ps_set (i := 3) sc__law_run.nd rfl (by first | exact Or.inl rfl | exact Or.inr rfl) (pe_lst pa_nil)) (pss_cons
 (ps_while PassesOwn.never (PW.pt (pw_and (pt_cmpR op_eq (pe_ix ix_tup (pv 2) pe_int (fun _ _ => rfl)) pe_str (nomark _)) (pw_and1 (pt_cmpR op_lt (pe_callB call_len_seq (by rfl) T.b_len (by decide +kernel) (pa_cons (pv 3) pa_nil)) (pv 1) (nomark _))))) (pss_cons
 (ps_asg (ce_meth G_Machine_step (hr.mono (by omega)) (pv 0) T.c_Machine T.m_Machine_step pass0 (pa_cons (pv 2) pa_nil)) (pg_tup rfl (pgs_cons (pg_name (i := 2) sc__law_run.nd rfl (by first | exact Or.inl rfl | exact Or.inr rfl)) (pgs_cons (pg_name (i := 4) sc__law_run.nd rfl (by first | exact Or.inl rfl | exact Or.inr rfl)) pgs_nil)))) (pss_one
 (ps_expr (pe_bm PySem.F.plainAttrs_list PySem.F.slot_list_append PySem.F.type_list_append mt_append (pv 3) (pa_cons (pv 4) pa_nil)))))) (pss_one
 (ps_ret (pe_lst (pa_cons (pv 2) (pa_cons (pv 3) pa_nil)))))))), ?_⟩
    refine ⟨_, rfl, c.x, c.dx, _, rfl, M.obj, rfl, c, rfl, M, fun H1 st word s1 S1 L1 => ?_⟩
    refine ⟨Nat.zero_le _, fun l hl => ?_⟩
    have s2 := s1.trans (same_new (o := .lst []) hl)
    have S2 := S1.tk (same_tk (same_new (o := .lst []) hl))
    have l2 : upd H1 l (.lst []) l = some (.lst []) := upd_same
    have hlH : H l = none := s1.free hl
    show tSeq _ _ _ _ (upd H1 l (.lst []))
    generalize upd H1 l (.lst []) = H2 at s2 S2 l2 ⊢
    refine ⟨fun mm σ H' => ∃ (st : Addr) (gs : List (Str × Int)) (f : Str × Int) (word : Str) (o4 : Option V) (ns : List Int) (vs : List V), mm = 60 - ns.length ∧ σ = [some (.ref c.x), some (.int n), some (.ref st), some (.ref l), o4] ∧ Same H H' ∧ StOk c H' st (gs ++ [f]) word ns.length ∧ FrL c gs f word ∧
      H' l = some (.lst vs) ∧ All2 (NoteV H') ns vs ∧ (ns.length : Int) ≤ n, ⟨60, st, [], ("", c.e), word, none, [], [], rfl, rfl, s2, S2, L1, l2, .nil, n0⟩, ?_⟩
    clear S1 L1 S2 l2 s2
    rintro mm σ H3 ⟨st, gs, f, word, o4, ns, vs, rfl, rfl, s3, S3, L3, l3, hall, hn⟩
    have hvl : vs.length = ns.length := hall.len.symm
    obtain ⟨bx, ls, fr, ct, hd, bs, ts, fvs, cs, hs, h1, _⟩ := S3.ex
    have fin : tRet (tLst (tCons (tVar 2) (tCons (tVar 3) tNil))) ({ nx := fun _ H' => Q .non H', rt := Q } : Ends) [some (.ref c.x), some (.int n), some (.ref st), some (.ref l), o4] H3 := by
      refine ⟨_, rfl, _, rfl, szn (by decide : 2 ≤ 1000), fun p hp => ?_⟩
      have s4 := same_new (o := .lst [.ref st, .ref l]) hp
      refine k _ p (.ref st) l ns vs (s3.trans s4) upd_same (s4 _ _ l3) (hall.imp fun _ _ q => q.tk (same_tk s4)) (by omega) (s3.free hp) hlH (fun z => ?_)
      rw [z, l3] at hp
      cases hp
    refine ⟨_, rfl, st, _, _, _, rfl, rfl, SqT.of h1, rfl, rfl, _, rfl, ite2 (fun hon => ?_) (fun _ => iteF ?_)⟩
    · have hword : word = "on" := by
        have z := of_decide_eq_true hon
        injection z
      subst hword
      refine ⟨_, rfl, l, _, rfl, .inl (SqL.of l3), _, rfl, _, _, rfl, rfl, _, rfl, ite2 (fun hlt => ?_) (fun _ => ?_)⟩
      · have hlt2 : (vs.length : Int) < n := of_decide_eq_true hlt
        refine ⟨fun σ' H' => ∃ m', m' < 60 - ns.length ∧ ∃ (st : Addr) (gs : List (Str × Int)) (f : Str × Int) (word : Str) (o4 : Option V) (ns : List Int) (vs : List V), m' = 60 - ns.length ∧ σ' = [some (.ref c.x), some (.int n), some (.ref st), some (.ref l), o4] ∧ Same H H' ∧ StOk c H' st (gs ++ [f]) word ns.length ∧ FrL c gs f word ∧
          H' l = some (.lst vs) ∧ All2 (NoteV H') ns vs ∧ (ns.length : Int) ≤ n, fun _ _ h => h, ?_⟩
        refine ⟨_, rfl, c.x, c.dx, _, rfl, s3 _ _ M.obj, rfl, _, rfl, c, st, gs, f, ns.length, rfl, M.same s3, S3, L3, by omega, fun H4 p st' note m rest gs' f' word' s4 hp hnote m0 S4 L4 => ?_⟩
        refine ⟨p, _, rfl, SqT.of hp, rfl, _, _, rfl, _, _, rfl, rfl, ?_⟩
        refine ⟨_, rfl, .inl ⟨rfl, _, SqL.of (s4 _ _ l3)⟩, _, rfl, l, _, _, rfl, rfl, s4 _ _ l3, by rw [sizeLine_eq]; omega, ?_⟩
        have up : Tk H4 (upd H4 l (.lst (vs ++ [.ref note]))) := fun b zs e => by
          rw [upd_ne (ne_of e (s4 _ _ l3) (by intro z; cases z))]
          exact e
        refine ⟨60 - (ns ++ [m]).length, by rw [List.length_append, List.length_singleton]; omega, st', gs', f', word', _, ns ++ [m], vs ++ [.ref note], rfl, rfl, fun b o e => ?_, ?_, L4, upd_same, ?_, ?_⟩
        · rw [upd_ne (fun z => by rw [z, hlH] at e; cases e)]
          exact s4 _ _ (s3 _ _ e)
        · rw [List.length_append]
          exact S4.tk up
        · exact (hall.imp fun _ _ q => (q.tk (same_tk s4)).tk up).add ⟨note, rest, rfl, up _ _ hnote⟩
        · rw [List.length_append, List.length_singleton]
          omega
      · exact fin
    · exact fin
theorem ok_kept (T : Txt K mg) : OkC P w K mg base CX0 1 (He.ga K "kept_steps") ["notes", "rows"] spKept := by
  refine okC T.f_kept_steps sc_kept_steps (fun fd F => F.bindsN fun _ _ _ _ _ _ us hl => match us, hl with | [_, _], _ => rfl) (fun vs H Q E h => ?_) (fun cdv A outer s H vs Q E hr h => ?_)
  · obtain ⟨l, r, vs', ns, R, rfl, _⟩ := h
    rfl
  · obtain ⟨l, r, vs', ns, R, rfl, hl, hall, hn, hR, k⟩ := h
    refine ⟨_, (pss_one
 (ps_ret (pe_lc (own := [("step", 2), ("note", 3)]) rfl sc_kept_steps.nd (pi_enum1 (by rfl) T.b_enumerate (pa_cons (pv 0) (pa_cons pe_int pa_nil))) (blkOk_by (N := N_kept_steps) (sc := defScope s_kept_steps) (by decide +kernel)) (fun _ _ _ _ _ => (pg_tupK (K := K) (n := 2) (pgs_cons (pg_name (i := 2) sc_kept_steps.nd rfl (by first | exact Or.inl rfl | exact Or.inr rfl)) (pgs_cons (pg_name (i := 3) sc_kept_steps.nd rfl (by first | exact Or.inl rfl | exact Or.inr rfl)) pgs_nil)))) (fun _ _ _ _ _ => (pts_one (pt_cmpR (op_in_seqK (K := K)) (pe_ix (ix_tupK (K := K)) (pv 3) pe_int (fun _ _ => rfl)) (pv 1) (by rfl)))) (fun _ _ _ _ _ => (pv 2))))), ?_⟩
    refine ⟨_, rfl, l, vs', rfl, SqL.of hl, fun D hD => ?_⟩
    have hDl : D ≠ l := fun z => by rw [z, hl] at hD; cases hD
    refine lc_enum1 (xs := vs') (fun i H' => Same H H' ∧ H' D = some (.lst ((keptN ns R i).map V.int))) ?_ ?_ ?_ ?_
    · exact ⟨same_new hD, upd_same⟩
    · rintro i H' _ ⟨s1, _⟩
      exact SqL.of (s1 _ _ hl)
    · rintro i x H1 T hx ⟨s1, hd⟩ hT
      have hi : i < ns.length := by rw [hall.len]; exact (List.getElem?_eq_some_iff.mp hx).1
      have hni : ns[i]? = some ns[i] := List.getElem?_eq_getElem hi
      obtain ⟨t, rest, rfl, ht⟩ := hall.get hni hx
      have s2 := same_new (o := .tup [.int (1 + (i : Int)), .ref t]) hT
      have ht2 := s2 _ _ (s1 _ _ ht)
      have hR2 := s2 _ _ (s1 _ _ hR)
      have hd2 := s2 _ _ hd
      refine ⟨T, _, rfl, SqT.of upd_same, rfl, _, _, rfl, _, _, rfl, rfl, rfl, ?_⟩
      refine ⟨_, rfl, t, _, _, _, rfl, rfl, SqT.of ht2, at0, _, rfl, r, _, rfl, .inl (SqL.of hR2), rfl, flat_ints R, _, rfl, ?_⟩
      have hkl := keptN_len ns R i
      rw [show inV (.int ns[i]) (R.map V.int) = decide (ns[i] ∈ R) from inV_ints]
      have hk := keptN_succ (R := R) hni
      cases hb : decide (ns[i] ∈ R) with
      | true =>
        rw [hb, if_pos rfl] at hk
        refine iteT ⟨_, rfl, _, hd2, by rw [List.length_map, sizeLine_eq]; omega, fun b o e => ?_, ?_⟩
        · rw [upd_ne (fun z => by rw [z, hD] at e; cases e)]
          exact s2 _ _ (s1 _ _ e)
        · rw [hk, List.map_append]
          have e : 1 + (i : Int) = (i : Int) + 1 := by omega
          rw [e]
          exact upd_same
      | false =>
        rw [hb, if_neg Bool.false_ne_true, List.append_nil] at hk
        refine iteF ⟨s1.trans s2, ?_⟩
        rw [hk]
        exact hd2
    · rintro H1 ⟨s1, hd⟩
      rw [← hall.len] at hd
      exact k H1 D s1 hD hd
end
end Rt
/-! ## W20 -/
set_option Elab.async false
set_option linter.all false
set_option maxRecDepth 100000
set_option maxHeartbeats 4000000
namespace Rt
open PySem PySem.Spec PyProof.Rows L2
open L2H (RoomH roomH_of)
/-! ### the law -/
theorem MachOk.but {K : PySem.W.Frag} {c : Mc} {H H' : Hp} {r : Addr} {n m : Int} (M : MachOk K c H) (hr : H r = some (.lst [.int n])) (B : But r H H') (hr' : H' r = some (.lst [.int m])) : ∃ c', MachOk K c' H' ∧ c'.x = c.x := by
  have ki : ∀ b C dx fs, H b = some (.ins C dx fs) → H' b = some (.ins C dx fs) := fun b C dx fs e => B b _ (ne_of e hr (by intro z; cases z)) e
  have kd : ∀ b kvs, H b = some (.dK kvs) → H' b = some (.dK kvs) := fun b kvs e => B b _ (ne_of e hr (by intro z; cases z)) e
  have kt : Tk H H' := fun b xs e => B b _ (ne_of e hr (by intro z; cases z)) e
  have kf : KF K H H' := KF.but B hr
  have kl : ∀ b vs, H b = some (.lst vs) → vs ≠ [.int n] → H' b = some (.lst vs) := fun b vs e h => B b _ (ne_of e hr (fun z => h (by injection z))) e
  have hlr : c.A.map V.ref ≠ [.int n] := fun z => by
    cases hA : c.A with
    | nil => rw [hA] at z; cases z
    | cons a A => rw [hA] at z; cases z
  have hdr : c.ds.map V.str ≠ [.int n] := fun z => by
    cases hA : c.ds with
    | nil => rw [hA] at z; cases z
    | cons a A => rw [hA] at z; cases z
  have hk : ∀ {h d q}, KidsAt H c.A c.D h d q → q ≠ r ∧ KidsAt H' c.A c.D h d q := fun {h d q} k => by
    obtain ⟨vs, h1, h2, h3⟩ := k
    have hne : vs ≠ [.int n] := fun z => by
      subst z
      obtain ⟨j, a, w, d', _, e, _⟩ := h3 _ (List.mem_singleton.mpr rfl)
      cases e
    exact ⟨fun z => hne (by rw [z, hr] at h1; injection h1 with h1; injection h1 with h1; exact h1.symm), vs, kl _ _ h1 hne, h2, h3⟩
  have L := M.lay.lay
  have hlay : LayS c.I K H' c.A c.D (c.S.filter fun s => decide (s ≠ r)) c.l := by
    refine ⟨kl _ _ L.lst hlr, L.len, L.nd, fun i a x h1 h2 => ?_, fun s hs => ?_⟩
    · obtain ⟨dx, r', fl, sl, e, b, g, g1, g2, g3, g4, g5, g6, g7, g8, g9⟩ := L.nodes i a x h1 h2
      exact ⟨dx, r', fl, sl, e, b, g, ki _ _ _ _ g1, g2.tk kt, List.mem_filter.mpr ⟨g3, decide_eq_true (hk g5).1⟩, List.mem_filter.mpr ⟨g4, decide_eq_true (hk g6).1⟩, (hk g5).2, (hk g6).2, g7, g8, g9⟩
    · obtain ⟨hs, hne⟩ := List.mem_filter.mp hs
      obtain ⟨h1, vs, h2⟩ := L.lists s hs
      exact ⟨h1, vs, B _ _ (of_decide_eq_true hne) h2⟩
  have hd : ∀ {a h w v}, DeedAt K H c.D a h w v → DeedAt K H' c.D a h w v := fun {a h w v} d => by
    obtain ⟨p, dx, r', b, e, ⟨dn, i, fl, sl, e', g, hx⟩, q⟩ := d
    refine ⟨p, dx, r', b, e, ⟨dn, i, fl, sl, e', g, ki _ _ _ _ hx⟩, ?_⟩
    rcases q with ⟨hw, c', o, h1, h2⟩ | ⟨h1, h2, h3⟩
    · exact .inl ⟨hw, c', o, ki _ _ _ _ h1, h2⟩
    · exact .inr ⟨h1, h2, ki _ _ _ _ h3⟩
  have hlo : LayOk c.I K H' c.lx c.ldx c.l c.fd c.e c.A c.D (c.S.filter fun s => decide (s ≠ r)) c.kvs :=
    ⟨ki _ _ _ _ M.lay.obj, hlay, M.lay.size, kd _ _ M.lay.dct, M.lay.funs.imp fun _ _ q => ⟨q.1, q.2.keep0 kf kt⟩, M.lay.entry⟩
  have hasks : ∀ r, c.I.P r → ∃ xs, H' r = some (.tup xs) ∧ ∀ x d, xs = [V.str "ask", V.str x, V.str d] → d ∈ c.ds := fun r h1 => let ⟨xs, h2, h3⟩ := M.asks r h1; ⟨xs, kt _ _ h2, h3⟩
  have hgk : ∀ kv ∈ c.gk, ∃ t, kv.2 = .ref t ∧ NumsAt H' t := fun kv hkv => let ⟨t, e, q⟩ := M.gk kv hkv; ⟨t, e, q.tk kt⟩
  by_cases hde : c.de = r
  · have hvs : c.vs = [.int n] := by
      have := M.deeds
      rw [hde, hr] at this
      injection this with this
      injection this with this
      exact this.symm
    refine ⟨{ c with S := c.S.filter fun s => decide (s ≠ r), vs := [.int m] }, ⟨M.ok, ki _ _ _ _ M.obj, M.prog.tk kt, hlo, kl _ _ M.doors hdr, M.dnd, M.dsub, hasks, kd _ _ M.gates, hgk, by show H' c.de = _; rw [hde]; exact hr', fun i a x h1 h2 => ?_⟩, rfl⟩
    obtain ⟨v, e, q⟩ := M.dl i a x h1 h2
    rw [hvs] at e
    have hv : v = .int n := by
      cases i with
      | zero => simpa using e.symm
      | succ i => simp at e
    obtain ⟨p, _, _, _, e2, _⟩ := q
    rw [hv] at e2
    cases e2
  · exact ⟨{ c with S := c.S.filter fun s => decide (s ≠ r) }, ⟨M.ok, ki _ _ _ _ M.obj, M.prog.tk kt, hlo, kl _ _ M.doors hdr, M.dnd, M.dsub, hasks, kd _ _ M.gates, hgk, B _ _ hde M.deeds, fun i a x h1 h2 => let ⟨v, e, q⟩ := M.dl i a x h1 h2; ⟨v, e, hd q⟩⟩, rfl⟩
theorem dp_ints {K : PySem.W.Frag} {H : Hp} : ∀ ns : List Int, DpAll K H (ns.map V.int) (ns.map PyData.int)
  | [] => .nil
  | n :: ns => .cons (.int n) (dp_ints ns)
theorem ne_ints {K : PySem.W.Frag} {H : Hp} {a b : Addr} {ns : List Int} {Q : VK} (ha : H a = some (.lst (ns.map V.int))) (hb : H b = some (.lst (ns.map V.int))) (q : Q (.bl false) H) : rNeD K (.ref a) (.ref b) H Q := by
  refine ⟨.list (ns.map .int), .list (ns.map .int), .lst (SqL.of ha) (dp_ints ns), .lst (SqL.of hb) (dp_ints ns), PySem.W.ke_shaped_ints ns, PySem.W.ke_shaped_ints ns, ?_⟩
  rw [SeqAt.eqv_refl _ (SeqAt.canLay_of_shaped (PySem.W.ke_shaped_ints ns))]
  exact q
theorem notes_ne {H : Hp} {ns : List Int} {vs : List V} {n : Int} (h : All2 (NoteV H) ns vs) : vs ≠ [.int n] := fun z => by
  subst z
  cases h with
  | cons q t =>
    obtain ⟨_, _, e, _⟩ := q
    cases e
def spLaw (K : PySem.W.Frag) : Sp := fun vs H Q _ => ∃ (a : Addr) (ns : List Int), vs = [.ref a] ∧ SqL K H a (ns.map V.int) ∧ ns.length ≤ 63 ∧ ∀ H', Q (.bl true) H'
section
variable {P : Program} {w : World} {K : PySem.W.Frag} {mg : Str → Option Value} {base : Heap}
theorem law_ok (T : Txt K mg) {fd : FuncData} (F : FunD K "law" "law" (defArgs s_law) (defBody s_law) (defScope s_law) [] [] (He.fAd K ("law", none)) fd) :
    FnOk P w K mg base CX0 60 (He.fAd K ("law", none)) fd ["_law_script"] (spLaw K) := by
  have G__law_state := ok_state (P := P) (w := w) (base := base) T
  have G__law_cell_at := ok_cell_at (P := P) (w := w) (base := base) T
  have G__law_program := ok_program (P := P) (w := w) (base := base) T
  have G__law_world := ok_world (P := P) (w := w) (base := base) T
  have G__law_listed := ok_listed (P := P) (w := w) (base := base) T
  have G__law_run := ok_run (P := P) (w := w) (base := base) T
  have G__law_next := ok_next (P := P) (w := w) (base := base) T
  have G_kept_steps := ok_kept (P := P) (w := w) (base := base) T
  have G_Machine___init__ := ok_machine (P := P) (w := w) (base := base) T
  have key : ∀ (cdv : Value) (A : Around) (outer : List Env) (s : Shared) (H : Hp) (vs : List V) (Q : VK) (E : XK), Room 59 (A.deeper (envOfC "law" (defScope s_law) s.heap.objs.size (He.fAd K ("law", none)) cdv)) → spLaw K vs H Q E →
      ∃ t, PSs (cxOf CX0 P w K mg base N_law "law" (defScope s_law) (He.fAd K ("law", none)) cdv A outer s H E).nox (defBody s_law) t ∧ t { nx := fun _ H' => Q .non H', rt := Q } (start N_law vs) H := by
    intro cdv A outer s H vs Q E hr h
    obtain ⟨a, ns, rfl, hS, hns, k⟩ := h
    refine ⟨_, (pss_cons
 (ps_set (i := 1) sc_law.nd rfl (by first | exact Or.inl rfl | exact Or.inr rfl) (ce_call G__law_state (hr.mono (by omega)) T.g__law_state T.p__law_state pass0 (pa_cons (ce_call G__law_cell_at (hr.mono (by omega)) T.g__law_cell_at T.p__law_cell_at pass0 (pa_cons (pv 0) (pa_cons pe_int pa_nil))) (pa_cons pe_int pa_nil)))) (pss_cons
 (ps_set (i := 2) sc_law.nd rfl (by first | exact Or.inl rfl | exact Or.inr rfl) (ce_call G__law_program (hr.mono (by omega)) T.g__law_program T.p__law_program pass0 (pa_cons (pv 1) (pa_cons pe_int pa_nil)))) (pss_cons
 (ps_set (i := 3) sc_law.nd rfl (by first | exact Or.inl rfl | exact Or.inr rfl) (ce_call G__law_world (hr.mono (by omega)) T.g__law_world T.p__law_world pass0 (pa_cons (pv 1) pa_nil))) (pss_cons
 (ps_set (i := 4) sc_law.nd rfl (by first | exact Or.inl rfl | exact Or.inr rfl) (pe_callB call_len_seq (by rfl) T.b_len (by decide +kernel) (pa_cons (ce_call G__law_listed (hr.mono (by omega)) T.g__law_listed T.p__law_listed pass0 (pa_cons (pv 2) pa_nil)) pa_nil))) (pss_cons
 (ps_set (i := 5) sc_law.nd rfl (by first | exact Or.inl rfl | exact Or.inr rfl) (pe_ix ix_list (ce_call G__law_run (hr.mono (by omega)) T.g__law_run T.p__law_run pass0 (pa_cons (ce_make G_Machine___init__ (hr.mono (by omega)) T.k_Machine T.g_Machine pass0 (pa_cons (pv 2) (pa_cons (pv 3) pa_nil))) (pa_cons (ce_call G__law_next (hr.mono (by omega)) T.g__law_next T.p__law_next pass0 (pa_cons (pv 1) (pa_cons pe_int pa_nil))) pa_nil))) pe_int (fun _ _ => rfl))) (pss_cons
 (ps_for PassesOwn.never rfl (pi_range1 rfl T.b_range (pa_cons pe_int pa_nil)) (pg_name (i := 6) sc_law.nd rfl (by first | exact Or.inl rfl | exact Or.inr rfl)) (pss_cons
 (ps_set (i := 7) sc_law.nd rfl (by first | exact Or.inl rfl | exact Or.inr rfl) (pe_op op_add pe_int (ce_call G__law_next (hr.mono (by omega)) T.g__law_next T.p__law_next pass0 (pa_cons (pv 1) (pa_cons pe_int pa_nil))))) (pss_cons
 (ps_setLc (i := 8) (own := [("_law_number", 12)]) rfl sc_law.nd rfl rfl (sw_true rfl rfl rfl (by decide +kernel)) (pi_range1 rfl T.b_range (pa_cons (pv 4) pa_nil)) (blkOk_by (N := N_law) (sc := defScope s_law) (by decide +kernel)) (fun _ _ _ _ _ => (pg_name (i := 12) sc_law.nd rfl (by first | exact Or.inl rfl | exact Or.inr rfl))) (fun _ _ _ _ _ => (pts_one (pt_cmpR op_eq (ce_call G__law_next (hr.mono (by omega)) T.g__law_next T.p__law_next pass0 (pa_cons (pv 1) (pa_cons (pv 7) pa_nil))) pe_int (nomark _)))) (fun _ _ _ _ _ => (pv 12))) (C8.pss_cut
 (ps_if (pt_cmpR op_eq (pe_op op_mod (pv 6) pe_int) pe_int (nomark _)) (pss_one
 (ps_expr (pe_bm0 PySem.F.plainAttrs_list PySem.F.slot_list_reverse PySem.F.type_list_reverse mt_reverse (pv 8)))) pss_nil) (pss_cons
 (ps_set (i := 9) sc_law.nd rfl (by first | exact Or.inl rfl | exact Or.inr rfl) (pe_lst pa_nil)) (pss_cons
 (ps_for PassesOwn.never rfl (pi_range1 rfl T.b_range (pa_cons (pe_callB call_len_seq (by rfl) T.b_len (by decide +kernel) (pa_cons (pv 5) pa_nil)) pa_nil)) (pg_name (i := 10) sc_law.nd rfl (by first | exact Or.inl rfl | exact Or.inr rfl)) (pss_one
 (ps_if (pt_cmpR op_in_seq (pe_ix ix_tup (pe_ix ix_list (pv 5) (pv 10) (fun _ _ => rfl)) pe_int (fun _ _ => rfl)) (pv 8) (by rfl)) (pss_one
 (ps_expr (pe_bm PySem.F.plainAttrs_list PySem.F.slot_list_append PySem.F.type_list_append mt_append (pv 9) (pa_cons (pe_op op_add (pv 10) pe_int) pa_nil)))) pss_nil))) (pss_cons
 (ps_set (i := 11) sc_law.nd rfl (by first | exact Or.inl rfl | exact Or.inr rfl) (ce_call G_kept_steps (hr.mono (by omega)) T.g_kept_steps T.p_kept_steps pass0 (pa_cons (pv 5) (pa_cons (pv 8) pa_nil)))) (pss_cons
 (ps_if (PW.pt (pw_or (pt_not (pt_val (pe_callB call_isi (by rfl) T.b_isinstance (by decide +kernel) (pa_cons (pv 11) (pa_cons (pe_bltn (v := .ty "list") (u := .type "list") (by rfl) T.b_list (by decide +kernel) rfl) pa_nil))))) (pw_or1 (pt_cmpR (op_neD hr.units) (pv 11) (pv 9) (nomark _))))) (pss_one
 (ps_ret pe_bl)) pss_nil) (pss_cons
 (ps_expr (pe_bm PySem.F.plainAttrs_list PySem.F.slot_list_append PySem.F.type_list_append mt_append (pv 11) (pa_cons pe_int pa_nil))) (pss_one
 (ps_if (pt_cmpR (op_neD hr.units) (ce_call G_kept_steps (hr.mono (by omega)) T.g_kept_steps T.p_kept_steps pass0 (pa_cons (pv 5) (pa_cons (pv 8) pa_nil))) (pv 9) (nomark _)) (pss_one
 (ps_ret pe_bl)) pss_nil))))))))))) (pss_one
 (ps_ret pe_bl)))))))), ?_⟩
    -- the state
    refine ⟨_, rfl, a, ns, 0, rfl, hS, by decide, fun n => ⟨n, 1, rfl, by decide, by decide, fun r m hr0 m0 m1 => ?_⟩⟩
    have R0 : Rng (upd H r (.lst [.int m])) r := ⟨m, upd_same, m0, m1⟩
    show tSeq _ _ _ _ (upd H r (.lst [.int m]))
    generalize upd H r (.lst [.int m]) = H0 at R0 ⊢
    -- the program, the world
    refine ⟨_, rfl, r, 8, rfl, R0, by decide, by decide, fun H1 pa I R1 B1 ok W1 => ?_⟩
    refine ⟨_, rfl, r, rfl, R1, fun H2 wd R2 B2 W2 => ?_⟩
    have P2 := W1.tk (R1.tk B2)
    refine ⟨_, rfl, pa, I, rfl, P2, ok.fl, fun H3 al xs s3 hal hxs hx4 => ?_⟩
    refine ⟨al, xs, rfl, .inl (SqL.of hxs), ?_⟩
    -- the run
    refine ⟨_, rfl, _, rfl, fun y dy hy hdy hyd => ?_⟩
    have s4 : Same H3 (upd (upd H3 dy (.own y)) y (.ins (He.ga K "Machine") dy [])) := fun b o e => by
      rw [upd_ne (fun z => by rw [z, hy] at e; cases e), upd_ne (fun z => by rw [z, hdy] at e; cases e)]
      exact e
    have R3 : Rng H3 r := by
      obtain ⟨n, e, h⟩ := R2
      exact ⟨n, s3 _ _ e, h⟩
    refine ⟨y, dy, pa, wd, I, rfl, upd_same, P2.tk (same_tk (s3.trans s4)), ok, W2.keep (fun u _ e => s4 _ _ (s3 _ _ e)) (same_tk (s3.trans s4)), fun H5 c B5 M ex ea eP => ⟨rfl, ?_⟩⟩
    subst ex
    obtain ⟨n5, hr3, m50, m51⟩ := R3
    have nry : r ≠ c.x := fun z => by rw [z, hy] at hr3; cases hr3
    have hr5 := B5 _ _ nry (s4 _ _ hr3)
    refine ⟨_, rfl, r, 61, rfl, ⟨n5, hr5, m50, m51⟩, by decide, fun H6 n R6 B6 n0 n1 => ?_⟩
    obtain ⟨n6, hr6, m60, m61⟩ := R6
    obtain ⟨c', M6, ec⟩ := M.but hr5 B6 hr6
    rw [← ec]
    refine ⟨c', n, rfl, M6, n0, by omega, fun H7 p v l ns vs s7 hp hl hall hn _ _ _ => ?_⟩
    refine ⟨p, _, _, _, rfl, rfl, SqL.of hp, rfl, ?_⟩
    have R7 : Rng H7 r := ⟨n6, s7 _ _ hr6, m60, m61⟩
    clear s7 hr6 m60 m61 M6 ec M hr5 hr3 nry B5 s4 P2 W2 W1 hp B6 R2 R1 R0 B1 B2 hy hdy hyd
    refine ⟨4, rfl, by decide, by decide, for_range (lo := 0) (n := (4 : Int).toNat) (fun i σ H' => ∃ (o6 o7 o8 o9 o10 o11 o12 : Option V), σ = [some (.ref a), some (.ref r), some (.ref pa), some (.ref wd), some (.int (xs.length : Int)), some (.ref l), o6, o7, o8, o9, o10, o11, o12] ∧
      Rng H' r ∧ H' l = some (.lst vs) ∧ All2 (NoteV H') ns vs) ?_ ?_ ?_⟩
    · exact ⟨_, _, _, _, _, _, _, rfl, R7, hl, hall⟩
    · clear R7 hl hall
      rintro i σ H8 hi ⟨o6, o7, o8, o9, o10, o11, o12, rfl, R8, hl8, hall8⟩
      refine ⟨_, rfl, r, 4, rfl, R8, by decide, fun H9 q R9 B9 q0 q1 => ⟨_, _, rfl, rfl, ?_⟩⟩
      have nlr : l ≠ r := by
        obtain ⟨m, e, _⟩ := R8
        exact ne_of hl8 e (fun z => notes_ne hall8 (by injection z))
      have hl9 := B9 _ _ nlr hl8
      have hall9 := hall8.imp fun _ _ z => z.tk (R8.tk B9)
      clear hl8 hall8 R8 B9
      refine ⟨_, rfl, (xs.length : Int), rfl, by omega, by omega, fun D hD => ?_⟩
      have nDr : D ≠ r := R9.ne hD
      have nDl : D ≠ l := fun z => by rw [z, hl9] at hD; cases hD
      refine lc_range (lo := 0) (n := (xs.length : Int).toNat) (fun i H' => Rng H' r ∧ But r H9 H' ∧ ∃ R : List Int, H' D = some (.lst (R.map V.int)) ∧ R.length ≤ i) ⟨R9.new hD, But.new hD, [], upd_same, Nat.le_refl _⟩ ?_ ?_
      · rintro j H4 hj ⟨R4, B4, R, hD4, hl4⟩
        refine ⟨rfl, ?_⟩
        refine ⟨_, rfl, _, rfl, r, 1 + q, rfl, R4, by omega, fun H5 m R5 B5 m0 m1 => ?_⟩
        have d5 := B5 _ _ nDr hD4
        refine ⟨rfl, _, rfl, ?_⟩
        refine ite2 (fun h => ?_) (fun h => ?_)
        · refine ⟨_, rfl, _, d5, by rw [List.length_map, sizeLine_eq]; omega, R5.upd nDr, (B4.trans B5).mut hD, R ++ [0 + (j : Int)], by rw [List.map_append]; exact upd_same, by rw [List.length_append, List.length_singleton]; omega⟩
        · exact ⟨R5, B4.trans B5, R, d5, by omega⟩
      · rintro H10 ⟨R10, B10, R, hD10, hRl⟩
        have hl10 := B10 _ _ nlr hl9
        have hall10 := hall9.imp fun _ _ z => z.tk (R9.tk B10)
        clear B10 hl9 hall9 R9 hRl
        refine ⟨fun σ H' => σ = [some (.ref a), some (.ref r), some (.ref pa), some (.ref wd), some (.int (xs.length : Int)), some (.ref l), some (.int (0 + (i : Int))), some (.int (1 + q)), some (.ref D), o9, o10, o11, o12] ∧
          Rng H' r ∧ H' l = some (.lst vs) ∧ All2 (NoteV H') ns vs ∧ ∃ R : List Int, H' D = some (.lst (R.map V.int)), ?_, ?_⟩
        · refine ⟨_, rfl, _, _, rfl, rfl, (by decide : (0 : Int) < 2), rfl, _, rfl, ite2 (fun _ => ?_) (fun _ => ⟨rfl, R10, hl10, hall10, R, hD10⟩)⟩
          have up : Tk H10 (upd H10 D (.lst (R.map V.int).reverse)) := fun b ys e => by
            rw [upd_ne (ne_of e hD10 (by intro z; cases z))]
            exact e
          refine ⟨_, rfl, .inl ⟨rfl, _, SqL.of hD10⟩, D, _, rfl, rfl, hD10, rfl, R10.upd nDr, ?_, hall10.imp fun _ _ z => z.tk up, R.reverse, ?_⟩
          · rw [upd_ne (fun z => nDl z.symm)]
            exact hl10
          · rw [← List.map_reverse]
            exact upd_same
        clear R10 hl10 hall10 hD10
        rintro σ H11 ⟨rfl, R11, hl11, hall11, R2, hD11⟩
        refine ⟨Nat.zero_le _, fun du hdu => ?_⟩
        have ndl : du ≠ l := fun z => by rw [z, hl11] at hdu; cases hdu
        have ndD : du ≠ D := fun z => by rw [z, hD11] at hdu; cases hdu
        have ndr : du ≠ r := R11.ne hdu
        have hvl : ns.length = vs.length := hall11.len
        have s12 := same_new (o := .lst []) hdu
        have R12 := R11.new (o := .lst []) hdu
        have d12 : upd H11 du (.lst []) du = some (.lst []) := upd_same
        have hl12 := s12 _ _ hl11
        have hD12 := s12 _ _ hD11
        have hall12 := hall11.imp fun _ _ z => z.tk (same_tk s12)
        show tSeq _ _ _ _ (upd H11 du (.lst []))
        generalize upd H11 du (.lst []) = H12 at R12 d12 hl12 hD12 hall12 ⊢
        clear s12 hl11 hD11 hall11 R11
        refine ⟨_, rfl, l, vs, rfl, .inl (SqL.of hl12), (vs.length : Int), rfl, by omega, by omega, for_range (lo := 0) (n := ((vs.length : Nat) : Int).toNat) (fun k σ H' => ∃ (o10 : Option V), σ = [some (.ref a), some (.ref r), some (.ref pa), some (.ref wd), some (.int (xs.length : Int)), some (.ref l), some (.int (0 + (i : Int))), some (.int (1 + q)), some (.ref D), some (.ref du), o10, o11, o12] ∧
          Rng H' r ∧ H' l = some (.lst vs) ∧ All2 (NoteV H') ns vs ∧ H' D = some (.lst (R2.map V.int)) ∧ H' du = some (.lst ((keptN ns R2 k).map V.int))) ?_ ?_ ?_⟩
        · exact ⟨_, rfl, R12, hl12, hall12, hD12, d12⟩
        · clear R12 hl12 hall12 hD12 d12
          rintro k σ H13 hk ⟨o10, rfl, R13, hl13, hall13, hD13, d13⟩
          have hkv : k < vs.length := by omega
          have hkn : k < ns.length := by omega
          obtain ⟨t, rest, ht1, ht⟩ := hall13.get (List.getElem?_eq_getElem hkn) (List.getElem?_eq_getElem hkv)
          have hvk : atI vs (0 + (k : Int)) = some (.ref t) := by
            rw [Int.zero_add, ← ht1]
            exact atI_nat (List.getElem?_eq_getElem hkv)
          refine ⟨_, rfl, _, rfl, l, _, _, _, rfl, rfl, SqL.of hl13, hvk, t, _, _, _, rfl, rfl, SqT.of ht, at0, _, rfl, D, _, rfl, .inl (SqL.of hD13), rfl, flat_ints R2, _, rfl, ?_⟩
          rw [inV_ints]
          have hks := keptN_succ (R := R2) (List.getElem?_eq_getElem hkn)
          have hkl := keptN_len ns R2 k
          cases hb : decide (ns[k] ∈ R2) with
          | false =>
            rw [hb, if_neg Bool.false_ne_true, List.append_nil] at hks
            exact iteF ⟨_, rfl, R13, hl13, hall13, hD13, by rw [hks]; exact d13⟩
          | true =>
            rw [hb, if_pos rfl] at hks
            have up : ∀ zs, Tk H13 (upd H13 du (.lst zs)) := fun zs b ys e => by
              rw [upd_ne (ne_of e d13 (by intro z; cases z))]
              exact e
            refine iteT ⟨_, rfl, .inl ⟨rfl, _, SqL.of d13⟩, _, rfl, _, _, rfl, rfl, du, _, _, rfl, rfl, d13, by rw [List.length_map, sizeLine_eq]; omega, _, rfl, R13.upd ndr, ?_, hall13.imp fun _ _ z => z.tk (up _), ?_, ?_⟩
            · rw [upd_ne (fun z => ndl z.symm)]
              exact hl13
            · rw [upd_ne (fun z => ndD z.symm)]
              exact hD13
            · rw [hks, List.map_append, Int.zero_add]
              exact upd_same
        · clear R12 hl12 hall12 hD12 d12
          rintro σ H13 ⟨o10, rfl, R13, hl13, hall13, hD13, d13⟩
          have evl : ((vs.length : Nat) : Int).toNat = ns.length := by omega
          rw [evl] at d13
          have hkl := keptN_len ns R2 ns.length
          -- the kept
          refine ⟨_, rfl, _, rfl, l, D, vs, ns, R2, rfl, hl13, hall13, hn, hD13, fun H14 p s14 hp hp14 => ?_⟩
          have npl : p ≠ l := fun z => by rw [z, hl13] at hp; cases hp
          have npD : p ≠ D := fun z => by rw [z, hD13] at hp; cases hp
          have npd : p ≠ du := fun z => by rw [z, d13] at hp; cases hp
          have npr : p ≠ r := R13.ne hp
          have hl14 := s14 _ _ hl13
          have hD14 := s14 _ _ hD13
          have d14 := s14 _ _ d13
          have hall14 := hall13.imp fun _ _ z => z.tk (same_tk s14)
          have R14 : Rng H14 r := by
            obtain ⟨m, e, h⟩ := R13
            exact ⟨m, s14 _ _ e, h⟩
          clear hl13 hD13 d13 hall13 R13
          refine ⟨_, rfl, .ref p, .ty "list", .type "list", .type "list", true, rfl, .ty "list", .base (.lst hp14), rfl, _, rfl, ?_⟩
          refine ⟨_, rfl, _, rfl, ne_ints hp14 d14 ⟨_, rfl, ?_⟩⟩
          refine iteF ?_
          -- it changes, and is told anew
          refine ⟨_, rfl, .inl ⟨rfl, _, SqL.of hp14⟩, p, _, _, rfl, rfl, hp14, by rw [List.length_map, sizeLine_eq]; omega, ?_⟩
          have up : ∀ zs, Tk H14 (upd H14 p (.lst zs)) := fun zs b ys e => by
            rw [upd_ne (ne_of e hp14 (by intro z; cases z))]
            exact e
          have un : ∀ {zs b o}, p ≠ b → H14 b = some o → upd H14 p (.lst zs) b = some o := fun h e => by
            rw [upd_ne (fun z => h z.symm)]
            exact e
          refine ⟨_, rfl, _, rfl, l, D, vs, ns, R2, rfl, un npl hl14, hall14.imp fun _ _ z => z.tk (up _), hn, un npD hD14, fun H15 p2 s15 hp2 hp15 => ?_⟩
          refine ⟨_, rfl, ne_ints hp15 (s15 _ _ (un npd d14)) ⟨_, rfl, ?_⟩⟩
          refine iteF ⟨_, _, _, _, _, _, _, rfl, ?_, s15 _ _ (un npl hl14), hall14.imp fun _ _ z => z.tk ((up _).trans (same_tk s15))⟩
          obtain ⟨m, e, h⟩ := R14
          exact ⟨m, s15 _ _ (un npr e), h⟩
    · rintro σ H8 ⟨o6, o7, o8, o9, o10, o11, o12, rfl, R8, hl8, hall8⟩
      exact k _
  exact F.ok sc_law (fun vs H Q E h => by obtain ⟨a, ns, rfl, _⟩ := h; rfl) fun cdv A outer s H vs Q E hr h => by
    obtain ⟨t, h1, h2⟩ := key cdv A outer s H vs Q E hr h
    exact ⟨t, h1.nox, h2⟩
end
end Rt
/-! ## EndT -/
set_option Elab.async false
set_option linter.all false
set_option maxRecDepth 100000
set_option maxHeartbeats 4000000
namespace Rt
open PySem PySem.Spec PyProof.Rows L2
theorem factsR {K : PySem.W.Frag} {mg : Str → Option Value} {h : Heap} {w : World} (X : K.In h) (G : h.Ns mainGlobals mg) (c : He.SaysX faL fnL [] [] exB w h K) : Txt K mg :=
  txt_mk X G c.t.d c.more (He.ba c.more).2
end Rt
open PySem PySem.W PySem.Calls PyProof.Rows
set_option maxRecDepth 100000 in
set_option maxHeartbeats 0 in
theorem PySem.Challenge.cw_retrace_k62_kept_steps_holds : PySem.Challenge.rw_retrace_k62_kept_steps.Holds := by
  w_on; o_law
  refine HandSHeadRun.head_any (r := OpenLaw.row PySem.Challenge.rw_retrace_k62_kept_steps) (q := view (OpenLaw.row PySem.Challenge.rw_retrace_k62_kept_steps).prog [62]) (H := Rt.hkR) (ob := Rt.obR) (M := 40000) (loose := Rt.looseR) (d := HandSHeadRun.topDef (OpenLaw.row PySem.Challenge.rw_retrace_k62_kept_steps).prog 62) (kwd := []) Rt.obR_eq
    (by kernel_rfl) (fun s => by kernel_rfl) Rt.runR (by kernel_rfl) (by kernel_rfl) (by kernel_rfl) (by rfl) (by first | assumption | decide +kernel) (by decide +kernel) ⟨rfl, rfl, rfl, rfl, rfl, by decide +kernel⟩ ?hw ?hc
  case hw => w_witness2
  case hc =>
    refine L2.walk_ofE (l := PySem.Challenge.rw_retrace_k62_kept_steps) (n := 63) (k := 60) (x := "_law_script") (CX := L2.CX0) rfl (by decide) (by kernel_rfl) ⟨rfl, by decide, by decide⟩ ?F (fun _ _ _ _ z => z)
    intro w mg fa h Y G hmg0
    obtain ⟨K, KX, c⟩ := Y
    have hmg : mg ("law" : PySem.Str) = some (.ref fa) := by
      have e : (HandSHeadRun.topDef (OpenLaw.row PySem.Challenge.rw_retrace_k62_kept_steps).prog 62).name = ("law" : PySem.Str) := by kernel_rfl
      rw [← e]
      exact hmg0
    have T := Rt.factsR KX G c
    obtain ⟨fd, F⟩ := T.f_law
    have e := hmg.symm.trans T.g_law
    cases e
    have b := L2.FunD.bindsA (ps := ["_law_script"]) F fun _ _ _ _ _ _ us hl => match us, hl with | [_], _ => rfl
    exact ⟨K, fd, Rt.spLaw K, KX, fun s v => b s [v] rfl, fun H a ns hl _ hS => ⟨a, ns, rfl, hS, hl, fun _ => rfl⟩, fun base _ _ => Rt.law_ok T F⟩
