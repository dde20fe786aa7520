import PyProof.Rows.All
import Wide.All
import OpenK.AllK
import Wide.FinOn
import HandS.Defaults
import HandS.WordsExc
import KE.KStateDown
import HandS.Base
import HandS.Call
import HandS.Ends
import HandS.More
import HandS.Words
import HandS.Head0
import HandS.Head1
import HandS.Head2
import HandS.HeadEnd
import HandS.HeadHook1
import HandS.HeadHook2
import HandS.HeadHook3
import HandS.HeadHook4
import KE.KDictKeyed
import HandS.ForMost
import HandS.Evl
import HandS.Strs
import HandS.SetFor
import HandS.IsInst
import HandS.Zip
import HandS.Deep
import HandS.TupAny
import HandS.Conv
import HandS.Style
import HandS.SortInts
import HandS.OwnEq
import HandS.Flow
import HandS.TupSets
import HandS.SetKeys
import KE.GoesEnum
import PySem.Challenge.RW_followsortable_k60_whole_no_untrue_chase
set_option Elab.async false
set_option linter.all false
set_option autoImplicit false
set_option maxRecDepth 100000
set_option maxHeartbeats 1000000
set_option maxHeartbeats 0
namespace DD
open PySem PySem.Spec PyProof.Rows L2
def top (i : Nat) : Stmt := PySem.Challenge.pw_followsortable_k60_whole_no_untrue_chase.main.body.getD i (.Pass ⟨0, 0, 0, 0⟩)
abbrev s_as_set : Stmt := (top 1)
abbrev s_united : Stmt := (top 2)
abbrev s_met : Stmt := (top 3)
abbrev s_less : Stmt := (top 4)
abbrev s_whole : Stmt := (top 6)
abbrev s_Sides_init : Stmt := (inClass (top 8) 0)
abbrev s_Jd_init : Stmt := (inClass (top 11) 0)
abbrev s_first_rows : Stmt := (top 29)
abbrev s_agree : Stmt := (top 30)
abbrev s_jparts_s : Stmt := (top 31)
abbrev s_Replay_init : Stmt := (inClass (top 33) 0)
abbrev s_Replay_has_row : Stmt := (inClass (top 33) 1)
abbrev s_Replay_make_same : Stmt := (inClass (top 33) 2)
abbrev s_Replay_add_joined : Stmt := (inClass (top 33) 3)
abbrev s_Replay_take : Stmt := (inClass (top 33) 4)
abbrev s_Replay_reached : Stmt := (inClass (top 33) 5)
abbrev s_chases : Stmt := (top 34)
abbrev s_Table_init : Stmt := (inClass (top 39) 0)
abbrev s_Table_eq : Stmt := (inClass (top 39) 1)
abbrev s_Table_cells : Stmt := (inClass (top 39) 2)
abbrev s_project : Stmt := (top 40)
abbrev s_mixed : Stmt := (top 41)
abbrev s_join : Stmt := (top 42)
abbrev s_jparts_t : Stmt := (top 43)
abbrev s_keeps_fd : Stmt := (top 45)
abbrev s_parts_of : Stmt := (top 46)
abbrev s_keeps : Stmt := (top 47)
abbrev s_is_against : Stmt := (top 49)
abbrev s_takes : Stmt := (top 50)
abbrev s_law_numbers : Stmt := (top 52)
abbrev s_law_set : Stmt := (top 53)
abbrev s_law_sparse : Stmt := (top 54)
abbrev s_law_united : Stmt := (top 55)
abbrev s_law_met : Stmt := (top 56)
abbrev s_law_less : Stmt := (top 57)
abbrev s_law_dependency : Stmt := (top 58)
abbrev s_law_told : Stmt := (top 59)
abbrev s_law_object : Stmt := (top 60)
abbrev s_law_parts : Stmt := (top 61)
abbrev s_law_first : Stmt := (top 62)
abbrev s_law_agree : Stmt := (top 63)
abbrev s_law_same : Stmt := (top 64)
abbrev s_law_fits : Stmt := (top 65)
abbrev s_law_step : Stmt := (top 66)
abbrev s_law_drawn_same : Stmt := (top 67)
abbrev s_law_drawn_join : Stmt := (top 68)
abbrev s_law_drawn_step : Stmt := (top 69)
abbrev s_law_steps : Stmt := (top 70)
abbrev s_law_join_target : Stmt := (top 71)
abbrev s_law_parted : Stmt := (top 72)
abbrev s_law_planted : Stmt := (top 73)
abbrev s_law_case : Stmt := (top 74)
abbrev s_law_joined : Stmt := (top 75)
abbrev s_law_keeps : Stmt := (top 76)
abbrev s_law_once : Stmt := (top 77)
abbrev s_law_closed : Stmt := (top 78)
abbrev s_law_due : Stmt := (top 79)
abbrev s_law_free : Stmt := (top 80)
abbrev s_law_loose : Stmt := (top 81)
abbrev s_law_near : Stmt := (top 82)
abbrev s_law_is_true : Stmt := (top 83)
abbrev s_law : Stmt := (top 84)
/-! ### what the head tells -/
def o_as_set : He.DefD := ⟨("as_set", none), "as_set", "as_set", defArgs s_as_set, defBody s_as_set, defScope s_as_set, [], []⟩
def o_united : He.DefD := ⟨("united", none), "united", "united", defArgs s_united, defBody s_united, defScope s_united, [], []⟩
def o_met : He.DefD := ⟨("met", none), "met", "met", defArgs s_met, defBody s_met, defScope s_met, [], []⟩
def o_less : He.DefD := ⟨("less", none), "less", "less", defArgs s_less, defBody s_less, defScope s_less, [], []⟩
def o_whole : He.DefD := ⟨("whole", none), "whole", "whole", defArgs s_whole, defBody s_whole, defScope s_whole, [], []⟩
def o_Fd_init : He.DefD := ⟨("Fd", some "__init__"), "__init__", "Sides.__init__", defArgs s_Sides_init, defBody s_Sides_init, defScope s_Sides_init, [], []⟩
def o_Mvd_init : He.DefD := ⟨("Mvd", some "__init__"), "__init__", "Sides.__init__", defArgs s_Sides_init, defBody s_Sides_init, defScope s_Sides_init, [], []⟩
def o_Jd_init : He.DefD := ⟨("Jd", some "__init__"), "__init__", "Jd.__init__", defArgs s_Jd_init, defBody s_Jd_init, defScope s_Jd_init, [], []⟩
def o_agree : He.DefD := ⟨("agree", none), "agree", "agree", defArgs s_agree, defBody s_agree, defScope s_agree, [], []⟩
def o_joined_parts_judgesteps : He.DefD := ⟨("joined_parts_judgesteps", none), "joined_parts", "joined_parts", defArgs s_jparts_s, defBody s_jparts_s, defScope s_jparts_s, [], []⟩
def o_Replay_has_row : He.DefD := ⟨("Replay", some "has_row"), "has_row", "Replay.has_row", defArgs s_Replay_has_row, defBody s_Replay_has_row, defScope s_Replay_has_row, [], []⟩
def o_first_rows : He.DefD := ⟨("first_rows", none), "first_rows", "first_rows", defArgs s_first_rows, defBody s_first_rows, defScope s_first_rows, [], []⟩
def o_Replay_init : He.DefD := ⟨("Replay", some "__init__"), "__init__", "Replay.__init__", defArgs s_Replay_init, defBody s_Replay_init, defScope s_Replay_init, [], []⟩
def o_Replay_reached : He.DefD := ⟨("Replay", some "reached"), "reached", "Replay.reached", defArgs s_Replay_reached, defBody s_Replay_reached, defScope s_Replay_reached, [], []⟩
def o_Replay_make_same : He.DefD := ⟨("Replay", some "make_same"), "make_same", "Replay.make_same", defArgs s_Replay_make_same, defBody s_Replay_make_same, defScope s_Replay_make_same, [], []⟩
def o_Replay_add_joined : He.DefD := ⟨("Replay", some "add_joined"), "add_joined", "Replay.add_joined", defArgs s_Replay_add_joined, defBody s_Replay_add_joined, defScope s_Replay_add_joined, [], []⟩
def o_Replay_take : He.DefD := ⟨("Replay", some "take"), "take", "Replay.take", defArgs s_Replay_take, defBody s_Replay_take, defScope s_Replay_take, [], []⟩
def o_chases : He.DefD := ⟨("chases", none), "chases", "chases", defArgs s_chases, defBody s_chases, defScope s_chases, [], []⟩
def o_Table_cells : He.DefD := ⟨("Table", some "cells"), "cells", "Table.cells", defArgs s_Table_cells, defBody s_Table_cells, defScope s_Table_cells, [], []⟩
def o_Table_init : He.DefD := ⟨("Table", some "__init__"), "__init__", "Table.__init__", defArgs s_Table_init, defBody s_Table_init, defScope s_Table_init, [], []⟩
def o_Table_eq : He.DefD := ⟨("Table", some "__eq__"), "__eq__", "Table.__eq__", defArgs s_Table_eq, defBody s_Table_eq, defScope s_Table_eq, [], []⟩
def o_project : He.DefD := ⟨("project", none), "project", "project", defArgs s_project, defBody s_project, defScope s_project, [], []⟩
def o_mixed : He.DefD := ⟨("mixed", none), "mixed", "mixed", defArgs s_mixed, defBody s_mixed, defScope s_mixed, [], []⟩
def o_join : He.DefD := ⟨("join", none), "join", "join", defArgs s_join, defBody s_join, defScope s_join, [], []⟩
def o_joined_parts_table : He.DefD := ⟨("joined_parts_table", none), "joined_parts", "joined_parts", defArgs s_jparts_t, defBody s_jparts_t, defScope s_jparts_t, [], []⟩
def o_keeps_fd : He.DefD := ⟨("keeps_fd", none), "keeps_fd", "keeps_fd", defArgs s_keeps_fd, defBody s_keeps_fd, defScope s_keeps_fd, [], []⟩
def o_parts_of : He.DefD := ⟨("parts_of", none), "parts_of", "parts_of", defArgs s_parts_of, defBody s_parts_of, defScope s_parts_of, [], []⟩
def o_keeps : He.DefD := ⟨("keeps", none), "keeps", "keeps", defArgs s_keeps, defBody s_keeps, defScope s_keeps, [], []⟩
def o_is_against : He.DefD := ⟨("is_against", none), "is_against", "is_against", defArgs s_is_against, defBody s_is_against, defScope s_is_against, [], []⟩
def o_takes : He.DefD := ⟨("takes", none), "takes", "takes", defArgs s_takes, defBody s_takes, defScope s_takes, [], []⟩
def o_law_numbers : He.DefD := ⟨("_law_numbers", none), "_law_numbers", "_law_numbers", defArgs s_law_numbers, defBody s_law_numbers, defScope s_law_numbers, [], []⟩
def o_law_set : He.DefD := ⟨("_law_set", none), "_law_set", "_law_set", defArgs s_law_set, defBody s_law_set, defScope s_law_set, [], []⟩
def o_law_sparse : He.DefD := ⟨("_law_sparse", none), "_law_sparse", "_law_sparse", defArgs s_law_sparse, defBody s_law_sparse, defScope s_law_sparse, [], []⟩
def o_law_united : He.DefD := ⟨("_law_united", none), "_law_united", "_law_united", defArgs s_law_united, defBody s_law_united, defScope s_law_united, [], []⟩
def o_law_met : He.DefD := ⟨("_law_met", none), "_law_met", "_law_met", defArgs s_law_met, defBody s_law_met, defScope s_law_met, [], []⟩
def o_law_less : He.DefD := ⟨("_law_less", none), "_law_less", "_law_less", defArgs s_law_less, defBody s_law_less, defScope s_law_less, [], []⟩
def o_law_agree : He.DefD := ⟨("_law_agree", none), "_law_agree", "_law_agree", defArgs s_law_agree, defBody s_law_agree, defScope s_law_agree, [], []⟩
def o_law_parts : He.DefD := ⟨("_law_parts", none), "_law_parts", "_law_parts", defArgs s_law_parts, defBody s_law_parts, defScope s_law_parts, [], []⟩
def o_law_object : He.DefD := ⟨("_law_object", none), "_law_object", "_law_object", defArgs s_law_object, defBody s_law_object, defScope s_law_object, [], []⟩
def o_law_first : He.DefD := ⟨("_law_first", none), "_law_first", "_law_first", defArgs s_law_first, defBody s_law_first, defScope s_law_first, [], []⟩
def o_law_dependency : He.DefD := ⟨("_law_dependency", none), "_law_dependency", "_law_dependency", defArgs s_law_dependency, defBody s_law_dependency, defScope s_law_dependency, [], []⟩
def o_law_told : He.DefD := ⟨("_law_told", none), "_law_told", "_law_told", defArgs s_law_told, defBody s_law_told, defScope s_law_told, [], []⟩
def o_law_same : He.DefD := ⟨("_law_same", none), "_law_same", "_law_same", defArgs s_law_same, defBody s_law_same, defScope s_law_same, [], []⟩
def o_law_fits : He.DefD := ⟨("_law_fits", none), "_law_fits", "_law_fits", defArgs s_law_fits, defBody s_law_fits, defScope s_law_fits, [], []⟩
def o_law_step : He.DefD := ⟨("_law_step", none), "_law_step", "_law_step", defArgs s_law_step, defBody s_law_step, defScope s_law_step, [], []⟩
def o_law_drawn_same : He.DefD := ⟨("_law_drawn_same", none), "_law_drawn_same", "_law_drawn_same", defArgs s_law_drawn_same, defBody s_law_drawn_same, defScope s_law_drawn_same, [], []⟩
def o_law_drawn_join : He.DefD := ⟨("_law_drawn_join", none), "_law_drawn_join", "_law_drawn_join", defArgs s_law_drawn_join, defBody s_law_drawn_join, defScope s_law_drawn_join, [], []⟩
def o_law_drawn_step : He.DefD := ⟨("_law_drawn_step", none), "_law_drawn_step", "_law_drawn_step", defArgs s_law_drawn_step, defBody s_law_drawn_step, defScope s_law_drawn_step, [], []⟩
def o_law_steps : He.DefD := ⟨("_law_steps", none), "_law_steps", "_law_steps", defArgs s_law_steps, defBody s_law_steps, defScope s_law_steps, [], []⟩
def o_law_join_target : He.DefD := ⟨("_law_join_target", none), "_law_join_target", "_law_join_target", defArgs s_law_join_target, defBody s_law_join_target, defScope s_law_join_target, [], []⟩
def o_law_parted : He.DefD := ⟨("_law_parted", none), "_law_parted", "_law_parted", defArgs s_law_parted, defBody s_law_parted, defScope s_law_parted, [], []⟩
def o_law_planted : He.DefD := ⟨("_law_planted", none), "_law_planted", "_law_planted", defArgs s_law_planted, defBody s_law_planted, defScope s_law_planted, [], []⟩
def o_law_case : He.DefD := ⟨("_law_case", none), "_law_case", "_law_case", defArgs s_law_case, defBody s_law_case, defScope s_law_case, [], []⟩
def o_law_joined : He.DefD := ⟨("_law_joined", none), "_law_joined", "_law_joined", defArgs s_law_joined, defBody s_law_joined, defScope s_law_joined, [], []⟩
def o_law_keeps : He.DefD := ⟨("_law_keeps", none), "_law_keeps", "_law_keeps", defArgs s_law_keeps, defBody s_law_keeps, defScope s_law_keeps, [], []⟩
def o_law_once : He.DefD := ⟨("_law_once", none), "_law_once", "_law_once", defArgs s_law_once, defBody s_law_once, defScope s_law_once, [], []⟩
def o_law_closed : He.DefD := ⟨("_law_closed", none), "_law_closed", "_law_closed", defArgs s_law_closed, defBody s_law_closed, defScope s_law_closed, [], []⟩
def o_law_due : He.DefD := ⟨("_law_due", none), "_law_due", "_law_due", defArgs s_law_due, defBody s_law_due, defScope s_law_due, [], []⟩
def o_law_free : He.DefD := ⟨("_law_free", none), "_law_free", "_law_free", defArgs s_law_free, defBody s_law_free, defScope s_law_free, [], []⟩
def o_law_loose : He.DefD := ⟨("_law_loose", none), "_law_loose", "_law_loose", defArgs s_law_loose, defBody s_law_loose, defScope s_law_loose, [], []⟩
def o_law_near : He.DefD := ⟨("_law_near", none), "_law_near", "_law_near", defArgs s_law_near, defBody s_law_near, defScope s_law_near, [], []⟩
def o_law_is_true : He.DefD := ⟨("_law_is_true", none), "_law_is_true", "_law_is_true", defArgs s_law_is_true, defBody s_law_is_true, defScope s_law_is_true, [], []⟩
def o_law : He.DefD := ⟨("law", none), "law", "law", defArgs s_law, defBody s_law, defScope s_law, [], []⟩
def hdFn : List He.DefD := [o_as_set, o_united, o_met, o_less, o_whole, o_Fd_init, o_Mvd_init, o_Jd_init, o_agree, o_joined_parts_judgesteps, o_Replay_has_row, o_first_rows, o_Replay_init, o_Replay_reached, o_Replay_make_same, o_Replay_add_joined, o_Replay_take, o_chases, o_Table_cells, o_Table_init, o_Table_eq, o_project, o_mixed, o_join, o_joined_parts_table, o_keeps_fd, o_parts_of, o_keeps, o_is_against, o_takes, o_law_numbers, o_law_set, o_law_sparse, o_law_united, o_law_met, o_law_less, o_law_agree, o_law_parts, o_law_object, o_law_first, o_law_dependency, o_law_told, o_law_same, o_law_fits, o_law_step, o_law_drawn_same, o_law_drawn_join, o_law_drawn_step, o_law_steps, o_law_join_target, o_law_parted, o_law_planted, o_law_case, o_law_joined, o_law_keeps, o_law_once, o_law_closed, o_law_due, o_law_free, o_law_loose, o_law_near, o_law_is_true, o_law]
def hdFa : List He.Fa := [.glo "as_set", .glo "united", .glo "met", .glo "less", .glo "whole", .glo "agree", .glo "joined_parts_judgesteps", .glo "first_rows", .glo "chases", .glo "project", .glo "mixed", .glo "join", .glo "joined_parts_table", .glo "keeps_fd", .glo "parts_of", .glo "keeps", .glo "is_against", .glo "takes", .glo "_law_numbers", .glo "_law_set", .glo "_law_sparse", .glo "_law_united", .glo "_law_met", .glo "_law_less", .glo "_law_agree", .glo "_law_parts", .glo "_law_object", .glo "_law_first", .glo "_law_dependency", .glo "_law_told", .glo "_law_same", .glo "_law_fits", .glo "_law_step", .glo "_law_drawn_same", .glo "_law_drawn_join", .glo "_law_drawn_step", .glo "_law_steps", .glo "_law_join_target", .glo "_law_parted", .glo "_law_planted", .glo "_law_case", .glo "_law_joined", .glo "_law_keeps", .glo "_law_once", .glo "_law_closed", .glo "_law_due", .glo "_law_free", .glo "_law_loose", .glo "_law_near", .glo "_law_is_true", .glo "law", .glo "Fd", .cls "Fd", .mkr "Fd", .glo "Mvd", .cls "Mvd", .mkr "Mvd", .glo "Jd", .cls "Jd", .mkr "Jd", .glo "Table", .cls "Table", .mkr "Table", .glo "Replay", .cls "Replay", .mkr "Replay", .noat "Fd" "left", .noat "Fd" "right", .noat "Mvd" "left", .noat "Mvd" "right", .noat "Jd" "parts", .noat "Table" "columns", .noat "Table" "rows", .noat "Replay" "count", .noat "Replay" "rows", .meth "Replay" "has_row", .meth "Replay" "reached", .meth "Replay" "make_same", .meth "Replay" "add_joined", .meth "Replay" "take", .meth "Table" "cells", .meth "Table" "__eq__", .free "len", .free "tuple", .free "sorted", .free "set", .free "list", .free "range", .free "int", .free "min", .free "max", .free "all", .free "any", .free "isinstance", .free "enumerate", .free "zip", .free "bool"]
def clNs : List Str := ["Fd", "Mvd", "Jd", "Table", "Replay"]
def clsB (K : PySem.W.Frag) (x : Str) : Bool := He.eqO (PySem.W.findIn K (.ref (He.ga K x)) "__class__") (some (some (.builtin "object.__class__")))
def mroB (K : PySem.W.Frag) (x : Str) : Bool := decide (PySem.W.mroIn K (He.ga K x) (.type "object") = some true)
def kitB (K : PySem.W.Frag) (x : Str) : Bool := clNs.all fun y => decide (PySem.W.kitOne K (.ref (He.ga K x)) (.ref (He.ga K y)) = some (decide (x = y)))
def getB (K : PySem.W.Frag) : Bool := He.eqO (PySem.W.specialIn K (.builtin "object.__class__") "__get__") (some (some (.builtin "getset_descriptor.__get__")))
def takB (K : PySem.W.Frag) : Bool := decide (PySem.W.takesIn K (.builtin "object.__class__") = some true)
def hdEx (K : PySem.W.Frag) : Bool := (getB K && takB K) && (clNs.all (clsB K) && (clNs.all (mroB K) && clNs.all (kitB K)))
abbrev hdRow : PySem.W.OpenRow := PySem.W.OpenLaw.row PySem.Challenge.rw_followsortable_k60_whole_no_untrue_chase
abbrev hdHook : PySem.W.Hook := He.hookX 4 hdFa hdFn [] [] hdEx
def hdOb (s : PySem.W.SharedT) : He.AlX := He.obsX 4 hdFa hdFn [] [] hdEx (HandSHeadRun.getT s)
theorem hdOb_eq (s : PySem.W.SharedT) : hdOb s = hdHook.obs s.abs := He.obsX_eq (HandSHeadRun.getT_eq s)
def hdNames0 : List PySem.Str := ["as_set", "united", "met", "less", "is_within", "whole", "Sides", "Fd", "Mvd", "Jd", "is_set", "earlier", "by_told", "by_within", "by_with", "by_through", "by_also", "by_other", "by_wide", "by_beyond", "by_meets", "of_one", "of_two", "row_tells", "derives", "first_rows", "agree", "joined_parts", "joined_parts_judgesteps", "Replay"]
def hdNames1 : List PySem.Str := ["chases", "TableError", "InvalidTable", "Table", "project", "mixed", "join", "joined_parts_table", "keeps_fd", "parts_of", "keeps", "is_against", "takes", "_law_numbers", "_law_set", "_law_sparse", "_law_united", "_law_met", "_law_less", "_law_dependency", "_law_told", "_law_object", "_law_parts", "_law_first", "_law_agree", "_law_same", "_law_fits", "_law_step", "_law_drawn_same", "_law_drawn_join"]
def hdNames2 : List PySem.Str := ["_law_drawn_step", "_law_steps", "_law_join_target", "_law_parted", "_law_planted", "_law_case", "_law_joined", "_law_keeps", "_law_once", "_law_closed", "_law_due", "_law_free", "_law_loose", "_law_near", "_law_is_true"]
abbrev hdNames : List PySem.Str := hdNames0 ++ hdNames1 ++ hdNames2
theorem hdRun (w : World) : HandSHeadRun.RunEq hdRow (PySem.W.view hdRow.prog [84]) hdHook hdOb 20000 hdNames w := by
  intro os
  kernel_rfl
end DD
set_option maxHeartbeats 1000000
namespace DD
open PySem PySem.Spec PyProof.Rows L2
open Evl (Ex)

/-! ### data -/
inductive Cl where
  | fd | mvd | jd | tab | rp
  deriving DecidableEq
def Cl.names : Cl → List Str
  | .fd => ["left", "right"]
  | .mvd => ["left", "right"]
  | .jd => ["parts"]
  | .tab => ["columns", "rows"]
  | .rp => ["count", "rows"]
inductive D where
  | non | bl (b : Bool) | int (i : Int) | str (x : Str)
  | tup (ds : List D) | lst (ds : List D) | scr (ds : List D)
  | dic (ks : List Int) (ds : List D) | tdic (ks : List (List (Option Int))) (ds : List D)
  | obj (c : Cl) (ds : List D)
/-- what is told of the world: the text's written part, where the classes stand -/
structure Wd where
  P : Program
  w : World
  K : PySem.W.Frag
  cA : Cl → Addr
abbrev wdOf (X : Cx) (c : Cl → Addr) : Wd := ⟨X.prog, X.w, X.K, c⟩
def lfV : Option Int → V
  | none => .non
  | some i => .int i
def lfL : Option Int → Leaf
  | none => .none
  | some i => .num i
def lfD : Option Int → D
  | none => .non
  | some i => .int i
/-- a dict whose keys are tuples of ints and None: key, where the key's tuple stands, value -/
abbrev Ent := List (Option Int) × Addr × V
def EntR (p : Ent) (q : List Leaf × Addr × Value) : Prop := q.1 = p.1.map lfL ∧ q.2.1 = p.2.1 ∧ RelV p.2.2 q.2.2
def DicAt (P : Program) (w : World) (a : Addr) (es : List Ent) (h : Heap) : Prop :=
  (a == sysModules) = false ∧ es.length ≤ sizeLine ∧ (es.map (·.1)).Nodup ∧ ∃ ys : List (List Leaf × Addr × Value), Paired EntR es ys ∧
    ∃ o en ep, h.get? a = some o ∧ o.ExactDict ∧ o.data = .dict en ep ∧ en.toList = ys.map (entryOfKey (tupleKind (leafKind P w)))
def DicO (P : Program) (w : World) (a : Addr) (es : List Ent) : HO := .ext (DicAt P w a es)
/-- a tuple object that bears no attributes of its own -/
def TupAt (H : Hp) (a : Addr) (xs : List V) : Prop := ∃ o : Obj, o.dict = none ∧ H a = some (.frz o (.tup xs))
theorem TupAt.mono {H H' : Hp} {a : Addr} {xs : List V} (t : TupAt H a xs) (e : Ex H H') : TupAt H' a xs := by
  obtain ⟨o, h1, h2⟩ := t
  exact ⟨o, h1, e _ _ h2⟩
theorem TupAt.sq {K : PySem.W.Frag} {H : Hp} {a : Addr} {xs : List V} (t : TupAt H a xs) : SqT K H a xs := by
  obtain ⟨o, h1, h2⟩ := t
  exact .inl (.inr ⟨o, h2⟩)
theorem TupAt.some_ {H : Hp} {a : Addr} {xs : List V} (t : TupAt H a xs) : ∃ o, H a = some o := by
  obtain ⟨o, h1, h2⟩ := t
  exact ⟨_, h2⟩
def zk (ks : List Int) (xs : List V) : List (Key × V) := (ks.map Sum.inl).zip xs
mutual
inductive Rep (G : Wd) (H : Hp) : V → D → Prop
  | non : Rep G H .non .non
  | bl (b : Bool) : Rep G H (.bl b) (.bl b)
  | int (i : Int) : Rep G H (.int i) (.int i)
  | str (x : Str) : Rep G H (.str x) (.str x)
  | tup {a : Addr} {xs : List V} {ds : List D} : TupAt H a xs → RepA G H xs ds → Rep G H (.ref a) (.tup ds)
  | lst {a : Addr} {xs : List V} {ds : List D} : H a = some (.lst xs) → RepA G H xs ds → Rep G H (.ref a) (.lst ds)
  | scr {a : Addr} {xs : List V} {ds : List D} : SqL G.K H a xs → RepA G H xs ds → Rep G H (.ref a) (.scr ds)
  | dic {a : Addr} {ks : List Int} {xs : List V} {ds : List D} : H a = some (.dK (zk ks xs)) → ks.Nodup → xs.length = ks.length → RepA G H xs ds → Rep G H (.ref a) (.dic ks ds)
  | tdic {a : Addr} {es : List Ent} {ds : List D} : H a = some (DicO G.P G.w a es) → (∀ e ∈ es, TupAt H e.2.1 (e.1.map lfV)) → RepA G H (es.map (·.2.2)) ds → Rep G H (.ref a) (.tdic (es.map (·.1)) ds)
  | obj {a : Addr} {c : Cl} {dx : Addr} {xs : List V} {ds : List D} : H a = some (.ins (G.cA c) dx (c.names.zip xs)) → xs.length = c.names.length → RepA G H xs ds → Rep G H (.ref a) (.obj c ds)
inductive RepA (G : Wd) (H : Hp) : List V → List D → Prop
  | nil : RepA G H [] []
  | cons {v : V} {vs : List V} {d : D} {ds : List D} : Rep G H v d → RepA G H vs ds → RepA G H (v :: vs) (d :: ds)
end
theorem Rep.mono2 {G : Wd} {H H' : Hp} (e : Ex H H') : (∀ {v : V} {d : D}, Rep G H v d → Rep G H' v d) ∧ (∀ {vs : List V} {ds : List D}, RepA G H vs ds → RepA G H' vs ds) :=
  ⟨fun r => Rep.rec (motive_1 := fun v d _ => Rep G H' v d) (motive_2 := fun vs ds _ => RepA G H' vs ds) .non .bl .int .str (fun h _ r => .tup (h.mono e) r) (fun h _ r => .lst (e _ _ h) r) (fun h _ r => .scr (Evl.ex_l e h) r)
    (fun h n l _ r => .dic (e _ _ h) n l r) (fun h k _ r => .tdic (e _ _ h) (fun x hx => (k x hx).mono e) r) (fun h l _ r => .obj (e _ _ h) l r) .nil (fun _ _ a b => .cons a b) r,
   fun r => RepA.rec (motive_1 := fun v d _ => Rep G H' v d) (motive_2 := fun vs ds _ => RepA G H' vs ds) .non .bl .int .str (fun h _ r => .tup (h.mono e) r) (fun h _ r => .lst (e _ _ h) r) (fun h _ r => .scr (Evl.ex_l e h) r)
    (fun h n l _ r => .dic (e _ _ h) n l r) (fun h k _ r => .tdic (e _ _ h) (fun x hx => (k x hx).mono e) r) (fun h l _ r => .obj (e _ _ h) l r) .nil (fun _ _ a b => .cons a b) r⟩
theorem Rep.mono {G : Wd} {H H' : Hp} (e : Ex H H') {v : V} {d : D} (r : Rep G H v d) : Rep G H' v d := (Rep.mono2 e).1 r
theorem RepA.mono {G : Wd} {H H' : Hp} (e : Ex H H') {vs : List V} {ds : List D} (r : RepA G H vs ds) : RepA G H' vs ds := (Rep.mono2 e).2 r
theorem RepA.length {G : Wd} {H : Hp} : ∀ {vs : List V} {ds : List D}, RepA G H vs ds → vs.length = ds.length
  | _, _, .nil => rfl
  | _, _, .cons _ t => congrArg (· + 1) t.length
theorem RepA.get {G : Wd} {H : Hp} : ∀ {vs : List V} {ds : List D} {i : Nat} {d : D}, RepA G H vs ds → ds[i]? = some d → ∃ v, vs[i]? = some v ∧ Rep G H v d
  | _, _, _, _, .nil, h => by simp at h
  | _, _, 0, _, .cons r _, h => by simp at h; subst h; exact ⟨_, rfl, r⟩
  | _, _, i + 1, d, .cons _ t, h => by
    obtain ⟨v, h1, h2⟩ := RepA.get (i := i) (d := d) t (by simpa using h)
    exact ⟨v, by simpa using h1, h2⟩
theorem RepA.getV {G : Wd} {H : Hp} : ∀ {vs : List V} {ds : List D} {i : Nat} {v : V}, RepA G H vs ds → vs[i]? = some v → ∃ d, ds[i]? = some d ∧ Rep G H v d
  | _, _, _, _, .nil, h => by simp at h
  | _, _, 0, _, .cons r _, h => by simp at h; subst h; exact ⟨_, rfl, r⟩
  | _, _, i + 1, v, .cons _ t, h => by
    obtain ⟨d, h1, h2⟩ := RepA.getV (i := i) (v := v) t (by simpa using h)
    exact ⟨d, by simpa using h1, h2⟩
theorem RepA.append {G : Wd} {H : Hp} : ∀ {vs ws : List V} {ds es : List D}, RepA G H vs ds → RepA G H ws es → RepA G H (vs ++ ws) (ds ++ es)
  | _, _, _, _, .nil, s => s
  | _, _, _, _, .cons r t, s => .cons r (RepA.append t s)
theorem RepA.take {G : Wd} {H : Hp} : ∀ {vs : List V} {ds : List D} (n : Nat), RepA G H vs ds → RepA G H (vs.take n) (ds.take n)
  | _, _, 0, _ => .nil
  | _, _, _ + 1, .nil => .nil
  | _, _, n + 1, .cons r t => .cons r (RepA.take n t)
theorem RepA.drop {G : Wd} {H : Hp} : ∀ {vs : List V} {ds : List D} (n : Nat), RepA G H vs ds → RepA G H (vs.drop n) (ds.drop n)
  | _, _, 0, r => r
  | _, _, _ + 1, .nil => .nil
  | _, _, n + 1, .cons _ t => RepA.drop n t
theorem RepA.set {G : Wd} {H : Hp} {v : V} {d : D} (q : Rep G H v d) : ∀ {vs : List V} {ds : List D} (i : Nat), RepA G H vs ds → RepA G H (vs.set i v) (ds.set i d)
  | _, _, _, .nil => .nil
  | _, _, 0, .cons _ t => .cons q t
  | _, _, i + 1, .cons r t => .cons r (RepA.set q i t)
/-! scalars -/
def flat : D → Bool
  | .non => true
  | .bl _ => true
  | .int _ => true
  | .str _ => true
  | _ => false
theorem Rep.int_inv {G : Wd} {H : Hp} {v : V} {i : Int} (r : Rep G H v (.int i)) : v = .int i := by cases r; rfl
theorem Rep.bl_inv {G : Wd} {H : Hp} {v : V} {b : Bool} (r : Rep G H v (.bl b)) : v = .bl b := by cases r; rfl
theorem Rep.str_inv {G : Wd} {H : Hp} {v : V} {x : Str} (r : Rep G H v (.str x)) : v = .str x := by cases r; rfl
theorem Rep.non_inv {G : Wd} {H : Hp} {v : V} (r : Rep G H v .non) : v = .non := by cases r; rfl
theorem Rep.flat {G : Wd} {H : Hp} (H' : Hp) {v : V} {d : D} (r : Rep G H v d) (h : flat d = true) : Rep G H' v d := by
  cases d with
  | non => rw [r.non_inv]; exact .non
  | bl b => rw [r.bl_inv]; exact .bl b
  | int i => rw [r.int_inv]; exact .int i
  | str x => rw [r.str_inv]; exact .str x
  | tup _ => exact Bool.noConfusion h
  | lst _ => exact Bool.noConfusion h
  | scr _ => exact Bool.noConfusion h
  | dic _ _ => exact Bool.noConfusion h
  | tdic _ _ => exact Bool.noConfusion h
  | obj _ _ => exact Bool.noConfusion h
theorem Rep.tup_inv {G : Wd} {H : Hp} {v : V} {ds : List D} (r : Rep G H v (.tup ds)) : ∃ a xs, v = .ref a ∧ TupAt H a xs ∧ RepA G H xs ds := by
  cases r with
  | tup h r => exact ⟨_, _, rfl, h, r⟩
theorem Rep.lst_inv {G : Wd} {H : Hp} {v : V} {ds : List D} (r : Rep G H v (.lst ds)) : ∃ a xs, v = .ref a ∧ H a = some (.lst xs) ∧ RepA G H xs ds := by
  cases r with
  | lst h r => exact ⟨_, _, rfl, h, r⟩
theorem Rep.scr_inv {G : Wd} {H : Hp} {v : V} {ds : List D} (r : Rep G H v (.scr ds)) : ∃ a xs, v = .ref a ∧ SqL G.K H a xs ∧ RepA G H xs ds := by
  cases r with
  | scr h r => exact ⟨_, _, rfl, h, r⟩
theorem Rep.dic_inv {G : Wd} {H : Hp} {v : V} {ks : List Int} {ds : List D} (r : Rep G H v (.dic ks ds)) : ∃ a xs, v = .ref a ∧ H a = some (.dK (zk ks xs)) ∧ ks.Nodup ∧ xs.length = ks.length ∧ RepA G H xs ds := by
  cases r with
  | dic h n l r => exact ⟨_, _, rfl, h, n, l, r⟩
theorem Rep.tdic_inv {G : Wd} {H : Hp} {v : V} {ks : List (List (Option Int))} {ds : List D} (r : Rep G H v (.tdic ks ds)) : ∃ a es, v = .ref a ∧ H a = some (DicO G.P G.w a es) ∧ ks = es.map (·.1) ∧ (∀ e ∈ es, TupAt H e.2.1 (e.1.map lfV)) ∧ RepA G H (es.map (·.2.2)) ds := by
  cases r with
  | tdic h k r => exact ⟨_, _, rfl, h, rfl, k, r⟩
theorem Rep.obj_inv {G : Wd} {H : Hp} {v : V} {c : Cl} {ds : List D} (r : Rep G H v (.obj c ds)) : ∃ a dx xs, v = .ref a ∧ H a = some (.ins (G.cA c) dx (c.names.zip xs)) ∧ xs.length = c.names.length ∧ RepA G H xs ds := by
  cases r with
  | obj h l r => exact ⟨_, _, _, rfl, h, l, r⟩
/-! lists of ints -/
theorem RepA.ints {G : Wd} {H : Hp} : ∀ {vs : List V} {ns : List Int}, RepA G H vs (ns.map D.int) → vs = ns.map V.int
  | [], [], _ => rfl
  | _ :: _, n :: ns, .cons r t => by rw [r.int_inv, RepA.ints t]; rfl
theorem repA_ints {G : Wd} {H : Hp} : ∀ (ns : List Int), RepA G H (ns.map V.int) (ns.map D.int)
  | [] => .nil
  | n :: ns => .cons (.int n) (repA_ints ns)
theorem RepA.bls {G : Wd} {H : Hp} : ∀ {vs : List V} {ns : List Bool}, RepA G H vs (ns.map D.bl) → vs = ns.map V.bl
  | [], [], _ => rfl
  | _ :: _, n :: ns, .cons r t => by rw [r.bl_inv, RepA.bls t]; rfl
theorem RepA.lfs {G : Wd} {H : Hp} : ∀ {vs : List V} {ns : List (Option Int)}, RepA G H vs (ns.map lfD) → vs = ns.map lfV
  | [], [], _ => rfl
  | _ :: _, none :: ns, .cons r t => by rw [RepA.lfs t]; cases r; rfl
  | _ :: _, some i :: ns, .cons r t => by rw [RepA.lfs t]; cases r; rfl
theorem repA_lfs {G : Wd} {H : Hp} : ∀ (ns : List (Option Int)), RepA G H (ns.map lfV) (ns.map lfD)
  | [] => .nil
  | none :: ns => .cons .non (repA_lfs ns)
  | some i :: ns => .cons (.int i) (repA_lfs ns)

/-! ### hidden addresses -/
def hid (B : Addr → Bool) (H : Hp) : Hp := fun a => if B a = true then none else H a
theorem hid_ex (B : Addr → Bool) (H : Hp) : Ex (hid B H) H := fun a o h => by
  unfold hid at h
  split at h
  · cases h
  · exact h
theorem hid_at {B : Addr → Bool} {H : Hp} {a : Addr} (h : B a = false) : hid B H a = H a := by
  unfold hid
  rw [h]
  rfl
theorem hid_no {B : Addr → Bool} {H : Hp} {a : Addr} {o : HO} (h : hid B H a = some o) : B a = false ∧ H a = some o := by
  unfold hid at h
  split at h
  · cases h
  · rename_i q
    exact ⟨by cases hb : B a <;> simp_all, h⟩
theorem Ex.hid {H H' : Hp} (e : Ex H H') (B : Addr → Bool) : Ex (hid B H) (DD.hid B H') := fun a o h => by
  obtain ⟨q, h⟩ := hid_no h
  rw [hid_at q]
  exact e _ _ h
theorem hid_mono {A B : Addr → Bool} {H : Hp} (h : ∀ a, A a = true → B a = true) : Ex (hid B H) (hid A H) := fun a o e => by
  obtain ⟨q, e⟩ := hid_no e
  rw [hid_at]
  · exact e
  · cases ha : A a with
    | false => rfl
    | true => rw [h a ha] at q; cases q
abbrev Bz (B : Addr → Bool) (H : Hp) : Prop := ∀ a, B a = true → H a ≠ none
theorem Bz.ext {B : Addr → Bool} {H H' : Hp} (z : Bz B H) (e : Ex H H') : Bz B H' := fun a h => by
  cases q : H a with
  | none => exact absurd q (z a h)
  | some o => rw [e _ _ q]; simp
theorem Bz.new {B : Addr → Bool} {H : Hp} {p : Addr} (z : Bz B H) (h : H p = none) : B p = false := by
  cases q : B p with
  | false => rfl
  | true => exact absurd h (z p q)
theorem hid_upd {B : Addr → Bool} {H : Hp} {p : Addr} {o : HO} (h : B p = false) : hid B (upd H p o) p = some o := by
  rw [hid_at h, upd_same]
/-- a hidden object changes -/
theorem hid_mut {B : Addr → Bool} {H : Hp} {p : Addr} {o : HO} (h : B p = true) : hid B (upd H p o) = hid B H := by
  funext a
  unfold hid
  split
  · rfl
  · rename_i q
    rw [upd_ne]
    intro e
    rw [e] at q
    exact q h

/-! ### slots -/
inductive Sl where
  | no
  | dat (d : D)
  | ol (a : Addr) (ds : List D)
  | od (a : Addr) (ks : List Int) (ds : List D)
  | ot (a : Addr) (ks : List (List (Option Int))) (ds : List D)
  | og (a : Addr) (gs : List (List (Option Int) × Addr × List D))
  | oi (a dx : Addr) (k : Cl) (ds : List D)
  | ll (L : Addr) (rs : List (Addr × List Int))
  | rp (a dx L : Addr) (n : Int) (rs : List (Addr × List Int))
  | al (a : Addr)
def Sl.adrs : Sl → List Addr
  | .ol a _ => [a]
  | .od a _ _ => [a]
  | .ot a _ _ => [a]
  | .og a gs => a :: gs.map (·.2.1)
  | .oi a _ _ _ => [a]
  | .ll L rs => L :: rs.map (·.1)
  | .rp a _ L _ rs => a :: L :: rs.map (·.1)
  | _ => []
abbrev SEnv := List Sl
abbrev Sto := List (Option V)
/-- an own list of own lists of ints -/
def LLat (B : Addr → Bool) (H : Hp) (L : Addr) (rs : List (Addr × List Int)) : Prop := B L = true ∧ (L :: rs.map (·.1)).Nodup ∧ H L = some (.lst (rs.map fun r => V.ref r.1)) ∧ ∀ r ∈ rs, B r.1 = true ∧ H r.1 = some (.lst (r.2.map V.int))
theorem LLat.grow {B B' : Addr → Bool} {H H' : Hp} {L : Addr} {rs : List (Addr × List Int)} (h : LLat B H L rs) (e : Ex H H') (hb : ∀ a, B a = true → B' a = true) : LLat B' H' L rs :=
  ⟨hb _ h.1, h.2.1, e _ _ h.2.2.1, fun r hr => ⟨hb _ (h.2.2.2 r hr).1, e _ _ (h.2.2.2 r hr).2⟩⟩
theorem LLat.mut {B : Addr → Bool} {H : Hp} {L p : Addr} {u : HO} {rs : List (Addr × List Int)} (h : LLat B H L rs) (hn : p ∉ L :: rs.map (·.1)) : LLat B (upd H p u) L rs :=
  ⟨h.1, h.2.1, by rw [upd_ne fun e => hn (by rw [e]; exact List.mem_cons_self)]; exact h.2.2.1, fun r hr => ⟨(h.2.2.2 r hr).1, by rw [upd_ne fun e => hn (by rw [← e]; exact List.mem_cons_of_mem _ (List.mem_map.mpr ⟨r, hr, rfl⟩))]; exact (h.2.2.2 r hr).2⟩⟩
def SlOk (G : Wd) (B : Addr → Bool) (H : Hp) (o : Option (Option V)) : Sl → Prop
  | .no => True
  | .al a => o = some (some (.ref a))
  | .dat d => ∃ v, o = some (some v) ∧ Rep G (hid B H) v d
  | .ol a ds => o = some (some (.ref a)) ∧ B a = true ∧ ∃ xs, H a = some (.lst xs) ∧ RepA G (hid B H) xs ds
  | .od a ks ds => o = some (some (.ref a)) ∧ B a = true ∧ ∃ xs, H a = some (.dK (zk ks xs)) ∧ ks.Nodup ∧ xs.length = ks.length ∧ RepA G (hid B H) xs ds
  | .ot a ks ds => o = some (some (.ref a)) ∧ B a = true ∧ ∃ es : List Ent, H a = some (DicO G.P G.w a es) ∧ ks = es.map (·.1) ∧ (∀ e ∈ es, TupAt (hid B H) e.2.1 (e.1.map lfV)) ∧ RepA G (hid B H) (es.map (·.2.2)) ds
  | .og a gs => o = some (some (.ref a)) ∧ B a = true ∧ (a :: gs.map (·.2.1)).Nodup ∧ (∀ g ∈ gs, B g.2.1 = true ∧ ∃ xs, H g.2.1 = some (.lst xs) ∧ RepA G (hid B H) xs g.2.2) ∧
      ∃ es : List Ent, H a = some (DicO G.P G.w a es) ∧ (∀ e ∈ es, TupAt (hid B H) e.2.1 (e.1.map lfV)) ∧ es.map (fun e => (e.1, e.2.2)) = gs.map fun g => (g.1, V.ref g.2.1)
  | .oi a dx k ds => o = some (some (.ref a)) ∧ B a = true ∧ ∃ xs, H a = some (.ins (G.cA k) dx (k.names.zip xs)) ∧ xs.length = ds.length ∧ ds.length ≤ k.names.length ∧ RepA G (hid B H) xs ds
  | .ll L rs => o = some (some (.ref L)) ∧ LLat B H L rs
  | .rp a dx L n rs => o = some (some (.ref a)) ∧ B a = true ∧ (a :: L :: rs.map (·.1)).Nodup ∧ H a = some (.ins (G.cA .rp) dx [("count", .int n), ("rows", .ref L)]) ∧ LLat B H L rs
structure SV (G : Wd) (B : Addr → Bool) (env : SEnv) (σ : Sto) (H : Hp) : Prop where
  bz : Bz B H
  ln : env.length = σ.length
  sl : ∀ (i : Nat) (s : Sl), env[i]? = some s → SlOk G B H σ[i]? s
  dj : ∀ (i j : Nat) (s t : Sl) (a : Addr), env[i]? = some s → env[j]? = some t → a ∈ s.adrs → a ∈ t.adrs → i = j
theorem SlOk.grow' {G : Wd} {B B' : Addr → Bool} {H H' : Hp} {o : Option (Option V)} {s : Sl} (h : SlOk G B H o s) (e : ∀ a ∈ s.adrs, ∀ ob, H a = some ob → H' a = some ob) (eh : Ex (hid B H) (hid B' H')) (hb : ∀ a, B a = true → B' a = true) : SlOk G B' H' o s := by
  have gl : ∀ {L : Addr} {rs : List (Addr × List Int)}, LLat B H L rs → (∀ a ∈ L :: rs.map (·.1), ∀ ob, H a = some ob → H' a = some ob) → LLat B' H' L rs := fun {L rs} h e =>
    ⟨hb _ h.1, h.2.1, e _ List.mem_cons_self _ h.2.2.1, fun r hr => ⟨hb _ (h.2.2.2 r hr).1, e _ (List.mem_cons_of_mem _ (List.mem_map.mpr ⟨r, hr, rfl⟩)) _ (h.2.2.2 r hr).2⟩⟩
  cases s with
  | no => trivial
  | al a => exact h
  | dat d =>
    obtain ⟨v, h1, h2⟩ := h
    exact ⟨v, h1, h2.mono eh⟩
  | ol a ds =>
    obtain ⟨h1, h2, xs, h3, h4⟩ := h
    exact ⟨h1, hb _ h2, xs, e _ (by simp [Sl.adrs]) _ h3, h4.mono eh⟩
  | od a ks ds =>
    obtain ⟨h1, h2, xs, h3, h4, h5, h6⟩ := h
    exact ⟨h1, hb _ h2, xs, e _ (by simp [Sl.adrs]) _ h3, h4, h5, h6.mono eh⟩
  | ot a ks ds =>
    obtain ⟨h1, h2, es, h3, h4, h5, h6⟩ := h
    exact ⟨h1, hb _ h2, es, e _ (by simp [Sl.adrs]) _ h3, h4, fun x hx => (h5 x hx).mono eh, h6.mono eh⟩
  | og a gs =>
    obtain ⟨h1, h2, h3, h4, es, h5, h6, h7⟩ := h
    refine ⟨h1, hb _ h2, h3, fun g hg => ?_, es, e _ (by simp [Sl.adrs]) _ h5, fun x hx => (h6 x hx).mono eh, h7⟩
    obtain ⟨q1, xs, q2, q3⟩ := h4 g hg
    exact ⟨hb _ q1, xs, e _ (by simp only [Sl.adrs, List.mem_cons, List.mem_map]; exact .inr ⟨g, hg, rfl⟩) _ q2, q3.mono eh⟩
  | oi a dx k ds =>
    obtain ⟨h1, h2, xs, h3, h4, h5, h6⟩ := h
    exact ⟨h1, hb _ h2, xs, e _ (by simp [Sl.adrs]) _ h3, h4, h5, h6.mono eh⟩
  | ll L rs => exact ⟨h.1, gl h.2 e⟩
  | rp a dx L n rs => exact ⟨h.1, hb _ h.2.1, h.2.2.1, e _ (by simp [Sl.adrs]) _ h.2.2.2.1, gl h.2.2.2.2 fun b hb => e b (List.mem_cons_of_mem _ hb)⟩
theorem SlOk.grow {G : Wd} {B B' : Addr → Bool} {H H' : Hp} {o : Option (Option V)} {s : Sl} (h : SlOk G B H o s) (e : Ex H H') (eh : Ex (hid B H) (hid B' H')) (hb : ∀ a, B a = true → B' a = true) : SlOk G B' H' o s :=
  h.grow' (fun a _ ob => e a ob) eh hb
theorem SlOk.ext {G : Wd} {B : Addr → Bool} {H H' : Hp} {o : Option (Option V)} {s : Sl} (h : SlOk G B H o s) (e : Ex H H') : SlOk G B H' o s := h.grow e (Ex.hid e B) fun _ q => q
theorem SV.grow {G : Wd} {B B' : Addr → Bool} {env : SEnv} {σ : Sto} {H H' : Hp} (v : SV G B env σ H) (e : Ex H H') (eh : Ex (hid B H) (hid B' H')) (hb : ∀ a, B a = true → B' a = true) (bz : Bz B' H') : SV G B' env σ H' :=
  ⟨bz, v.ln, fun i s h => (v.sl i s h).grow e eh hb, v.dj⟩
theorem SV.ext {G : Wd} {B : Addr → Bool} {env : SEnv} {σ : Sto} {H H' : Hp} (v : SV G B env σ H) (e : Ex H H') : SV G B env σ H' :=
  ⟨v.bz.ext e, v.ln, fun i s h => (v.sl i s h).ext e, v.dj⟩
theorem LLat.adr {B : Addr → Bool} {H : Hp} {L : Addr} {rs : List (Addr × List Int)} (h : LLat B H L rs) : ∀ a ∈ L :: rs.map (·.1), B a = true := fun a ha => by
  rcases List.mem_cons.mp ha with z | z
  · rw [z]; exact h.1
  · obtain ⟨r, hr, e⟩ := List.mem_map.mp z
    rw [← e]; exact (h.2.2.2 r hr).1
/-- where the own objects of a slot stand -/
theorem SlOk.adr {G : Wd} {B : Addr → Bool} {H : Hp} {o : Option (Option V)} {s : Sl} (h : SlOk G B H o s) : ∀ a ∈ s.adrs, B a = true := by
  intro a ha
  cases s with
  | no => simp [Sl.adrs] at ha
  | al a => simp [Sl.adrs] at ha
  | dat d => simp [Sl.adrs] at ha
  | ol b ds => simp [Sl.adrs] at ha; subst ha; exact h.2.1
  | od b ks ds => simp [Sl.adrs] at ha; subst ha; exact h.2.1
  | ot b ks ds => simp [Sl.adrs] at ha; subst ha; exact h.2.1
  | og b gs =>
    simp only [Sl.adrs, List.mem_cons, List.mem_map] at ha
    rcases ha with rfl | ⟨g, hg, rfl⟩
    · exact h.2.1
    · exact (h.2.2.2.1 g hg).1
  | oi b dx k ds => simp [Sl.adrs] at ha; subst ha; exact h.2.1
  | ll L rs => exact h.2.adr a ha
  | rp b dx L n rs =>
    rcases List.mem_cons.mp ha with z | z
    · rw [z]; exact h.2.1
    · exact h.2.2.2.2.adr a z
/-- an unknown object changes -/
theorem SlOk.mut {G : Wd} {B : Addr → Bool} {H : Hp} {o : Option (Option V)} {s : Sl} {p : Addr} {u : HO} (h : SlOk G B H o s) (hb : B p = true) (hn : p ∉ s.adrs) : SlOk G B (upd H p u) o s := by
  have eh : hid B (upd H p u) = hid B H := hid_mut hb
  cases s with
  | no => trivial
  | al a => exact h
  | dat d =>
    obtain ⟨v, h1, h2⟩ := h
    exact ⟨v, h1, by rw [eh]; exact h2⟩
  | ol a ds =>
    obtain ⟨h1, h2, xs, h3, h4⟩ := h
    have ne : a ≠ p := fun e => hn (by simp [Sl.adrs, e])
    exact ⟨h1, h2, xs, by rw [upd_ne ne]; exact h3, by rw [eh]; exact h4⟩
  | od a ks ds =>
    obtain ⟨h1, h2, xs, h3, h4, h5, h6⟩ := h
    have ne : a ≠ p := fun e => hn (by simp [Sl.adrs, e])
    exact ⟨h1, h2, xs, by rw [upd_ne ne]; exact h3, h4, h5, by rw [eh]; exact h6⟩
  | ot a ks ds =>
    obtain ⟨h1, h2, es, h3, h4, h5, h6⟩ := h
    have ne : a ≠ p := fun e => hn (by simp [Sl.adrs, e])
    exact ⟨h1, h2, es, by rw [upd_ne ne]; exact h3, h4, by rw [eh]; exact h5, by rw [eh]; exact h6⟩
  | og a gs =>
    obtain ⟨h1, h2, h3, h4, es, h5, h6, h7⟩ := h
    have ne : a ≠ p := fun e => hn (by simp [Sl.adrs, e])
    refine ⟨h1, h2, h3, fun g hg => ?_, es, by rw [upd_ne ne]; exact h5, by rw [eh]; exact h6, h7⟩
    obtain ⟨q1, xs, q2, q3⟩ := h4 g hg
    have ne2 : g.2.1 ≠ p := fun e => hn (by
      simp only [Sl.adrs, List.mem_cons, List.mem_map]
      exact .inr ⟨g, hg, e⟩)
    exact ⟨q1, xs, by rw [upd_ne ne2]; exact q2, by rw [eh]; exact q3⟩
  | oi a dx k ds =>
    obtain ⟨h1, h2, xs, h3, h4, h5, h6⟩ := h
    have ne : a ≠ p := fun e => hn (by simp [Sl.adrs, e])
    exact ⟨h1, h2, xs, by rw [upd_ne ne]; exact h3, h4, h5, by rw [eh]; exact h6⟩
  | ll L rs => exact ⟨h.1, h.2.mut hn⟩
  | rp a dx L n rs =>
    have ne : a ≠ p := fun e => hn (by rw [← e]; exact List.mem_cons_self)
    exact ⟨h.1, h.2.1, h.2.2.1, by rw [upd_ne ne]; exact h.2.2.2.1, h.2.2.2.2.mut fun z => hn (List.mem_cons_of_mem _ z)⟩
/-- a slot is stored -/
theorem SV.set {G : Wd} {B : Addr → Bool} {env : SEnv} {σ : Sto} {H : Hp} (v : SV G B env σ H) {i : Nat} {s : Sl} {x : V} (ok : SlOk G B H (some (some x)) s) (dj : ∀ a, a ∈ s.adrs → ∀ (j : Nat) (t : Sl), j ≠ i → env[j]? = some t → a ∉ t.adrs) : SV G B (env.set i s) (σ.set i (some x)) H where
  bz := v.bz
  ln := by rw [List.length_set, List.length_set]; exact v.ln
  sl := fun j t h => by
    by_cases e : i = j
    · subst e
      by_cases hi : i < env.length
      · rw [List.getElem?_set_self hi] at h
        cases h
        rw [List.getElem?_set_self (by rw [← v.ln]; exact hi)]
        exact ok
      · rw [List.getElem?_eq_none (by rw [List.length_set]; omega)] at h
        cases h
    · rw [List.getElem?_set_ne e] at h ⊢
      exact v.sl j t h
  dj := fun j k t u a h1 h2 m1 m2 => by
    by_cases ej : i = j
    · by_cases ek : i = k
      · omega
      · exfalso
        subst ej
        by_cases hi : i < env.length
        · rw [List.getElem?_set_self hi] at h1
          cases h1
          rw [List.getElem?_set_ne ek] at h2
          exact dj a m1 k u (Ne.symm ek) h2 m2
        · rw [List.getElem?_eq_none (by rw [List.length_set]; omega)] at h1
          cases h1
    · by_cases ek : i = k
      · exfalso
        subst ek
        by_cases hi : i < env.length
        · rw [List.getElem?_set_self hi] at h2
          cases h2
          rw [List.getElem?_set_ne ej] at h1
          exact dj a m2 j t (Ne.symm ej) h1 m1
        · rw [List.getElem?_eq_none (by rw [List.length_set]; omega)] at h2
          cases h2
      · rw [List.getElem?_set_ne ej] at h1
        rw [List.getElem?_set_ne ek] at h2
        exact v.dj j k t u a h1 h2 m1 m2
theorem SV.setD {G : Wd} {B : Addr → Bool} {env : SEnv} {σ : Sto} {H : Hp} (v : SV G B env σ H) (i : Nat) {d : D} {x : V} (r : Rep G (hid B H) x d) : SV G B (env.set i (.dat d)) (σ.set i (some x)) H :=
  v.set ⟨x, rfl, r⟩ fun a h => by simp [Sl.adrs] at h
/-- a new object comes under hiding -/
def hide (B : Addr → Bool) (p : Addr) : Addr → Bool := fun a => B a || decide (a = p)
theorem hide_of {B : Addr → Bool} {p a : Addr} (h : B a = true) : hide B p a = true := by unfold hide; rw [h]; rfl
theorem hide_self (B : Addr → Bool) (p : Addr) : hide B p p = true := by unfold hide; simp
theorem hide_no {B : Addr → Bool} {p a : Addr} (h : B a = false) (hn : a ≠ p) : hide B p a = false := by unfold hide; simp [h, hn]
theorem hide_yes {B : Addr → Bool} {p a : Addr} (h : hide B p a = true) : B a = true ∨ a = p := by
  unfold hide at h
  simpa using h
theorem hide_ex {B : Addr → Bool} {p : Addr} {H H' : Hp} (e : Ex H H') (hp : H p = none) : Ex (hid B H) (hid (hide B p) H') := fun a o h => by
  obtain ⟨q, h⟩ := hid_no h
  have hn : a ≠ p := fun z => by rw [z, hp] at h; cases h
  rw [hid_at (hide_no q hn)]
  exact e _ _ h
theorem hide_bz {B : Addr → Bool} {p : Addr} {H H' : Hp} (z : Bz B H) (e : Ex H H') (hp : H' p ≠ none) : Bz (hide B p) H' := fun a h => by
  rcases hide_yes h with h | h
  · exact z.ext e a h
  · rw [h]; exact hp
theorem SV.hide {G : Wd} {B : Addr → Bool} {env : SEnv} {σ : Sto} {H H' : Hp} {p : Addr} (v : SV G B env σ H) (e : Ex H H') (hp : H p = none) (hp' : H' p ≠ none) : SV G (DD.hide B p) env σ H' :=
  v.grow e (hide_ex e hp) (fun _ h => hide_of h) (hide_bz v.bz e hp')

/-! ### meanings -/
def semE (X : Cx) (e : Expr) : TE := fun σ H Q => ∀ (pins : List (Addr × Obj)) (s : Shared), Inv X pins σ H s → wpAny (model X.prog X.w) X.A (eval e X.env) (EP X pins σ Q) X.xe s
def semT (X : Cx) (e : Expr) : TT := fun σ H Q => ∀ (pins : List (Addr × Obj)) (s : Shared), Inv X pins σ H s → wpAny (model X.prog X.w) X.A (isTrue e X.env (eval e X.env)) (TP X pins σ Q) X.xe s
def semW (X : Cx) (e : Expr) : TT := fun σ H Q => ∀ (whole : Sem Value) (pins : List (Addr × Obj)) (s : Shared), Inv X pins σ H s → wpAny (model X.prog X.w) X.A (isTrue e X.env whole) (TP X pins σ Q) X.xe s
def semA (X : Cx) (es : List Expr) : TA := fun σ H Q => ∀ (pos : Pos) (pins : List (Addr × Obj)) (s : Shared), Inv X pins σ H s → wpAny (model X.prog X.w) X.A (spliced (backTo pos (starEach es X.env))) (AP X pins σ Q) X.xe s
def semS (X : Cx) (st : Stmt) : TS := fun D σ H => ∀ (pins : List (Addr × Obj)) (s : Shared), Inv X pins σ H s → wpAny (model X.prog X.w) X.A (exec st X.env) (SP X pins D) X.xe s
def semB (X : Cx) (st : List Stmt) : TS := fun D σ H => ∀ (pins : List (Addr × Obj)) (s : Shared), Inv X pins σ H s → wpAny (model X.prog X.w) X.A (execs st X.env) (SP X pins D) X.xe s
theorem peS {X : Cx} {e : Expr} : PE X e (semE X e) := ⟨fun pins s _ _ _ I t => t pins s I⟩
theorem ptS {X : Cx} {e : Expr} : PT X e (semT X e) := ⟨fun pins s _ _ _ I t => t pins s I⟩
theorem pwS {X : Cx} {e : Expr} : PW X e (semW X e) := ⟨fun whole pins s _ _ _ I t => t whole pins s I⟩
theorem paS {X : Cx} {es : List Expr} : PA X es (semA X es) := ⟨fun pos pins s _ _ _ I t => t pos pins s I⟩
theorem psS {X : Cx} {st : Stmt} : PS X st (semS X st) := ⟨fun pins s _ _ _ I t => t pins s I⟩
theorem pbS {X : Cx} {st : List Stmt} : PSs X st (semB X st) := ⟨fun pins s _ _ _ I t => t pins s I⟩
theorem ofE {X : Cx} {e : Expr} {t : TE} (h : PE X e t) {σ : Sto} {H : Hp} {Q : VK} (q : t σ H Q) : semE X e σ H Q := fun pins s I => h.run pins s σ H Q I q
theorem ofT {X : Cx} {e : Expr} {t : TT} (h : PT X e t) {σ : Sto} {H : Hp} {Q : Bool → Hp → Prop} (q : t σ H Q) : semT X e σ H Q := fun pins s I => h.run pins s σ H Q I q
theorem ofW {X : Cx} {e : Expr} {t : TT} (h : PW X e t) {σ : Sto} {H : Hp} {Q : Bool → Hp → Prop} (q : t σ H Q) : semW X e σ H Q := fun whole pins s I => h.run whole pins s σ H Q I q
theorem ofA {X : Cx} {es : List Expr} {t : TA} (h : PA X es t) {σ : Sto} {H : Hp} {Q : List V → Hp → Prop} (q : t σ H Q) : semA X es σ H Q := fun pos pins s I => h.run pos pins s σ H Q I q
theorem ofS {X : Cx} {st : Stmt} {t : TS} (h : PS X st t) {D : Ends} {σ : Sto} {H : Hp} (q : t D σ H) : semS X st D σ H := fun pins s I => h.run pins s σ H D I q
theorem ofB {X : Cx} {st : List Stmt} {t : TS} (h : PSs X st t) {D : Ends} {σ : Sto} {H : Hp} (q : t D σ H) : semB X st D σ H := fun pins s I => h.run pins s σ H D I q

/-! ### judgements over data -/
section
variable (X : Cx) (c : Cl → Addr) (env : SEnv)
def DE (e : Expr) (Qd : D → Prop) : Prop := ∀ (B : Addr → Bool) (σ : Sto) (H : Hp) (Q : VK), SV (wdOf X c) B env σ H →
  (∀ v H2 d, Ex H H2 → Rep (wdOf X c) (hid B H2) v d → Qd d → Q v H2) → semE X e σ H Q
def DT (e : Expr) (Qb : Bool → Prop) : Prop := ∀ (B : Addr → Bool) (σ : Sto) (H : Hp) (Q : Bool → Hp → Prop), SV (wdOf X c) B env σ H →
  (∀ b H2, Ex H H2 → Qb b → Q b H2) → semT X e σ H Q
def DW (e : Expr) (Qb : Bool → Prop) : Prop := ∀ (B : Addr → Bool) (σ : Sto) (H : Hp) (Q : Bool → Hp → Prop), SV (wdOf X c) B env σ H →
  (∀ b H2, Ex H H2 → Qb b → Q b H2) → semW X e σ H Q
def DA (es : List Expr) (Qd : List D → Prop) : Prop := ∀ (B : Addr → Bool) (σ : Sto) (H : Hp) (Q : List V → Hp → Prop), SV (wdOf X c) B env σ H →
  (∀ vs H2 ds, Ex H H2 → RepA (wdOf X c) (hid B H2) vs ds → Qd ds → Q vs H2) → semA X es σ H Q
end
structure SE (G : Wd) (A0 : Addr → Bool) (H0 : Hp) (env : SEnv) (σ : Sto) (H : Hp) : Prop where
  ex0 : Ex H0 H
  ex : ∃ B : Addr → Bool, (∀ a, A0 a = true → B a = true) ∧ (∀ a, B a = true → A0 a = false → H0 a = none) ∧ SV G B env σ H ∧ ∀ (i : Nat) (s : Sl) (a : Addr), env[i]? = some s → a ∈ s.adrs → A0 a = false
structure DEnd where
  nx : SEnv → Prop
  rt : SEnv → D → Prop
  bk : SEnv → Prop := fun _ => False
  ct : SEnv → Prop := fun _ => False
  ro : Sl → Prop := fun _ => False
structure Fits (G : Wd) (A0 : Addr → Bool) (H0 : Hp) (P : DEnd) (E : Ends) : Prop where
  nx : ∀ env σ H, SE G A0 H0 env σ H → P.nx env → E.nx σ H
  bk : ∀ env σ H, SE G A0 H0 env σ H → P.bk env → E.bk σ H
  ct : ∀ env σ H, SE G A0 H0 env σ H → P.ct env → E.ct σ H
  rt : ∀ env σ H v d, SE G A0 H0 env σ H → Rep G (hid A0 H) v d → P.rt env d → E.rt v H
  ro : ∀ (env : SEnv) (σ : Sto) (H : Hp) (v : V) (s : Sl) (i : Nat), SE G A0 H0 env σ H → env[i]? = some s → σ[i]? = some (some v) → P.ro s → E.rt v H
section
variable (X : Cx) (c : Cl → Addr) (env : SEnv)
def DS (st : Stmt) (P : DEnd) : Prop := ∀ (A0 : Addr → Bool) (H0 : Hp) (σ : Sto) (H : Hp) (E : Ends), SE (wdOf X c) A0 H0 env σ H → Fits (wdOf X c) A0 H0 P E → semS X st E σ H
def DB (st : List Stmt) (P : DEnd) : Prop := ∀ (A0 : Addr → Bool) (H0 : Hp) (σ : Sto) (H : Hp) (E : Ends), SE (wdOf X c) A0 H0 env σ H → Fits (wdOf X c) A0 H0 P E → semB X st E σ H
end
end DD
namespace DD
open PySem PySem.Spec PyProof.Rows L2
open Evl (Ex)
/-! ### tuples without attributes -/
/-- a new tuple -/
def NewT (H : Hp) (xs : List V) (Q : VK) : Prop := ∀ (p : Addr) (o : Obj), H p = none → o.dict = none → Q (.ref p) (upd H p (.frz o (.tup xs)))
theorem tupOk {P : Program} {w : World} {H : Hp} {h : Heap} {p : Addr} {xs : List V} {its : List Value} (hz : xs.length ≤ sizeLine) (r : Vals xs its) (e : h.get? p = some { cls := .type "tuple", data := .seq its.toArray }) :
    ObjOk P w H h p (.frz { cls := .type "tuple", data := .seq its.toArray } (.tup xs)) := ⟨e, hz, its, r, _, e, rfl, _, rfl⟩
section
variable {X : Cx} {es : List Expr} {t : TA} {pos : Pos}
def tTupF (t : TA) : TE := fun σ H Q => t σ H fun xs H1 => xs.length ≤ sizeLine ∧ NewT H1 xs Q
theorem pe_tupF {x1 : Nat} (h : PA X es t) : PE X (.Tuple es x1 pos) (tTupF t) := by
  refine ⟨fun pins s σ H Q I hq => ?_⟩
  refine wpAny_Tuple_spliced (thn (h.run pos pins s σ H _ I hq) fun us s1 ⟨xs, H1, I1, r, z, q⟩ => ⟨by rw [← r.length]; exact z, ?_⟩)
  have hf : H1 s1.heap.objs.size = none := I1.hok.fresh (Nat.le_refl _)
  exact ⟨.ref s1.heap.objs.size, _, I1.laid (t' := s1.toks) (fun b u e => Heap.get?_push_of_some _ e) (Nat.le_refl _) (tupOk z r (Heap.get?_push_size _ rfl)), rfl, q _ _ hf rfl⟩
theorem call_tupleF : CallR X (.type "tuple") (fun xs H Q => ∃ p ys, xs = [.ref p] ∧ ((SqL X.K H p ys ∧ NewT H ys Q) ∨ (SqT X.K H p ys ∧ Q (.ref p) H))) := by
  intro pins s σ H xs us Q I r h
  obtain ⟨p, ys, rfl, h⟩ := h
  obtain ⟨u, rfl, rx⟩ := vals1 r
  cases rx
  rcases h with ⟨hq, q⟩ | ⟨hq, q⟩
  · obtain ⟨its, r', pl, hz⟩ := I.list hq
    have hlen := r'.length
    refine call_tuple_list pl.isList (fun h' kp => ?_) (by simp only [List.size_toArray] <;> omega)
    have I1 : Inv X pins σ H { s with heap := h' } := I.kept (t' := s.toks) kp
    exact ⟨.ref h'.objs.size, _, I1.laid (t' := s.toks) (fun b o e => Heap.get?_push_of_some _ e) (Nat.le_refl _) (tupOk hz r' (Heap.get?_push_size _ rfl)), rfl, q _ _ (I1.hok.fresh (Nat.le_refl _)) rfl⟩
  · obtain ⟨its, r', pl, hz⟩ := I.tuple hq
    exact call_tuple_same pl ⟨.ref p, H, I, rfl, q⟩
def tTupRgF (te : Sto → Hp → (Int → Int → Hp → Prop) → Prop) : TE := fun σ H Q => te σ H fun a b H1 => RgOk a b ∧ NewT H1 (rgV a b) Q
theorem pe_tupRgF {e : Expr} {te : Sto → Hp → (Int → Int → Hp → Prop) → Prop} {p pos : Pos} (hc : X.calm = true) (hg : Gl X "tuple") (hm : X.mg "tuple" = none) (he : PRg X e te) (na : starEach [e] X.env = (false, eval e X.env) :: starEach [] X.env := by rfl) : PE X (.Call (.Name "tuple" p) [e] [] pos) (tTupRgF te) := by
  refine ⟨fun pins s σ H Q I h => ?_⟩
  refine Call_ (ld_blt I hg hm boot_tuple (PyProof.Rows.callWith_type1 (args_cons (thn (he pins s σ H _ I h) fun x s1 ⟨r, a, b, t, u, v, H1, ex, hr, I1, ok, q⟩ => args_nil ?_) na) na))
  subst ex
  obtain ⟨b1, b2, b3, b4, b5⟩ := ok
  refine call_tuple_range (n := (b - a).toNat) (I1.ok.hd hc) hr (small_one b1 b2 b3 b4) (rangeSize_nat a b) b5 fun h' tk acc hk hi => ?_
  have I2 : Inv X pins σ H1 { s1 with heap := h', toks := tk } := I1.kept hk
  have hz : (rgV a b).length ≤ sizeLine := by rw [rgV_length, sizeLine_eq]; omega
  exact ⟨.ref h'.objs.size, _, I2.laid (t' := tk) (fun c o e => Heap.get?_push_of_some _ e) (Nat.le_refl _) (tupOk (its := acc.toList) hz (vals_rg hi) (by rw [Array.toArray_toList]; exact Heap.get?_push_size _ rfl)), rfl, q _ _ (I2.hok.fresh (Nat.le_refl _)) rfl⟩
def rCatF (K : PySem.W.Frag) : R2 := fun x y H Q => ∃ a b xs ys, x = .ref a ∧ y = .ref b ∧ SqT K H a xs ∧ SqT K H b ys ∧ xs.length + ys.length ≤ sizeLine ∧
  (xs = [] → Q (.ref b) H) ∧ (xs ≠ [] → ys = [] → Q (.ref a) H) ∧ (xs ≠ [] → ys ≠ [] → NewT H (xs ++ ys) Q)
theorem op_catF : OpR X (binaryOp .Add) (rCatF X.K) := by
  intro pins s σ H x y v u Q I rx ry h
  obtain ⟨a, b, xs, ys, rfl, rfl, ha, hb, hz, q0, q1, q2⟩ := h
  by_cases hx : xs = []
  · subst hx
    cases rx
    cases ry
    obtain ⟨its, r1, p1, _⟩ := I.tuple ha
    obtain ⟨its2, r2, p2, _⟩ := I.tuple hb
    cases r1
    exact cat_tup0 p1 p2 ⟨.ref b, H, I, rfl, q0 rfl⟩
  · cases rx
    cases ry
    obtain ⟨its, r1, p1, _⟩ := I.tuple ha
    obtain ⟨its2, r2, p2, _⟩ := I.tuple hb
    refine HT.cat_tup p1 p2 (fun z => hx (r1.nil_iff.mp z)) (fun z => ⟨.ref a, H, I, rfl, q1 hx (r2.nil_iff.mp z)⟩) (fun z => ?_) (by rw [← r1.length, ← r2.length]; exact hz)
    exact ⟨.ref s.heap.objs.size, _, I.laid (t' := s.toks) (fun b ob q => Heap.get?_push_of_some _ q) (Nat.le_refl _) (tupOk (by rw [List.length_append]; exact hz) (r1.append r2) (Heap.get?_push_size _ rfl)), rfl, q2 hx (fun w => z (r2.nil_iff.mpr w)) _ _ (I.hok.fresh (Nat.le_refl _)) rfl⟩
def rSlF (K : PySem.W.Frag) : V → Option Int → Option Int → Hp → VK → Prop := fun x lo hi H Q => ∃ a xs, x = .ref a ∧ SqT K H a xs ∧
  (HT.sIx xs.length 0 lo = 0 ∧ HT.sIx xs.length xs.length hi = xs.length → Q (.ref a) H) ∧ (¬ (HT.sIx xs.length 0 lo = 0 ∧ HT.sIx xs.length xs.length hi = xs.length) → NewT H (cutV xs lo hi) Q)
theorem sl_tupF : SlR X (rSlF X.K) := by
  intro pins s σ H x v vl vu lo hi sl Q I rx hs pl pu h
  obtain ⟨a, xs, rfl, hx, q1, q2⟩ := h
  cases rx
  obtain ⟨its, r, ht, hz⟩ := I.tuple hx
  have hlen : its.toArray.size = xs.length := by rw [List.size_toArray]; exact r.length.symm
  refine ⟨"tuple", _, PyProof.Rows.slot_tuple_getitem.lookup, ht.typeIs, ?_⟩
  by_cases hw : HT.sIx xs.length 0 lo = 0 ∧ HT.sIx xs.length xs.length hi = xs.length
  · exact getItem_tuple_whole ht hs pl pu (by rw [hlen]; exact hw) ⟨.ref a, H, I, rfl, q1 hw⟩
  · refine HT.getItem_tuple_cut ht hs pl pu (by rw [hlen]; exact hw) ?_ (by rw [hlen]; exact hz)
    rw [hlen]
    exact ⟨.ref s.heap.objs.size, _, I.laid (t' := s.toks) (fun b ob q => Heap.get?_push_of_some _ q) (Nat.le_refl _) (tupOk (Nat.le_trans (cutV_length xs lo hi) hz) ((r.drop (HT.sIx xs.length 0 lo)).take (HT.sIx xs.length xs.length hi - HT.sIx xs.length 0 lo)) (Heap.get?_push_size _ rfl)), rfl, q2 hw _ _ (I.hok.fresh (Nat.le_refl _)) rfl⟩
end
end DD
namespace DD
open PySem PySem.Spec PyProof.Rows L2
open Evl (Ex)
section
variable {X : Cx} {c : Cl → Addr} {env : SEnv} {e a b : Expr} {es : List Expr} {Qd : D → Prop} {Qb : Bool → Prop} {pos : Pos}
theorem DE.mono {Qd' : D → Prop} (h : DE X c env e Qd) (k : ∀ d, Qd d → Qd' d) : DE X c env e Qd' := fun B σ H Q sv q => h B σ H Q sv fun v H2 d e2 r z => q v H2 d e2 r (k d z)
theorem DT.mono {Qb' : Bool → Prop} (h : DT X c env e Qb) (k : ∀ d, Qb d → Qb' d) : DT X c env e Qb' := fun B σ H Q sv q => h B σ H Q sv fun v H2 e2 z => q v H2 e2 (k v z)
/-! ### names, constants -/
theorem de_var (i : Nat) {x : Str} {d : D} (hs : env[i]? = some (.dat d)) (q : Qd d) (hN : X.N[i]? = some x := by rfl) (hv : Vis X.env.scope x := by first | exact Or.inl rfl | exact Or.inr (Or.inl rfl) | exact Or.inr (Or.inr rfl))
    (hd : (x == ("__debug__" : Str)) = false := by decide) (hcd : (x == ("__classdict__" : Str)) = false := by decide) : DE X c env (.Name x pos) Qd := fun B σ H Q sv k => by
  obtain ⟨v, h1, h2⟩ := sv.sl i _ hs
  exact ofE (pe_var hN hv hd hcd) ⟨v, h1, k v H d (Evl.Ex.refl H) h2 q⟩
theorem de_int {i : Int} {j : Nat} (q : Qd (.int i)) : DE X c env (.Constant (.int i) j pos) Qd := fun B σ H Q sv k => ofE pe_int (k _ H _ (Evl.Ex.refl H) (.int i) q)
theorem de_bl {i : Bool} {j : Nat} (q : Qd (.bl i)) : DE X c env (.Constant (.bool i) j pos) Qd := fun B σ H Q sv k => ofE pe_bl (k _ H _ (Evl.Ex.refl H) (.bl i) q)
theorem de_str {i : Str} {j : Nat} (q : Qd (.str i)) : DE X c env (.Constant (.str i) j pos) Qd := fun B σ H Q sv k => ofE pe_str (k _ H _ (Evl.Ex.refl H) (.str i) q)
theorem de_non {j : Nat} (q : Qd .non) : DE X c env (.Constant .none j pos) Qd := fun B σ H Q sv k => ofE pe_non (k _ H _ (Evl.Ex.refl H) .non q)
/-! ### operators by values -/
def DR (G : Wd) (r : R2) (x y : D) (Qd : D → Prop) : Prop := ∀ (B : Addr → Bool) (H : Hp) (v u : V) (Q : VK), Bz B H → Rep G (hid B H) v x → Rep G (hid B H) u y → (∀ z H2 d, Ex H H2 → Rep G (hid B H2) z d → Qd d → Q z H2) → r v u H Q
def DRC (G : Wd) (r : List V → Hp → VK → Prop) (ds : List D) (Qd : D → Prop) : Prop := ∀ (B : Addr → Bool) (H : Hp) (vs : List V) (Q : VK), Bz B H → RepA G (hid B H) vs ds → (∀ z H2 d, Ex H H2 → Rep G (hid B H2) z d → Qd d → Q z H2) → r vs H Q
theorem de_bin {r : R2} {e : Expr} (hp : ∀ {ta tb : TE}, PE X a ta → PE X b tb → PE X e (tOp r ta tb)) (h : DE X c env a fun x => DE X c env b fun y => DR (wdOf X c) r x y Qd) : DE X c env e Qd := fun B σ H Q sv k => by
  refine ofE (hp peS peS) (h B σ H _ sv fun v H1 d e1 r1 q1 => ?_)
  refine q1 B σ H1 _ (sv.ext e1) fun u H2 d2 e2 r2 q2 => ?_
  exact q2 B H2 v u Q ((sv.bz.ext e1).ext e2) (r1.mono (Ex.hid e2 B)) r2 fun z H3 d3 e3 r3 q3 => k z H3 d3 ((e1.trans e2).trans e3) r3 q3
theorem de_op {op : Operator} {r : R2} (ho : OpR X (binaryOp op) r) (h : DE X c env a fun x => DE X c env b fun y => DR (wdOf X c) r x y Qd) : DE X c env (.BinOp a op b pos) Qd := de_bin (fun ha hb => pe_op ho ha hb) h
/-! comparisons: as values, as tests -/
def semC (X : Cx) (op : CmpOp) (a b : Expr) : TE := fun σ H Q => ∀ (pins : List (Addr × Obj)) (s : Shared), Inv X pins σ H s →
  wpAny (model X.prog X.w) X.A (eval a X.env) (fun v s₁ => wpAny (model X.prog X.w) X.A (eval b X.env) (fun u s₂ => wpAny (model X.prog X.w) X.A (compareOp op v u) (EP X pins σ Q) X.xe s₂) X.xe s₁) X.xe s
theorem pcS {X : Cx} {op : CmpOp} {a b : Expr} : PC X op a b (semC X op a b) := ⟨fun pins s _ _ _ I t => t pins s I⟩
theorem ofC {X : Cx} {op : CmpOp} {a b : Expr} {t : TE} (h : PC X op a b t) {σ : Sto} {H : Hp} {Q : VK} (q : t σ H Q) : semC X op a b σ H Q := fun pins s I => h.run pins s σ H Q I q
theorem pc_of {X : Cx} {op : CmpOp} {a b : Expr} {r : R2} {ta tb : TE} (ho : OpR X (compareOp op) r) (ha : PE X a ta) (hb : PE X b tb) : PC X op a b (tOp r ta tb) :=
  ⟨fun pins s σ H Q I h => thn (ha.run pins s σ H _ I h) fun v s1 ⟨x, H1, I1, r1, q1⟩ => thn (hb.run pins s1 σ H1 _ I1 q1) fun u s2 ⟨y, H2, I2, r2, q2⟩ => ho pins s2 σ H2 x y v u Q I2 r1 r2 q2⟩
def DC (X : Cx) (c : Cl → Addr) (env : SEnv) (op : CmpOp) (a b : Expr) (Qd : D → Prop) : Prop := ∀ (B : Addr → Bool) (σ : Sto) (H : Hp) (Q : VK), SV (wdOf X c) B env σ H →
  (∀ v H2 d, Ex H H2 → Rep (wdOf X c) (hid B H2) v d → Qd d → Q v H2) → semC X op a b σ H Q
theorem de_cmp {op : CmpOp} (h : DC X c env op a b Qd) (hm : behindInMarks op b = false := by first | exact nomark _ | rfl) : DE X c env (.Compare a [op] [b] pos) Qd := fun B σ H Q sv k => ofE (pe_cmp pcS hm) (h B σ H Q sv k)
theorem dt_cmp {op : CmpOp} (h : DC X c env op a b fun d => ∃ k, d = .bl k ∧ Qb k) (hm : behindInMarks op b = false := by first | exact nomark _ | rfl) : DT X c env (.Compare a [op] [b] pos) Qb := fun B σ H Q sv k =>
  ofT (pt_cmp pcS hm) (h B σ H _ sv fun v H2 d e2 r ⟨k2, hk, q⟩ => by
    subst hk
    exact ⟨k2, r.bl_inv, k k2 H2 e2 q⟩)
theorem dc_op {op : CmpOp} {r : R2} (ho : OpR X (compareOp op) r) (h : DE X c env a fun x => DE X c env b fun y => DR (wdOf X c) r x y Qd) : DC X c env op a b Qd := fun B σ H Q sv k => by
  refine ofC (pc_of ho peS peS) (h B σ H _ sv fun v H1 d e1 r1 q1 => ?_)
  refine q1 B σ H1 _ (sv.ext e1) fun u H2 d2 e2 r2 q2 => ?_
  exact q2 B H2 v u Q ((sv.bz.ext e1).ext e2) (r1.mono (Ex.hid e2 B)) r2 fun z H3 d3 e3 r3 q3 => k z H3 d3 ((e1.trans e2).trans e3) r3 q3
/-- a new object -/
theorem fresh_rep {B : Addr → Bool} {H : Hp} {p : Addr} {o : HO} (z : Bz B H) (hp : H p = none) : hid B (upd H p o) p = some o := hid_upd (z.new hp)
section
variable {G : Wd} {Q0 : D → Prop}
theorem dr_II {d : D} {g : Int → Int → V} {i j : Int} (hf : ∀ H, Rep G H (g i j) d) (q : Q0 d) : DR G (rI0 g) (.int i) (.int j) Q0 := fun B H v u Q z r1 r2 k => by
  rw [r1.int_inv, r2.int_inv]
  exact ⟨i, j, rfl, rfl, k _ H _ (Evl.Ex.refl H) (hf _) q⟩
theorem dr_IC {C : Int → Int → Prop} {d : D} {g : Int → Int → V} {i j : Int} (hc : C i j) (hf : ∀ H, Rep G H (g i j) d) (q : Q0 d) : DR G (rI C g) (.int i) (.int j) Q0 := fun B H v u Q z r1 r2 k => by
  rw [r1.int_inv, r2.int_inv]
  exact ⟨i, j, rfl, rfl, hc, k _ H _ (Evl.Ex.refl H) (hf _) q⟩
theorem DR.orL {r r' : R2} {x y : D} (h : DR G r x y Q0) : DR G (fun v u H Q => r v u H Q ∨ r' v u H Q) x y Q0 := fun B H v u Q z r1 r2 k => .inl (h B H v u Q z r1 r2 k)
theorem DR.orR {r r' : R2} {x y : D} (h : DR G r' x y Q0) : DR G (fun v u H Q => r v u H Q ∨ r' v u H Q) x y Q0 := fun B H v u Q z r1 r2 k => .inr (h B H v u Q z r1 r2 k)
end
/-- a + b: ints, tuples, lists -/
def addD : D → D → (D → Prop) → Prop
  | .int i, .int j, Q => Q (.int (i + j))
  | .tup xs, .tup ys, Q => xs.length + ys.length ≤ 100000 ∧ Q (.tup (xs ++ ys))
  | .lst xs, .lst ys, Q => xs.length + ys.length ≤ 100000 ∧ Q (.lst (xs ++ ys))
  | _, _, _ => False
theorem sz100 {n : Nat} (h : n ≤ 100000) : n ≤ sizeLine := Evl.sz_of h
theorem dr_cat {G : Wd} {xs ys : List D} {Q0 : D → Prop} (hz : xs.length + ys.length ≤ 100000) (q : Q0 (.lst (xs ++ ys))) : DR G rCat (.lst xs) (.lst ys) Q0 := fun B H v u Q z r1 r2 k => by
  obtain ⟨p, vs, rfl, h1, a1⟩ := r1.lst_inv
  obtain ⟨p2, vs2, rfl, h2, a2⟩ := r2.lst_inv
  refine ⟨p, p2, vs, vs2, rfl, rfl, hid_ex B H _ _ h1, hid_ex B H _ _ h2, sz100 (by rw [a1.length, a2.length]; exact hz), fun n hn => ?_⟩
  have en : Ex H (upd H n (.lst (vs ++ vs2))) := Evl.Ex.new hn
  exact k _ _ _ en (.lst (fresh_rep z hn) ((a1.append a2).mono (Ex.hid en B))) q
theorem dr_catT {G : Wd} {K : PySem.W.Frag} {xs ys : List D} {Q0 : D → Prop} (hz : xs.length + ys.length ≤ 100000) (q : Q0 (.tup (xs ++ ys))) : DR G (rCatF K) (.tup xs) (.tup ys) Q0 := fun B H v u Q z r1 r2 k => by
  obtain ⟨p, vs, rfl, h1, a1⟩ := id r1.tup_inv
  obtain ⟨p2, vs2, rfl, h2, a2⟩ := id r2.tup_inv
  refine ⟨p, p2, vs, vs2, rfl, rfl, (TupAt.mono h1 (hid_ex B H)).sq, (TupAt.mono h2 (hid_ex B H)).sq, sz100 (by rw [a1.length, a2.length]; exact hz), fun e => ?_, fun _ e => ?_, fun _ _ n o hn ho => ?_⟩
  · subst e
    cases a1
    exact k _ H _ (Evl.Ex.refl H) r2 q
  · subst e
    cases a2
    rw [List.append_nil] at q
    exact k _ H _ (Evl.Ex.refl H) r1 q
  · have en : Ex H (upd H n (.frz o (.tup (vs ++ vs2)))) := Evl.Ex.new hn
    exact k _ _ _ en (.tup ⟨o, ho, fresh_rep z hn⟩ ((a1.append a2).mono (Ex.hid en B))) q
theorem de_add (h : DE X c env a fun x => DE X c env b fun y => addD x y Qd) : DE X c env (.BinOp a .Add b pos) Qd := by
  refine de_op ((op_add.or op_catF).or op_cat) (h.mono fun x hx => hx.mono fun y hy => ?_)
  unfold addD at hy
  split at hy
  · exact DR.orL (DR.orL (dr_II (fun H => .int _) hy))
  · exact DR.orL (DR.orR (dr_catT hy.1 hy.2))
  · exact DR.orR (dr_cat hy.1 hy.2)
  · exact hy.elim
def subD : D → D → (D → Prop) → Prop
  | .int i, .int j, Q => Q (.int (i - j))
  | _, _, _ => False
theorem de_sub (h : DE X c env a fun x => DE X c env b fun y => subD x y Qd) : DE X c env (.BinOp a .Sub b pos) Qd := by
  refine de_op op_sub (h.mono fun x hx => hx.mono fun y hy => ?_)
  unfold subD at hy
  split at hy
  · exact dr_II (fun H => .int _) hy
  · exact hy.elim
/-- a * b: ints (one below 2^64), a list times an int -/
def mulD : D → D → (D → Prop) → Prop
  | .int i, .int j, Q => ((-(2 ^ 64) < i ∧ i < 2 ^ 64) ∨ (-(2 ^ 64) < j ∧ j < 2 ^ 64)) ∧ Q (.int (i * j))
  | .lst [x], .int j, Q => 0 ≤ j ∧ j ≤ 100000 ∧ Q (.lst (List.replicate j.toNat x))
  | _, _, _ => False
theorem flat_rep1 {α : Type} (x : α) : ∀ n : Nat, (List.replicate n [x]).flatten = List.replicate n x
  | 0 => rfl
  | n + 1 => by rw [List.replicate_succ, List.flatten_cons, flat_rep1 x n]; rfl
theorem repA_rep {G : Wd} {H : Hp} {v : V} {d : D} (r : Rep G H v d) : ∀ n : Nat, RepA G H (List.replicate n v) (List.replicate n d)
  | 0 => .nil
  | n + 1 => .cons r (repA_rep r n)
theorem de_mul (h : DE X c env a fun x => DE X c env b fun y => mulD x y Qd) : DE X c env (.BinOp a .Mult b pos) Qd := by
  refine de_op (op_mul.or op_rep) (h.mono fun x hx => hx.mono fun y hy => ?_)
  unfold mulD at hy
  split at hy
  · exact DR.orL (dr_IC hy.1 (fun H => .int _) hy.2)
  · rename_i x j
    obtain ⟨h0, h1, q⟩ := hy
    refine DR.orR fun B H v u Q z r1 r2 k => ?_
    obtain ⟨p, vs, rfl, h2, a1⟩ := r1.lst_inv
    rw [r2.int_inv]
    cases a1 with
    | cons rx t =>
      cases t
      refine ⟨p, j, _, rfl, rfl, hid_ex B H _ _ h2, by omega, by omega, sz100 (by simp only [List.length_cons, List.length_nil]; omega), fun n hn => ?_⟩
      rw [flat_rep1]
      have en : ∀ o, Ex H (upd H n o) := fun o => Evl.Ex.new hn
      exact k _ _ _ (en _) (.lst (fresh_rep z hn) (repA_rep (rx.mono (Ex.hid (en _) B)) _)) q
  · exact hy.elim
def fdivD : D → D → (D → Prop) → Prop
  | .int i, .int j, Q => (0 < j ∧ j < 1073741824) ∧ Q (.int (i / j))
  | _, _, _ => False
theorem de_fdiv (h : DE X c env a fun x => DE X c env b fun y => fdivD x y Qd) : DE X c env (.BinOp a .FloorDiv b pos) Qd := by
  refine de_op op_fdiv (h.mono fun x hx => hx.mono fun y hy => ?_)
  unfold fdivD at hy
  split at hy
  · exact dr_IC hy.1 (fun H => .int _) hy.2
  · exact hy.elim
def modD : D → D → (D → Prop) → Prop
  | .int i, .int j, Q => 0 < j ∧ Q (.int (i % j))
  | _, _, _ => False
theorem de_mod (h : DE X c env a fun x => DE X c env b fun y => modD x y Qd) : DE X c env (.BinOp a .Mod b pos) Qd := by
  refine de_op op_mod (h.mono fun x hx => hx.mono fun y hy => ?_)
  unfold modD at hy
  split at hy
  · rename_i i j
    exact dr_IC (C := fun _ j => 0 < j) hy.1 (fun H => .int _) hy.2
  · exact hy.elim
def powD : D → D → (D → Prop) → Prop
  | .int i, .int j, Q => (0 ≤ j ∧ j ≤ 1000000 ∧ i.natAbs < 2 ^ 64) ∧ Q (.int (i ^ j.toNat))
  | _, _, _ => False
theorem de_pow (h : DE X c env a fun x => DE X c env b fun y => powD x y Qd) : DE X c env (.BinOp a .Pow b pos) Qd := by
  refine de_op op_pow (h.mono fun x hx => hx.mono fun y hy => ?_)
  unfold powD at hy
  split at hy
  · exact dr_IC hy.1 (fun H => .int _) hy.2
  · exact hy.elim
/-! ### comparisons -/
def ltD (f : Int → Int → Bool) : D → D → (D → Prop) → Prop
  | .int i, .int j, Q => Q (.bl (f i j))
  | _, _, _ => False
theorem dc_ord {op : CmpOp} {f : Int → Int → Bool} (ho : OpR X (compareOp op) (rI0 fun i j => .bl (f i j))) (h : DE X c env a fun x => DE X c env b fun y => ltD f x y Qd) : DC X c env op a b Qd := by
  refine dc_op ho (h.mono fun x hx => hx.mono fun y hy => ?_)
  unfold ltD at hy
  split at hy
  · exact dr_II (fun H => .bl _) hy
  · exact hy.elim
theorem dc_lt (h : DE X c env a fun x => DE X c env b fun y => ltD (fun i j => decide (i < j)) x y Qd) : DC X c env .Lt a b Qd := dc_ord op_lt h
theorem dc_le (h : DE X c env a fun x => DE X c env b fun y => ltD (fun i j => decide (i ≤ j)) x y Qd) : DC X c env .LtE a b Qd := dc_ord op_le h
theorem dc_gt (h : DE X c env a fun x => DE X c env b fun y => ltD (fun i j => decide (j < i)) x y Qd) : DC X c env .Gt a b Qd := dc_ord op_gt h
theorem dc_ge (h : DE X c env a fun x => DE X c env b fun y => ltD (fun i j => decide (j ≤ i)) x y Qd) : DC X c env .GtE a b Qd := dc_ord op_ge h
/-- ==, != of scalars of one kind, None beside an int -/
def eqD : D → D → Option Bool
  | .int i, .int j => some (decide (i = j))
  | .bl i, .bl j => some (decide (i = j))
  | .str i, .str j => some (decide (i = j))
  | .non, .int _ => some false
  | .int _, .non => some false
  | _, _ => none
theorem beqD {α : Type} [DecidableEq α] [BEq α] [LawfulBEq α] (x y : α) : (x == y) = decide (x = y) := by
  by_cases h : x = y
  · rw [decide_eq_true h, h]; exact beq_self_eq_true y
  · rw [decide_eq_false h]; exact beq_eq_false_iff_ne.mpr h
theorem eqD_scal {G : Wd} {H H' : Hp} {v u : V} {x y : D} {k : Bool} (r1 : Rep G H v x) (r2 : Rep G H' u y) (h : eqD x y = some k) : scal v u = true ∧ decide (v = u) = k := by
  unfold eqD at h
  split at h
  · rw [r1.int_inv, r2.int_inv]; cases h; exact ⟨rfl, by rw [dec_int]; exact beqD _ _⟩
  · rw [r1.bl_inv, r2.bl_inv]; cases h; exact ⟨rfl, by rw [dec_bl]; exact beqD _ _⟩
  · rw [r1.str_inv, r2.str_inv]; cases h; exact ⟨rfl, by rw [dec_str]; exact beqD _ _⟩
  · rw [r1.non_inv, r2.int_inv]; cases h; exact ⟨rfl, rfl⟩
  · rw [r1.int_inv, r2.non_inv]; cases h; exact ⟨rfl, rfl⟩
  · cases h
theorem dc_eq (h : DE X c env a fun x => DE X c env b fun y => ∃ k, eqD x y = some k ∧ Qd (.bl k)) : DC X c env .Eq a b Qd := by
  refine dc_op op_eq (h.mono fun x hx => hx.mono fun y ⟨k, hk, q⟩ => ?_)
  intro B H v u Q z r1 r2 f
  obtain ⟨h1, h2⟩ := eqD_scal r1 r2 hk
  exact ⟨h1, by rw [h2]; exact f _ H _ (Evl.Ex.refl H) (.bl k) q⟩
theorem dc_ne (h : DE X c env a fun x => DE X c env b fun y => ∃ k, eqD x y = some k ∧ Qd (.bl (!k))) : DC X c env .NotEq a b Qd := by
  refine dc_op op_ne (h.mono fun x hx => hx.mono fun y ⟨k, hk, q⟩ => ?_)
  intro B H v u Q z r1 r2 f
  obtain ⟨h1, h2⟩ := eqD_scal r1 r2 hk
  exact ⟨h1, by rw [h2]; exact f _ H _ (Evl.Ex.refl H) (.bl _) q⟩
end
end DD
namespace DD
open PySem PySem.Spec PyProof.Rows L2
open Evl (Ex)
/-! ### deep == -/
structure Pe {α : Type} [DecidableEq α] (enc : α → D) (p : α → PyData) (n : Nat) : Prop where
  lay : ∀ x, (p x).canLay0 = true
  dep : ∀ x, (p x).depth ≤ n
  eqv : ∀ x y, PyData.eqv (p x) (p y) = decide (x = y)
  dp : ∀ (G : Wd) (H : Hp) (v : V) (x : α), Rep G H v (enc x) → Dp G.K H v (p x)
section
variable {α : Type} [DecidableEq α] {enc : α → D} {p : α → PyData} {n : Nat}
theorem Pe.layA (h : Pe enc p n) : ∀ xs : List α, PyData.canLayAll0 (xs.map p) = true
  | [] => by simp [PyData.canLayAll0]
  | x :: xs => by simp [PyData.canLayAll0, h.lay x, h.layA xs]
theorem Pe.depA (h : Pe enc p n) : ∀ xs : List α, PyData.depthAll (xs.map p) ≤ n
  | [] => by simp [PyData.depthAll]
  | x :: xs => by
    have h1 := h.dep x
    have h2 := h.depA xs
    simp only [List.map_cons, PyData.depthAll]
    omega
theorem Pe.eqvA (h : Pe enc p n) : ∀ xs ys : List α, PyData.eqvAll (xs.map p) (ys.map p) = decide (xs = ys)
  | [], [] => by simp [PyData.eqvAll]
  | [], y :: ys => by simp [PyData.eqvAll]
  | x :: xs, [] => by simp [PyData.eqvAll]
  | x :: xs, y :: ys => by
    simp only [List.map_cons, PyData.eqvAll, h.eqv x y, h.eqvA xs ys]
    by_cases e : x = y
    · by_cases f : xs = ys
      · simp [e, f]
      · simp [e, f]
    · simp [e]
theorem Pe.dpA (h : Pe enc p n) {G : Wd} {H : Hp} : ∀ {vs : List V} {xs : List α}, RepA G H vs (xs.map enc) → DpAll G.K H vs (xs.map p)
  | [], [], _ => .nil
  | _ :: _, x :: xs, .cons r t => .cons (h.dp G H _ x r) (h.dpA t)
theorem Pe.tup (h : Pe enc p n) : Pe (fun xs : List α => D.tup (xs.map enc)) (fun xs => PyData.tuple (xs.map p)) (n + 1) where
  lay xs := by simp only [PyData.canLay0]; exact h.layA xs
  dep xs := by have := h.depA xs; simp only [PyData.depth]; omega
  eqv xs ys := by simp only [PyData.eqv]; exact h.eqvA xs ys
  dp G H v x r := by
    obtain ⟨a, xs, rfl, h1, h2⟩ := r.tup_inv
    exact .tup h1.sq (h.dpA h2)
theorem Pe.lst (h : Pe enc p n) : Pe (fun xs : List α => D.lst (xs.map enc)) (fun xs => PyData.list (xs.map p)) (n + 1) where
  lay xs := by simp only [PyData.canLay0]; exact h.layA xs
  dep xs := by have := h.depA xs; simp only [PyData.depth]; omega
  eqv xs ys := by simp only [PyData.eqv]; exact h.eqvA xs ys
  dp G H v x r := by
    obtain ⟨a, xs, rfl, h1, h2⟩ := r.lst_inv
    exact .lst (SqL.of h1) (h.dpA h2)
theorem Pe.shaped (h : Pe enc p n) (hn : n ≤ 64) (x : α) : SeqAt.shaped (p x) = true := by
  show ((p x).canLay0 && decide ((p x).depth ≤ 64)) = true
  rw [Bool.and_eq_true]
  exact ⟨h.lay x, decide_eq_true (Nat.le_trans (h.dep x) hn)⟩
end
theorem Pe.int : Pe D.int PyData.int 0 where
  lay _ := by simp only [PyData.canLay0]
  dep _ := by simp [PyData.depth]
  eqv x y := by simp only [PyData.eqv]; exact beqD x y
  dp G H v x r := by rw [r.int_inv]; exact .int x
abbrev rowD (r : List Int) : D := .tup (r.map D.int)
abbrev lrowD (r : List Int) : D := .lst (r.map D.int)
abbrev rowsD (r : List (List Int)) : D := .lst (r.map rowD)
abbrev trowsD (r : List (List Int)) : D := .tup (r.map rowD)
theorem Pe.row : Pe rowD (fun r => PyData.tuple (r.map PyData.int)) 1 := Pe.int.tup
theorem Pe.lrow : Pe lrowD (fun r => PyData.list (r.map PyData.int)) 1 := Pe.int.lst
theorem Pe.rows : Pe rowsD (fun r => PyData.list (r.map fun r => PyData.tuple (r.map PyData.int))) 2 := Pe.row.lst
theorem Pe.trows : Pe trowsD (fun r => PyData.tuple (r.map fun r => PyData.tuple (r.map PyData.int))) 2 := Pe.row.tup
section
variable {X : Cx} {c : Cl → Addr} {env : SEnv} {e a b : Expr} {es : List Expr} {Qd : D → Prop} {Qb : Bool → Prop} {pos : Pos}
section
variable {α : Type} [DecidableEq α] {enc : α → D} {p : α → PyData} {n : Nat}
theorem dc_eqd (P : Pe enc p n) (hn : n ≤ 64) (hu : X.A.units + 64 < cLine) (h : DE X c env a fun x => DE X c env b fun y => ∃ (s t : α), x = enc s ∧ y = enc t ∧ Qd (.bl (decide (s = t)))) : DC X c env .Eq a b Qd := by
  refine dc_op (op_eqD hu) (h.mono fun x hx => hx.mono fun y ⟨s, t, e1, e2, q⟩ => ?_)
  subst e1; subst e2
  intro B H v u Q z r1 r2 f
  refine ⟨p s, p t, P.dp (wdOf X c) H v s (r1.mono (hid_ex B H)), P.dp (wdOf X c) H u t (r2.mono (hid_ex B H)), P.shaped hn s, P.shaped hn t, ?_⟩
  rw [P.eqv]
  exact f _ H _ (Evl.Ex.refl H) (.bl _) q
theorem dc_ned (P : Pe enc p n) (hn : n ≤ 64) (hu : X.A.units + 64 < cLine) (h : DE X c env a fun x => DE X c env b fun y => ∃ (s t : α), x = enc s ∧ y = enc t ∧ Qd (.bl (!decide (s = t)))) : DC X c env .NotEq a b Qd := by
  refine dc_op (op_neD hu) (h.mono fun x hx => hx.mono fun y ⟨s, t, e1, e2, q⟩ => ?_)
  subst e1; subst e2
  intro B H v u Q z r1 r2 f
  refine ⟨p s, p t, P.dp (wdOf X c) H v s (r1.mono (hid_ex B H)), P.dp (wdOf X c) H u t (r2.mono (hid_ex B H)), P.shaped hn s, P.shaped hn t, ?_⟩
  rw [P.eqv]
  exact f _ H _ (Evl.Ex.refl H) (.bl _) q
theorem any_eqv (P : Pe enc p n) (s : α) : ∀ ts : List α, ((ts.map p).any fun z => PyData.eqv z (p s)) = decide (s ∈ ts)
  | [] => by simp
  | t :: ts => by
    rw [List.map_cons, List.any_cons, any_eqv P s ts, P.eqv]
    by_cases e : t = s
    · subst e; simp
    · by_cases f : s ∈ ts
      · simp [f]
      · simp [e, f, Ne.symm e]
/-- x in a list of data -/
theorem dc_ind (P : Pe enc p n) (hn : n ≤ 63) (hu : X.A.units + 65 < cLine) (h : DE X c env a fun x => DE X c env b fun y => ∃ (s : α) (ts : List α), x = enc s ∧ y = .lst (ts.map enc) ∧ Qd (.bl (decide (s ∈ ts)))) : DC X c env .In a b Qd := by
  refine dc_op (op_inD hu) (h.mono fun x hx => hx.mono fun y ⟨s, ts, e1, e2, q⟩ => ?_)
  subst e1; subst e2
  intro B H v u Q z r1 r2 f
  refine ⟨p s, ts.map p, P.dp (wdOf X c) H v s (r1.mono (hid_ex B H)), P.lst.dp (wdOf X c) H u ts (r2.mono (hid_ex B H)), P.shaped (by omega) s, P.lst.shaped (by omega) ts, ?_⟩
  rw [any_eqv P]
  exact f _ H _ (Evl.Ex.refl H) (.bl _) q
end
/-! ### in, not in: ints in a list or tuple of ints -/
theorem inV_ints (i : Int) : ∀ ns : List Int, inV (.int i) (ns.map V.int) = decide (i ∈ ns)
  | [] => rfl
  | n :: ns => by
    have h := inV_ints i ns
    unfold inV at h ⊢
    rw [List.map_cons, List.any_cons, h]
    show ((n == i) || decide (i ∈ ns)) = _
    rw [beqD]
    by_cases e : n = i
    · subst e; simp
    · by_cases f : i ∈ ns
      · simp [f]
      · simp [e, f, Ne.symm e]
theorem flat_ints (ns : List Int) : (ns.map V.int).all flatV = true := by simp [flatV]
def InI (y : D) (ns : List Int) : Prop := y = rowD ns ∨ y = lrowD ns
theorem in_sq {G : Wd} {B : Addr → Bool} {H : Hp} {u : V} {y : D} {ns : List Int} (h : InI y ns) (r : Rep G (hid B H) u y) : ∃ p, u = .ref p ∧ (SqL G.K H p (ns.map V.int) ∨ SqT G.K H p (ns.map V.int)) := by
  rcases h with rfl | rfl
  · obtain ⟨p, xs, rfl, h1, h2⟩ := r.tup_inv
    rw [h2.ints] at h1
    exact ⟨p, rfl, .inr ((TupAt.mono h1 (hid_ex B H)).sq)⟩
  · obtain ⟨p, xs, rfl, h1, h2⟩ := r.lst_inv
    rw [h2.ints] at h1
    exact ⟨p, rfl, .inl (SqL.of (hid_ex B H _ _ h1))⟩
theorem dc_in (h : DE X c env a fun x => DE X c env b fun y => ∃ i ns, x = .int i ∧ InI y ns ∧ Qd (.bl (decide (i ∈ ns)))) : DC X c env .In a b Qd := by
  refine dc_op op_in_seq (h.mono fun x hx => hx.mono fun y ⟨i, ns, e1, e2, q⟩ => ?_)
  subst e1
  intro B H v u Q z r1 r2 f
  rw [r1.int_inv]
  obtain ⟨p, rfl, hs⟩ := in_sq e2 r2
  refine ⟨p, _, rfl, hs, rfl, flat_ints ns, ?_⟩
  rw [inV_ints]
  exact f _ H _ (Evl.Ex.refl H) (.bl _) q
theorem dc_notin (h : DE X c env a fun x => DE X c env b fun y => ∃ i ns, x = .int i ∧ InI y ns ∧ Qd (.bl (!decide (i ∈ ns)))) : DC X c env .NotIn a b Qd := by
  refine dc_op op_notIn_seq (h.mono fun x hx => hx.mono fun y ⟨i, ns, e1, e2, q⟩ => ?_)
  subst e1
  intro B H v u Q z r1 r2 f
  rw [r1.int_inv]
  obtain ⟨p, rfl, hs⟩ := in_sq e2 r2
  refine ⟨p, _, rfl, hs, rfl, flat_ints ns, ?_⟩
  rw [inV_ints]
  exact f _ H _ (Evl.Ex.refl H) (.bl _) q
/-! ### is None, is not True -/
def isNonD : D → Bool
  | .non => true
  | _ => false
theorem rep_non {G : Wd} {H : Hp} {v : V} {d : D} (r : Rep G H v d) : decide (v = V.non) = isNonD d := by
  cases r <;> rfl
theorem dc_isN {j : Nat} {pos' : Pos} (h : DE X c env a fun x => Qd (.bl (isNonD x))) : DC X c env .Is a (.Constant .none j pos') Qd := by
  refine dc_op op_isN (h.mono fun x hx => de_non ?_)
  intro B H v u Q z r1 r2 f
  refine ⟨r2.non_inv, ?_⟩
  rw [rep_non r1]
  exact f _ H _ (Evl.Ex.refl H) (.bl _) hx
theorem dc_notN {j : Nat} {pos' : Pos} (h : DE X c env a fun x => Qd (.bl (!isNonD x))) : DC X c env .IsNot a (.Constant .none j pos') Qd := by
  refine dc_op op_notN (h.mono fun x hx => de_non ?_)
  intro B H v u Q z r1 r2 f
  refine ⟨r2.non_inv, ?_⟩
  rw [rep_non r1]
  exact f _ H _ (Evl.Ex.refl H) (.bl _) hx
theorem dc_notTrue {j : Nat} {pos' : Pos} (h : DE X c env a fun x => ∃ k, x = .bl k ∧ Qd (.bl (!k))) : DC X c env .IsNot a (.Constant (.bool true) j pos') Qd := by
  refine dc_op op_notBl (h.mono fun x ⟨k, e, hx⟩ => de_bl ?_)
  subst e
  intro B H v u Q z r1 r2 f
  refine ⟨k, true, r1.bl_inv, r2.bl_inv, ?_⟩
  have e : (!decide (k = true)) = !k := by cases k <;> rfl
  rw [e]
  exact f _ H _ (Evl.Ex.refl H) (.bl _) hx
/-! ### tests -/
theorem dt_val (h : DE X c env e fun x => ∃ k, x = .bl k ∧ Qb k) (he : ∀ whole, isTrue e X.env whole = (do let v ← whole; standAt e.pos; holding [v] (truthy v)) := by intro _; rfl) : DT X c env e Qb := fun B σ H Q sv k => by
  refine ofT (pt_val peS he) (h B σ H _ sv fun v H2 d e2 r ⟨k2, hk, q⟩ => ?_)
  subst hk
  exact ⟨k2, r.bl_inv, k k2 H2 e2 q⟩
theorem dt_not (h : DT X c env a fun k => Qb (!k)) : DT X c env (.UnaryOp .Not a pos) Qb := fun B σ H Q sv k =>
  ofT (pt_not ptS) (h B σ H _ sv fun v H2 e2 q => k _ H2 e2 q)
theorem dt_bool (h : DW X c env e Qb) : DT X c env e Qb := fun B σ H Q sv k => ofT pwS.pt (h B σ H Q sv k)
theorem dw_and1 (h : DT X c env a Qb) : DW X c env (.BoolOp .And [a] pos) Qb := fun B σ H Q sv k => ofW (pw_and1 ptS) (h B σ H Q sv k)
theorem dw_or1 (h : DT X c env a Qb) : DW X c env (.BoolOp .Or [a] pos) Qb := fun B σ H Q sv k => ofW (pw_or1 ptS) (h B σ H Q sv k)
theorem dw_and (h : DT X c env a fun k => if k = true then DW X c env (.BoolOp .And (b :: es) pos) Qb else Qb false) : DW X c env (.BoolOp .And (a :: b :: es) pos) Qb := fun B σ H Q sv k =>
  ofW (pw_and ptS pwS) (h B σ H _ sv fun v H2 e2 q => by
    cases v with
    | true =>
      show semW X (.BoolOp .And (b :: es) pos) σ H2 Q
      exact q B σ H2 Q (sv.ext e2) fun v H3 e3 q3 => k v H3 (e2.trans e3) q3
    | false => exact k false H2 e2 q)
theorem dw_or (h : DT X c env a fun k => if k = true then Qb true else DW X c env (.BoolOp .Or (b :: es) pos) Qb) : DW X c env (.BoolOp .Or (a :: b :: es) pos) Qb := fun B σ H Q sv k =>
  ofW (pw_or ptS pwS) (h B σ H _ sv fun v H2 e2 q => by
    cases v with
    | true => exact k true H2 e2 q
    | false =>
      show semW X (.BoolOp .Or (b :: es) pos) σ H2 Q
      exact q B σ H2 Q (sv.ext e2) fun v H3 e3 q3 => k v H3 (e2.trans e3) q3)
/-! as values -/
theorem de_one {op : BoolOp} (h : DE X c env a Qd) : DE X c env (.BoolOp op [a] pos) Qd := fun B σ H Q sv k => ofE (pe_one peS) (h B σ H Q sv k)
theorem de_and (h : DE X c env a fun x => ∃ k, x = .bl k ∧ if k = true then DE X c env (.BoolOp .And (b :: es) pos) Qd else Qd (.bl false)) : DE X c env (.BoolOp .And (a :: b :: es) pos) Qd := fun B σ H Q sv k =>
  ofE (pe_and peS peS) (h B σ H _ sv fun v H2 d e2 r ⟨k2, hk, q⟩ => by
    subst hk
    refine ⟨k2, r.bl_inv, ?_⟩
    cases k2 with
    | true =>
      show semE X (.BoolOp .And (b :: es) pos) σ H2 Q
      exact q B σ H2 Q (sv.ext e2) fun v H3 d e3 r3 q3 => k v H3 d (e2.trans e3) r3 q3
    | false => exact k _ H2 _ e2 (.bl false) q)
theorem de_or (h : DE X c env a fun x => ∃ k, x = .bl k ∧ if k = true then Qd (.bl true) else DE X c env (.BoolOp .Or (b :: es) pos) Qd) : DE X c env (.BoolOp .Or (a :: b :: es) pos) Qd := fun B σ H Q sv k =>
  ofE (pe_or peS peS) (h B σ H _ sv fun v H2 d e2 r ⟨k2, hk, q⟩ => by
    subst hk
    refine ⟨k2, r.bl_inv, ?_⟩
    cases k2 with
    | true => exact k _ H2 _ e2 (.bl true) q
    | false =>
      show semE X (.BoolOp .Or (b :: es) pos) σ H2 Q
      exact q B σ H2 Q (sv.ext e2) fun v H3 d e3 r3 q3 => k v H3 d (e2.trans e3) r3 q3)
theorem de_not (h : DE X c env a fun x => ∃ k, x = .bl k ∧ Qd (.bl (!k))) : DE X c env (.UnaryOp .Not a pos) Qd := fun B σ H Q sv k =>
  ofE (pe_not peS) (h B σ H _ sv fun v H2 d e2 r ⟨k2, hk, q⟩ => by
    subst hk
    exact ⟨k2, r.bl_inv, k _ H2 _ e2 (.bl _) q⟩)
/-- lo <= x < hi -/
theorem de_chain {b2 : Expr} (h : DE X c env a fun x => DE X c env b fun y => ∃ i j, x = .int i ∧ y = .int j ∧ if i ≤ j then DE X c env b2 fun z => ∃ k, z = .int k ∧ Qd (.bl (decide (j < k))) else Qd (.bl false))
    (hm : lastMarks [.LtE, .Lt] [b, b2] = false := by with_unfolding_all rfl) : DE X c env (.Compare a [.LtE, .Lt] [b, b2] pos) Qd := fun B σ H Q sv k =>
  ofE (pe_chain op_le op_lt peS peS peS hm) (h B σ H _ sv fun v H1 d e1 r1 h1 => h1 B σ H1 _ (sv.ext e1) fun u H2 d2 e2 r2 ⟨i, j, x1, x2, q⟩ => by
    subst x1; subst x2
    rw [r1.int_inv, r2.int_inv]
    refine ⟨i, j, rfl, rfl, decide (i ≤ j), rfl, ?_⟩
    by_cases hij : i ≤ j
    · rw [if_pos (decide_eq_true hij)]
      rw [if_pos hij] at q
      refine q B σ H2 _ ((sv.ext e1).ext e2) fun w H3 d3 e3 r3 ⟨k3, x3, q3⟩ => ?_
      subst x3
      rw [r3.int_inv]
      exact ⟨j, k3, rfl, rfl, k _ H3 _ ((e1.trans e2).trans e3) (.bl _) q3⟩
    · rw [if_neg (by simp [hij])]
      rw [if_neg hij] at q
      exact k _ H2 _ (e1.trans e2) (.bl false) q)
theorem dt_chain {b2 : Expr} (h : DE X c env a fun x => DE X c env b fun y => ∃ i j, x = .int i ∧ y = .int j ∧ if i ≤ j then DE X c env b2 fun z => ∃ k, z = .int k ∧ Qb (decide (j < k)) else Qb false)
    (hm : lastMarks [.LtE, .Lt] [b, b2] = false := by with_unfolding_all rfl) : DT X c env (.Compare a [.LtE, .Lt] [b, b2] pos) Qb := fun B σ H Q sv k =>
  ofT (pt_chain op_le op_lt peS peS peS hm) (h B σ H _ sv fun v H1 d e1 r1 h1 => h1 B σ H1 _ (sv.ext e1) fun u H2 d2 e2 r2 ⟨i, j, x1, x2, q⟩ => by
    subst x1; subst x2
    rw [r1.int_inv, r2.int_inv]
    refine ⟨i, j, rfl, rfl, decide (i ≤ j), rfl, ?_⟩
    by_cases hij : i ≤ j
    · rw [if_pos (decide_eq_true hij)]
      rw [if_pos hij] at q
      refine q B σ H2 _ ((sv.ext e1).ext e2) fun w H3 d3 e3 r3 ⟨k3, x3, q3⟩ => ?_
      subst x3
      rw [r3.int_inv]
      exact ⟨j, k3, rfl, rfl, _, rfl, k _ H3 ((e1.trans e2).trans e3) q3⟩
    · rw [if_neg (by simp [hij])]
      rw [if_neg hij] at q
      exact ⟨_, rfl, k _ H2 (e1.trans e2) q⟩)
/-! ### subscripts -/
def ixD : D → D → (D → Prop) → Prop
  | .tup ds, .int i, Q => ∃ d, atI ds i = some d ∧ Q d
  | .lst ds, .int i, Q => ∃ d, atI ds i = some d ∧ Q d
  | .scr ds, .int i, Q => ∃ d, atI ds i = some d ∧ Q d
  | _, _, _ => False
theorem RepA.atI {G : Wd} {H : Hp} {vs : List V} {ds : List D} {i : Int} {d : D} (r : RepA G H vs ds) (h : L2.atI ds i = some d) : ∃ v, L2.atI vs i = some v ∧ Rep G H v d := by
  unfold L2.atI at h ⊢
  rw [r.length]
  cases q : ixN ds.length i with
  | none => rw [q] at h; cases h
  | some j =>
    rw [q] at h
    exact r.get h
theorem de_ix (hs : PlainIx b) (h : DE X c env a fun x => DE X c env b fun y => ixD x y Qd) : DE X c env (.Subscript a b pos) Qd := by
  refine de_bin (fun ha hb => pe_ix ix_seq ha hb hs) (h.mono fun x hx => hx.mono fun y hy => ?_)
  intro B H v u Q z r1 r2 f
  unfold ixD at hy
  split at hy
  · obtain ⟨d, hd, q⟩ := hy
    obtain ⟨p, xs, rfl, h1, h2⟩ := r1.tup_inv
    rw [r2.int_inv]
    obtain ⟨w, hw, rw_⟩ := h2.atI hd
    exact .inr (.inl ⟨p, xs, _, w, rfl, rfl, (TupAt.mono h1 (hid_ex B H)).sq, hw, f _ H _ (Evl.Ex.refl H) rw_ q⟩)
  · obtain ⟨d, hd, q⟩ := hy
    obtain ⟨p, xs, rfl, h1, h2⟩ := r1.lst_inv
    rw [r2.int_inv]
    obtain ⟨w, hw, rw_⟩ := h2.atI hd
    exact .inl ⟨p, xs, _, w, rfl, rfl, SqL.of (hid_ex B H _ _ h1), hw, f _ H _ (Evl.Ex.refl H) rw_ q⟩
  · obtain ⟨d, hd, q⟩ := hy
    obtain ⟨p, xs, rfl, h1, h2⟩ := r1.scr_inv
    rw [r2.int_inv]
    obtain ⟨w, hw, rw_⟩ := h2.atI hd
    exact .inl ⟨p, xs, _, w, rfl, rfl, Evl.ex_l (hid_ex B H) h1, hw, f _ H _ (Evl.Ex.refl H) rw_ q⟩
  · exact hy.elim
/-! dicts with int keys -/
theorem valV_zk : ∀ {ks : List Int} {xs : List V} {k : Int} {j : Nat} {v : V}, ks.Nodup → ks[j]? = some k → xs[j]? = some v → valV (zk ks xs) (.inl k) = some v
  | [], _, _, _, _, _, h, _ => by simp at h
  | _ :: _, [], _, _, _, _, _, h => by simp at h
  | k0 :: ks, x :: xs, k, 0, v, hn, h1, h2 => by
    simp at h1 h2
    subst h1; subst h2
    exact valV_pos rfl
  | k0 :: ks, x :: xs, k, j + 1, v, hn, h1, h2 => by
    have hm : k ∈ ks := List.mem_of_getElem? (by simpa using h1)
    have ne : ¬ (Sum.inl k0 : Key) = Sum.inl k := fun e => (List.nodup_cons.mp hn).1 (by rw [Sum.inl.inj e]; exact hm)
    rw [show zk (k0 :: ks) (x :: xs) = (Sum.inl k0, x) :: zk ks xs from rfl, valV_neg ne]
    exact valV_zk (List.nodup_cons.mp hn).2 (by simpa using h1) (by simpa using h2)
theorem valV_zk_none : ∀ {ks : List Int} {xs : List V} {k : Int}, ¬ k ∈ ks → valV (zk ks xs) (.inl k) = none
  | [], _, _, _ => rfl
  | _ :: _, [], _, _ => rfl
  | k0 :: ks, x :: xs, k, h => by
    have ne : ¬ (Sum.inl k0 : Key) = Sum.inl k := fun e => h (by rw [Sum.inl.inj e]; exact List.mem_cons_self)
    rw [show zk (k0 :: ks) (x :: xs) = (Sum.inl k0, x) :: zk ks xs from rfl, valV_neg ne]
    exact valV_zk_none fun hm => h (List.mem_cons_of_mem _ hm)
theorem de_dget (hu : X.A.units + 1 < cLine) (hs : NoSl b) (h : DE X c env a fun x => DE X c env b fun y => ∃ (ks : List Int) (ds : List D) (k : Int) (j : Nat) (d : D), x = .dic ks ds ∧ y = .int k ∧ ks[j]? = some k ∧ ds[j]? = some d ∧ Qd d) : DE X c env (.Subscript a b pos) Qd := fun B σ H Q sv f => by
  refine ofE (pe_dget hu peS peS hs) (h B σ H _ sv fun v H1 d1 e1 r1 h1 => h1 B σ H1 _ (sv.ext e1) fun u H2 d2 e2 r2 ⟨ks, ds, k, j, d, x1, x2, h3, h4, q⟩ => ?_)
  subst x1; subst x2
  obtain ⟨p, xs, rfl, h5, hn, hl, h6⟩ := (r1.mono (Ex.hid e2 B)).dic_inv
  rw [r2.int_inv]
  obtain ⟨w, hw, rw_⟩ := h6.get h4
  exact ⟨p, w, rfl, by rw [← valV_zk hn h3 hw]; exact DGet.k (k := Sum.inl k) (hid_ex B H2 _ _ h5), f _ H2 _ (e1.trans e2) rw_ q⟩
theorem dc_din (hu : X.A.units + 1 < cLine) (h : DE X c env a fun x => DE X c env b fun y => ∃ ks ds k, x = .int k ∧ y = .dic ks ds ∧ Qd (.bl (decide (k ∈ ks)))) : DC X c env .In a b Qd := fun B σ H Q sv f => by
  refine ofC (pc_din hu peS peS) (h B σ H _ sv fun v H1 d1 e1 r1 h1 => h1 B σ H1 _ (sv.ext e1) fun u H2 d2 e2 r2 ⟨ks, ds, k, x1, x2, q⟩ => ?_)
  subst x1; subst x2
  obtain ⟨p, xs, rfl, h5, hn, hl, h6⟩ := r2.dic_inv
  rw [r1.int_inv]
  refine ⟨p, valV (zk ks xs) (.inl k), rfl, DGet.k (k := Sum.inl k) (hid_ex B H2 _ _ h5), ?_⟩
  have e : (valV (zk ks xs) (.inl k)).isSome = decide (k ∈ ks) := by
    by_cases hk : k ∈ ks
    · obtain ⟨j, hj⟩ := List.getElem?_of_mem hk
      have hj2 : j < xs.length := by rw [hl]; exact (List.getElem?_eq_some_iff.mp hj).1
      rw [valV_zk hn hj (List.getElem?_eq_getElem hj2)]
      simp [hk]
    · rw [valV_zk_none hk]
      simp [hk]
  rw [e]
  exact f _ H2 _ (e1.trans e2) (.bl _) q
end
end DD
namespace DD
open PySem PySem.Spec PyProof.Rows L2
open Evl (Ex)
section
variable {X : Cx} {c : Cl → Addr} {env : SEnv} {e a b : Expr} {es : List Expr} {Qd : D → Prop} {Qb : Bool → Prop} {pos : Pos}
/-! ### argument lists, displays -/
theorem da_nil {Ql : List D → Prop} (q : Ql []) : DA X c env [] Ql := fun B σ H Q sv k => ofA pa_nil (k _ H _ (Evl.Ex.refl H) .nil q)
theorem da_cons {Ql : List D → Prop} (h : DE X c env e fun d => DA X c env es fun ds => Ql (d :: ds)) (hs : starEach (e :: es) X.env = (false, eval e X.env) :: starEach es X.env := by rfl) : DA X c env (e :: es) Ql := fun B σ H Q sv k =>
  ofA (pa_cons peS paS hs) (h B σ H _ sv fun v H1 d e1 r1 h1 => h1 B σ H1 _ (sv.ext e1) fun vs H2 ds e2 r2 q => k _ H2 _ (e1.trans e2) (.cons (r1.mono (Ex.hid e2 B)) r2) q)
theorem de_tup {x1 : Nat} (h : DA X c env es fun ds => ds.length ≤ 100000 ∧ Qd (.tup ds)) : DE X c env (.Tuple es x1 pos) Qd := fun B σ H Q sv k =>
  ofE (pe_tupF paS) (h B σ H _ sv fun vs H1 ds e1 r1 ⟨hz, q⟩ => ⟨sz100 (by rw [r1.length]; exact hz), fun p ob hp ho => by
    have en : ∀ o, Ex H1 (upd H1 p o) := fun o => Evl.Ex.new hp
    exact k _ _ _ (e1.trans (en _)) (.tup ⟨ob, ho, fresh_rep (sv.bz.ext e1) hp⟩ (r1.mono (Ex.hid (en _) B))) q⟩)
theorem de_lst (h : DA X c env es fun ds => ds.length ≤ 100000 ∧ Qd (.lst ds)) : DE X c env (.List es pos) Qd := fun B σ H Q sv k =>
  ofE (pe_lst paS) (h B σ H _ sv fun vs H1 ds e1 r1 ⟨hz, q⟩ => ⟨sz100 (by rw [r1.length]; exact hz), fun p hp => by
    have en : ∀ o, Ex H1 (upd H1 p o) := fun o => Evl.Ex.new hp
    exact k _ _ _ (e1.trans (en _)) (.lst (fresh_rep (sv.bz.ext e1) hp) (r1.mono (Ex.hid (en _) B))) q⟩)
/-! ### builtin calls -/
theorem de_callB {id : String} {r : List V → Hp → VK → Prop} {x : Str} {p : Pos} (hc : CallR X (.builtin id) r) (hm : X.mg x = none) (h : DA X c env (e :: es) fun ds => DRC (wdOf X c) r ds Qd) (hg : Gl X x := by rfl) (hv : bootBuiltins x = some (.builtin id) := by decide +kernel)
    (hn : x ≠ "__name__" := by decide) (hdb : (x == ("__debug__" : Str)) = false := by decide)
    (he : starEach (e :: es) X.env = (false, eval e X.env) :: starEach es X.env := by rfl) (hpl : (backTo pos (starEach es X.env)).any (·.1) = false := by rfl) : DE X c env (.Call (.Name x p) (e :: es) [] pos) Qd := fun B σ H Q sv k =>
  ofE (pe_callB hc hg hm hv paS hn hdb he hpl) (h B σ H _ sv fun vs H1 ds e1 r1 q => q B H1 vs Q (sv.bz.ext e1) r1 fun z H2 d e2 r2 q2 => k z H2 d (e1.trans e2) r2 q2)
theorem de_callTy {id : String} {r : List V → Hp → VK → Prop} {x : Str} {p : Pos} (hc : CallR X (.type id) r) (hm : X.mg x = none) (h : DA X c env (e :: es) fun ds => DRC (wdOf X c) r ds Qd) (hg : Gl X x := by rfl) (hv : bootBuiltins x = some (.type id) := by decide +kernel)
    (hn : x ≠ "__name__" := by decide) (hdb : (x == ("__debug__" : Str)) = false := by decide)
    (he : starEach (e :: es) X.env = (false, eval e X.env) :: starEach es X.env := by rfl) (hpl : (backTo pos (starEach es X.env)).any (·.1) = false := by rfl) : DE X c env (.Call (.Name x p) (e :: es) [] pos) Qd := fun B σ H Q sv k =>
  ofE (pe_callTy hc hg hm hv paS hn hdb he hpl) (h B σ H _ sv fun vs H1 ds e1 r1 q => q B H1 vs Q (sv.bz.ext e1) r1 fun z H2 d e2 r2 q2 => k z H2 d (e1.trans e2) r2 q2)
theorem RepA.one {G : Wd} {H : Hp} {vs : List V} {d : D} (r : RepA G H vs [d]) : ∃ v, vs = [v] ∧ Rep G H v d := by
  cases r with
  | cons r t => cases t; exact ⟨_, rfl, r⟩
theorem RepA.two {G : Wd} {H : Hp} {vs : List V} {d d2 : D} (r : RepA G H vs [d, d2]) : ∃ v v2, vs = [v, v2] ∧ Rep G H v d ∧ Rep G H v2 d2 := by
  cases r with
  | cons r t =>
    obtain ⟨v2, rfl, r2⟩ := t.one
    exact ⟨_, _, rfl, r, r2⟩
/-- the items of a list, a tuple -/
def seqD : D → Option (List D)
  | .tup ds => some ds
  | .lst ds => some ds
  | .scr ds => some ds
  | _ => none
theorem seq_sq {G : Wd} {B : Addr → Bool} {H : Hp} {v : V} {d : D} {ds : List D} (h : seqD d = some ds) (r : Rep G (hid B H) v d) : ∃ p xs, v = .ref p ∧ (SqL G.K H p xs ∨ SqT G.K H p xs) ∧ RepA G (hid B H) xs ds := by
  unfold seqD at h
  split at h
  · cases h; obtain ⟨p, xs, rfl, h1, h2⟩ := r.tup_inv; exact ⟨p, xs, rfl, .inr ((TupAt.mono h1 (hid_ex B H)).sq), h2⟩
  · cases h; obtain ⟨p, xs, rfl, h1, h2⟩ := r.lst_inv; exact ⟨p, xs, rfl, .inl (SqL.of (hid_ex B H _ _ h1)), h2⟩
  · cases h; obtain ⟨p, xs, rfl, h1, h2⟩ := r.scr_inv; exact ⟨p, xs, rfl, .inl (Evl.ex_l (hid_ex B H) h1), h2⟩
  · cases h
theorem de_len {p : Pos} (hm : X.mg "len" = none) (h : DE X c env e fun d => ∃ ds, seqD d = some ds ∧ Qd (.int ds.length)) (hg : Gl X "len" := by rfl) (he : starEach [e] X.env = (false, eval e X.env) :: starEach [] X.env := by rfl) : DE X c env (.Call (.Name "len" p) [e] [] pos) Qd := by
  refine de_callB call_len_seq hm (da_cons (h.mono fun d ⟨ds, hd, q⟩ => da_nil ?_) he) hg (by decide +kernel) (by decide) (by decide) he rfl
  intro B H vs Q z r f
  obtain ⟨v, rfl, r1⟩ := r.one
  obtain ⟨p, xs, rfl, hs, ha⟩ := seq_sq hd r1
  refine ⟨p, xs, rfl, hs, ?_⟩
  rw [ha.length]
  exact f _ H _ (Evl.Ex.refl H) (.int _) q
/-- int(flag), int(n) -/
def intD : D → (D → Prop) → Prop
  | .bl k, Q => Q (.int (if k = true then 1 else 0))
  | .int i, Q => Q (.int i)
  | _, _ => False
theorem de_intOf {p : Pos} (hm : X.mg "int" = none) (h : DE X c env e fun d => intD d Qd) (hg : Gl X "int" := by rfl) (he : starEach [e] X.env = (false, eval e X.env) :: starEach [] X.env := by rfl) : DE X c env (.Call (.Name "int" p) [e] [] pos) Qd := by
  refine de_callTy call_int1 hm (da_cons (h.mono fun d hd => da_nil ?_) he) hg (by decide +kernel) (by decide) (by decide) he rfl
  intro B H vs Q z r f
  obtain ⟨v, rfl, r1⟩ := r.one
  unfold intD at hd
  split at hd
  · rw [r1.bl_inv]; exact .inr ⟨_, rfl, f _ H _ (Evl.Ex.refl H) (.int _) hd⟩
  · rw [r1.int_inv]; exact .inl ⟨_, rfl, f _ H _ (Evl.Ex.refl H) (.int _) hd⟩
  · exact hd.elim
theorem starTwo {a b : Expr} {n : Env} (h : starEach [a, b] n = (false, eval a n) :: starEach [b] n) : starEach [a, b] n = (false, eval a n) :: starEach [b] n := h
theorem de_max2 {p : Pos} (hc : X.calm = true) (hm : X.mg "max" = none) (h : DE X c env a fun x => DE X c env b fun y => ∃ i j, x = .int i ∧ y = .int j ∧ Qd (.int (max i j))) (hg : Gl X "max" := by rfl) (he : starEach [a, b] X.env = (false, eval a X.env) :: starEach [b] X.env := by rfl) (he2 : starEach [b] X.env = (false, eval b X.env) :: starEach [] X.env := by rfl) (hpl : (backTo pos (starEach [b] X.env)).any (·.1) = false := by rfl) :
    DE X c env (.Call (.Name "max" p) [a, b] [] pos) Qd := by
  refine de_callB (call_max2 hc) hm (da_cons (h.mono fun x hx => da_cons (hx.mono fun y ⟨i, j, e1, e2, q⟩ => da_nil ?_) he2) he) hg (by decide +kernel) (by decide) (by decide) he hpl
  subst e1; subst e2
  intro B H vs Q z r f
  obtain ⟨v, u, rfl, r1, r2⟩ := r.two
  rw [r1.int_inv, r2.int_inv]
  refine ⟨i, j, rfl, ?_⟩
  have e : (if j > i then j else i) = max i j := by
    by_cases h : j > i
    · rw [if_pos h]; omega
    · rw [if_neg h]; omega
  rw [e]
  exact f _ H _ (Evl.Ex.refl H) (.int _) q
theorem de_min2 {p : Pos} (hc : X.calm = true) (hm : X.mg "min" = none) (h : DE X c env a fun x => DE X c env b fun y => ∃ i j, x = .int i ∧ y = .int j ∧ Qd (.int (min i j))) (hg : Gl X "min" := by rfl) (he : starEach [a, b] X.env = (false, eval a X.env) :: starEach [b] X.env := by rfl) (he2 : starEach [b] X.env = (false, eval b X.env) :: starEach [] X.env := by rfl) (hpl : (backTo pos (starEach [b] X.env)).any (·.1) = false := by rfl) :
    DE X c env (.Call (.Name "min" p) [a, b] [] pos) Qd := by
  refine de_callB (call_min2 hc) hm (da_cons (h.mono fun x hx => da_cons (hx.mono fun y ⟨i, j, e1, e2, q⟩ => da_nil ?_) he2) he) hg (by decide +kernel) (by decide) (by decide) he hpl
  subst e1; subst e2
  intro B H vs Q z r f
  obtain ⟨v, u, rfl, r1, r2⟩ := r.two
  rw [r1.int_inv, r2.int_inv]
  refine ⟨i, j, rfl, ?_⟩
  have e : (if j < i then j else i) = min i j := by
    by_cases h : j < i
    · rw [if_pos h]; omega
    · rw [if_neg h]; omega
  rw [e]
  exact f _ H _ (Evl.Ex.refl H) (.int _) q
/-- max, min of a list of ints; all, any of a list of bools -/
theorem de_maxL {p : Pos} (hc : X.calm = true) (hm : X.mg "max" = none) (h : DE X c env e fun d => ∃ ns : List Int, d = .lst (ns.map .int) ∧ 0 < ns.length ∧ ∀ m, m ∈ ns → (∀ y, y ∈ ns → y ≤ m) → Qd (.int m)) (hg : Gl X "max" := by rfl) (he : starEach [e] X.env = (false, eval e X.env) :: starEach [] X.env := by rfl) :
    DE X c env (.Call (.Name "max" p) [e] [] pos) Qd := by
  refine de_callB (cr_max hc) hm (da_cons (h.mono fun d ⟨ns, e1, h0, q⟩ => da_nil ?_) he) hg (by decide +kernel) (by decide) (by decide) he rfl
  subst e1
  intro B H vs Q z r f
  obtain ⟨v, rfl, r1⟩ := r.one
  obtain ⟨a, xs, rfl, h1, h2⟩ := r1.lst_inv
  rw [h2.ints] at h1
  exact ⟨a, ns, rfl, SqL.of (hid_ex B H _ _ h1), h0, fun m hm1 hm2 => f _ H _ (Evl.Ex.refl H) (.int m) (q m hm1 hm2)⟩
theorem de_minL {p : Pos} (hc : X.calm = true) (hm : X.mg "min" = none) (h : DE X c env e fun d => ∃ ns : List Int, d = .lst (ns.map .int) ∧ 0 < ns.length ∧ ∀ m, m ∈ ns → (∀ y, y ∈ ns → m ≤ y) → Qd (.int m)) (hg : Gl X "min" := by rfl) (he : starEach [e] X.env = (false, eval e X.env) :: starEach [] X.env := by rfl) :
    DE X c env (.Call (.Name "min" p) [e] [] pos) Qd := by
  refine de_callB (cr_min hc) hm (da_cons (h.mono fun d ⟨ns, e1, h0, q⟩ => da_nil ?_) he) hg (by decide +kernel) (by decide) (by decide) he rfl
  subst e1
  intro B H vs Q z r f
  obtain ⟨v, rfl, r1⟩ := r.one
  obtain ⟨a, xs, rfl, h1, h2⟩ := r1.lst_inv
  rw [h2.ints] at h1
  exact ⟨a, ns, rfl, SqL.of (hid_ex B H _ _ h1), h0, fun m hm1 hm2 => f _ H _ (Evl.Ex.refl H) (.int m) (q m hm1 hm2)⟩
theorem de_all {p : Pos} (hc : X.calm = true) (hm : X.mg "all" = none) (h : DE X c env e fun d => ∃ bs : List Bool, d = .lst (bs.map .bl) ∧ Qd (.bl (bs.all id))) (hg : Gl X "all" := by rfl) (he : starEach [e] X.env = (false, eval e X.env) :: starEach [] X.env := by rfl) :
    DE X c env (.Call (.Name "all" p) [e] [] pos) Qd := by
  refine de_callB (cr_all hc) hm (da_cons (h.mono fun d ⟨ns, e1, q⟩ => da_nil ?_) he) hg (by decide +kernel) (by decide) (by decide) he rfl
  subst e1
  intro B H vs Q z r f
  obtain ⟨v, rfl, r1⟩ := r.one
  obtain ⟨a, xs, rfl, h1, h2⟩ := r1.lst_inv
  rw [h2.bls] at h1
  exact ⟨a, ns, rfl, SqL.of (hid_ex B H _ _ h1), f _ H _ (Evl.Ex.refl H) (.bl _) q⟩
theorem de_any {p : Pos} (hc : X.calm = true) (hm : X.mg "any" = none) (h : DE X c env e fun d => ∃ bs : List Bool, d = .lst (bs.map .bl) ∧ Qd (.bl (bs.any id))) (hg : Gl X "any" := by rfl) (he : starEach [e] X.env = (false, eval e X.env) :: starEach [] X.env := by rfl) :
    DE X c env (.Call (.Name "any" p) [e] [] pos) Qd := by
  refine de_callB (cr_any hc) hm (da_cons (h.mono fun d ⟨ns, e1, q⟩ => da_nil ?_) he) hg (by decide +kernel) (by decide) (by decide) he rfl
  subst e1
  intro B H vs Q z r f
  obtain ⟨v, rfl, r1⟩ := r.one
  obtain ⟨a, xs, rfl, h1, h2⟩ := r1.lst_inv
  rw [h2.bls] at h1
  exact ⟨a, ns, rfl, SqL.of (hid_ex B H _ _ h1), f _ H _ (Evl.Ex.refl H) (.bl _) q⟩
/-- tuple(xs), list(xs) -/
theorem de_tupleOf {p : Pos} (hm : X.mg "tuple" = none) (h : DE X c env e fun d => ∃ ds, seqD d = some ds ∧ Qd (.tup ds)) (hg : Gl X "tuple" := by rfl) (he : starEach [e] X.env = (false, eval e X.env) :: starEach [] X.env := by rfl) : DE X c env (.Call (.Name "tuple" p) [e] [] pos) Qd := by
  refine de_callTy call_tupleF hm (da_cons (h.mono fun d ⟨ds, hd, q⟩ => da_nil ?_) he) hg (by decide +kernel) (by decide) (by decide) he rfl
  intro B H vs Q z r f
  obtain ⟨v, rfl, r1⟩ := r.one
  cases d with
  | tup es =>
    cases hd
    obtain ⟨a, xs, rfl, h1, h2⟩ := id r1.tup_inv
    exact ⟨a, xs, rfl, .inr ⟨(TupAt.mono h1 (hid_ex B H)).sq, f _ H _ (Evl.Ex.refl H) r1 q⟩⟩
  | lst es =>
    cases hd
    obtain ⟨a, xs, rfl, h1, h2⟩ := r1.lst_inv
    refine ⟨a, xs, rfl, .inl ⟨SqL.of (hid_ex B H _ _ h1), fun l ob hl ho => ?_⟩⟩
    have en : ∀ o, Ex H (upd H l o) := fun o => Evl.Ex.new hl
    exact f _ _ _ (en _) (.tup ⟨ob, ho, fresh_rep z hl⟩ (h2.mono (Ex.hid (en _) B))) q
  | scr es =>
    cases hd
    obtain ⟨a, xs, rfl, h1, h2⟩ := r1.scr_inv
    refine ⟨a, xs, rfl, .inl ⟨Evl.ex_l (hid_ex B H) h1, fun l ob hl ho => ?_⟩⟩
    have en : ∀ o, Ex H (upd H l o) := fun o => Evl.Ex.new hl
    exact f _ _ _ (en _) (.tup ⟨ob, ho, fresh_rep z hl⟩ (h2.mono (Ex.hid (en _) B))) q
  | _ => cases hd
theorem de_listOf {p : Pos} (hm : X.mg "list" = none) (h : DE X c env e fun d => ∃ ds, seqD d = some ds ∧ Qd (.lst ds)) (hg : Gl X "list" := by rfl) (he : starEach [e] X.env = (false, eval e X.env) :: starEach [] X.env := by rfl) : DE X c env (.Call (.Name "list" p) [e] [] pos) Qd := by
  refine de_callTy call_list_of hm (da_cons (h.mono fun d ⟨ds, hd, q⟩ => da_nil ?_) he) hg (by decide +kernel) (by decide) (by decide) he rfl
  intro B H vs Q z r f
  obtain ⟨v, rfl, r1⟩ := r.one
  obtain ⟨a, xs, rfl, hs, h2⟩ := seq_sq hd r1
  refine ⟨a, xs, rfl, hs, fun l hl => ?_⟩
  have en : ∀ o, Ex H (upd H l o) := fun o => Evl.Ex.new hl
  exact f _ _ _ (en _) (.lst (fresh_rep z hl) (h2.mono (Ex.hid (en _) B))) q
/-- tuple(range(n)) -/
def rgI (n : Int) : List Int := (List.range n.toNat).map fun (k : Nat) => (k : Int)
theorem rgV_eq (n : Int) : rgV 0 n = (rgI n).map V.int := by
  unfold rgV rgI
  rw [List.map_map, Int.sub_zero]
  apply List.map_congr_left
  intro k _
  show V.int (0 + (k : Int)) = V.int (k : Int)
  rw [Int.zero_add]
theorem de_tupRange {p p2 pos2 : Pos} (hc : X.calm = true) (hm : X.mg "tuple" = none) (hm2 : X.mg "range" = none) (h : DE X c env e fun d => ∃ n, d = .int n ∧ 0 ≤ n ∧ n ≤ 100000 ∧ Qd (rowD (rgI n))) (hg : Gl X "tuple" := by rfl) (hg2 : Gl X "range" := by rfl)
    (he : starEach [e] X.env = (false, eval e X.env) :: starEach [] X.env := by rfl) (he2 : starEach [.Call (.Name "range" p2) [e] [] pos2] X.env = (false, eval (.Call (.Name "range" p2) [e] [] pos2) X.env) :: starEach [] X.env := by rfl) :
    DE X c env (.Call (.Name "tuple" p) [.Call (.Name "range" p2) [e] [] pos2] [] pos) Qd := fun B σ H Q sv f => by
  refine ofE (pe_tupRgF hc hg hm (prg_1 hg2 hm2 peS he) he2) (h B σ H _ sv fun v H1 d e1 r1 ⟨n, hd, h0, hn, q⟩ => ?_)
  subst hd
  refine ⟨n, r1.int_inv, RgOk.of_le (Int.le_refl 0) (by omega) (by omega) h0, fun l ob hl ho => ?_⟩
  have en : ∀ o, Ex H1 (upd H1 l o) := fun o => Evl.Ex.new hl
  rw [rgV_eq]
  exact f _ _ _ (e1.trans (en _)) (.tup ⟨ob, ho, fresh_rep (sv.bz.ext e1) hl⟩ (repA_ints _)) q
/-! ### slices -/
def oI (o : Option D) : Option (Option Int) := match o with
  | none => some none
  | some (.int i) => some (some i)
  | _ => none
def cutD (xs : List D) (lo hi : Option Int) : List D := (xs.drop (HT.sIx xs.length 0 lo)).take (HT.sIx xs.length xs.length hi - HT.sIx xs.length 0 lo)
theorem RepA.cut {G : Wd} {H : Hp} {vs : List V} {ds : List D} (r : RepA G H vs ds) (lo hi : Option Int) : RepA G H (cutV vs lo hi) (cutD ds lo hi) := by
  unfold cutV cutD
  rw [r.length]
  exact (r.drop _).take _
theorem cutD_all {xs : List D} {lo hi : Option Int} (h : HT.sIx xs.length 0 lo = 0 ∧ HT.sIx xs.length xs.length hi = xs.length) : cutD xs lo hi = xs := by
  unfold cutD
  rw [h.1, h.2]
  simp
/-- a slice's part -/
def DO (X : Cx) (c : Cl → Addr) (env : SEnv) (e : Option Expr) (Qo : Option Int → Prop) : Prop := match e with
  | none => Qo none
  | some e => DE X c env e fun d => ∃ i, d = .int i ∧ Qo (some i)
def semO (X : Cx) (e : Option Expr) : TO := fun σ H Q => ∀ (pins : List (Addr × Obj)) (s : Shared), Inv X pins σ H s → wpAny (model X.prog X.w) X.A (evalPart e X.env) (fun u s' => ∃ o H', Inv X pins σ H' s' ∧ IsPart u o ∧ Q o H') X.xe s
theorem poS {e : Option Expr} : PO X e (semO X e) := ⟨fun pins s _ _ _ I t => t pins s I⟩
theorem do_run {o : Option Expr} {Qo : Option Int → Prop} (h : DO X c env o Qo) {B : Addr → Bool} {σ : Sto} {H : Hp} {Q : Option Int → Hp → Prop} (sv : SV (wdOf X c) B env σ H) (k : ∀ i H2, Ex H H2 → Qo i → Q i H2) : semO X o σ H Q := by
  cases o with
  | none => exact fun pins s I => po_none.run pins s σ H Q I (k none H (Evl.Ex.refl H) h)
  | some e => exact fun pins s I => (po_some (peS (e := e))).run pins s σ H Q I (DE.mono (Qd' := fun d => ∃ i, d = .int i ∧ Qo (some i)) h (fun _ z => z) B σ H _ sv fun v H2 d e2 r ⟨i, hd, q⟩ => by
      subst hd
      exact ⟨i, r.int_inv, k _ H2 e2 q⟩)
def slD (x : D) (lo hi : Option Int) (Q : D → Prop) : Prop := match x with
  | .tup ds => Q (.tup (cutD ds lo hi))
  | .lst ds => Q (.lst (cutD ds lo hi))
  | _ => False
theorem de_slice {lo hi : Option Expr} {p2 : Pos} (h : DE X c env e fun x => DO X c env lo fun l => DO X c env hi fun u => slD x l u Qd) : DE X c env (.Subscript e (.Slice lo hi none p2) pos) Qd := fun B σ H Q sv f =>
  ofE (pe_slice (sl_tupF.or sl_list) peS poS poS) (h B σ H _ sv fun v H1 d e1 r1 h1 => do_run h1 (sv.ext e1) fun l H2 e2 h2 => do_run h2 ((sv.ext e1).ext e2) fun u H3 e3 q => by
    have r3 := (r1.mono (Ex.hid e2 B)).mono (Ex.hid e3 B)
    have bz3 := ((sv.bz.ext e1).ext e2).ext e3
    have et := (e1.trans e2).trans e3
    unfold slD at q
    split at q
    · obtain ⟨a, xs, rfl, h1, h2⟩ := id r3.tup_inv
      refine .inl ⟨a, xs, rfl, (TupAt.mono h1 (hid_ex B H3)).sq, fun hw => ?_, fun hw p ob hp ho => ?_⟩
      · rw [h2.length] at hw
        rw [cutD_all hw] at q
        exact f _ H3 _ et r3 q
      · have en : ∀ o, Ex H3 (upd H3 p o) := fun o => Evl.Ex.new hp
        exact f _ _ _ (et.trans (en _)) (.tup ⟨ob, ho, fresh_rep bz3 hp⟩ ((h2.cut l u).mono (Ex.hid (en _) B))) q
    · obtain ⟨a, xs, rfl, h1, h2⟩ := r3.lst_inv
      refine .inr ⟨a, xs, rfl, SqL.of (hid_ex B H3 _ _ h1), fun p hp => ?_⟩
      have en : ∀ o, Ex H3 (upd H3 p o) := fun o => Evl.Ex.new hp
      exact f _ _ _ (et.trans (en _)) (.lst (fresh_rep bz3 hp) ((h2.cut l u).mono (Ex.hid (en _) B))) q
    · exact q.elim)
end
/-! ### classes -/
structure CF (K : PySem.W.Frag) (cA : Cl → Addr) : Prop where
  cls : ∀ k, Cls K (cA k)
  na : ∀ k f, f ∈ k.names → NoAttr K (cA k) f
  ha : ∀ k, PySem.W.findIn K (.ref (cA k)) "__class__" = some (some (.builtin "object.__class__"))
  hn : PySem.W.specialIn K (.builtin "object.__class__") "__get__" = some (some (.builtin "getset_descriptor.__get__"))
  ht : PySem.W.takesIn K (.builtin "object.__class__") = some true
  mro : ∀ k, PySem.W.mroIn K (cA k) (.type "object") = some true
  kit : ∀ k k', PySem.W.kitOne K (.ref (cA k)) (.ref (cA k')) = some (decide (k = k'))
section
variable {X : Cx} {c : Cl → Addr} {env : SEnv} {e a b : Expr} {es : List Expr} {Qd : D → Prop} {pos : Pos}
theorem de_fld {f : Str} (F : CF X.K c) (h : DE X c env e fun x => ∃ (k : Cl) (ds : List D) (i : Nat) (d : D), x = .obj k ds ∧ f ∈ k.names ∧ (∀ xs : List V, xs.length = k.names.length → (k.names.zip xs).lookup f = xs[i]?) ∧ ds[i]? = some d ∧ Qd d)
    (hb : attributeBase e f X.env (eval e X.env) = eval e X.env := by rfl) : DE X c env (.Attribute e f pos) Qd := fun B σ H Q sv g =>
  ofE (pe_fld peS hb) (h B σ H _ sv fun v H1 d e1 r1 ⟨k, ds, i, d2, hd, hf, hl, hi, q⟩ => by
    subst hd
    obtain ⟨p, dx, xs, rfl, h1, hln, ha⟩ := r1.obj_inv
    obtain ⟨w, hw, hr⟩ := ha.get hi
    exact ⟨p, c k, dx, _, w, rfl, hid_ex B H1 _ _ h1, F.cls k, F.na k f hf, by rw [hl xs hln]; exact hw, g _ H1 _ e1 hr q⟩)
theorem nLR : (("left" : Str) == ("right" : Str)) = false := by decide +kernel
theorem nRL : (("right" : Str) == ("left" : Str)) = false := by decide +kernel
theorem nCR : (("columns" : Str) == ("rows" : Str)) = false := by decide +kernel
theorem nRC : (("rows" : Str) == ("columns" : Str)) = false := by decide +kernel
theorem two_of {xs : List V} (h : xs.length = 2) : ∃ x y, xs = [x, y] := match xs, h with
  | [x, y], _ => ⟨x, y, rfl⟩
theorem one_of {xs : List V} (h : xs.length = 1) : ∃ x, xs = [x] := match xs, h with
  | [x], _ => ⟨x, rfl⟩
def leftD : D → (D → Prop) → Prop
  | .obj .fd [l, _], Q => Q l
  | .obj .mvd [l, _], Q => Q l
  | _, _ => False
def rightD : D → (D → Prop) → Prop
  | .obj .fd [_, l], Q => Q l
  | .obj .mvd [_, l], Q => Q l
  | _, _ => False
def partsD : D → (D → Prop) → Prop
  | .obj .jd [l], Q => Q l
  | _, _ => False
def colsD : D → (D → Prop) → Prop
  | .obj .tab [l, _], Q => Q l
  | _, _ => False
def trowD : D → (D → Prop) → Prop
  | .obj .tab [_, l], Q => Q l
  | _, _ => False
theorem look1 {f g : Str} {x y : V} : ([(f, x), (g, y)] : List (Str × V)).lookup f = some x := by simp [List.lookup]
theorem look2 {f g : Str} {x y : V} (h : (g == f) = false) : ([(f, x), (g, y)] : List (Str × V)).lookup g = some y := by simp [List.lookup, h]
theorem de_left (F : CF X.K c) (h : DE X c env e fun x => leftD x Qd) (hb : attributeBase e "left" X.env (eval e X.env) = eval e X.env := by rfl) : DE X c env (.Attribute e "left" pos) Qd := by
  refine de_fld F (h.mono fun x hx => ?_) hb
  unfold leftD at hx
  split at hx
  · exact ⟨.fd, _, 0, _, rfl, List.mem_cons_self, fun xs hl => by obtain ⟨x, y, rfl⟩ := two_of hl; exact look1, rfl, hx⟩
  · exact ⟨.mvd, _, 0, _, rfl, List.mem_cons_self, fun xs hl => by obtain ⟨x, y, rfl⟩ := two_of hl; exact look1, rfl, hx⟩
  · exact hx.elim
theorem de_right (F : CF X.K c) (h : DE X c env e fun x => rightD x Qd) (hb : attributeBase e "right" X.env (eval e X.env) = eval e X.env := by rfl) : DE X c env (.Attribute e "right" pos) Qd := by
  refine de_fld F (h.mono fun x hx => ?_) hb
  unfold rightD at hx
  split at hx
  · exact ⟨.fd, _, 1, _, rfl, List.mem_cons_of_mem _ List.mem_cons_self, fun xs hl => by obtain ⟨x, y, rfl⟩ := two_of hl; exact look2 nRL, rfl, hx⟩
  · exact ⟨.mvd, _, 1, _, rfl, List.mem_cons_of_mem _ List.mem_cons_self, fun xs hl => by obtain ⟨x, y, rfl⟩ := two_of hl; exact look2 nRL, rfl, hx⟩
  · exact hx.elim
theorem de_parts (F : CF X.K c) (h : DE X c env e fun x => partsD x Qd) (hb : attributeBase e "parts" X.env (eval e X.env) = eval e X.env := by rfl) : DE X c env (.Attribute e "parts" pos) Qd := by
  refine de_fld F (h.mono fun x hx => ?_) hb
  unfold partsD at hx
  split at hx
  · exact ⟨.jd, _, 0, _, rfl, List.mem_cons_self, fun xs hl => by obtain ⟨x, rfl⟩ := one_of hl; simp [Cl.names, List.lookup], rfl, hx⟩
  · exact hx.elim
theorem de_cols (F : CF X.K c) (h : DE X c env e fun x => colsD x Qd) (hb : attributeBase e "columns" X.env (eval e X.env) = eval e X.env := by rfl) : DE X c env (.Attribute e "columns" pos) Qd := by
  refine de_fld F (h.mono fun x hx => ?_) hb
  unfold colsD at hx
  split at hx
  · exact ⟨.tab, _, 0, _, rfl, List.mem_cons_self, fun xs hl => by obtain ⟨x, y, rfl⟩ := two_of hl; exact look1, rfl, hx⟩
  · exact hx.elim
theorem de_rows (F : CF X.K c) (h : DE X c env e fun x => trowD x Qd) (hb : attributeBase e "rows" X.env (eval e X.env) = eval e X.env := by rfl) : DE X c env (.Attribute e "rows" pos) Qd := by
  refine de_fld F (h.mono fun x hx => ?_) hb
  unfold trowD at hx
  split at hx
  · exact ⟨.tab, _, 1, _, rfl, List.mem_cons_of_mem _ List.mem_cons_self, fun xs hl => by obtain ⟨x, y, rfl⟩ := two_of hl; exact look2 nRC, rfl, hx⟩
  · exact hx.elim
/-- isinstance(x, C) of an own instance; isinstance(x, bool) of a bool -/
theorem de_isiC {x : Str} {kC : Cl} {p p2 : Pos} (F : CF X.K c) (hm : X.mg "isinstance" = none) (hC : X.mg x = some (.ref (c kC))) (h : DE X c env e fun d => ∃ k ds, d = .obj k ds ∧ Qd (.bl (decide (k = kC))))
    (hg : Gl X "isinstance" := by rfl) (hg2 : Gl X x := by rfl) (hd : (x == ("__debug__" : Str)) = false := by decide)
    (he : starEach [e, .Name x p2] X.env = (false, eval e X.env) :: starEach [.Name x p2] X.env := by rfl) (he2 : starEach [.Name x p2] X.env = (false, eval (.Name x p2) X.env) :: starEach [] X.env := by rfl) (hpl : (backTo pos (starEach [.Name x p2] X.env)).any (·.1) = false := by rfl) :
    DE X c env (.Call (.Name "isinstance" p) [e, .Name x p2] [] pos) Qd := fun B σ H Q sv g =>
  ofE (pe_callB call_isi hg hm (by decide +kernel) (pa_cons peS (pa_cons (pe_glob hg2 hC (v := .ref (c kC)) rfl hd) pa_nil he2) he) (by decide) (by decide) he hpl) (h B σ H _ sv fun v H1 d e1 r1 ⟨k, ds, hd, q⟩ => by
    subst hd
    obtain ⟨p, dx, xs, rfl, h1, hln, ha⟩ := r1.obj_inv
    exact ⟨.ref p, .ref (c kC), .ref (c k), .ref (c kC), decide (k = kC), rfl, .own _, .base (.ins (hid_ex B H1 _ _ h1) (F.cls k) (F.ha k) F.hn F.ht (F.mro k)), F.kit k kC, g _ H1 _ e1 (.bl _) q⟩)
theorem de_isiB {p p2 : Pos} (hm : X.mg "isinstance" = none) (hm2 : X.mg "bool" = none) (h : DE X c env e fun d => ∃ k, d = .bl k ∧ Qd (.bl true))
    (hg : Gl X "isinstance" := by rfl) (hg2 : Gl X "bool" := by rfl)
    (he : starEach [e, .Name "bool" p2] X.env = (false, eval e X.env) :: starEach [.Name "bool" p2] X.env := by rfl) (he2 : starEach [.Name "bool" p2] X.env = (false, eval (.Name "bool" p2) X.env) :: starEach [] X.env := by rfl) (hpl : (backTo pos (starEach [.Name "bool" p2] X.env)).any (·.1) = false := by rfl) :
    DE X c env (.Call (.Name "isinstance" p) [e, .Name "bool" p2] [] pos) Qd := fun B σ H Q sv g =>
  ofE (pe_callB call_isi hg hm (by decide +kernel) (pa_cons peS (pa_cons (pe_bltn (v := .ty "bool") hg2 hm2 (by decide +kernel) rfl) pa_nil he2) he) (by decide) (by decide) he hpl) (h B σ H _ sv fun v H1 d e1 r1 ⟨k, hd, q⟩ => by
    subst hd
    rw [r1.bl_inv]
    exact ⟨.bl k, .ty "bool", .type "bool", .type "bool", true, rfl, .ty _, .base (.bl k), kit_ty (by decide +kernel), g _ H1 _ e1 (.bl _) q⟩)
end
end DD
namespace DD
open PySem PySem.Spec PyProof.Rows L2
open Evl (Ex)
/-! ### an own object seen as data -/
def Sl.view : Sl → Sl
  | .ol _ ds => .dat (.lst ds)
  | .od _ ks ds => .dat (.dic ks ds)
  | .ot _ ks ds => .dat (.tdic ks ds)
  | .og _ gs => .dat (.tdic (gs.map (·.1)) (gs.map fun g => .lst g.2.2))
  | .oi _ _ k ds => if ds.length = k.names.length then .dat (.obj k ds) else .no
  | .ll _ rs => .dat (.lst (rs.map fun r => D.lst (r.2.map D.int)))
  | .rp _ _ _ n rs => .dat (.obj .rp [.int n, .lst (rs.map fun r => D.lst (r.2.map D.int))])
  | s => s
def unhide (B : Addr → Bool) (as : List Addr) : Addr → Bool := fun a => B a && !decide (a ∈ as)
theorem unhide_of {B : Addr → Bool} {as : List Addr} {a : Addr} (h : unhide B as a = true) : B a = true ∧ a ∉ as := by
  unfold unhide at h
  simpa using h
theorem unhide_in {B : Addr → Bool} {as : List Addr} {a : Addr} (h : a ∈ as) : unhide B as a = false := by
  unfold unhide
  simp [h]
theorem unhide_ex {B : Addr → Bool} {as : List Addr} {H : Hp} : Ex (hid B H) (hid (unhide B as) H) := hid_mono fun _ h => (unhide_of h).1
theorem repA_og {G : Wd} {B : Addr → Bool} {as : List Addr} {H : Hp} : ∀ {gs : List (List (Option Int) × Addr × List D)}, (∀ g ∈ gs, g.2.1 ∈ as ∧ ∃ xs, H g.2.1 = some (.lst xs) ∧ RepA G (hid B H) xs g.2.2) →
    RepA G (hid (unhide B as) H) (gs.map fun g => V.ref g.2.1) (gs.map fun g => D.lst g.2.2)
  | [], _ => .nil
  | g :: gs, h => by
    obtain ⟨h1, xs, h2, h3⟩ := h g List.mem_cons_self
    exact .cons (.lst (by rw [hid_at (unhide_in h1)]; exact h2) (h3.mono unhide_ex)) (repA_og fun g hg => h g (List.mem_cons_of_mem _ hg))
theorem repA_ll {G : Wd} {B : Addr → Bool} {as : List Addr} {H : Hp} : ∀ {rs : List (Addr × List Int)}, (∀ r ∈ rs, r.1 ∈ as ∧ H r.1 = some (.lst (r.2.map V.int))) →
    RepA G (hid (unhide B as) H) (rs.map fun r => V.ref r.1) (rs.map fun r => D.lst (r.2.map D.int))
  | [], _ => .nil
  | r :: rs, h => by
    obtain ⟨h1, h2⟩ := h r List.mem_cons_self
    exact .cons (.lst (by rw [hid_at (unhide_in h1)]; exact h2) (repA_ints _)) (repA_ll fun g hg => h g (List.mem_cons_of_mem _ hg))
theorem LLat.rep {G : Wd} {B : Addr → Bool} {as : List Addr} {H : Hp} {L : Addr} {rs : List (Addr × List Int)} (h : LLat B H L rs) (hs : ∀ a ∈ L :: rs.map (·.1), a ∈ as) : Rep G (hid (unhide B as) H) (.ref L) (.lst (rs.map fun r => D.lst (r.2.map D.int))) :=
  .lst (by rw [hid_at (unhide_in (hs _ List.mem_cons_self))]; exact h.2.2.1) (repA_ll fun r hr => ⟨hs _ (List.mem_cons_of_mem _ (List.mem_map.mpr ⟨r, hr, rfl⟩)), (h.2.2.2 r hr).2⟩)
theorem LLat.unhide {B : Addr → Bool} {as : List Addr} {H : Hp} {L : Addr} {rs : List (Addr × List Int)} (h : LLat B H L rs) (hn : ∀ a ∈ L :: rs.map (·.1), a ∉ as) : LLat (DD.unhide B as) H L rs :=
  ⟨by unfold DD.unhide; rw [h.1]; simp [hn L List.mem_cons_self], h.2.1, h.2.2.1, fun r hr => ⟨by unfold DD.unhide; rw [(h.2.2.2 r hr).1]; simp [hn r.1 (List.mem_cons_of_mem _ (List.mem_map.mpr ⟨r, hr, rfl⟩))], (h.2.2.2 r hr).2⟩⟩
theorem SlOk.view {G : Wd} {B : Addr → Bool} {H : Hp} {o : Option (Option V)} {s : Sl} (h : SlOk G B H o s) : SlOk G (unhide B s.adrs) H o s.view := by
  cases s with
  | no => trivial
  | al a => exact h
  | dat d =>
    obtain ⟨v, h1, h2⟩ := h
    exact ⟨v, h1, h2.mono unhide_ex⟩
  | ol a ds =>
    obtain ⟨h1, h2, xs, h3, h4⟩ := h
    exact ⟨_, h1, .lst (by rw [hid_at (unhide_in (by simp [Sl.adrs]))]; exact h3) (h4.mono unhide_ex)⟩
  | od a ks ds =>
    obtain ⟨h1, h2, xs, h3, h4, h5, h6⟩ := h
    exact ⟨_, h1, .dic (by rw [hid_at (unhide_in (by simp [Sl.adrs]))]; exact h3) h4 h5 (h6.mono unhide_ex)⟩
  | ot a ks ds =>
    obtain ⟨h1, h2, es, h3, h4, h5, h6⟩ := h
    subst h4
    exact ⟨_, h1, .tdic (by rw [hid_at (unhide_in (by simp [Sl.adrs]))]; exact h3) (fun e he => (h5 e he).mono unhide_ex) (h6.mono unhide_ex)⟩
  | og a gs =>
    obtain ⟨h1, h2, h3, h4, es, h5, h6, h7⟩ := h
    have e1 : gs.map (·.1) = es.map (·.1) := by
      have q := congrArg (List.map (·.1)) h7
      rw [List.map_map, List.map_map] at q
      exact q.symm
    have e2 : es.map (fun e => e.2.2) = gs.map fun g => V.ref g.2.1 := by
      have q := congrArg (List.map (·.2)) h7
      rw [List.map_map, List.map_map] at q
      exact q
    refine ⟨_, h1, ?_⟩
    show Rep G _ (.ref a) (.tdic (gs.map (·.1)) (gs.map fun g => D.lst g.2.2))
    rw [e1]
    refine .tdic (by rw [hid_at (unhide_in (by simp [Sl.adrs]))]; exact h5) (fun e he => (h6 e he).mono unhide_ex) ?_
    rw [e2]
    exact repA_og fun g hg => ⟨by simp only [Sl.adrs, List.mem_cons, List.mem_map]; exact .inr ⟨g, hg, rfl⟩, (h4 g hg).2⟩
  | oi a dx k ds =>
    obtain ⟨h1, h2, xs, h3, h4, h5, h6⟩ := h
    show SlOk G _ H o (if ds.length = k.names.length then .dat (.obj k ds) else .no)
    split
    · rename_i e
      exact ⟨_, h1, .obj (by rw [hid_at (unhide_in (by simp [Sl.adrs]))]; exact h3) (by rw [h4, e]) (h6.mono unhide_ex)⟩
    · trivial
  | ll L rs => exact ⟨_, h.1, h.2.rep fun a ha => ha⟩
  | rp a dx L n rs =>
    obtain ⟨h1, h2, h3, h4, h5⟩ := h
    exact ⟨_, h1, .obj (c := .rp) (xs := [.int n, .ref L]) (by rw [hid_at (unhide_in (by simp [Sl.adrs]))]; exact h4) rfl (.cons (.int n) (.cons (h5.rep fun a ha => List.mem_cons_of_mem _ ha) .nil))⟩
theorem SlOk.unhide {G : Wd} {B : Addr → Bool} {H : Hp} {o : Option (Option V)} {s : Sl} {as : List Addr} (h : SlOk G B H o s) (hn : ∀ a ∈ s.adrs, a ∉ as) : SlOk G (DD.unhide B as) H o s := by
  have keep : ∀ a, a ∈ s.adrs → B a = true → DD.unhide B as a = true := fun a ha hb => by
    unfold DD.unhide
    rw [hb]
    simp [hn a ha]
  have eh : Ex (hid B H) (hid (DD.unhide B as) H) := unhide_ex
  cases s with
  | no => trivial
  | al a => exact h
  | dat d =>
    obtain ⟨v, h1, h2⟩ := h
    exact ⟨v, h1, h2.mono eh⟩
  | ol a ds =>
    obtain ⟨h1, h2, xs, h3, h4⟩ := h
    exact ⟨h1, keep a (by simp [Sl.adrs]) h2, xs, h3, h4.mono eh⟩
  | od a ks ds =>
    obtain ⟨h1, h2, xs, h3, h4, h5, h6⟩ := h
    exact ⟨h1, keep a (by simp [Sl.adrs]) h2, xs, h3, h4, h5, h6.mono eh⟩
  | ot a ks ds =>
    obtain ⟨h1, h2, es, h3, h4, h5, h6⟩ := h
    exact ⟨h1, keep a (by simp [Sl.adrs]) h2, es, h3, h4, fun x hx => (h5 x hx).mono eh, h6.mono eh⟩
  | og a gs =>
    obtain ⟨h1, h2, h3, h4, es, h5, h6, h7⟩ := h
    refine ⟨h1, keep a (by simp [Sl.adrs]) h2, h3, fun g hg => ?_, es, h5, fun x hx => (h6 x hx).mono eh, h7⟩
    obtain ⟨q1, xs, q2, q3⟩ := h4 g hg
    exact ⟨keep _ (by simp only [Sl.adrs, List.mem_cons, List.mem_map]; exact .inr ⟨g, hg, rfl⟩) q1, xs, q2, q3.mono eh⟩
  | oi a dx k ds =>
    obtain ⟨h1, h2, xs, h3, h4, h5, h6⟩ := h
    exact ⟨h1, keep a (by simp [Sl.adrs]) h2, xs, h3, h4, h5, h6.mono eh⟩
  | ll L rs => exact ⟨h.1, h.2.unhide hn⟩
  | rp a dx L n rs => exact ⟨h.1, keep a (by simp [Sl.adrs]) h.2.1, h.2.2.1, h.2.2.2.1, h.2.2.2.2.unhide fun b hb => hn b (List.mem_cons_of_mem _ hb)⟩
theorem view_adrs (s : Sl) : s.view.adrs = [] := by
  cases s with
  | oi a dx k ds =>
    show Sl.adrs (if _ then _ else _) = []
    split <;> rfl
  | _ => rfl
theorem SV.view {G : Wd} {B : Addr → Bool} {env : SEnv} {σ : Sto} {H : Hp} (v : SV G B env σ H) {i : Nat} {s : Sl} (h : env[i]? = some s) : SV G (DD.unhide B s.adrs) (env.set i s.view) σ H where
  bz := fun a ha => v.bz a (unhide_of ha).1
  ln := by rw [List.length_set]; exact v.ln
  sl := fun j t hj => by
    have hi : i < env.length := (List.getElem?_eq_some_iff.mp h).1
    by_cases e : i = j
    · subst e
      rw [List.getElem?_set_self hi] at hj
      cases hj
      exact (v.sl i s h).view
    · rw [List.getElem?_set_ne e] at hj
      exact (v.sl j t hj).unhide fun a ha hs => e (v.dj i j s t a h hj hs ha)
  dj := fun j k t u a h1 h2 m1 m2 => by
    have hi : i < env.length := (List.getElem?_eq_some_iff.mp h).1
    by_cases ej : i = j
    · subst ej
      rw [List.getElem?_set_self hi] at h1
      cases h1
      rw [view_adrs] at m1
      exact absurd m1 (by simp)
    · by_cases ek : i = k
      · subst ek
        rw [List.getElem?_set_self hi] at h2
        cases h2
        rw [view_adrs] at m2
        exact absurd m2 (by simp)
      · rw [List.getElem?_set_ne ej] at h1
        rw [List.getElem?_set_ne ek] at h2
        exact v.dj j k t u a h1 h2 m1 m2
section
variable {X : Cx} {c : Cl → Addr} {env : SEnv} {e a b : Expr} {es : List Expr} {Qd : D → Prop} {Qb : Bool → Prop} {pos : Pos}
/-- a scalar that is reckoned out of an own object -/
theorem de_view (i : Nat) {s : Sl} (hs : env[i]? = some s) (h : DE X c (env.set i s.view) e fun d => flat d = true ∧ Qd d) : DE X c env e Qd := fun B σ H Q sv k =>
  h _ σ H Q (sv.view hs) fun v H2 d e2 r ⟨hf, q⟩ => k v H2 d e2 (r.flat _ hf) q
theorem dt_view (i : Nat) {s : Sl} (hs : env[i]? = some s) (h : DT X c (env.set i s.view) e Qb) : DT X c env e Qb := fun B σ H Q sv k =>
  h _ σ H Q (sv.view hs) k
/-- an item of an own list -/
theorem de_ixO (i : Nat) {x : Str} {p : Pos} {ad : Addr} {ds : List D} (hs : env[i]? = some (.ol ad ds)) (hp : PlainIx b) (h : DE X c env b fun y => ∃ k d, y = .int k ∧ atI ds k = some d ∧ Qd d) (hN : X.N[i]? = some x := by rfl) (hv : Vis X.env.scope x := by first | exact Or.inl rfl | exact Or.inr (Or.inl rfl) | exact Or.inr (Or.inr rfl))
    (hd : (x == ("__debug__" : Str)) = false := by decide) (hcd : (x == ("__classdict__" : Str)) = false := by decide) : DE X c env (.Subscript (.Name x p) b pos) Qd := fun B σ H Q sv f => by
  obtain ⟨h1, h2, xs, h3, h4⟩ := sv.sl i _ hs
  refine ofE (pe_ix ix_list (pe_var hN hv hd hcd) peS hp) ⟨_, h1, h B σ H _ sv fun v H2 d e2 r ⟨k, d2, hd, ha, q⟩ => ?_⟩
  subst hd
  rw [r.int_inv]
  obtain ⟨w, hw, hr⟩ := h4.atI ha
  exact ⟨ad, xs, k, w, rfl, rfl, SqL.of (e2 _ _ h3), hw, f _ H2 _ e2 (hr.mono (Ex.hid e2 B)) q⟩
/-- .. of an own dict -/
theorem de_dgetO (i : Nat) {x : Str} {p : Pos} {ad : Addr} {ks : List Int} {ds : List D} (hu : X.A.units + 1 < cLine) (hs : env[i]? = some (.od ad ks ds)) (hp : NoSl b) (h : DE X c env b fun y => ∃ (k : Int) (j : Nat) (d : D), y = .int k ∧ ks[j]? = some k ∧ ds[j]? = some d ∧ Qd d) (hN : X.N[i]? = some x := by rfl) (hv : Vis X.env.scope x := by first | exact Or.inl rfl | exact Or.inr (Or.inl rfl) | exact Or.inr (Or.inr rfl))
    (hd : (x == ("__debug__" : Str)) = false := by decide) (hcd : (x == ("__classdict__" : Str)) = false := by decide) : DE X c env (.Subscript (.Name x p) b pos) Qd := fun B σ H Q sv f => by
  obtain ⟨h1, h2, xs, h3, hn, hl, h4⟩ := sv.sl i _ hs
  refine ofE (pe_dget hu (pe_var hN hv hd hcd) peS hp) ⟨_, h1, h B σ H _ sv fun v H2 d e2 r ⟨k, j, d2, hd, hk, ha, q⟩ => ?_⟩
  subst hd
  rw [r.int_inv]
  obtain ⟨w, hw, hr⟩ := h4.get ha
  exact ⟨ad, w, rfl, by rw [← valV_zk hn hk hw]; exact DGet.k (k := Sum.inl k) (e2 _ _ h3), f _ H2 _ e2 (hr.mono (Ex.hid e2 B)) q⟩
end
/-! ### defs of the text -/
/-- a def's promise over data -/
def spD (G : Wd) (Ph : List D → (D → Prop) → Prop) : Sp := fun vs H Q _ => ∃ (A0 : Addr → Bool) (ds : List D) (Qd : D → Prop), Bz A0 H ∧ RepA G (hid A0 H) vs ds ∧ Ph ds Qd ∧ ∀ v H2 d, Ex H H2 → Rep G (hid A0 H2) v d → Qd d → Q v H2
/-- the module's name x stands for a def that keeps Ph, at level k -/
structure FnG (P : Program) (w : World) (K : PySem.W.Frag) (cA : Cl → Addr) (mg : Str → Option Value) (base : Heap) (x : Str) (k : Nat) (Ph : List D → (D → Prop) → Prop) : Prop where
  ex : ∃ (f : Addr) (fd : FuncData) (ps : List Str), FnOk P w K mg base CX0 k f fd ps (spD ⟨P, w, K, cA⟩ Ph) ∧ mg x = some (.ref f) ∧ PySem.W.keepIn K (.ref f) = true ∧ Binds K fd ps []
theorem de_call {X : Cx} {c : Cl → Addr} {env : SEnv} {x : Str} {k : Nat} {Ph : List D → (D → Prop) → Prop} {p pos : Pos} {e : Expr} {es : List Expr} {Qd : D → Prop} (F : FnG X.prog X.w X.K c X.mg X.base x k Ph) (hr : Room k X.A)
    (h : DA X c env (e :: es) fun ds => Ph ds Qd) (hg : Gl X x := by rfl) (hdb : (x == ("__debug__" : Str)) = false := by decide) (he : starEach (e :: es) X.env = (false, eval e X.env) :: starEach es X.env := by rfl) (hpl : (backTo pos (starEach es X.env)).any (·.1) = false := by rfl) :
    DE X c env (.Call (.Name x p) (e :: es) [] pos) Qd := fun B σ H Q sv g => by
  obtain ⟨f, fd, ps, F, hm, hk, hb⟩ := F.ex
  refine ofE (pe_call (dvs := []) F hr hg hm hk hb .nil pass0 paS hdb he hpl) (h B σ H _ sv fun vs H1 ds e1 r1 q => ?_)
  rw [List.append_nil]
  exact ⟨B, ds, Qd, sv.bz.ext e1, r1, q, fun v H2 d e2 r2 q2 => g v H2 d (e1.trans e2) r2 q2⟩
/-! ### comprehensions -/
abbrev blkX (X : Cx) (scope : Scope) (s : Shared) (H : Hp) (C : Addr) (cl : List (Str × Addr)) (fp : List Addr) : Cx := X.blk s H scope (compEnvC scope cl C X.env) fp
def semI (X : Cx) (ifs : List Expr) : TT := fun σ H Q => ∀ (pins : List (Addr × Obj)) (s : Shared), Inv X pins σ H s →
  wpAny (model X.prog X.w) X.A (forIn ifs true fun c r => if r = true then do let ok ← isTrue c X.env (eval c X.env); pure (ForInStep.yield ok) else pure (ForInStep.yield r)) (TP X pins σ Q) X.xe s
def teS (X : Cx) (scope : Scope) (e : Expr) : TE := fun σ H Q => ∀ (s : Shared) (H0 : Hp) (C : Addr) (cl : List (Str × Addr)) (fp : List Addr), semE (blkX X scope s H0 C cl fp) e σ H Q
def ttS (X : Cx) (scope : Scope) (ifs : List Expr) : TT := fun σ H Q => ∀ (s : Shared) (H0 : Hp) (C : Addr) (cl : List (Str × Addr)) (fp : List Addr), semI (blkX X scope s H0 C cl fp) ifs σ H Q
theorem teP {X : Cx} {scope : Scope} {e : Expr} (s : Shared) (H0 : Hp) (C : Addr) (cl : List (Str × Addr)) (fp : List Addr) : PE (blkX X scope s H0 C cl fp) e (teS X scope e) := ⟨fun pins s' σ H Q I t => t s H0 C cl fp pins s' I⟩
theorem ttP {X : Cx} {scope : Scope} {e : List Expr} (s : Shared) (H0 : Hp) (C : Addr) (cl : List (Str × Addr)) (fp : List Addr) : PTs (blkX X scope s H0 C cl fp) e (ttS X scope e) := ⟨fun pins s' σ H Q I t => t s H0 C cl fp pins s' I⟩
/-- a clause's tests -/
def DI (X : Cx) (c : Cl → Addr) (env : SEnv) (ifs : List Expr) (Qb : Bool → Prop) : Prop := ∀ (B : Addr → Bool) (σ : Sto) (H : Hp) (Q : Bool → Hp → Prop), SV (wdOf X c) B env σ H →
  (∀ b H2, Ex H H2 → Qb b → Q b H2) → semI X ifs σ H Q
theorem di_nil {X : Cx} {c : Cl → Addr} {env : SEnv} {Qb : Bool → Prop} (q : Qb true) : DI X c env [] Qb := fun B σ H Q sv k pins s I => pts_nil.run pins s σ H Q I (k true H (Evl.Ex.refl H) q)
theorem di_one {X : Cx} {c : Cl → Addr} {env : SEnv} {e : Expr} {Qb : Bool → Prop} (h : DT X c env e Qb) : DI X c env [e] Qb := fun B σ H Q sv k pins s I => (pts_one (ptS (e := e))).run pins s σ H Q I (h B σ H Q sv k)
/-- in a comprehension's block -/
abbrev InB (X : Cx) (scope : Scope) (F : Cx → Prop) : Prop := ∀ (s : Shared) (H0 : Hp) (C : Addr) (cl : List (Str × Addr)) (fp : List Addr), F (blkX X scope s H0 C cl fp)
section
variable {X : Cx} {c : Cl → Addr} {env : SEnv} {Qd : D → Prop} {α : Type}
/-- what a turn asks -/
structure LcT (X : Cx) (c : Cl → Addr) (env : SEnv) (scope : Scope) (ifs : List Expr) (elt : Expr) (j : Nat) (xs : List α) (enc : α → D) (f : α → Bool) (g : α → D) : Prop where
  tst : ∀ y ∈ xs, InB X scope fun Y => DI Y c (env.set j (.dat (enc y))) ifs fun k => k = f y
  elt : ∀ y ∈ xs, f y = true → InB X scope fun Y => DE Y c (env.set j (.dat (enc y))) elt fun d => d = g y
/-- the state within a comprehension: the new list at Dl holds what is made of xs -/
def LcP (G : Wd) (B : Addr → Bool) (H1 : Hp) (Dl : Addr) (ds : List D) (H' : Hp) : Prop := Ex H1 H' ∧ ∃ acc, H' Dl = some (.lst acc) ∧ RepA G (hid (hide B Dl) H') acc ds
theorem filter_take {xs : List α} {i : Nat} {y : α} (h : xs[i]? = some y) (f : α → Bool) (g : α → D) : ((xs.take (i + 1)).filter f).map g = ((xs.take i).filter f).map g ++ if f y = true then [g y] else [] := by
  rw [List.take_add_one, h, List.filter_append, List.map_append]
  congr 1
  show List.map g (List.filter f [y]) = _
  by_cases e : f y = true
  · rw [List.filter_cons_of_pos e, if_pos e]; rfl
  · rw [List.filter_cons_of_neg e, if_neg e]; rfl
theorem lc_turn {scope : Scope} {ifs : List Expr} {elt : Expr} {j i : Nat} {xs : List α} {enc : α → D} {f : α → Bool} {g : α → D} {B : Addr → Bool} {σ : Sto} {H1 H' : Hp} {Dl : Addr} {y : α} {v : V}
    (T : LcT X c env scope ifs elt j xs enc f g) (sv : SV (wdOf X c) B env σ H1) (hD : H1 Dl = none) (hz : xs.length ≤ 100000) (hi : xs[i]? = some y) (r : Rep (wdOf X c) (hid B H1) v (enc y)) (p : LcP (wdOf X c) B H1 Dl (((xs.take i).filter f).map g) H') :
    gName j v (wipe σ [j]) H' fun σ2 H2 => wipe σ2 [j] = wipe σ [j] ∧ ttS X scope ifs σ2 H2 fun b H3 => if b = true then teS X scope elt σ2 H3 fun z H4 => ∃ acc, H4 Dl = some (.lst acc) ∧ acc.length < sizeLine ∧ LcP (wdOf X c) B H1 Dl (((xs.take (i + 1)).filter f).map g) (upd H4 Dl (.lst (acc ++ [z])))
      else LcP (wdOf X c) B H1 Dl (((xs.take (i + 1)).filter f).map g) H3 := by
  obtain ⟨eH, acc, hA, rA⟩ := p
  have hm : y ∈ xs := List.mem_of_getElem? hi
  show wipe ((σ.set j none).set j (some v)) [j] = σ.set j none ∧ _
  refine ⟨by show ((σ.set j none).set j (some v)).set j none = σ.set j none; rw [List.set_set, List.set_set], ?_⟩
  have hs : (σ.set j none).set j (some v) = σ.set j (some v) := List.set_set ..
  have sv1 : SV (wdOf X c) (hide B Dl) env σ H' := sv.hide eH hD (by rw [hA]; simp)
  have sv2 : SV (wdOf X c) (hide B Dl) (env.set j (.dat (enc y))) ((σ.set j none).set j (some v)) H' := by
    rw [hs]
    exact sv1.setD j (r.mono (hide_ex eH hD))
  intro s H0 C cl fp
  refine T.tst y hm s H0 C cl fp (hide B Dl) _ H' _ sv2 fun b H3 e3 hb => ?_
  subst hb
  by_cases hf : f y = true
  · rw [if_pos hf]
    intro s H0 C cl fp
    refine T.elt y hm hf s H0 C cl fp (hide B Dl) _ H3 _ (sv2.ext e3) fun z H4 d e4 rz hd => ?_
    subst hd
    have e34 := e3.trans e4
    have hl : acc.length ≤ xs.length := by
      rw [rA.length, List.length_map]
      exact Nat.le_trans (List.length_filter_le ..) (by rw [List.length_take]; omega)
    refine ⟨acc, e34 _ _ hA, Nat.lt_of_le_of_lt (Nat.le_trans hl hz) (by decide), Evl.Ex.mut (eH.trans e34) hD, _, upd_same, ?_⟩
    rw [hid_mut (hide_self B Dl), filter_take hi, if_pos hf]
    exact (rA.mono (Ex.hid e34 _)).append (.cons rz .nil)
  · rw [if_neg hf]
    refine ⟨eH.trans e3, acc, e3 _ _ hA, ?_⟩
    rw [filter_take hi, if_neg hf, List.append_nil]
    exact rA.mono (Ex.hid e3 _)
theorem lc_start {G : Wd} {B : Addr → Bool} {H1 : Hp} {Dl : Addr} {xs : List α} {f : α → Bool} {g : α → D} (hD : H1 Dl = none) : LcP G B H1 Dl (((xs.take 0).filter f).map g) (upd H1 Dl (.lst [])) :=
  ⟨Evl.Ex.new hD, [], upd_same, by rw [List.take_zero]; exact .nil⟩
theorem lc_end {G : Wd} {B : Addr → Bool} {H1 H' : Hp} {Dl : Addr} {ds : List D} (z : Bz B H1) (hD : H1 Dl = none) (p : LcP G B H1 Dl ds H') : Rep G (hid B H') (.ref Dl) (.lst ds) := by
  obtain ⟨eH, acc, hA, rA⟩ := p
  exact .lst (by rw [hid_at (z.new hD)]; exact hA) (rA.mono (hid_mono fun _ h => hide_of h))
variable {elt iter : Expr} {ifs : List Expr} {scope : Scope} {j : Nat} {x : Str}
theorem lcL_core (h : DE X c env iter fun it => ∃ (α : Type) (xs : List α) (enc : α → D) (f : α → Bool) (g : α → D), it = .lst (xs.map enc) ∧ xs.length ≤ 100000 ∧ LcT X c env scope ifs elt j xs enc f g ∧ Qd (.lst ((xs.filter f).map g))) {B : Addr → Bool} {σ : Sto} {H : Hp} {Q : VK} (sv : SV (wdOf X c) B env σ H)
    (k : ∀ v H2 d, Ex H H2 → Rep (wdOf X c) (hid B H2) v d → Qd d → Q v H2) : tLc (iList X.K (semE X iter)) (gName j) (ttS X scope ifs) (teS X scope elt) ([(x, j)].map (·.2)) σ H Q :=
  h B σ H _ sv fun v H1 d e1 r1 ⟨α, xs, enc, f, g, hd, hz, T, q⟩ => by
    subst hd
    obtain ⟨a, vs, rfl, h1, h2⟩ := r1.lst_inv
    have hl : vs.length = xs.length := by rw [h2.length, List.length_map]
    refine ⟨a, rfl, ⟨vs, SqL.of (hid_ex B H1 _ _ h1)⟩, fun Dl hD => lc_list (K := X.K) (a := a) (xs := vs) (fun i H' => LcP (wdOf X c) B H1 Dl (((xs.take i).filter f).map g) H') (lc_start hD) (fun i H' _ p => SqL.of (p.1 _ _ (hid_ex B H1 _ _ h1))) (fun i v H' hv p => ?_) (fun H' p => ?_)⟩
    · obtain ⟨d, hd, rd⟩ := h2.getV hv
      rw [List.getElem?_map] at hd
      obtain ⟨y, hy, rfl⟩ := Option.map_eq_some_iff.mp hd
      exact lc_turn T (sv.ext e1) hD hz hy rd p
    · rw [hl, List.take_length] at p
      exact k _ H' _ (e1.trans p.1) (lc_end (sv.bz.ext e1) hD p) q
theorem lcT_core (h : DE X c env iter fun it => ∃ (α : Type) (xs : List α) (enc : α → D) (f : α → Bool) (g : α → D), it = .tup (xs.map enc) ∧ xs.length ≤ 100000 ∧ LcT X c env scope ifs elt j xs enc f g ∧ Qd (.lst ((xs.filter f).map g))) {B : Addr → Bool} {σ : Sto} {H : Hp} {Q : VK} (sv : SV (wdOf X c) B env σ H)
    (k : ∀ v H2 d, Ex H H2 → Rep (wdOf X c) (hid B H2) v d → Qd d → Q v H2) : tLc (iTup X.K (semE X iter)) (gName j) (ttS X scope ifs) (teS X scope elt) ([(x, j)].map (·.2)) σ H Q :=
  h B σ H _ sv fun v H1 d e1 r1 ⟨α, xs, enc, f, g, hd, hz, T, q⟩ => by
    subst hd
    obtain ⟨a, vs, rfl, h1, h2⟩ := r1.tup_inv
    have hl : vs.length = xs.length := by rw [h2.length, List.length_map]
    refine ⟨a, rfl, ⟨vs, (TupAt.mono h1 (hid_ex B H1)).sq⟩, fun Dl hD => lc_tup (K := X.K) (a := a) (xs := vs) (fun i H' => LcP (wdOf X c) B H1 Dl (((xs.take i).filter f).map g) H') (lc_start hD) (fun i H' _ p => ((h1.mono (hid_ex B H1)).mono p.1).sq) (fun i v H' hv p => ?_) (fun H' p => ?_)⟩
    · obtain ⟨d, hd, rd⟩ := h2.getV hv
      rw [List.getElem?_map] at hd
      obtain ⟨y, hy, rfl⟩ := Option.map_eq_some_iff.mp hd
      exact lc_turn T (sv.ext e1) hD hz hy rd p
    · rw [hl, List.take_length] at p
      exact k _ H' _ (e1.trans p.1) (lc_end (sv.bz.ext e1) hD p) q
theorem rgI_len (n : Int) : (rgI n).length = n.toNat := by unfold rgI; rw [List.length_map, List.length_range]
theorem rgI_get {n : Int} {i : Nat} (h : i < n.toNat) : (rgI n)[i]? = some (i : Int) := by
  unfold rgI
  rw [List.getElem?_map, List.getElem?_range h]
  rfl
theorem lcR_core (h : DA X c env [iter] fun it => ∃ (n : Int) (f : Int → Bool) (g : Int → D), it = [.int n] ∧ 0 ≤ n ∧ n ≤ 100000 ∧ LcT X c env scope ifs elt j (rgI n) D.int f g ∧ Qd (.lst (((rgI n).filter f).map g))) {B : Addr → Bool} {σ : Sto} {H : Hp} {Q : VK} (sv : SV (wdOf X c) B env σ H)
    (k : ∀ v H2 d, Ex H H2 → Rep (wdOf X c) (hid B H2) v d → Qd d → Q v H2) : tLc (iRng1 (semA X [iter])) (gName j) (ttS X scope ifs) (teS X scope elt) ([(x, j)].map (·.2)) σ H Q :=
  h B σ H _ sv fun vs H1 ds e1 r1 ⟨n, f, g, hd, h0, hn, T, q⟩ => by
    subst hd
    obtain ⟨v, rfl, rv⟩ := r1.one
    rw [rv.int_inv]
    refine ⟨n, rfl, by omega, by omega, fun Dl hD => lc_range (lo := 0) (n := n.toNat) (fun i H' => LcP (wdOf X c) B H1 Dl ((((rgI n).take i).filter f).map g) H') (lc_start hD) (fun i H' hi p => ?_) (fun H' p => ?_)⟩
    · have e0 : (0 : Int) + (i : Int) = (i : Int) := Int.zero_add _
      rw [e0]
      exact lc_turn T (sv.ext e1) hD (by rw [rgI_len]; omega) (rgI_get hi) (.int _) p
    · rw [← rgI_len n, List.take_length] at p
      exact k _ H' _ (e1.trans p.1) (lc_end (sv.bz.ext e1) hD p) q
variable {pt pos : Pos}
theorem de_lcL (hc : X.calm = true) (hN : X.N.Nodup) (ok : BlkOk X.N X.env.scope scope [(x, j)]) (hpg : InB X scope fun Y => PG Y (.Name x pt) (gName j)) (h : DE X c env iter fun it => ∃ (α : Type) (xs : List α) (enc : α → D) (f : α → Bool) (g : α → D), it = .lst (xs.map enc) ∧ xs.length ≤ 100000 ∧ LcT X c env scope ifs elt j xs enc f g ∧ Qd (.lst ((xs.filter f).map g)))
    (hs : ∀ x, foldedSetIterable iter X.env x = pure x := by intro _; rfl) : DE X c env (.ListComp elt [⟨.Name x pt, iter, ifs, 0⟩] scope pos) Qd := fun B σ H Q sv k => ofE (pe_lc hc hN (pi_list peS) ok hpg ttP teP hs) (lcL_core h sv k)
theorem de_lcT (hc : X.calm = true) (hN : X.N.Nodup) (ok : BlkOk X.N X.env.scope scope [(x, j)]) (hpg : InB X scope fun Y => PG Y (.Name x pt) (gName j)) (h : DE X c env iter fun it => ∃ (α : Type) (xs : List α) (enc : α → D) (f : α → Bool) (g : α → D), it = .tup (xs.map enc) ∧ xs.length ≤ 100000 ∧ LcT X c env scope ifs elt j xs enc f g ∧ Qd (.lst ((xs.filter f).map g)))
    (hs : ∀ x, foldedSetIterable iter X.env x = pure x := by intro _; rfl) : DE X c env (.ListComp elt [⟨.Name x pt, iter, ifs, 0⟩] scope pos) Qd := fun B σ H Q sv k => ofE (pe_lc hc hN (pi_tup peS) ok hpg ttP teP hs) (lcT_core h sv k)
theorem de_lcR {p2 pos2 : Pos} (hc : X.calm = true) (hN : X.N.Nodup) (ok : BlkOk X.N X.env.scope scope [(x, j)]) (hpg : InB X scope fun Y => PG Y (.Name x pt) (gName j)) (hm : X.mg "range" = none) (h : DE X c env iter fun it => ∃ (n : Int) (f : Int → Bool) (g : Int → D), it = .int n ∧ 0 ≤ n ∧ n ≤ 100000 ∧ LcT X c env scope ifs elt j (rgI n) D.int f g ∧ Qd (.lst (((rgI n).filter f).map g)))
    (hg : Gl X "range" := by rfl) (hst : starEach [iter] X.env = [(false, eval iter X.env)] := by rfl) (hs : ∀ x, foldedSetIterable (.Call (.Name "range" p2) [iter] [] pos2) X.env x = pure x := by intro _; rfl) : DE X c env (.ListComp elt [⟨.Name x pt, .Call (.Name "range" p2) [iter] [] pos2, ifs, 0⟩] scope pos) Qd := fun B σ H Q sv k =>
  ofE (pe_lc hc hN (pi_range1 hg hm paS hst) ok hpg ttP teP hs) (lcR_core (da_cons (h.mono fun d ⟨n, f, g, e, r⟩ => da_nil ⟨n, f, g, by rw [e], r⟩) hst) sv k)
end
end DD
namespace DD
open PySem PySem.Spec PyProof.Rows L2
open Evl (Ex)
/-! ### the state between statements -/
section
variable {G : Wd} {A0 : Addr → Bool} {H0 H H' : Hp} {env : SEnv} {σ : Sto}
theorem SE.base {H00 : Hp} (h : SE G A0 H0 env σ H) (e : Ex H00 H0) : SE G A0 H00 env σ H := by
  obtain ⟨e0, B, h1, h2, sv, h3⟩ := h
  exact ⟨e.trans e0, B, h1, fun a hb ha => Evl.fresh_back e (h2 a hb ha), sv, h3⟩
/-- what a loop takes as its own base: all that is not own -/
def inner (A0 B : Addr → Bool) (H : Hp) : Hp := fun a => if B a = true ∧ A0 a = false then none else H a
theorem inner_ex {B : Addr → Bool} : Ex (inner A0 B H) H := fun a o h => by
  unfold inner at h
  split at h
  · cases h
  · exact h
theorem inner_at {B : Addr → Bool} {a : Addr} (h : B a = false) : inner A0 B H a = H a := by
  unfold inner
  rw [if_neg (by simp [h])]
theorem inner_base {B : Addr → Bool} (e : Ex H0 H) (h2 : ∀ a, B a = true → A0 a = false → H0 a = none) : Ex H0 (inner A0 B H) := fun a o h => by
  unfold inner
  split
  · rename_i q
    rw [h2 a q.1 q.2] at h
    cases h
  · exact e _ _ h
theorem SE.inner {B : Addr → Bool} (h1 : ∀ a, A0 a = true → B a = true) (sv : SV G B env σ H) (h3 : ∀ (i : Nat) (s : Sl) (a : Addr), env[i]? = some s → a ∈ s.adrs → A0 a = false) : SE G A0 (DD.inner A0 B H) env σ H :=
  ⟨inner_ex, B, h1, fun a hb ha => by unfold DD.inner; rw [if_pos ⟨hb, ha⟩], sv, h3⟩
/-- what was data ahead of a loop is data within it -/
theorem inner_hid {B B' : Addr → Bool} (e : Ex (DD.inner A0 B H) H') (h1 : ∀ a, A0 a = true → B a = true) (h2 : ∀ a, B' a = true → A0 a = false → DD.inner A0 B H a = none) : Ex (hid B H) (hid B' H') := fun a o h => by
  obtain ⟨q, h⟩ := hid_no h
  have hi : DD.inner A0 B H a = some o := by rw [inner_at q]; exact h
  rw [hid_at]
  · exact e _ _ hi
  · cases hb : B' a with
    | false => rfl
    | true =>
      cases ha : A0 a with
      | true => rw [h1 a ha] at q; cases q
      | false => rw [h2 a hb ha] at hi; cases hi
theorem adr_set {P : Addr → Prop} (h3 : ∀ (i : Nat) (s : Sl) (a : Addr), env[i]? = some s → a ∈ s.adrs → P a) {i : Nat} {s : Sl} (hs : ∀ a ∈ s.adrs, P a) : ∀ (j : Nat) (t : Sl) (a : Addr), (env.set i s)[j]? = some t → a ∈ t.adrs → P a := fun j t a h ha => by
  by_cases e : i = j
  · subst e
    by_cases hi : i < env.length
    · rw [List.getElem?_set_self hi] at h
      cases h
      exact hs a ha
    · rw [List.getElem?_eq_none (by rw [List.length_set]; omega)] at h
      cases h
  · rw [List.getElem?_set_ne e] at h
    exact h3 j t a h ha
end
section
variable {X : Cx} {c : Cl → Addr} {env : SEnv} {e a b : Expr} {es : List Expr} {Qd : D → Prop} {P : DEnd} {pos : Pos} {st : Stmt} {rest body orelse : List Stmt}
theorem Fits.mono {G : Wd} {A0 : Addr → Bool} {H0 : Hp} {P P' : DEnd} {E : Ends} (f : Fits G A0 H0 P E) (h1 : ∀ s, P'.nx s → P.nx s) (h2 : ∀ e s, P'.rt e s → P.rt e s) (h3 : ∀ s, P'.bk s → P.bk s) (h4 : ∀ s, P'.ct s → P.ct s) (h5 : ∀ s, P'.ro s → P.ro s) : Fits G A0 H0 P' E :=
  ⟨fun env σ H s p => f.nx env σ H s (h1 _ p), fun env σ H s p => f.bk env σ H s (h3 _ p), fun env σ H s p => f.ct env σ H s (h4 _ p), fun env σ H v d s r p => f.rt env σ H v d s r (h2 _ _ p), fun env σ H v s i x y z p => f.ro env σ H v s i x y z (h5 _ p)⟩
theorem db_nil (h : P.nx env) : DB X c env [] P := fun A0 H0 σ H E se ft => ofB pss_nil (ft.nx env σ H se h)
theorem db_cons (h : DS X c env st { P with nx := fun env' => DB X c env' rest P }) : DB X c env (st :: rest) P := fun A0 H0 σ H E se ft =>
  ofB (pss_cons psS pbS) (h A0 H0 σ H _ se ⟨fun env' σ' H' se' p => p A0 H0 σ' H' E se' ft, ft.bk, ft.ct, ft.rt, ft.ro⟩)
/-- a cut: what follows is shown once -/
theorem db_cut (M : SEnv → Prop) (h : DS X c env st { P with nx := M }) (k : ∀ env', M env' → DB X c env' rest P) : DB X c env (st :: rest) P := db_cons (fun A0 H0 σ H E se ft => h A0 H0 σ H E se (ft.mono (fun s p => k s p) (fun _ _ p => p) (fun _ p => p) (fun _ p => p) (fun _ p => p)))
/-- an own object is data from here on -/
theorem db_freeze (i : Nat) {s : Sl} (hs : env[i]? = some s) (h : DB X c (env.set i s.view) rest P) : DB X c env rest P := fun A0 H0 σ H E se ft => by
  obtain ⟨e0, B, h1, h2, sv, h3⟩ := se
  refine h A0 H0 σ H E ⟨e0, _, fun a ha => ?_, fun a hb ha => h2 a (unhide_of hb).1 ha, sv.view hs, adr_set h3 (by rw [view_adrs]; intro a ha; simp at ha)⟩ ft
  have hb := h1 a ha
  unfold unhide
  rw [hb]
  have : a ∉ s.adrs := fun hm => by rw [h3 i s a hs hm] at ha; cases ha
  simp [this]
theorem ds_never (h : False) : DS X c env st P := h.elim
theorem ds_ret (h : DE X c env e (P.rt env)) : DS X c env (.Return (some e) pos) P := fun A0 H0 σ H E se ft => by
  obtain ⟨e0, B, h1, h2, sv, h3⟩ := se
  exact ofS (ps_ret peS) (h B σ H _ sv fun v H2 d e2 r q => ft.rt env σ H2 v d ⟨e0.trans e2, B, h1, h2, sv.ext e2, h3⟩ (r.mono (hid_mono h1)) q)
/-- the state behind an expression -/
theorem SE.ext {G : Wd} {A0 B : Addr → Bool} {H0 H H2 : Hp} {σ : Sto} (e0 : Ex H0 H) (h1 : ∀ a, A0 a = true → B a = true) (h2 : ∀ a, B a = true → A0 a = false → H0 a = none) (sv : SV G B env σ H) (h3 : ∀ (i : Nat) (s : Sl) (a : Addr), env[i]? = some s → a ∈ s.adrs → A0 a = false) (e : Ex H H2) : SE G A0 H0 env σ H2 :=
  ⟨e0.trans e, B, h1, h2, sv.ext e, h3⟩
theorem ds_set (i : Nat) {x : Str} {p : Pos} (h : DE X c env e fun d => P.nx (env.set i (.dat d))) (hN : X.N.Nodup) (hi : X.N[i]? = some x := by rfl) (hx : Loc X.env.scope x := by first | exact Or.inl rfl | exact Or.inr rfl) (hs : swapsWith e (some (.Name x p)) pos.line X.env = pure false := by rfl)
    (hf : X.fn x = true ∨ X.env.scope.names.lookup x = some .local := by first | exact .inl rfl | exact .inr rfl) : DS X c env (.Assign [.Name x p] e pos) P := fun A0 H0 σ H E se ft => by
  obtain ⟨e0, B, h1, h2, sv, h3⟩ := se
  refine ofS (ps_set hN hi hx peS hs hf) (h B σ H _ sv fun v H2 d e2 r q => ft.nx _ _ H2 ⟨e0.trans e2, B, h1, h2, (sv.ext e2).setD i r, adr_set h3 (by intro a ha; simp [Sl.adrs] at ha)⟩ q)
/-- name = [.. for ..] on one line -/
theorem ds_lc_of {elt iter : Expr} {ifs : List Expr} {scope : Scope} {j i : Nat} {x y : Str} {pt py spos : Pos} {wi : TI} (hc : X.calm = true) (hN : X.N.Nodup) (hi : PI X (.Name x pt) iter wi) (ok : BlkOk X.N X.env.scope scope [(x, j)]) (hpg : InB X scope fun Y => PG Y (.Name x pt) (gName j))
    (hsw : swapsWith (.ListComp elt [⟨.Name x pt, iter, ifs, 0⟩] scope pos) (some (.Name y py)) spos.line X.env = pure true)
    (h : ∀ {B : Addr → Bool} {σ : Sto} {H : Hp} {Q : VK}, SV (wdOf X c) B env σ H → (∀ v H2 d, Ex H H2 → Rep (wdOf X c) (hid B H2) v d → P.nx (env.set i (.dat d)) → Q v H2) → tLc wi (gName j) (ttS X scope ifs) (teS X scope elt) ([(x, j)].map (·.2)) σ H Q)
    (hy : X.N[i]? = some y) (hyl : X.env.scope.names.lookup y = some .local) (hs : ∀ x, foldedSetIterable iter X.env x = pure x) : DS X c env (.Assign [.Name y py] (.ListComp elt [⟨.Name x pt, iter, ifs, 0⟩] scope pos) spos) P := fun A0 H0 σ H E se ft => by
  obtain ⟨e0, B, h1, h2, sv, h3⟩ := se
  exact ofS (ps_setLc hc hN hy hyl hsw hi ok hpg ttP teP hs) (h sv fun v H2 d e2 r q => ft.nx _ _ H2 ⟨e0.trans e2, B, h1, h2, (sv.ext e2).setD i r, adr_set h3 (by intro a ha; simp [Sl.adrs] at ha)⟩ q)
theorem ds_lcL (i : Nat) {elt iter : Expr} {ifs : List Expr} {scope : Scope} {j : Nat} {x y : Str} {pt py spos : Pos} (hc : X.calm = true) (hN : X.N.Nodup) (ok : BlkOk X.N X.env.scope scope [(x, j)]) (hpg : InB X scope fun Y => PG Y (.Name x pt) (gName j))
    (hsw : swapsWith (.ListComp elt [⟨.Name x pt, iter, ifs, 0⟩] scope pos) (some (.Name y py)) spos.line X.env = pure true)
    (h : DE X c env iter fun it => ∃ (α : Type) (xs : List α) (enc : α → D) (f : α → Bool) (g : α → D), it = .lst (xs.map enc) ∧ xs.length ≤ 100000 ∧ LcT X c env scope ifs elt j xs enc f g ∧ P.nx (env.set i (.dat (.lst ((xs.filter f).map g)))))
    (hy : X.N[i]? = some y := by rfl) (hyl : X.env.scope.names.lookup y = some .local := by rfl) (hs : ∀ x, foldedSetIterable iter X.env x = pure x := by intro _; rfl) : DS X c env (.Assign [.Name y py] (.ListComp elt [⟨.Name x pt, iter, ifs, 0⟩] scope pos) spos) P :=
  ds_lc_of hc hN (pi_list peS) ok hpg hsw (fun sv k => lcL_core (Qd := fun d => P.nx (env.set i (.dat d))) h sv k) hy hyl hs
theorem ds_lcT (i : Nat) {elt iter : Expr} {ifs : List Expr} {scope : Scope} {j : Nat} {x y : Str} {pt py spos : Pos} (hc : X.calm = true) (hN : X.N.Nodup) (ok : BlkOk X.N X.env.scope scope [(x, j)]) (hpg : InB X scope fun Y => PG Y (.Name x pt) (gName j))
    (hsw : swapsWith (.ListComp elt [⟨.Name x pt, iter, ifs, 0⟩] scope pos) (some (.Name y py)) spos.line X.env = pure true)
    (h : DE X c env iter fun it => ∃ (α : Type) (xs : List α) (enc : α → D) (f : α → Bool) (g : α → D), it = .tup (xs.map enc) ∧ xs.length ≤ 100000 ∧ LcT X c env scope ifs elt j xs enc f g ∧ P.nx (env.set i (.dat (.lst ((xs.filter f).map g)))))
    (hy : X.N[i]? = some y := by rfl) (hyl : X.env.scope.names.lookup y = some .local := by rfl) (hs : ∀ x, foldedSetIterable iter X.env x = pure x := by intro _; rfl) : DS X c env (.Assign [.Name y py] (.ListComp elt [⟨.Name x pt, iter, ifs, 0⟩] scope pos) spos) P :=
  ds_lc_of hc hN (pi_tup peS) ok hpg hsw (fun sv k => lcT_core (Qd := fun d => P.nx (env.set i (.dat d))) h sv k) hy hyl hs
theorem ds_lcR (i : Nat) {elt iter : Expr} {ifs : List Expr} {scope : Scope} {j : Nat} {x y : Str} {pt py spos p2 pos2 : Pos} (hc : X.calm = true) (hN : X.N.Nodup) (ok : BlkOk X.N X.env.scope scope [(x, j)]) (hpg : InB X scope fun Y => PG Y (.Name x pt) (gName j)) (hm : X.mg "range" = none)
    (hsw : swapsWith (.ListComp elt [⟨.Name x pt, .Call (.Name "range" p2) [iter] [] pos2, ifs, 0⟩] scope pos) (some (.Name y py)) spos.line X.env = pure true)
    (h : DE X c env iter fun it => ∃ (n : Int) (f : Int → Bool) (g : Int → D), it = .int n ∧ 0 ≤ n ∧ n ≤ 100000 ∧ LcT X c env scope ifs elt j (rgI n) D.int f g ∧ P.nx (env.set i (.dat (.lst (((rgI n).filter f).map g)))))
    (hy : X.N[i]? = some y := by rfl) (hyl : X.env.scope.names.lookup y = some .local := by rfl) (hg : Gl X "range" := by rfl) (hst : starEach [iter] X.env = [(false, eval iter X.env)] := by rfl)
    (hs : ∀ x, foldedSetIterable (.Call (.Name "range" p2) [iter] [] pos2) X.env x = pure x := by intro _; rfl) : DS X c env (.Assign [.Name y py] (.ListComp elt [⟨.Name x pt, .Call (.Name "range" p2) [iter] [] pos2, ifs, 0⟩] scope pos) spos) P :=
  ds_lc_of hc hN (pi_range1 hg hm paS hst) ok hpg hsw (fun sv k => lcR_core (Qd := fun d => P.nx (env.set i (.dat d))) (da_cons (h.mono fun d ⟨n, f, g, e, r⟩ => da_nil ⟨n, f, g, by rw [e], r⟩) hst) sv k) hy hyl hs
theorem ds_if {cnd : Expr} (h : DT X c env cnd fun k => if k = true then DB X c env body P else DB X c env orelse P) : DS X c env (.If cnd body orelse pos) P := fun A0 H0 σ H E se ft => by
  obtain ⟨e0, B, h1, h2, sv, h3⟩ := se
  refine ofS (ps_if ptS pbS pbS) (h B σ H _ sv fun k H2 e2 q => ?_)
  cases k with
  | true => exact q A0 H0 σ H2 E (SE.ext e0 h1 h2 sv h3 e2) ft
  | false => exact q A0 H0 σ H2 E (SE.ext e0 h1 h2 sv h3 e2) ft
theorem ds_break (h : P.bk env) : DS X c env (.Break pos) P := fun A0 H0 σ H E se ft => ofS ps_break (ft.bk env σ H se h)
theorem ds_pass (h : P.nx env) : DS X c env (.Pass pos) P := fun A0 H0 σ H E se ft => ofS ps_pass (ft.nx env σ H se h)
/-! ### own lists and dicts -/
/-- a new own object in slot i -/
theorem se_new {A0 B : Addr → Bool} {H0 H : Hp} {σ : Sto} (e0 : Ex H0 H) (h1 : ∀ a, A0 a = true → B a = true) (h2 : ∀ a, B a = true → A0 a = false → H0 a = none) (sv : SV (wdOf X c) B env σ H) (h3 : ∀ (i : Nat) (s : Sl) (a : Addr), env[i]? = some s → a ∈ s.adrs → A0 a = false)
    {p : Addr} {o : HO} {i : Nat} {s : Sl} (hp : H p = none) (had : s.adrs = [p]) (ok : SlOk (wdOf X c) (hide B p) (upd H p o) (some (some (.ref p))) s) : SE (wdOf X c) A0 H0 (env.set i s) (σ.set i (some (.ref p))) (upd H p o) := by
  have en : Ex H (upd H p o) := Evl.Ex.new hp
  have hA : A0 p = false := by
    cases q : A0 p with
    | false => rfl
    | true => exact absurd hp (sv.bz p (h1 p q))
  have sv2 : SV (wdOf X c) (hide B p) env σ (upd H p o) := sv.hide en hp (by rw [upd_same]; simp)
  refine ⟨e0.trans en, hide B p, fun a ha => hide_of (h1 a ha), fun a hb ha => ?_, sv2.set ok fun a ha j t hj ht hm => ?_, adr_set h3 (by rw [had]; intro a ha; simp at ha; rw [ha]; exact hA)⟩
  · rcases hide_yes hb with hb | hb
    · exact h2 a hb ha
    · rw [hb]; exact Evl.fresh_back e0 hp
  · rw [had] at ha
    simp at ha
    subst ha
    exact absurd hp (sv.bz a ((sv.sl j t ht).adr a hm))
theorem ds_newL (i : Nat) {x : Str} {p : Pos} (h : ∀ a, P.nx (env.set i (.ol a []))) (hN : X.N.Nodup) (hi : X.N[i]? = some x := by rfl) (hx : Loc X.env.scope x := by first | exact Or.inl rfl | exact Or.inr rfl) 
    (hf : X.fn x = true ∨ X.env.scope.names.lookup x = some .local := by first | exact .inl rfl | exact .inr rfl) {spos : Pos} (hs : swapsWith (.List [] pos) (some (.Name x p)) spos.line X.env = pure false := by rfl) : DS X c env (.Assign [.Name x p] (.List [] pos) spos) P := fun A0 H0 σ H E se ft => by
  obtain ⟨e0, B, h1, h2, sv, h3⟩ := se
  refine ofS (ps_set hN hi hx (pe_lst pa_nil) hs hf) ⟨Nat.zero_le _, fun q hq => ft.nx _ _ _ (se_new (s := .ol q []) e0 h1 h2 sv h3 hq rfl ⟨rfl, hide_self B q, [], upd_same, .nil⟩) (h q)⟩
theorem ds_newD (i : Nat) {x : Str} {p : Pos} (h : ∀ a, P.nx (env.set i (.od a [] []))) (hN : X.N.Nodup) (hi : X.N[i]? = some x := by rfl) (hx : Loc X.env.scope x := by first | exact Or.inl rfl | exact Or.inr rfl)
    (hf : X.fn x = true ∨ X.env.scope.names.lookup x = some .local := by first | exact .inl rfl | exact .inr rfl) {spos : Pos} (hs : swapsWith (.Dict [] [] pos) (some (.Name x p)) spos.line X.env = pure false := by rfl) : DS X c env (.Assign [.Name x p] (.Dict [] [] pos) spos) P := fun A0 H0 σ H E se ft => by
  obtain ⟨e0, B, h1, h2, sv, h3⟩ := se
  refine ofS (ps_set hN hi hx pe_dnewK hs hf) fun q hq => ft.nx _ _ _ (se_new (s := .od q [] []) e0 h1 h2 sv h3 hq rfl ⟨rfl, hide_self B q, [], upd_same, List.nodup_nil, rfl, .nil⟩) (h q)
/-- name = list(e): a new own list -/
theorem ds_listOf (i : Nat) {x : Str} {p p2 : Pos} (hm : X.mg "list" = none) (h : DE X c env e fun d => ∃ ds, seqD d = some ds ∧ ∀ a, P.nx (env.set i (.ol a ds))) (hN : X.N.Nodup) (hi : X.N[i]? = some x := by rfl) (hx : Loc X.env.scope x := by first | exact Or.inl rfl | exact Or.inr rfl)
    (hf : X.fn x = true ∨ X.env.scope.names.lookup x = some .local := by first | exact .inl rfl | exact .inr rfl) {spos : Pos} (hs : swapsWith (.Call (.Name "list" p2) [e] [] pos) (some (.Name x p)) spos.line X.env = pure false := by rfl)
    (hg : Gl X "list" := by rfl) (he : starEach [e] X.env = (false, eval e X.env) :: starEach [] X.env := by rfl) : DS X c env (.Assign [.Name x p] (.Call (.Name "list" p2) [e] [] pos) spos) P := fun A0 H0 σ H E se ft => by
  obtain ⟨e0, B, h1, h2, sv, h3⟩ := se
  refine ofS (ps_set hN hi hx (pe_callTy call_list_of hg hm (by decide +kernel) (pa_cons peS pa_nil he) (by decide) (by decide) he rfl) hs hf) (h B σ H _ sv fun v H2 d e2 r ⟨ds, hd, q⟩ => ?_)
  obtain ⟨a, xs, rfl, hsq, ha⟩ := seq_sq hd r
  refine ⟨a, xs, rfl, hsq, fun l hl => ft.nx _ _ _ (se_new (s := .ol l ds) (e0.trans e2) h1 h2 (sv.ext e2) h3 hl rfl ⟨rfl, hide_self B l, xs, upd_same, ha.mono (hide_ex (Evl.Ex.new hl) hl)⟩) (q l)⟩
/-- an own object is changed, its slot told anew -/
theorem sv_put {G : Wd} {B : Addr → Bool} {H : Hp} {σ : Sto} (sv : SV G B env σ H) {p : Addr} {o : HO} {i : Nat} {s t : Sl} (hs : env[i]? = some s) (hp : p ∈ s.adrs) (had : t.adrs = s.adrs) (ok : SlOk G B (upd H p o) σ[i]? t) : SV G B (env.set i t) σ (upd H p o) := by
  have hB : B p = true := (sv.sl i s hs).adr p hp
  have hi : i < env.length := (List.getElem?_eq_some_iff.mp hs).1
  refine ⟨fun a ha => ?_, by rw [List.length_set]; exact sv.ln, fun j u hj => ?_, fun j k u w a hj hk mj mk => ?_⟩
  · by_cases e : a = p
    · rw [e, upd_same]; simp
    · rw [upd_ne e]; exact sv.bz a ha
  · by_cases e : i = j
    · subst e
      rw [List.getElem?_set_self hi] at hj
      cases hj
      exact ok
    · rw [List.getElem?_set_ne e] at hj
      exact (sv.sl j u hj).mut hB fun hm => e (sv.dj i j s u p hs hj hp hm)
  · have at_ : ∀ {j : Nat} {u : Sl}, (env.set i t)[j]? = some u → a ∈ u.adrs → ∃ u', env[j]? = some u' ∧ a ∈ u'.adrs := fun {j u} hj mj => by
      by_cases e : i = j
      · subst e
        rw [List.getElem?_set_self hi] at hj
        cases hj
        exact ⟨s, hs, by rw [← had]; exact mj⟩
      · rw [List.getElem?_set_ne e] at hj
        exact ⟨u, hj, mj⟩
    obtain ⟨u', a1, a2⟩ := at_ hj mj
    obtain ⟨w', b1, b2⟩ := at_ hk mk
    exact sv.dj j k u' w' a a1 b1 a2 b2
theorem se_put {A0 B : Addr → Bool} {H0 H : Hp} {σ : Sto} (e0 : Ex H0 H) (h1 : ∀ a, A0 a = true → B a = true) (h2 : ∀ a, B a = true → A0 a = false → H0 a = none) (sv : SV (wdOf X c) B env σ H) (h3 : ∀ (i : Nat) (s : Sl) (a : Addr), env[i]? = some s → a ∈ s.adrs → A0 a = false)
    {p : Addr} {o : HO} {i : Nat} {s t : Sl} (hs : env[i]? = some s) (hp : p ∈ s.adrs) (had : t.adrs = s.adrs) (ok : SlOk (wdOf X c) B (upd H p o) σ[i]? t) : SE (wdOf X c) A0 H0 (env.set i t) σ (upd H p o) := by
  have hB : B p = true := (sv.sl i s hs).adr p hp
  have hA : A0 p = false := h3 i s p hs hp
  exact ⟨Evl.Ex.mut e0 (h2 p hB hA), B, h1, h2, sv_put sv hs hp had ok, adr_set h3 (by rw [had]; exact fun a ha => h3 i s a hs ha)⟩
/-- xs.append(e) -/
theorem ds_append (i : Nat) {x : Str} {p apos cpos : Pos} {ad : Addr} {ds : List D} (hs : env[i]? = some (.ol ad ds)) (hz : ds.length < 100000) (h : DE X c env e fun d => P.nx (env.set i (.ol ad (ds ++ [d])))) (hN : X.N[i]? = some x := by rfl) (hv : Vis X.env.scope x := by first | exact Or.inl rfl | exact Or.inr (Or.inl rfl) | exact Or.inr (Or.inr rfl))
    (hd : (x == ("__debug__" : Str)) = false := by decide) (hcd : (x == ("__classdict__" : Str)) = false := by decide)
    (hbase : attributeBase (.Name x p) "append" X.env (eval (.Name x p) X.env) = eval (.Name x p) X.env := by rfl)
    (hfew : ((backTo cpos (starEach [e] X.env)).all (fun x => !x.1) && (backToKw cpos (keywordEach [] X.env)).all (fun x => x.1.isSome)
      && decide (([e] : List Expr).length + ([] : List Keyword).length + (if ([] : List Keyword).isEmpty then 0 else 1) < 30)) = true := by rfl)
    (hline : (apos.endLine == cpos.line) = true := by rfl) (hst : starEach [e] X.env = (false, eval e X.env) :: starEach [] X.env := by rfl)
    (hsw : swapsWith (.Call (.Attribute (.Name x p) "append" apos) [e] [] cpos) none pos.line X.env = pure false := by rfl) : DS X c env (.Expr (.Call (.Attribute (.Name x p) "append" apos) [e] [] cpos) pos) P := fun A0 H0 σ H E se ft => by
  obtain ⟨e0, B, h1, h2, sv, h3⟩ := se
  obtain ⟨q1, q2, xs, q3, q4⟩ := sv.sl i _ hs
  refine ofS (ps_expr (pe_bm PySem.F.plainAttrs_list PySem.F.slot_list_append PySem.F.type_list_append mt_append (pe_var hN hv hd hcd) (pa_cons peS pa_nil hst) hbase hfew hline hst rfl) hsw) ⟨_, q1, .inl ⟨rfl, xs, SqL.of q3⟩, ?_⟩
  refine h B σ H _ sv fun v H2 d e2 r q => ⟨ad, xs, v, rfl, rfl, e2 _ _ q3, Nat.lt_of_le_of_lt (by rw [q4.length]; exact Nat.le_refl _) (Nat.lt_trans hz (by decide)), ?_⟩
  refine ft.nx _ _ _ (se_put (t := .ol ad (ds ++ [d])) (e0.trans e2) h1 h2 (sv.ext e2) h3 hs (by simp [Sl.adrs]) rfl ⟨q1, q2, xs ++ [v], upd_same, ?_⟩) q
  rw [hid_mut q2]
  exact (q4.mono (Ex.hid e2 B)).append (.cons r .nil)
/-- xs[k] = e of an own list -/
theorem ds_putL (i : Nat) {x : Str} {p p2 : Pos} {ix : Expr} {ad : Addr} {ds : List D} (hs : env[i]? = some (.ol ad ds)) (h : DE X c env e fun d => DE X c env ix fun y => ∃ k : Nat, y = .int k ∧ k < ds.length ∧ P.nx (env.set i (.ol ad (ds.set k d))))
    (hN : X.N[i]? = some x := by rfl) (hv : Vis X.env.scope x := by first | exact Or.inl rfl | exact Or.inr (Or.inl rfl) | exact Or.inr (Or.inr rfl))
    (hd : (x == ("__debug__" : Str)) = false := by decide) (hcd : (x == ("__classdict__" : Str)) = false := by decide)
    (ha : ∀ v, assign (.Subscript (.Name x p) ix p2) X.env v = (do
      let ov ← holding [v] (eval (.Name x p) X.env)
      let iv ← holding [v, ov] (eval ix X.env)
      standAt p2
      holding [v, ov, iv] (setItem ov iv v)
      release [v, ov, iv] []) := by intro _; rfl) (hsw : swapsWithSole [.Subscript (.Name x p) ix p2] e pos.line X.env = pure false := by rfl) (hw : swappedStores [.Subscript (.Name x p) ix p2] e X.env = pure none := by rfl)
    (hq : (assignEach [.Subscript (.Name x p) ix p2] X.env).map (·.2) = [assign (.Subscript (.Name x p) ix p2) X.env] := by rfl) : DS X c env (.Assign [.Subscript (.Name x p) ix p2] e pos) P := fun A0 H0 σ H E se ft => by
  obtain ⟨e0, B, h1, h2, sv, h3⟩ := se
  obtain ⟨q1, q2, xs, q3, q4⟩ := sv.sl i _ hs
  refine ofS (ps_asg peS (pg_sub (pe_var hN hv hd hcd) peS set_list ha) hsw hw hq) (h B σ H _ sv fun v H2 d e2 r h5 => ⟨_, q1, h5 B σ H2 _ (sv.ext e2) fun u H3 d3 e3 r3 ⟨k, hk, hl, q⟩ => ?_⟩)
  subst hk
  rw [r3.int_inv]
  have ix_ : ixN xs.length (k : Int) = some k := by
    unfold ixN
    rw [q4.length, if_pos (by omega), if_pos (by omega)]
    rfl
  refine ⟨ad, xs, k, k, rfl, rfl, (e2.trans e3) _ _ q3, ix_, ?_⟩
  refine ft.nx _ _ _ (se_put (t := .ol ad (ds.set k d)) ((e0.trans e2).trans e3) h1 h2 ((sv.ext e2).ext e3) h3 hs (by simp [Sl.adrs]) rfl ⟨q1, q2, xs.set k v, upd_same, ?_⟩) q
  rw [hid_mut q2]
  exact RepA.set (r.mono (Ex.hid e3 B)) k (q4.mono (Ex.hid (e2.trans e3) B))
end
end DD
namespace DD
open PySem PySem.Spec PyProof.Rows L2
open Evl (Ex)
section
variable {X : Cx} {c : Cl → Addr} {env : SEnv} {e a b iter : Expr} {es : List Expr} {P : DEnd} {pos pt : Pos} {body : List Stmt} {x : Str} {j : Nat}
/-- the ends within a loop's turn -/
def turnEnd (P : DEnd) (nxt : SEnv → Prop) : DEnd := { nx := nxt, rt := P.rt, bk := P.nx, ct := nxt, ro := P.ro }
/-- one turn of a loop whose target is a name -/
theorem loop_turn {A0 B : Addr → Bool} {H0 H1 H' : Hp} {σ' : Sto} {env' : SEnv} {E : Ends} {nxt : SEnv → Prop} {N : Sto → Hp → Prop} {v : V} {d : D} (hb : DB X c (env'.set j (.dat d)) body (turnEnd P nxt)) (e0 : Ex H0 H1) (h1 : ∀ a, A0 a = true → B a = true) (h2 : ∀ a, B a = true → A0 a = false → H0 a = none)
    (se : SE (wdOf X c) A0 (inner A0 B H1) env' σ' H') (ft : Fits (wdOf X c) A0 H0 P E) (hN : ∀ env2 σ2 H2, SE (wdOf X c) A0 (inner A0 B H1) env2 σ2 H2 → nxt env2 → N σ2 H2) (r : Rep (wdOf X c) (hid B H1) v d) :
    semB X body { E with nx := N, ct := N, bk := E.nx } (σ'.set j (some v)) H' := by
  obtain ⟨e1, B', k1, k2, sv, k3⟩ := se
  have eb : Ex H0 (inner A0 B H1) := inner_base e0 h2
  refine hb A0 (inner A0 B H1) (σ'.set j (some v)) H' _ ⟨e1, B', k1, k2, sv.setD j (r.mono (inner_hid e1 h1 k2)), adr_set k3 (by intro a ha; simp [Sl.adrs] at ha)⟩ ⟨hN, fun env2 σ2 H2 s p => ft.nx env2 σ2 H2 (s.base eb) p, hN, fun env2 σ2 H2 w d2 s r2 p => ft.rt env2 σ2 H2 w d2 (s.base eb) r2 p, fun env2 σ2 H2 w t i s y z p => ft.ro env2 σ2 H2 w t i (s.base eb) y z p⟩
theorem ds_forL (hc : X.calm = true) (hpg : PG X (.Name x pt) (gName j)) (h : DE X c env iter fun it => ∃ (ds : List D) (Pv : Nat → SEnv → Prop), it = .lst ds ∧ Pv 0 env ∧ (∀ i d env', ds[i]? = some d → Pv i env' → DB X c (env'.set j (.dat d)) body (turnEnd P (Pv (i + 1)))) ∧ ∀ env', Pv ds.length env' → P.nx env')
    (hp : PassesOwn (model X.prog X.w) X.A X.env X.xe := by exact PassesOwn.never) (hs : ∀ x, foldedSetIterable iter X.env x = pure x := by intro _; rfl) : DS X c env (.For (.Name x pt) iter body [] pos) P := fun A0 H0 σ H E se ft => by
  obtain ⟨e0, B, h1, h2, sv, h3⟩ := se
  refine ofS (ps_for hp hc (pi_list peS) hpg pbS hs) (h B σ H _ sv fun v H1 d e1 r1 ⟨ds, Pv, hd, p0, ht, hend⟩ => ?_)
  subst hd
  obtain ⟨a, vs, rfl, g1, g2⟩ := r1.lst_inv
  have e01 := e0.trans e1
  have at_ : ∀ H', Ex (inner A0 B H1) H' → SqL X.K H' a vs := fun H' e => SqL.of (e _ _ (by rw [inner_at (hid_no g1).1]; exact (hid_no g1).2))
  refine ⟨a, rfl, ⟨vs, SqL.of (hid_ex B H1 _ _ g1)⟩, for_list (K := X.K) (a := a) (xs := vs) (fun i σ' H' => ∃ env', SE (wdOf X c) A0 (inner A0 B H1) env' σ' H' ∧ Pv i env') ⟨env, SE.inner h1 (sv.ext e1) h3, p0⟩ (fun i σ' H' _ ⟨env', s, _⟩ => at_ H' s.ex0) (fun i w σ' H' hw ⟨env', s, p⟩ => ?_) (fun σ' H' ⟨env', s, p⟩ => ?_)⟩
  · obtain ⟨d, hd, rd⟩ := g2.getV hw
    exact loop_turn (ht i d env' hd p) e01 h1 h2 s ft (fun env2 σ2 H2 s2 p2 => ⟨env2, s2, p2⟩) rd
  · rw [g2.length] at p
    exact ft.nx _ _ _ (s.base (inner_base e01 h2)) (hend env' p)
theorem ds_forT (hc : X.calm = true) (hpg : PG X (.Name x pt) (gName j)) (h : DE X c env iter fun it => ∃ (ds : List D) (Pv : Nat → SEnv → Prop), it = .tup ds ∧ Pv 0 env ∧ (∀ i d env', ds[i]? = some d → Pv i env' → DB X c (env'.set j (.dat d)) body (turnEnd P (Pv (i + 1)))) ∧ ∀ env', Pv ds.length env' → P.nx env')
    (hp : PassesOwn (model X.prog X.w) X.A X.env X.xe := by exact PassesOwn.never) (hs : ∀ x, foldedSetIterable iter X.env x = pure x := by intro _; rfl) : DS X c env (.For (.Name x pt) iter body [] pos) P := fun A0 H0 σ H E se ft => by
  obtain ⟨e0, B, h1, h2, sv, h3⟩ := se
  refine ofS (ps_for hp hc (pi_tup peS) hpg pbS hs) (h B σ H _ sv fun v H1 d e1 r1 ⟨ds, Pv, hd, p0, ht, hend⟩ => ?_)
  subst hd
  obtain ⟨a, vs, rfl, g1, g2⟩ := r1.tup_inv
  have e01 := e0.trans e1
  have at_ : ∀ H', Ex (inner A0 B H1) H' → SqT X.K H' a vs := fun H' e => by
    obtain ⟨ob, o1, o2⟩ := id g1
    exact TupAt.sq ⟨ob, o1, e _ _ (by rw [inner_at (hid_no o2).1]; exact (hid_no o2).2)⟩
  refine ⟨a, rfl, ⟨vs, (TupAt.mono g1 (hid_ex B H1)).sq⟩, for_tup (K := X.K) (a := a) (xs := vs) (fun i σ' H' => ∃ env', SE (wdOf X c) A0 (inner A0 B H1) env' σ' H' ∧ Pv i env') ⟨env, SE.inner h1 (sv.ext e1) h3, p0⟩ (fun i σ' H' _ ⟨env', s, _⟩ => at_ H' s.ex0) (fun i w σ' H' hw ⟨env', s, p⟩ => ?_) (fun σ' H' ⟨env', s, p⟩ => ?_)⟩
  · obtain ⟨d, hd, rd⟩ := g2.getV hw
    exact loop_turn (ht i d env' hd p) e01 h1 h2 s ft (fun env2 σ2 H2 s2 p2 => ⟨env2, s2, p2⟩) rd
  · rw [g2.length] at p
    exact ft.nx _ _ _ (s.base (inner_base e01 h2)) (hend env' p)
theorem ds_forR {p2 pos2 : Pos} (hc : X.calm = true) (hpg : PG X (.Name x pt) (gName j)) (hm : X.mg "range" = none) (h : DE X c env iter fun it => ∃ (n : Int) (Pv : Nat → SEnv → Prop), it = .int n ∧ -100000 ≤ n ∧ n ≤ 100000 ∧ Pv 0 env ∧ (∀ (i : Nat) env', (i : Int) < n → Pv i env' → DB X c (env'.set j (.dat (.int i))) body (turnEnd P (Pv (i + 1)))) ∧ ∀ env', Pv n.toNat env' → P.nx env')
    (hg : Gl X "range" := by rfl) (hst : starEach [iter] X.env = [(false, eval iter X.env)] := by rfl)
    (hp : PassesOwn (model X.prog X.w) X.A X.env X.xe := by exact PassesOwn.never) (hs : ∀ x, foldedSetIterable (.Call (.Name "range" p2) [iter] [] pos2) X.env x = pure x := by intro _; rfl) : DS X c env (.For (.Name x pt) (.Call (.Name "range" p2) [iter] [] pos2) body [] pos) P := fun A0 H0 σ H E se ft => by
  obtain ⟨e0, B, h1, h2, sv, h3⟩ := se
  refine ofS (ps_for hp hc (pi_range1 hg hm (pa_cons peS pa_nil hst) hst) hpg pbS hs) (h B σ H _ sv fun v H1 d e1 r1 ⟨n, Pv, hd, hn0, hn, p0, ht, hend⟩ => ?_)
  subst hd
  rw [r1.int_inv]
  have e01 := e0.trans e1
  refine ⟨n, rfl, by omega, by omega, for_range (lo := 0) (n := n.toNat) (fun i σ' H' => ∃ env', SE (wdOf X c) A0 (inner A0 B H1) env' σ' H' ∧ Pv i env') ⟨env, SE.inner h1 (sv.ext e1) h3, p0⟩ (fun i σ' H' hi ⟨env', s, p⟩ => ?_) (fun σ' H' ⟨env', s, p⟩ => ?_)⟩
  · have ez : (0 : Int) + (i : Int) = (i : Int) := Int.zero_add _
    rw [ez]
    exact loop_turn (ht i env' (by omega) p) e01 h1 h2 s ft (fun env2 σ2 H2 s2 p2 => ⟨env2, s2, p2⟩) (.int _)
  · exact ft.nx _ _ _ (s.base (inner_base e01 h2)) (hend env' p)
/-- over an own list that the body leaves alone -/
theorem ds_forO (i : Nat) {y : Str} {py : Pos} {ad : Addr} {ds : List D} (hc : X.calm = true) (hpg : PG X (.Name x pt) (gName j)) (hs : env[i]? = some (.ol ad ds)) (Pv : Nat → SEnv → Prop) (hij : j ≠ i) (p0 : Pv 0 env)
    (hk : ∀ n env', Pv n env' → env'[i]? = some (.ol ad ds)) (ht : ∀ n d env', ds[n]? = some d → Pv n env' → DB X c (env'.set j (.dat d)) body (turnEnd P (Pv (n + 1)))) (hend : ∀ env', Pv ds.length env' → P.nx env')
    (hN : X.N[i]? = some y := by rfl) (hv : Vis X.env.scope y := by first | exact Or.inl rfl | exact Or.inr (Or.inl rfl) | exact Or.inr (Or.inr rfl))
    (hd : (y == ("__debug__" : Str)) = false := by decide) (hcd : (y == ("__classdict__" : Str)) = false := by decide)
    (hp : PassesOwn (model X.prog X.w) X.A X.env X.xe := by exact PassesOwn.never) (hs : ∀ x, foldedSetIterable (.Name y py) X.env x = pure x := by intro _; rfl) : DS X c env (.For (.Name x pt) (.Name y py) body [] pos) P := fun A0 H0 σ H E se ft => by
  obtain ⟨e0, B, h1, h2, sv, h3⟩ := se
  rename_i hs0
  obtain ⟨q1, q2, xs, q3, q4⟩ := sv.sl i _ hs0
  refine ofS (ps_for hp hc (pi_list (pe_var hN hv hd hcd)) hpg pbS hs) ⟨_, q1, ad, rfl, ⟨xs, SqL.of q3⟩, ?_⟩
  have eb : Ex H0 (inner A0 B H) := inner_base e0 h2
  refine ⟨fun n m σ' H' => m = ds.length - n ∧ n ≤ ds.length ∧ ∃ env', SE (wdOf X c) A0 (inner A0 B H) env' σ' H' ∧ Pv n env', ⟨_, rfl, Nat.zero_le _, env, SE.inner h1 sv h3, p0⟩, fun n m σ' H' ⟨hm, hn, env', s, p⟩ => ?_⟩
  obtain ⟨e1, B', k1, k2, sv', k3⟩ := id s
  obtain ⟨r1, r2, xs', r3, r4⟩ := sv'.sl i _ (hk n env' p)
  by_cases hlt : n < ds.length
  · right
    obtain ⟨w, hw, rw_⟩ := r4.get (List.getElem?_eq_getElem hlt)
    refine ⟨⟨xs', w, SqL.of r3, hw⟩, fun σ2 H2 => ∃ env2, SE (wdOf X c) A0 (inner A0 B H) env2 σ2 H2 ∧ Pv (n + 1) env2, fun σ2 H2 ⟨env2, s2, p2⟩ => ⟨ds.length - (n + 1), by omega, rfl, hlt, env2, s2, p2⟩, fun u H2 ⟨eH, hu⟩ => ?_⟩
    subst eH
    have eu : u = w := by
      have q := hu xs' (SqL.of r3)
      rw [hw] at q
      exact (Option.some.inj q).symm
    subst eu
    show semB X body _ (σ'.set j (some u)) H2
    refine ht n _ env' (List.getElem?_eq_getElem hlt) p A0 (inner A0 B H) _ H2 _ ⟨e1, B', k1, k2, sv'.setD j rw_, adr_set k3 (by intro a ha; simp [Sl.adrs] at ha)⟩ ⟨fun env2 σ2 H2 s2 p2 => ⟨env2, s2, p2⟩, fun env2 σ2 H2 s p => ft.nx env2 σ2 H2 (s.base eb) p, fun env2 σ2 H2 s2 p2 => ⟨env2, s2, p2⟩, fun env2 σ2 H2 w d2 s r2 p => ft.rt env2 σ2 H2 w d2 (s.base eb) r2 p, fun env2 σ2 H2 w t i s y z p => ft.ro env2 σ2 H2 w t i (s.base eb) y z p⟩
  · left
    have hn' : n = ds.length := by omega
    refine ⟨⟨xs', SqL.of r3, by rw [r4.length]; omega⟩, ft.nx _ _ _ (s.base eb) (hend env' (by rw [← hn']; exact p))⟩
/-! ### a dict with int keys -/
def putI (ks : List Int) (ds : List D) (k : Int) (d : D) : List Int × List D := match ks, ds with
  | k0 :: ks, d0 :: ds => if k0 = k then (k0 :: ks, d :: ds) else ((k0 :: (putI ks ds k d).1), (d0 :: (putI ks ds k d).2))
  | [], _ => ([k], [d])
  | ks, [] => (ks, [])
theorem putK_zk {G : Wd} {H : Hp} {v : V} {d : D} (rv : Rep G H v d) (k : Int) : ∀ {ks : List Int} {xs : List V} {ds : List D}, ks.Nodup → xs.length = ks.length → RepA G H xs ds →
    ∃ xs', putK (zk ks xs) (.inl k) v = zk (putI ks ds k d).1 xs' ∧ (putI ks ds k d).1.Nodup ∧ xs'.length = (putI ks ds k d).1.length ∧ RepA G H xs' (putI ks ds k d).2 ∧ (∀ z, z ∈ (putI ks ds k d).1 ↔ z = k ∨ z ∈ ks)
  | [], [], [], _, _, .nil => ⟨[v], rfl, by simp [putI], rfl, .cons rv .nil, by simp [putI]⟩
  | k0 :: ks, x :: xs, d0 :: ds, hn, hl, .cons r t => by
    have hn' := (List.nodup_cons.mp hn)
    obtain ⟨xs', e1, e2, e3, e4, e5⟩ := putK_zk rv k hn'.2 (by simpa using hl) t
    have hz : zk (k0 :: ks) (x :: xs) = (Sum.inl k0, x) :: zk ks xs := rfl
    by_cases hk : k0 = k
    · subst hk
      have e : putI (k0 :: ks) (d0 :: ds) k0 d = (k0 :: ks, d :: ds) := by simp [putI]
      rw [e]
      refine ⟨v :: xs, ?_, hn, hl, .cons rv t, fun z => by simp⟩
      have hno : ∀ (ks : List Int) (xs : List V), k0 ∉ ks → (zk ks xs).map (fun kv => if kv.1 = (Sum.inl k0 : Key) then (kv.1, v) else kv) = zk ks xs := by
        intro ks
        induction ks with
        | nil => intro xs _; rfl
        | cons k1 ks ih =>
          intro xs hm
          cases xs with
          | nil => rfl
          | cons y ys =>
            have ne : ¬ (Sum.inl k1 : Key) = Sum.inl k0 := fun z => hm (by rw [Sum.inl.inj z]; exact List.mem_cons_self)
            show (if (Sum.inl k1 : Key) = Sum.inl k0 then _ else (Sum.inl k1, y)) :: (zk ks ys).map _ = (Sum.inl k1, y) :: zk ks ys
            rw [if_neg ne, ih ys fun h => hm (List.mem_cons_of_mem _ h)]
      rw [hz]
      unfold putK
      have hany : (((Sum.inl k0, x) :: zk ks xs).any fun kv => decide (kv.1 = (Sum.inl k0 : Key))) = true := by simp
      rw [if_pos hany, List.map_cons, hno ks xs hn'.1, if_pos rfl]
      rfl
    · have e : putI (k0 :: ks) (d0 :: ds) k d = (k0 :: (putI ks ds k d).1, d0 :: (putI ks ds k d).2) := by
        show (if k0 = k then _ else _) = _
        rw [if_neg hk]
      rw [e]
      refine ⟨x :: xs', ?_, ?_, by simp [e3], .cons r e4, fun z => ?_⟩
      · have ne : ¬ (Sum.inl k0 : Key) = Sum.inl k := fun z => hk (Sum.inl.inj z)
        have step : putK ((Sum.inl k0, x) :: zk ks xs) (Sum.inl k) v = (Sum.inl k0, x) :: putK (zk ks xs) (Sum.inl k) v := by
          unfold putK
          rw [List.any_cons, decide_eq_false ne, Bool.false_or, List.map_cons, if_neg ne]
          split <;> rfl
        rw [hz, step, e1]
        rfl
      · refine List.nodup_cons.mpr ⟨fun hm => ?_, e2⟩
        rcases (e5 k0).mp hm with z | z
        · exact hk z
        · exact hn'.1 z
      · simp only [List.mem_cons]
        rw [e5]
        constructor
        · rintro (h | h | h)
          · exact .inr (.inl h)
          · exact .inl h
          · exact .inr (.inr h)
        · rintro (h | h | h)
          · exact .inr (.inl h)
          · exact .inl h
          · exact .inr (.inr h)
  | [], _ :: _, _, _, hl, _ => by simp at hl
  | _ :: _, [], _, _, hl, _ => by simp at hl
theorem zk_len {ks : List Int} {xs : List V} : (zk ks xs).length ≤ ks.length := by
  unfold zk
  rw [List.length_zip, List.length_map]
  exact Nat.min_le_left ..
/-- d[k] = e of an own dict with int keys -/
theorem ds_putD (i : Nat) {y : Str} {p p2 : Pos} {ix : Expr} {ad : Addr} {ks : List Int} {ds : List D} (hu : X.A.units + 1 < cLine) (hs : env[i]? = some (.od ad ks ds)) (hz : ks.length < 100000) (h : DE X c env e fun d => DE X c env ix fun z => ∃ k : Int, z = .int k ∧ P.nx (env.set i (.od ad (putI ks ds k d).1 (putI ks ds k d).2)))
    (hN : X.N[i]? = some y := by rfl) (hv : Vis X.env.scope y := by first | exact Or.inl rfl | exact Or.inr (Or.inl rfl) | exact Or.inr (Or.inr rfl))
    (hd : (y == ("__debug__" : Str)) = false := by decide) (hcd : (y == ("__classdict__" : Str)) = false := by decide)
    (hsw : swapsWith e (some (.Subscript (.Name y p) ix p2)) pos.line X.env = pure false := by rfl) : DS X c env (.Assign [.Subscript (.Name y p) ix p2] e pos) P := fun A0 H0 σ H E se ft => by
  obtain ⟨e0, B, h1, h2, sv, h3⟩ := se
  obtain ⟨q1, q2, xs, q3, q4, q5, q6⟩ := sv.sl i _ hs
  refine ofS (ps_dput hu (pe_var hN hv hd hcd) peS peS hsw) (h B σ H _ sv fun v H2 d e2 r h5 => ⟨_, q1, h5 B σ H2 _ (sv.ext e2) fun u H3 d3 e3 r3 ⟨k, hk, q⟩ => ?_⟩)
  subst hk
  rw [r3.int_inv]
  have e23 := e2.trans e3
  obtain ⟨xs', f1, f2, f3, f4, _⟩ := putK_zk (r.mono (Ex.hid e3 B)) k q4 q5 (q6.mono (Ex.hid e23 B))
  refine ⟨ad, _, rfl, DPut.k (k := Sum.inl k) (e23 _ _ q3) (Nat.lt_of_le_of_lt zk_len (Nat.lt_trans hz (by decide))), ?_⟩
  refine ft.nx _ _ _ (se_put (t := .od ad (putI ks ds k d).1 (putI ks ds k d).2) (e0.trans e23) h1 h2 (sv.ext e23) h3 hs (by simp [Sl.adrs]) rfl ⟨q1, q2, xs', by rw [upd_same, f1], f2, f3, ?_⟩) q
  rw [hid_mut q2]
  exact f4
end
/-! ### a def by its body -/
def startE (N : List Str) (ds : List D) : SEnv := ds.map Sl.dat ++ List.replicate (N.length - ds.length) Sl.no
theorem start_get {G : Wd} {B : Addr → Bool} {H : Hp} (n : Nat) : ∀ {vs : List V} {ds : List D}, RepA G (hid B H) vs ds → ∀ (i : Nat) (s : Sl), (ds.map Sl.dat ++ List.replicate n Sl.no)[i]? = some s → SlOk G B H (vs.map some ++ List.replicate n none)[i]? s
  | [], [], .nil, i, s, h => by
    rw [List.map_nil, List.nil_append] at h
    have hm := List.mem_of_getElem? h
    rw [(List.mem_replicate.mp hm).2]
    trivial
  | v :: vs, d :: ds, .cons r t, 0, s, h => by
    simp at h
    subst h
    exact ⟨v, rfl, r⟩
  | v :: vs, d :: ds, .cons r t, i + 1, s, h => start_get n t i s h
theorem start_no {n : Nat} : ∀ {ds : List D} (i : Nat) (s : Sl), (ds.map Sl.dat ++ List.replicate n Sl.no)[i]? = some s → s.adrs = []
  | [], i, s, h => by
    rw [List.map_nil, List.nil_append] at h
    rw [(List.mem_replicate.mp (List.mem_of_getElem? h)).2]
    rfl
  | d :: ds, 0, s, h => by simp at h; subst h; rfl
  | d :: ds, i + 1, s, h => start_no (ds := ds) i s h
/-- the context of a def's body -/
def bx (P : Program) (w : World) (K : PySem.W.Frag) (mg : Str → Option Value) (base : Heap) (N : List Str) (qual : Str) (scope : Scope) (f : Addr) (cd : Value) (A : Around) (outer : List Env) (s : Shared) (H : Hp) (E : XK) : Cx :=
  (cxOf CX0 P w K mg base N qual scope f cd A outer s H E).nox
theorem fn_ok {P : Program} {w : World} {K : PySem.W.Frag} {cA : Cl → Addr} {mg : Str → Option Value} {base : Heap} {x qual : Str} {st : Stmt} {f : Addr} {fd : FuncData} {N ps : List Str} {k : Nat} {Ph : List D → (D → Prop) → Prop}
    (F : FunD K x qual (defArgs st) (defBody st) (defScope st) [] [] f fd) (S : FnScope N ps (defScope st)) (hl : ∀ ds Qd, Ph ds Qd → ds.length = ps.length) (hNp : ps.length ≤ N.length)
    (hb : ∀ (cdv : Value) (A : Around) (outer : List Env) (s : Shared) (H : Hp) (E : XK) (ds : List D) (Qd : D → Prop), Room k (bx P w K mg base N qual (defScope st) f cdv A outer s H E).A → Ph ds Qd →
      DB (bx P w K mg base N qual (defScope st) f cdv A outer s H E) cA (startE N ds) (defBody st) { nx := fun _ => False, rt := fun _ => Qd }) :
    FnOk P w K mg base CX0 (k + 1) f fd ps (spD ⟨P, w, K, cA⟩ Ph) := by
  refine F.ok S (fun vs H Q E h => ?_) (fun cdv A outer s H vs Q E hr h => ?_)
  · obtain ⟨A0, ds, Qd, z, r, p, _⟩ := h
    rw [r.length]
    exact hl ds Qd p
  · obtain ⟨A0, ds, Qd, z, r, p, q⟩ := h
    have hlen := hl ds Qd p
    refine ⟨semB (bx P w K mg base N qual (defScope st) f cdv A outer s H E) (defBody st), PSs.nox pbS, ?_⟩
    have k2 : ∀ a, A0 a = true → A0 a = false → H a = none := fun a h1 h2 => by rw [h1] at h2; cases h2
    refine hb cdv A outer s H E ds Qd hr p A0 H _ H _ ⟨Evl.Ex.refl H, A0, fun _ h => h, k2, ?_, ?_⟩ ⟨fun _ _ _ _ h => h.elim, fun _ _ _ _ h => h.elim, fun _ _ _ _ h => h.elim, fun _ _ H2 v d s r2 q2 => q v H2 d s.ex0 r2 q2, fun _ _ _ _ _ _ _ _ _ h => h.elim⟩
    · unfold L2.start startE
      rw [r.length]
      refine ⟨z, by simp [r.length], fun i s h => start_get _ r i s h, fun i j s t a h1 h2 m1 m2 => ?_⟩
      rw [start_no i s h1] at m1
      cases m1
    · intro i s a h ha
      rw [start_no i s h] at ha
      cases ha
/-- a def of the text stands behind the module's name -/
theorem fn_glob {P : Program} {w : World} {K : PySem.W.Frag} {cA : Cl → Addr} {mg : Str → Option Value} {base : Heap} {x q qual : Str} {st : Stmt} {f : Addr} {fd : FuncData} {ps : List Str} {k : Nat} {Ph : List D → (D → Prop) → Prop}
    (F : FunD K x qual (defArgs st) (defBody st) (defScope st) [] [] f fd) (ok : FnOk P w K mg base CX0 k f fd ps (spD ⟨P, w, K, cA⟩ Ph)) (hm : mg q = some (.ref f)) (hb : Binds K fd ps []) : FnG P w K cA mg base q k Ph :=
  ⟨f, fd, ps, ok, hm, F.kp, hb⟩
end DD
/-! set(list) and sorted(set(..)): ints, tuples of ints (up to 64 of them) -/
namespace DD
open PySem PySem.Spec PyProof.Rows L2
section
variable {P : Program} {w : World}
/-- the object that a new set is -/
abbrev newSet (w : World) : Obj := ⟨.type "set", none, .set #[] 0 (.fresh 0 0 (!w.params.followText "set-order")), #[]⟩
/-- the filling loop over n items leads to a heap of which Res holds -/
def FillsTo (P : Program) (w : World) (h0 : Heap) (n : Nat) (Pv : Nat → Value → Prop) (Res : Heap → Prop) : Prop :=
  ∀ (A' : Around) (I : Addr) (fp wr : List Addr) (G : Array GenState → Array GenState → Prop) (St : Nat → Shared → Prop) (R : Result → Shared → Prop) (s1 : Shared),
    WalksS P w A'.in1 I fp wr G n Pv St → h0.objs.size ∉ fp → (∀ b ∈ wr, h0.get? b = none) → A'.in1.units < cLine → St 0 s1 →
    (∀ b o, h0.get? b = some o → s1.heap.get? b = some o) → s1.heap.get? h0.objs.size = some (newSet w) →
    (∀ s2, Moved (h0.objs.size :: wr) G s1 s2 → Res s2.heap → (∀ b o, h0.get? b = some o → s2.heap.get? b = some o) → R (.ok (.ret .none)) s2) →
    codeAny (model P w) A' (.builtin "set.update.loop" ⟨[.ref h0.objs.size, .ref I], []⟩) R s1
variable {A : Around} {E : Value → Shared → Prop} {s : Shared}
theorem none_above (h : Heap) {b : Addr} (hb : h.objs.size ≤ b) : h.get? b = none := by
  cases q : h.get? b with
  | none => rfl
  | some o => exact absurd (Nat.lt_of_lt_of_le (Heap.lt_size q) hb) (Nat.lt_irrefl _)
theorem set_of_list {l : Addr} {items : Array Value} {Res : Heap → Prop} {Q : Value → Shared → Prop} (hh : A.handled = none) (hu : A.units + 3 < cLine) (hl : s.heap.IsList l items)
    (loop : FillsTo P w s.heap items.size (fun i v => items[i]? = some v) Res)
    (h : ∀ (h' : Heap) (tk : Nat), Res h' → (∀ b o, s.heap.get? b = some o → h'.get? b = some o) → Q (.ref s.heap.objs.size) { s with heap := h', toks := tk }) :
    wpAny (model P w) A (call (.type "set") [.ref l]) Q E s := by
  obtain ⟨cl, mtl, mro⟩ := F.called_set.mro
  have made := F.called_set.made
  have subs := F.called_set.sub
  refine wpAny_call (codeAny_of_tree ?_)
  show wpAny _ _ (callAny (.type "set") _) _ _ _
  refine wpAny_pure ⟨Code.quiet_builtin _ (by decide +kernel), codeAny_builtin F.entry_type_call ?_⟩
  rw [Around.under_plain (weight_type_call_type "set" [.ref l] []) rfl]
  have nt := F.called_set.notType
  have cc := F.called_set.canCreate
  have tc := F.typeCall_set_1 (.ref l)
  repeat (any_goals (first | assumption | wp_step))
  refine codeAny_mono (code_set_led1 (.ref l) (E := E) (Q₁ := fun ob s1 => ob = .ref s.heap.objs.size ∧ s1 = { s with heap := s.heap.push (newSet w) }) ⟨rfl, rfl⟩) fun r s1 hr => ?_
  cases r with
  | error e => exact hr
  | ok fl =>
    cases fl with
    | next => exact hr.elim
    | brk => exact hr.elim
    | cont => exact hr.elim
    | ret ob =>
      obtain ⟨rfl, rfl⟩ := hr
      have atS : (s.heap.push (newSet w)).get? s.heap.objs.size = some (newSet w) := Heap.get?_push_size _ rfl
      have tyS : Shared.TypeIs { s with heap := s.heap.push (newSet w) } (.ref s.heap.objs.size) "set" := ⟨_, atS, rfl⟩
      have il := F.called_set.init.lookup
      have ib := F.called_set.init.bind (.ref s.heap.objs.size)
      repeat (any_goals (first | assumption | wp_step))
      refine codeAny_mono (codeAny_call_builtin (R := wants (fun r s2 => r = .none ∧ ∃ h' tk, s2 = { s with heap := h', toks := tk } ∧ Res h' ∧ ∀ b o, s.heap.get? b = some o → h'.get? b = some o) E)
        F.called_set.init.plain F.entry_set_init (check_set_init_1 tyS ?_)) fun r2 s2 hr2 => ?_
      · obtain ⟨⟨lc, ld, ldat, lsl⟩, hol, lcls, ln, ldt⟩ := hl
        simp only at lcls ldt
        subst lcls; subst ldt
        have hol2 : (s.heap.push (newSet w)).get? l = some { cls := .type "list", dict := ld, data := .seq items ln, slots := lsl } := Heap.get?_push_of_some _ hol
        have sb1 := F.sub_list_set
        have sb2 := F.sub_list_frozenset
        have nd : (Value.type "list" == Value.type "dict") = false := by decide
        have isl : (s.heap.push (newSet w)).IsList l items := ⟨_, hol2, rfl, ln, rfl⟩
        unfold Builtin.«set.__init__» noKeywords Builtin.Frozenset.updateFrom
        generalize hPI : pyIter = PI
        wp_walk
        subst hPI
        refine wpAny_pyIter_list isl (wpAny_bind (wpAny_runValue ?_))
        have lS : l < s.heap.objs.size := Heap.lt_size hol
        have hh' : A.in1.in1.in1.handled = none := by simp [hh]
        have sz1 : (s.heap.push (newSet w)).objs.size = s.heap.objs.size + 1 := Heap.size_push ..
        have neI : l ≠ (s.heap.push (newSet w)).objs.size := by rw [sz1]; exact Nat.ne_of_lt (Nat.lt_succ_of_lt lS)
        have out : s.heap.objs.size ∉ [(s.heap.push (newSet w)).objs.size, l] := by
          rw [sz1]; simp only [List.mem_cons, List.not_mem_nil, or_false, not_or]; exact ⟨Nat.ne_of_lt (Nat.lt_succ_self _), Nat.ne_of_gt lS⟩
        refine loop _ _ _ _ _ _ _ _ ((Walks.list hh' _ l neI items).toS) out (fun b hb => none_above _ (by rw [List.mem_singleton.mp hb, sz1]; exact Nat.le_succ _)) (by exact hu)
          ⟨⟨_, Heap.get?_push_size _ rfl, rfl, rfl⟩, isl.push _⟩ (fun b o e => Heap.get?_push_of_some _ (Heap.get?_push_of_some _ e)) (Heap.get?_push_of_some _ atS) fun s3 mv res kp => ?_
        obtain ⟨h3, g3, d3, tk3, os3⟩ := s3
        have eg : g3 = s.gens := mv.gens
        have ed : d3 = s.drawn := mv.drawn
        have eo : os3 = s.os := mv.os
        subst eg; subst ed; subst eo
        show wpAny _ _ _ _ _ _
        refine wpAny_pure ?_
        show wpAny _ _ (ret Value.none) _ _ _
        exact wpAny_pure ⟨rfl, h3, tk3, rfl, res, kp⟩
      · cases r2 with
        | error e => exact hr2
        | ok fl2 =>
          cases fl2 with
          | next => exact hr2.elim
          | brk => exact hr2.elim
          | cont => exact hr2.elim
          | ret r =>
            obtain ⟨rfl, h3, tk3, rfl, res, kp⟩ := hr2
            repeat (any_goals (first | assumption | wp_step))
            exact h _ _ res kp
/-! ### ints -/
theorem fills_ints {h0 : Heap} {items : Array Value} {ns : List Int} (hi : IntsAre items.toList ns) (hb : ns.length + 1 < scanBound) :
    FillsTo P w h0 items.size (fun i v => items[i]? = some v) (fun h' => ∃ k, SetR w h' h0.objs.size (fun j => decide (j ∈ ns)) k ∧ k ≤ ns.length) := by
  intro A' I fp wr G St R s1 W nf nw hu st kp at_ fin
  have hsz : items.size = ns.length := by have q := hi.length; rw [Array.length_toList] at q; exact q
  have val : ∀ (i : Nat) (v : Value), items[i]? = some v → ∃ k t, ns[i]? = some k ∧ v = .int k t := fun i v hv => by
    have hi2 : i < ns.length := by rw [← hsz]; exact (Array.getElem?_eq_some_iff.mp hv).1
    obtain ⟨t, e⟩ := IntsAre.int_at hi i v (by rw [Array.getElem?_toList]; exact hv)
    refine ⟨ns[i], t, List.getElem?_eq_getElem hi2, ?_⟩
    rw [e, List.getD_eq_getElem?_getD, List.getElem?_eq_getElem hi2]
    rfl
  refine set_update_ints W h0.objs.size nf ns hsz hb val (items.size - 0) 0 s1 rfl (Nat.zero_le _) st ⟨0, Nat.le_refl 0, setR_new_at at_⟩ fun s2 k mv hk hS => ?_
  refine fin s2 mv ⟨k, hS, by omega⟩ fun b o e => mv.heap b o (fun hm => ?_) (kp b o e)
  rcases List.mem_cons.mp hm with z | z
  · rw [z, none_above h0 (Nat.le_refl _)] at e; cases e
  · rw [nw b z] at e; cases e
/-! ### tuples of ints, up to 64 -/
/-- the set at a holds the rows L (what sorted asks of it) -/
structure Set64 (P : Program) (w : World) (h : Heap) (a : Addr) (L : List (Addr × List Int)) : Prop where
  ex : ∃ (es : Array (Int × Value)) (ep : Nat) (t : SetTable), (∃ o, h.get? a = some o ∧ o.ExactSet ∧ o.data = .set es ep t) ∧ es.toList = rowsOf P w L ∧ t.fits es.size = true ∧ Ris t.place.toList ∧
    (w.params.followText "set-order" = true ∨ t.led = true)
  nd : (L.map (·.2)).Nodup
  few : L.length ≤ 64
theorem s64_of {h : Heap} {a : Addr} {L : List (Addr × List Int)} {es : Array (Int × Value)} {ep : Nat} {t : SetTable} {s0 : Shared} (R : SetTR P w h a L es ep t) (hs : s0.heap = h) : Set64 P w h a L := by
  subst hs
  exact ⟨⟨es, ep, t, R.ob, R.rows, R.fits, R.tab.ris, R.led⟩, R.nd, Nat.le_of_lt R.few⟩
/-- the 64th row is put in: the table has 128 places and is not too full -/
theorem add64 {a : Addr} {L : List (Addr × List Int)} {es : Array (Int × Value)} {ep : Nat} {t : SetTable} (R : SetTR P w s.heap a L es ep t) {x : Addr} {k : List Int} (hx : IsT P w s.heap k x) (hu : A.units < cLine) (h63 : L.length = 63) {Q : Bool → Shared → Prop}
    (hQ : ∀ b h' L', Heap.SameBut a s.heap h' → Set64 P w h' a L' → (k ∈ L.map (·.2) → L' = L) → (k ∉ L.map (·.2) → L'.Perm ((x, k) :: L)) → Q b { s with heap := h' }) :
    wpAny (model P w) A (setAddHashed a (.ref x) (thash P w k)) Q E s := by
  obtain ⟨o, ho, hex, hd⟩ := R.ob
  have room := R.room
  have mask : t.mask = 127 := by
    rcases R.tab.mok with e | e | e <;> omega
  unfold setAddHashed
  refine wpAny_holding ?_
  rw [show (100000 : Nat) = 99999 + 1 from rfl, setAddHashedIn_succ]
  refine wpAny_bind (wpAny_setState_of ho hd R.fits ?_)
  dsimp only
  refine wp_if_neg (by simp [byScan, Value.scannable]) ?_
  try refine wpAny_bind (wpAny_pure ?_)
  refine wpAny_bind (search_at R hx hu (fun hm => ?_) fun K hm hK hb => ?_)
  · dsimp only
    exact wpAny_pure (hQ false s.heap L (Heap.SameBut.refl a s.heap) (s64_of (s0 := s) R rfl) (fun _ => rfl) fun z => absurd hm z)
  · dsimp only
    refine wpAny_bind (wpAny_setState_of ho hd R.fits ?_)
    dsimp only
    obtain ⟨q1, q2, q3, q4, q5, q6, q7, q8, q9⟩ := R.tab.put hK hb
    have pl : (t.put (way t.mask (thash P w k) K)).1.plain = true := by rw [q6]; exact R.plain
    generalize hpt : t.put (way t.mask (thash P w k) K) = pt at q1 q3 q4 q5 q6 q7 q8 q9 pl ⊢
    obtain ⟨t1, p⟩ := pt
    dsimp only at q1 q3 q4 q5 q6 q7 q8 q9 pl ⊢
    subst q1
    first
      | (refine wpAny_bind ?_; refine wp_if_pos pl ?_; refine hashBy_tup hx ?_)
      | refine wp_if_pos pl (wpAny_bind (hashBy_tup hx ?_))
    simp only [if_true]
    have rows1 : (SetTable.insertAt es (SetTable.below t.place (way t.mask (thash P w k) K)) (thash P w k, Value.ref x)).toList = rowsOf P w (L.take (SetTable.below t.place (way t.mask (thash P w k) K)) ++ (x, k) :: L.drop (SetTable.below t.place (way t.mask (thash P w k) K))) := by
      rw [SetTable.toList_insertAt, rows_put, R.rows]
    generalize SetTable.below t.place (way t.mask (thash P w k) K) = p at q2 q3 rows1 ⊢
    have pm := put_perm L p (x, k)
    have len1 : (L.take p ++ (x, k) :: L.drop p).length = 64 := by rw [pm.length_eq, List.length_cons, h63]
    have nd1 : ((L.take p ++ (x, k) :: L.drop p).map (·.2)).Nodup := by
      refine (pm.map (·.2)).nodup_iff.mpr ?_
      rw [List.map_cons]
      exact List.nodup_cons.mpr ⟨hm, R.nd⟩
    have es1z : (SetTable.insertAt es p (thash P w k, Value.ref x)).size = 64 := by
      have h := congrArg List.length rows1
      unfold rowsOf at h
      rw [Array.length_toList, List.length_map, len1] at h
      exact h
    have hpl1 : t1.place.size = 64 := by
      have h := q3.sz
      rw [List.length_append, List.length_cons, List.length_take, List.length_drop, List.length_map, h63] at h
      rw [List.length_map, h63] at q2
      omega
    generalize SetTable.insertAt es p (thash P w k, Value.ref x) = es1 at rows1 es1z ⊢
    generalize L.take p ++ (x, k) :: L.drop p = L1 at pm len1 nd1 rows1
    have nf : ¬ t1.tooFull = true := fun hf => by
      unfold SetTable.tooFull at hf
      rw [decide_eq_true_eq, q9, List.length_map, h63, q4, mask] at hf
      omega
    refine wpAny_bind (wpAny_storeSet_of ho hd ?_ (by rw [es1z, sizeLine_eq]; omega))
    have sb : Heap.SameBut a s.heap (s.heap.update a (Obj.putSet es1 t1)) := Heap.SameBut.update ..
    have ho1 := store_at (es' := es1) (t' := t1) ho hd
    generalize s.heap.update a (Obj.putSet es1 t1) = h1 at sb ho1 ⊢
    have ld1 : w.params.followText "set-order" = true ∨ t1.led = true := by rw [q5]; exact R.led
    have ft1 : t1.fits es1.size = true := by
      unfold SetTable.fits
      simp [hpl1, es1z, q3.dm, q4, mask, SetTable.fill]
    first
      | refine wp_if_neg (by simp [nf]) ?_
      | (refine wpAny_bind ?_; refine wp_if_neg (by simp [nf]) ?_; refine wpAny_pure ?_)
    exact wpAny_pure (hQ true h1 L1 sb ⟨⟨es1, ep + 1, t1, ⟨_, ho1, ⟨hex.1, hex.2.1, hex.2.2⟩, rfl⟩, rows1, ft1, q3.ris, ld1⟩, nd1, by omega⟩ (fun z => absurd z hm) fun _ => pm)
end
end DD
namespace DD
open PySem PySem.Spec PyProof.Rows L2
open Evl (Ex)
section
variable {P : Program} {w : World} {A : Around} {E : Value → Shared → Prop} {s : Shared}
/-- the loop's word: fewer than 64 rows as the library has them, at the end up to 64 -/
theorem fills_rows {h0 : Heap} {items : Array Value} (ks : List (Addr × List Int)) (hit : items.toList = ks.map fun p => Value.ref p.1) (hk : ∀ p ∈ ks, IsT P w h0 p.2 p.1) (hz : ks.length ≤ 64) :
    FillsTo P w h0 items.size (fun i v => items[i]? = some v) (fun h' => ∃ L, Set64 P w h' h0.objs.size L ∧ Got ks ks.length L) := by
  intro A' I fp wr G St R s1 W nf nw hu st kp at_ fin
  have hn : items.size = ks.length := by
    have q := congrArg List.length hit
    rw [Array.length_toList, List.length_map] at q
    exact q
  have nS : h0.get? h0.objs.size = none := none_above h0 (Nat.le_refl _)
  have nSw : h0.objs.size ∉ wr := fun h => nf (W.sub _ h)
  have wsub : ∀ b ∈ wr, b ∈ h0.objs.size :: wr := fun b hb => List.mem_cons_of_mem _ hb
  have moved : ∀ {s s' : Shared}, Moved wr G s s' → (∀ b o, h0.get? b = some o → s.heap.get? b = some o) → ∀ b o, h0.get? b = some o → s'.heap.get? b = some o := fun hm k b o e =>
    hm.heap b o (fun hb => by rw [nw b hb] at e; cases e) (k b o e)
  have val : ∀ (i : Nat) (v : Value), items[i]? = some v → ∃ p, ks[i]? = some p ∧ v = .ref p.1 := fun i v hv => by
    have q : items.toList[i]? = some v := by rw [Array.getElem?_toList]; exact hv
    rw [hit, List.getElem?_map] at q
    obtain ⟨p, hp, e⟩ := Option.map_eq_some_iff.mp q
    exact ⟨p, hp, e.symm⟩
  -- at the end
  have last : ∀ (s : Shared) (L : List (Addr × List Int)), St items.size s → (∀ b o, h0.get? b = some o → s.heap.get? b = some o) → Set64 P w s.heap h0.objs.size L → Got ks ks.length L →
      (∀ s2, Moved (h0.objs.size :: wr) G s s2 → (∃ L, Set64 P w s2.heap h0.objs.size L ∧ Got ks ks.length L) → (∀ b o, h0.get? b = some o → s2.heap.get? b = some o) → R (.ok (.ret .none)) s2) →
      codeAny (model P w) A' (.builtin "set.update.loop" ⟨[.ref h0.objs.size, .ref I], []⟩) R s := by
    intro s L hst k hS g fin
    refine codeAny_builtin F.entry_set_update_loop ?_
    rw [Around.under_plainId F.plain_set_update_loop _]
    show wpAny _ A'.in1 (pyNext (.ref I) >>= _) _ _ s
    refine wpAny_bind (W.done s _ _ hst fun s' hm => ?_)
    show wpAny _ A'.in1 (ret Value.none) _ _ s'
    obtain ⟨es, ep, t, ⟨o, ho, r⟩, q⟩ := hS.ex
    exact wpAny_pure (fin s' (hm.mono wsub) ⟨L, ⟨⟨es, ep, t, ⟨o, hm.heap _ o nSw ho, r⟩, q⟩, hS.nd, hS.few⟩, g⟩ (moved hm k))
  -- one turn: the row p comes; what is shown behind it
  have turn : ∀ (i : Nat) (s : Shared) (L : List (Addr × List Int)) es ep t, i < items.size → St i s → (∀ b o, h0.get? b = some o → s.heap.get? b = some o) → SetTR P w s.heap h0.objs.size L es ep t → Got ks i L →
      (∀ s2, Moved (h0.objs.size :: wr) G s s2 → (∃ L, Set64 P w s2.heap h0.objs.size L ∧ Got ks ks.length L) → (∀ b o, h0.get? b = some o → s2.heap.get? b = some o) → R (.ok (.ret .none)) s2) →
      (∀ (s' : Shared) (p : Addr × List Int), ks[i]? = some p → SetTR P w s'.heap h0.objs.size L es ep t → IsT P w s'.heap p.2 p.1 → ∀ Q : Bool → Shared → Prop,
        (∀ b h' L', Heap.SameBut h0.objs.size s'.heap h' → Got ks (i + 1) L' → ((∃ es ep t, SetTR P w h' h0.objs.size L' es ep t) ∧ i + 1 < 64 ∨ Set64 P w h' h0.objs.size L' ∧ i + 1 = items.size) → Q b { s' with heap := h' }) →
        wpAny (model P w) A'.in1 (setAddHashed h0.objs.size (.ref p.1) (thash P w p.2)) Q (fun e s' => R (.error e) s') s') →
      (∀ (s3 : Shared) L', St (i + 1) s3 → (∀ b o, h0.get? b = some o → s3.heap.get? b = some o) → Got ks (i + 1) L' → ((∃ es ep t, SetTR P w s3.heap h0.objs.size L' es ep t) ∧ i + 1 < 64 ∨ Set64 P w s3.heap h0.objs.size L' ∧ i + 1 = items.size) →
        (∀ s2, Moved (h0.objs.size :: wr) G s3 s2 → (∃ L, Set64 P w s2.heap h0.objs.size L ∧ Got ks ks.length L) → (∀ b o, h0.get? b = some o → s2.heap.get? b = some o) → R (.ok (.ret .none)) s2) →
        codeAny (model P w) A' (.builtin "set.update.loop" ⟨[.ref h0.objs.size, .ref I], []⟩) R s3) →
      codeAny (model P w) A' (.builtin "set.update.loop" ⟨[.ref h0.objs.size, .ref I], []⟩) R s := by
    intro i s L es ep t hi hst k hS g fin add next
    refine codeAny_builtin F.entry_set_update_loop ?_
    rw [Around.under_plainId F.plain_set_update_loop _]
    show wpAny _ A'.in1 (pyNext (.ref I) >>= _) _ _ s
    refine wpAny_bind (W.item i s _ _ hi hst fun v s' hP hst' hm => ?_)
    obtain ⟨p, hp, rfl⟩ := val i v hP
    have k' := moved hm k
    have sub : ∀ q ∈ L, q ∈ ks := fun q hq => List.mem_of_mem_take (g.sub q hq)
    have hS' : SetTR P w s'.heap h0.objs.size L es ep t := hS.keep (fun o e => hm.heap _ o nSw e) fun q hq => isT_keep (hk q (sub q hq)) k'
    have hx : IsT P w s'.heap p.2 p.1 := isT_keep (hk p (List.mem_of_getElem? hp)) k'
    show wpAny _ A'.in1 (holding [Value.ref p.1] (setAdd h0.objs.size (.ref p.1)) >>= _) _ _ s'
    refine wpAny_bind (wpAny_holding ?_)
    unfold setAdd
    refine wpAny_holding (wpAny_bind (wpAny_pyHash_tuple hu hx ?_))
    refine add { s' with toks := s'.toks + (p.2.length + 1) } p hp hS' hx _ fun b h' L' sb g' alt => ?_
    have k2 : ∀ b o, h0.get? b = some o → h'.get? b = some o := fun b o e => (sb.2 b (fun z => by rw [z, nS] at e; cases e)).trans (k' b o e)
    have back : ∀ {b : Addr} {o : Obj}, b ≠ h0.objs.size → s'.heap.get? b = some o → h'.get? b = some o := fun {b o} hb e => (sb.2 b hb).trans e
    refine wpAny_pure ⟨plainId_quiet F.plain_set_update_loop _, next _ L' (W.frame _ s' _ _ hst' (Nat.le_add_right _ _) fun b hb o e => back (fun z => nf (by rw [← z]; exact hb)) e) k2 g' alt fun s2 m2 res kp2 => ?_⟩
    exact fin s2 (Moved.trans W.gtrans ((hm.mono wsub).then_heap (Nat.le_add_right _ _) fun b o hb e => back (fun z => hb (by rw [z]; exact List.mem_cons_self)) e) m2) res kp2
  -- all turns
  have all : ∀ (n i : Nat) (s : Shared) (L : List (Addr × List Int)), items.size - i = n → i ≤ items.size → St i s → (∀ b o, h0.get? b = some o → s.heap.get? b = some o) → Got ks i L →
      ((∃ es ep t, SetTR P w s.heap h0.objs.size L es ep t) ∧ i < 64 ∨ Set64 P w s.heap h0.objs.size L ∧ i = items.size) →
      (∀ s2, Moved (h0.objs.size :: wr) G s s2 → (∃ L, Set64 P w s2.heap h0.objs.size L ∧ Got ks ks.length L) → (∀ b o, h0.get? b = some o → s2.heap.get? b = some o) → R (.ok (.ret .none)) s2) →
      codeAny (model P w) A' (.builtin "set.update.loop" ⟨[.ref h0.objs.size, .ref I], []⟩) R s := by
    intro n
    induction n with
    | zero =>
      intro i s L h1 h2 hst k g alt fin
      have e : i = items.size := by omega
      subst e
      rw [hn] at g
      rcases alt with ⟨⟨es, ep, t, hS⟩, _⟩ | ⟨hS, _⟩
      · exact last s L hst k (s64_of (s0 := s) hS rfl) g fin
      · exact last s L hst k hS g fin
    | succ n ih =>
      intro i s L h1 h2 hst k g alt fin
      have hi : i < items.size := by omega
      obtain ⟨⟨es, ep, t, hS⟩, h64⟩ : (∃ es ep t, SetTR P w s.heap h0.objs.size L es ep t) ∧ i < 64 := by
        rcases alt with x | ⟨_, x⟩
        · exact x
        · omega
      refine turn i s L es ep t hi hst k hS g fin (fun s' p hp hS' hx Q hQ => ?_) fun s3 L' hst3 k3 g3 alt3 fin3 => ih (i + 1) s3 L' (by omega) hi hst3 k3 g3 alt3 fin3
      have gl := g.len
      have got : ∀ L', (p.2 ∈ L.map (·.2) → L' = L) → (p.2 ∉ L.map (·.2) → L'.Perm ((p.1, p.2) :: L)) → Got ks (i + 1) L' := fun L' c1 c2 => by
        rcases Classical.em (p.2 ∈ L.map (·.2)) with m | m
        · rw [c1 m]; exact g.same hp m
        · exact g.more hp (c2 m)
      by_cases h62 : L.length + 1 < 64
      · refine add_at hS' hx hu h62 fun b h' L' es' ep' t' sb hS2 c1 c2 => hQ b h' L' sb (got L' c1 c2) ?_
        by_cases h3 : i + 1 < 64
        · exact .inl ⟨⟨es', ep', t', hS2⟩, h3⟩
        · exact .inr ⟨s64_of (s0 := { s' with heap := h' }) hS2 rfl, by omega⟩
      · refine add64 hS' hx hu (by have := hS.few; omega) fun b h' L' sb hS2 c1 c2 => hQ b h' L' sb (got L' c1 c2) (.inr ⟨hS2, by omega⟩)
  exact all (items.size - 0) 0 s1 [] rfl (Nat.zero_le _) st kp (Got.zero ks) (.inl ⟨⟨#[], 0, _, setTR_fresh at_⟩, by omega⟩) fin
/-! ### sorted of such a set -/
/-- the order of rows: by their code -/
abbrev rk (h : Heap) (v : Value) : Int := TS.code 16 (TS.intsOf h v)
def ltR (h : Heap) (v u : Value) : Bool := decide (rk h v < rk h u)
theorem swo_rk (h : Heap) : SrtO.Swo (ltR h) := by
  refine ⟨fun x y a => ?_, fun x y z a b => ?_⟩
  · have a := of_decide_eq_true a
    exact decide_eq_false (by omega)
  · have a := of_decide_eq_false a
    have b := of_decide_eq_false b
    exact decide_eq_false (by omega)
theorem rows_cmp {d : Nat} {vs : List Value} {h0 : Heap} (x : TS.TupsOk s.heap d 16 vs) (hr : ∀ v ∈ vs, TS.intsOf h0 v = TS.intsOf s.heap v) : SrtO.Cmp P w A s (tuples' true) (fun p => p.1 ∈ vs) (SrtO.lt2 (ltR h0)) := by
  intro p q hp hq
  have e1 := hr _ hp
  have e2 := hr _ hq
  obtain ⟨ns, tp, lp, bp⟩ := x _ hp
  obtain ⟨ms, tq, lq, bq⟩ := x _ hq
  have i1 := tp.ints
  have i2 := tq.ints
  obtain ⟨a, xs, f1, ⟨o, ho, hc, n, hd⟩, i⟩ := tp
  obtain ⟨b, ys, f2, ⟨o', ho', hc', n', hd'⟩, i'⟩ := tq
  have res : decide (TS.code 16 ns < TS.code 16 ms) = ltR h0 p.1 q.1 := by
    unfold ltR rk
    rw [e1, e2, i1, i2]
  rw [f1, f2]
  refine PySem.W.kat_lt ho hd ho' hd' ?_
  have sz : decide (xs.size < ys.size) = false := by
    have l1 := i.length
    have l2 := i'.length
    rw [Array.length_toList] at l1 l2
    exact decide_eq_false (by omega)
  rw [sz]
  exact TS.lex_ints 0 i i' (by omega) bp bq ⟨rfl, res⟩
theorem rows_sortable {d a : Nat} {vs : List Value} (hd : 1 ≤ d) (h2 : 2 ≤ vs.length) (x : TS.TupsOk s.heap d 16 vs) (ha : ∀ o, s.heap.get? a = some o → o.cls ≠ .type "tuple") : SrtO.SortableO P w A s a vs (ltR s.heap) := by
  intro h' keep
  have kt : ∀ b o, s.heap.get? b = some o → o.cls = .type "tuple" → h'.get? b = some o := fun b o e hc => keep b o (fun z => by subst z; exact ha o e hc) e
  have x' : TS.TupsOk h' d 16 vs := x.keeps kt
  obtain ⟨fs, k, hl, hi⟩ := TS.firsts_of hd vs x'
  refine ⟨tuples' true, fun Q E hq => ?_, rows_cmp (s := { s with heap := h' }) x' fun v hv => ?_⟩
  · refine PySem.W.kat_kind (T := Value.type "int") k (by omega) (fun f hf => ?_) rfl ?_
    · obtain ⟨n, t, rfl⟩ := hi f hf
      exact PySem.W.Looks.of_pure rfl
    · have e : (Value.type "int" != Value.type "tuple") = true := by first | decide +kernel | rfl | decide
      rw [e]
      exact hq
  · obtain ⟨ns, t, _⟩ := x v hv
    rw [t.ints]
    exact (t.keeps kt).ints.symm
theorem two_first {α : Type} {l : List α} (h : 2 ≤ l.length) : ∃ p q r, l = p :: q :: r := match l, h with
  | p :: q :: r, _ => ⟨p, q, r, rfl⟩
theorem nodup_map {α β : Type} {f : α → β} {l : List α} (h : (l.map f).Nodup) : l.Nodup := List.Pairwise.of_map f (fun _ _ hne e => hne (congrArg f e)) h
theorem sorted64 {a : Addr} {L : List (Addr × List Int)} {d : Nat} {Q : Value → Shared → Prop} (R : Set64 P w s.heap a L) (tup : ∀ p ∈ L, IsT P w s.heap p.2 p.1) (hh : A.handled = none) (hB : ∀ p ∈ L, p.2.length = d ∧ TS.Bd 16 p.2)
    (hQ : ∀ s' p (out : Array Value) (k : Nat) (L' : List (Addr × List Int)), (∀ b o, s.heap.get? b = some o → s'.heap.get? b = some o) → s'.gens = s.gens → s'.os = s.os → s.heap.objs.size ≤ p → s'.heap.get? p = some (seqObj "list" out k) →
      out.toList = L'.map (fun q => Value.ref q.1) → L'.Perm L → L'.Pairwise (fun q r => TS.code 16 q.2 ≤ TS.code 16 r.2) → Q (.ref p) s') :
    wpAny (model P w) A (call (.builtin "sorted") [.ref a]) Q E s := by
  obtain ⟨es, ep, t, ⟨o, ho, hex, hd⟩, rows, fits, ris, led⟩ := R.ex
  have few := R.few
  have ezl : es.size = L.length := by
    have q := congrArg List.length rows
    unfold rowsOf at q
    rw [Array.length_toList, List.length_map] at q
    exact q
  refine Calls.call_function_entry kind_sorted plain_sorted entry_sorted (args_sorted1 _) ?_
  unfold Builtin.«sorted»
  refine wpAny_bind (m := checkCount "sorted" 1 1 _) (wpAny_pure ?_)
  refine wpAny_bind (collect_set (A := A.in1) hh ⟨o, ho, hex.1, hd⟩ fits (by unfold scanBound; omega) ris led fun s1 vs k1 hz g1 o1 pm => ?_)
  have vals : es.toList.map (·.2) = L.map fun q => Value.ref q.1 := by
    rw [rows]
    unfold rowsOf
    rw [List.map_map]
    rfl
  rw [vals] at pm
  have one : ∀ q ∈ L, ∀ r ∈ L, q.1 = r.1 → q = r := fun q hq r hr e => by
    have a1 := tup q hq
    rw [e] at a1
    exact Prod.ext e (a1.inj (tup r hr))
  -- a list of these references, as rows
  have back : ∀ us : List Value, (∀ v ∈ us, ∃ q ∈ L, v = Value.ref q.1) → ∃ L1 : List (Addr × List Int), us = L1.map (fun q => Value.ref q.1) ∧ ∀ q ∈ L1, q ∈ L := by
    intro us
    induction us with
    | nil => intro _; exact ⟨[], rfl, fun q hq => (by cases hq)⟩
    | cons v us ih =>
      intro hv
      obtain ⟨q, hq, e⟩ := hv v List.mem_cons_self
      obtain ⟨L1, e1, hs⟩ := ih fun u hu => hv u (List.mem_cons_of_mem _ hu)
      refine ⟨q :: L1, by rw [List.map_cons, e, e1], fun r hr => ?_⟩
      rcases List.mem_cons.mp hr with z | z
      · rw [z]; exact hq
      · exact hs r z
  have nL : L.Nodup := nodup_map R.nd
  have permL : ∀ L1 : List (Addr × List Int), (∀ q ∈ L1, q ∈ L) → (L1.map (fun q => Value.ref q.1)).Perm (L.map fun q => Value.ref q.1) → L1.Perm L := by
    intro L1 hs pm1
    have nr : (L.map fun q => Value.ref q.1).Nodup := by
      refine List.pairwise_map.mpr (List.Pairwise.imp_of_mem (fun {q r} hq hr hne e => ?_) nL)
      injection e with e
      exact hne (one q hq r hr e)
    refine (List.perm_ext_iff_of_nodup (nodup_map (pm1.nodup_iff.mpr nr)) nL).mpr fun q => ⟨hs q, fun hq => ?_⟩
    obtain ⟨r, hr, e⟩ := List.mem_map.mp (pm1.mem_iff.mpr (List.mem_map.mpr ⟨q, hq, rfl⟩))
    injection e with e
    rw [← one r (hs r hr) q hq e]
    exact hr
  have vlen : vs.length ≤ 64 := by rw [pm.length_eq, List.length_map]; exact few
  refine wpAny_bind (wpAny_newList ?_ (by rw [sizeLine_eq]; omega))
  have hoL : (s1.heap.push (seqObj "list" vs.toArray 0)).get? s1.heap.objs.size = some (seqObj "list" vs.toArray 0) := Heap.get?_push_size _ rfl
  have tk : ∀ q ∈ L, TS.TupInts (s1.heap.push (seqObj "list" vs.toArray 0)) (.ref q.1) q.2 := fun q hq => tupInts_of (P := P) (w := w) (isT_keep (tup q hq) fun b u e => Heap.get?_push_of_some _ (k1 b u e))
  have x : TS.TupsOk (s1.heap.push (seqObj "list" vs.toArray 0)) d 16 vs := fun v hv => by
    obtain ⟨q, hq, e⟩ := List.mem_map.mp (pm.mem_iff.mp hv)
    rw [← e]
    exact ⟨q.2, tk q hq, (hB q hq).1, (hB q hq).2⟩
  have sortable : 2 ≤ vs.length → SrtO.SortableO P w A.in1.in1 { s1 with heap := s1.heap.push (seqObj "list" vs.toArray 0) } s1.heap.objs.size vs (ltR (s1.heap.push (seqObj "list" vs.toArray 0))) := fun h2 => by
    by_cases hd0 : 1 ≤ d
    · refine rows_sortable (s := { s1 with heap := s1.heap.push (seqObj "list" vs.toArray 0) }) hd0 h2 x fun o e c => ?_
      have e' : some o = some (seqObj "list" vs.toArray 0) := e.symm.trans hoL
      cases e'
      exact absurd (Value.type.inj c) (by decide)
    · exfalso
      -- all rows are empty: there is at most one
      have l2 : 2 ≤ L.length := by rw [pm.length_eq, List.length_map] at h2; exact h2
      obtain ⟨p, q, r, hL⟩ := two_first l2
      have nd := R.nd
      rw [hL, List.map_cons, List.map_cons, List.nodup_cons] at nd
      have hp := (hB p (by rw [hL]; exact List.mem_cons_self)).1
      have hq := (hB q (by rw [hL]; exact List.mem_cons_of_mem _ List.mem_cons_self)).1
      have ep : p.2 = [] := List.length_eq_zero_iff.mp (by omega)
      have eq : q.2 = [] := List.length_eq_zero_iff.mp (by omega)
      exact nd.1 (by rw [ep, eq]; exact List.mem_cons_self)
  refine wpAny_bind (wpAny_holding (wpAny_call_entry slot_list_sort ⟨_, hoL, rfl⟩ entry_list_sort (SrtO.list_sort_ord (s := { s1 with heap := s1.heap.push (seqObj "list" vs.toArray 0) }) (swo_rk (s1.heap.push (seqObj "list" vs.toArray 0))) hoL (by rw [sizeLine_eq]; omega) sortable fun out a1 a2 => ⟨_, rfl, ?_⟩) (args_list_sort _)))
  obtain ⟨k, hk⟩ := sortedHeap_at (vs := vs) (out := out.toArray) hoL
  obtain ⟨L', e', hs'⟩ := back out fun v hv => by
    obtain ⟨q, hq, e⟩ := List.mem_map.mp (pm.mem_iff.mp (a2.perm.mem_iff.mp hv))
    exact ⟨q, hq, e.symm⟩
  have pL : L'.Perm L := permL L' hs' (by rw [← e']; exact a2.perm.trans pm)
  have pw : L'.Pairwise (fun q r => TS.code 16 q.2 ≤ TS.code 16 r.2) := by
    rw [e'] at a1
    refine List.Pairwise.imp_of_mem (fun {q r} hq hr hle => ?_) (List.pairwise_map.mp a1)
    have f1 : TS.intsOf (s1.heap.push (seqObj "list" vs.toArray 0)) (.ref q.1) = q.2 := (tk q (hs' q hq)).ints
    have f2 : TS.intsOf (s1.heap.push (seqObj "list" vs.toArray 0)) (.ref r.1) = r.2 := (tk r (hs' r hr)).ints
    have hle' := of_decide_eq_false hle
    unfold rk at hle'
    rw [f1, f2] at hle'
    omega
  refine wpAny_pure ⟨_, rfl, hQ _ s1.heap.objs.size out.toArray k L' (fun b u e => ?_) g1 o1 hz hk e' pL pw⟩
  have q := k1 b u e
  have hlt := Heap.lt_size q
  show (sortedHeap (s1.heap.push (seqObj "list" vs.toArray 0)) s1.heap.objs.size vs out.toArray).get? b = some u
  rw [sortedHeap_old (Nat.ne_of_lt hlt) (by rw [size_push']; exact Nat.lt_succ_of_lt hlt)]
  exact Heap.get?_push_of_some _ q
end
end DD
namespace DD
open PySem PySem.Spec PyProof.Rows L2
open Evl (Ex)
/-! ### sorted without repeats, in plain Lean -/
section
variable {α : Type}
def insU (key : α → Int) (x : α) : List α → List α
  | [] => [x]
  | y :: ys => if key x < key y then x :: y :: ys else if key x = key y then y :: ys else y :: insU key x ys
def sdU (key : α → Int) (xs : List α) : List α := xs.foldr (insU key) []
abbrev StrictBy (key : α → Int) (l : List α) : Prop := l.Pairwise fun x y => key x < key y
theorem insU_mem {key : α → Int} {x z : α} : ∀ {l : List α}, z ∈ insU key x l → z = x ∨ z ∈ l
  | [], h => by simp [insU] at h; exact .inl h
  | y :: ys, h => by
    unfold insU at h
    split at h
    · rcases List.mem_cons.mp h with h | h
      · exact .inl h
      · exact .inr h
    · split at h
      · exact .inr h
      · rcases List.mem_cons.mp h with h | h
        · exact .inr (by rw [h]; exact List.mem_cons_self)
        · rcases insU_mem h with h | h
          · exact .inl h
          · exact .inr (List.mem_cons_of_mem _ h)
theorem insU_strict {key : α → Int} {x : α} : ∀ {l : List α}, StrictBy key l → StrictBy key (insU key x l)
  | [], _ => by simp [insU, StrictBy]
  | y :: ys, h => by
    obtain ⟨h1, h2⟩ := List.pairwise_cons.mp h
    unfold insU
    split
    · rename_i c
      refine List.pairwise_cons.mpr ⟨fun z hz => ?_, h⟩
      rcases List.mem_cons.mp hz with e | hz
      · rw [e]; exact c
      · have := h1 z hz; omega
    · split
      · exact h
      · refine List.pairwise_cons.mpr ⟨fun z hz => ?_, insU_strict h2⟩
        rcases insU_mem hz with e | hz
        · rw [e]; omega
        · exact h1 z hz
theorem insU_old {key : α → Int} {x z : α} : ∀ {l : List α}, z ∈ l → z ∈ insU key x l
  | y :: ys, h => by
    unfold insU
    split
    · exact List.mem_cons_of_mem _ h
    · split
      · exact h
      · rcases List.mem_cons.mp h with e | h
        · rw [e]; exact List.mem_cons_self
        · exact List.mem_cons_of_mem _ (insU_old h)
theorem insU_new {key : α → Int} {x : α} : ∀ (l : List α), ∃ z ∈ insU key x l, key z = key x
  | [] => ⟨x, by simp [insU], rfl⟩
  | y :: ys => by
    unfold insU
    split
    · exact ⟨x, List.mem_cons_self, rfl⟩
    · split
      · rename_i e
        exact ⟨y, List.mem_cons_self, e.symm⟩
      · obtain ⟨z, h1, h2⟩ := insU_new (key := key) (x := x) ys
        exact ⟨z, List.mem_cons_of_mem _ h1, h2⟩
theorem sdU_strict (key : α → Int) : ∀ xs : List α, StrictBy key (sdU key xs)
  | [] => List.Pairwise.nil
  | x :: xs => insU_strict (sdU_strict key xs)
theorem sdU_sub {key : α → Int} {z : α} : ∀ {xs : List α}, z ∈ sdU key xs → z ∈ xs
  | x :: xs, h => by
    rcases insU_mem (show z ∈ insU key x (sdU key xs) from h) with e | h
    · rw [e]; exact List.mem_cons_self
    · exact List.mem_cons_of_mem _ (sdU_sub h)
theorem sdU_key {key : α → Int} {z : α} : ∀ {xs : List α}, z ∈ xs → ∃ y ∈ sdU key xs, key y = key z
  | x :: xs, h => by
    show ∃ y ∈ insU key x (sdU key xs), key y = key z
    rcases List.mem_cons.mp h with e | h
    · rw [e]; exact insU_new _
    · obtain ⟨y, h1, h2⟩ := sdU_key h
      exact ⟨y, insU_old h1, h2⟩
theorem sdU_mem {key : α → Int} {xs : List α} (inj : ∀ x ∈ xs, ∀ y ∈ xs, key x = key y → x = y) {z : α} : z ∈ sdU key xs ↔ z ∈ xs :=
  ⟨sdU_sub, fun h => by
    obtain ⟨y, h1, h2⟩ := sdU_key (key := key) h
    rw [← inj y (sdU_sub h1) z h h2]
    exact h1⟩
/-- strictly rising lists of the same members are one -/
theorem strict_ext {key : α → Int} : ∀ {l m : List α}, StrictBy key l → StrictBy key m → (∀ x, x ∈ l ↔ x ∈ m) → l = m
  | [], [], _, _, _ => rfl
  | [], y :: ys, _, _, h => absurd ((h y).mpr List.mem_cons_self) (by simp)
  | x :: xs, [], _, _, h => absurd ((h x).mp List.mem_cons_self) (by simp)
  | x :: xs, y :: ys, hl, hm, h => by
    obtain ⟨l1, l2⟩ := List.pairwise_cons.mp hl
    obtain ⟨m1, m2⟩ := List.pairwise_cons.mp hm
    have e : x = y := by
      rcases List.mem_cons.mp ((h x).mp List.mem_cons_self) with e | e
      · exact e
      · rcases List.mem_cons.mp ((h y).mpr List.mem_cons_self) with f | f
        · exact f.symm
        · have a := m1 x e
          have b := l1 y f
          omega
    subst e
    refine congrArg (x :: ·) (strict_ext l2 m2 fun z => ?_)
    have hz := h z
    simp only [List.mem_cons] at hz
    constructor
    · intro a
      rcases hz.mp (.inr a) with e | e
      · have := l1 z a; rw [e] at this; omega
      · exact e
    · intro a
      rcases hz.mpr (.inr a) with e | e
      · have := m1 z a; rw [e] at this; omega
      · exact e
end
abbrev idI (i : Int) : Int := i
/-- the sorted list of some ints without repeats -/
def sdI (ns : List Int) : List Int := sdU idI ns
theorem sdI_strict (ns : List Int) : (sdI ns).Pairwise (· < ·) := sdU_strict idI ns
theorem sdI_mem {ns : List Int} {z : Int} : z ∈ sdI ns ↔ z ∈ ns := sdU_mem fun _ _ _ _ e => e
theorem sdI_eq {ns l : List Int} (h : l.Pairwise (· < ·)) (hm : ∀ z, z ∈ l ↔ z ∈ ns) : l = sdI ns := strict_ext (key := idI) h (sdI_strict ns) fun z => by rw [hm, sdI_mem]
theorem sdI_id {ns : List Int} (h : ns.Pairwise (· < ·)) : sdI ns = ns := (sdI_eq h fun _ => Iff.rfl).symm
theorem sdI_len (ns : List Int) : (sdI ns).length ≤ ns.length := by
  unfold sdI sdU
  have ins : ∀ (x : Int) (l : List Int), (insU idI x l).length ≤ l.length + 1 := fun x l => by
    induction l with
    | nil => simp [insU]
    | cons y ys ih =>
      unfold insU
      split
      · simp
      · split
        · simp
        · simp only [List.length_cons]; omega
  induction ns with
  | nil => simp
  | cons n ns ih =>
    have := ins n (ns.foldr (insU idI) [])
    simp only [List.foldr_cons, List.length_cons]
    omega
/-- rows by their code -/
def sdR (rs : List (List Int)) : List (List Int) := sdU (TS.code 16) rs
def RowsOk (d : Nat) (rs : List (List Int)) : Prop := ∀ r ∈ rs, r.length = d ∧ TS.Bd 16 r
theorem code_inj : ∀ {ns ms : List Int}, ns.length = ms.length → TS.Bd 16 ns → TS.Bd 16 ms → TS.code 16 ns = TS.code 16 ms → ns = ms
  | [], [], _, _, _, _ => rfl
  | [], _ :: _, h, _, _, _ => by simp at h
  | _ :: _, [], h, _, _, _ => by simp at h
  | x :: ns, y :: ms, h, b1, b2, e => by
    have hl : ns.length = ms.length := by simpa using h
    have exy : x = y := by
      rcases Int.lt_trichotomy x y with z | z | z
      · have := TS.code_lt hl b1.tail b2.tail z; omega
      · exact z
      · have := TS.code_lt hl.symm b2.tail b1.tail z; omega
    subst exy
    have h1 := TS.code_same (B := 16) (d := x) hl
    have h2 := TS.code_same (B := 16) (d := x) hl.symm
    refine congrArg (x :: ·) (code_inj hl b1.tail b2.tail ?_)
    have a1 : ¬ TS.code 16 ns < TS.code 16 ms := fun z => by have := h1.mpr z; omega
    have a2 : ¬ TS.code 16 ms < TS.code 16 ns := fun z => by have := h2.mpr z; omega
    omega
theorem RowsOk.inj {d : Nat} {rs : List (List Int)} (h : RowsOk d rs) : ∀ x ∈ rs, ∀ y ∈ rs, TS.code 16 x = TS.code 16 y → x = y := fun x hx y hy e =>
  code_inj (by rw [(h x hx).1, (h y hy).1]) (h x hx).2 (h y hy).2 e
theorem sdR_mem {d : Nat} {rs : List (List Int)} (h : RowsOk d rs) {z : List Int} : z ∈ sdR rs ↔ z ∈ rs := sdU_mem h.inj
theorem sdR_strict (rs : List (List Int)) : StrictBy (TS.code 16) (sdR rs) := sdU_strict _ rs
/-! ### the calls -/
def rSetI (K : PySem.W.Frag) (w : World) : List V → Hp → VK → Prop := fun vs H Q => ∃ (p : Addr) (ns : List Int), vs = [V.ref p] ∧ (SqL K H p (ns.map V.int) ∨ SqT K H p (ns.map V.int)) ∧ ns.length ≤ 1000 ∧
  ∀ q k, H q = none → k ≤ ns.length → Q (.ref q) (upd H q (SetO w q (fun j => decide (j ∈ ns)) k))
def S64O (P : Program) (w : World) (a : Addr) (L : List (Addr × List Int)) : HO := .ext fun h => Set64 P w h a L
theorem s64_new {P : Program} {w : World} {H : Hp} {h : Heap} {a : Addr} {L : List (Addr × List Int)} (R : Set64 P w h a L) : ObjOk P w H h a (S64O P w a L) := by
  obtain ⟨es, ep, t, ⟨o, ho, r⟩, q⟩ := R.ex
  refine ⟨R, ⟨o, ho⟩, fun h1 h2 p k => ?_⟩
  obtain ⟨es', ep', t', ⟨o', ho', r'⟩, q'⟩ := (show Set64 P w h1 a L from p).ex
  exact ⟨⟨es', ep', t', ⟨o', k o' ho', r'⟩, q'⟩, R.nd, R.few⟩
def rSetR (K : PySem.W.Frag) (P : Program) (w : World) : List V → Hp → VK → Prop := fun vs H Q => ∃ (l : Addr) (ks : List (Addr × List Int)), vs = [V.ref l] ∧ SqL K H l (ks.map fun p => V.ref p.1) ∧ (∀ p ∈ ks, SqT K H p.1 (p.2.map V.int)) ∧ ks.length ≤ 64 ∧
  ∀ a L, H a = none → (∀ p ∈ L, p ∈ ks) → (∀ p ∈ ks, p.2 ∈ L.map (·.2)) → (L.map (·.2)).Nodup → Q (.ref a) (upd H a (S64O P w a L))
def rSort64 (K : PySem.W.Frag) (P : Program) (w : World) : List V → Hp → VK → Prop := fun vs H Q => ∃ (a : Addr) (L : List (Addr × List Int)) (d : Nat), vs = [V.ref a] ∧ H a = some (S64O P w a L) ∧ (∀ p ∈ L, SqT K H p.1 (p.2.map V.int)) ∧ (∀ p ∈ L, p.2.length = d ∧ TS.Bd 16 p.2) ∧
  ∀ (L' : List (Addr × List Int)) (p : Addr), L'.Perm L → L'.Pairwise (fun q r => TS.code 16 q.2 ≤ TS.code 16 r.2) → H p = none → Q (.ref p) (upd H p (.lst (L'.map fun q => V.ref q.1)))
section
variable {X : Cx}
theorem cr_setI (hc : X.calm = true) (hu : X.A.units + 64 < cLine) : CallR X (.type "set") (rSetI X.K X.w) := by
  intro pins s σ H vs us Q I r h
  obtain ⟨p, ns, rfl, hsq, hz, q⟩ := h
  rw [Vals.ref1 r]
  have hn : H s.heap.objs.size = none := I.hok.fresh (Nat.le_refl _)
  rcases hsq with hl | hl
  · obtain ⟨its, rv, pl, _⟩ := I.list hl
    refine set_of_list (P := X.prog) (w := X.w) (I.ok.hd hc) (by omega) pl.isList (fills_ints (ns := ns) (by simpa using rv.ints) (by unfold scanBound; omega)) fun h' tk ⟨k, R, hk⟩ kp => ?_
    exact ⟨.ref s.heap.objs.size, _, I.laid (t' := tk) kp (Nat.le_refl _) (setO_new R), rfl, q _ k hn hk⟩
  · obtain ⟨its, rv, ⟨o, ho, hcl, n, hd⟩, _⟩ := I.tuple hl
    refine call_set_tupI (P := X.prog) (w := X.w) ns (I.ok.hd hc) ⟨o, ho, hcl, n, hd⟩ (by simpa using rv.ints) (by unfold scanBound; omega) fun h' tk k R hk kp => ?_
    exact ⟨.ref s.heap.objs.size, _, I.laid (t' := tk) kp (Nat.le_refl _) (setO_new R), rfl, q _ k hn hk⟩
theorem cr_setR (hc : X.calm = true) (hu : X.A.units + 64 < cLine) : CallR X (.type "set") (rSetR X.K X.prog X.w) := by
  intro pins s σ H vs us Q I r h
  obtain ⟨l, ks, rfl, hl, hk, hz, q⟩ := h
  rw [Vals.ref1 r]
  obtain ⟨its, rv, pl, _⟩ := I.list hl
  have hn : H s.heap.objs.size = none := I.hok.fresh (Nat.le_refl _)
  refine set_of_list (P := X.prog) (w := X.w) (I.ok.hd hc) (by omega) pl.isList (fills_rows ks (by simpa using refs_of_vals rv) (fun p hp => I.isT (hk p hp)) hz) fun h' tk ⟨L, R, g⟩ kp => ?_
  exact ⟨.ref s.heap.objs.size, _, I.laid (t' := tk) kp (Nat.le_refl _) (s64_new R), rfl, q _ L hn (fun p hp => List.mem_of_mem_take (g.sub p hp)) (fun p hp => g.all p (by rw [List.take_length]; exact hp)) R.nd⟩
theorem cr_sort64 (hc : X.calm = true) : CallR X (.builtin "sorted") (rSort64 X.K X.prog X.w) := by
  intro pins s σ H vs us Q I r h
  obtain ⟨a, L, d, rfl, ha, hk, hB, q⟩ := h
  have R : Set64 X.prog X.w s.heap a L := (I.hok a _ ha).1
  rw [Vals.ref1 r]
  refine sorted64 R (fun p hp => I.isT (hk p hp)) (I.ok.hd hc) hB fun s' p out k L' kp g o hp hg hout pm pw => ?_
  have few := R.few
  have hlen : (L'.map fun q => V.ref q.1).length ≤ sizeLine := by rw [List.length_map, pm.length_eq, sizeLine_eq]; omega
  have hn : H p = none := I.hok.fresh hp
  have hv : Vals (L'.map fun q => V.ref q.1) out.toList := by rw [hout]; exact vals_of_refs L'
  have e : s' = { s with heap := s'.heap, gens := s'.gens, drawn := s'.drawn, toks := s'.toks } := by
    cases s'; cases s; cases o; rfl
  have J : Inv X pins σ (upd H p (.lst (L'.map fun q => V.ref q.1))) { s with heap := s'.heap, gens := s'.gens, drawn := s'.drawn, toks := s'.toks } :=
    I.call (ch := []) (Un.laid kp hp hn) (I.hok.laid kp hp ⟨hlen, out.toList, k, hv, hg⟩) (by rw [g]; exact I.bare) (fun _ z => nomatch z)
  rw [e]
  exact ⟨.ref p, _, J, rfl, q L' p pm pw hn⟩
end
section
variable {X : Cx} {c : Cl → Addr} {env : SEnv} {e : Expr} {Qd : D → Prop} {pos p p2 pos2 : Pos}
/-- sorted(set(x)) of ints -/
theorem de_sortedSet (hc : X.calm = true) (hu : X.A.units + 64 < cLine) (hm : X.mg "sorted" = none) (hm2 : X.mg "set" = none) (h : DE X c env e fun d => ∃ ns, InI d ns ∧ ns.length < 64 ∧ Qd (lrowD (sdI ns)))
    (hg : Gl X "sorted" := by rfl) (hg2 : Gl X "set" := by rfl) (he : starEach [e] X.env = (false, eval e X.env) :: starEach [] X.env := by rfl)
    (he2 : starEach [.Call (.Name "set" p2) [e] [] pos2] X.env = (false, eval (.Call (.Name "set" p2) [e] [] pos2) X.env) :: starEach [] X.env := by rfl) :
    DE X c env (.Call (.Name "sorted" p) [.Call (.Name "set" p2) [e] [] pos2] [] pos) Qd := fun B σ H Q sv k => by
  refine ofE (pe_callB (cr_sortedSet hc) hg hm (by decide +kernel) (pa_cons (pe_callTy (cr_setI hc hu) hg2 hm2 (by decide +kernel) (pa_cons peS pa_nil he) (by decide) (by decide) he rfl) pa_nil he2) (by decide) (by decide) he2 rfl) ?_
  refine h B σ H _ sv fun v H1 d e1 r1 ⟨ns, hi, hz, q⟩ => ?_
  obtain ⟨a, rfl, hsq⟩ := in_sq hi r1
  refine ⟨a, ns, rfl, hsq, by omega, fun b n hb hn => ?_⟩
  refine ⟨b, _, n, rfl, upd_same, by omega, fun l l2 hs hmem hlen hl2 => ?_⟩
  have en1 : ∀ o, Ex H1 (upd H1 b o) := fun o => Evl.Ex.new hb
  have en2 : ∀ o o', Ex (upd H1 b o) (upd (upd H1 b o) l2 o') := fun o o' => Evl.Ex.new (by
    by_cases z : l2 = b
    · rw [z, upd_same] at hl2; cases hl2
    · rw [upd_ne z] at hl2 ⊢; exact hl2)
  have el : l = sdI ns := sdI_eq hs fun z => by rw [hmem]; simp
  subst el
  exact k _ _ _ ((e1.trans (en1 _)).trans (en2 _ _)) (.lst (by rw [hid_at ((sv.bz.ext e1).ext (en1 _) |>.new hl2), upd_same]) (repA_ints _)) q
theorem repA_rows {G : Wd} {H : Hp} : ∀ {vs : List V} {rs : List (List Int)}, RepA G H vs (rs.map rowD) → ∃ ks : List (Addr × List Int), vs = ks.map (fun p => V.ref p.1) ∧ rs = ks.map (·.2) ∧ ∀ p ∈ ks, TupAt H p.1 (p.2.map V.int)
  | [], [], .nil => ⟨[], rfl, rfl, fun _ h => by cases h⟩
  | v :: vs, r :: rs, .cons rv t => by
    obtain ⟨ks, h1, h2, h3⟩ := repA_rows t
    obtain ⟨a, xs, rfl, h4, h5⟩ := rv.tup_inv
    rw [h5.ints] at h4
    refine ⟨(a, r) :: ks, by rw [h1]; rfl, by rw [h2]; rfl, fun p hp => ?_⟩
    rcases List.mem_cons.mp hp with e | hp
    · rw [e]; exact h4
    · exact h3 p hp
theorem rows_repA {G : Wd} {H : Hp} : ∀ (ks : List (Addr × List Int)), (∀ p ∈ ks, TupAt H p.1 (p.2.map V.int)) → RepA G H (ks.map fun p => V.ref p.1) ((ks.map (·.2)).map rowD)
  | [], _ => .nil
  | k :: ks, h => .cons (.tup (h k List.mem_cons_self) (repA_ints _)) (rows_repA ks fun p hp => h p (List.mem_cons_of_mem _ hp))
/-- sorted(set(rows)) -/
theorem de_sortedRows (hc : X.calm = true) (hu : X.A.units + 64 < cLine) (hm : X.mg "sorted" = none) (hm2 : X.mg "set" = none) (h : DE X c env e fun d => ∃ (rs : List (List Int)) (n : Nat), d = rowsD rs ∧ rs.length ≤ 64 ∧ RowsOk n rs ∧ Qd (rowsD (sdR rs)))
    (hg : Gl X "sorted" := by rfl) (hg2 : Gl X "set" := by rfl) (he : starEach [e] X.env = (false, eval e X.env) :: starEach [] X.env := by rfl)
    (he2 : starEach [.Call (.Name "set" p2) [e] [] pos2] X.env = (false, eval (.Call (.Name "set" p2) [e] [] pos2) X.env) :: starEach [] X.env := by rfl) :
    DE X c env (.Call (.Name "sorted" p) [.Call (.Name "set" p2) [e] [] pos2] [] pos) Qd := fun B σ H Q sv k => by
  refine ofE (pe_callB (cr_sort64 hc) hg hm (by decide +kernel) (pa_cons (pe_callTy (cr_setR hc hu) hg2 hm2 (by decide +kernel) (pa_cons peS pa_nil he) (by decide) (by decide) he rfl) pa_nil he2) (by decide) (by decide) he2 rfl) ?_
  refine h B σ H _ sv fun v H1 d e1 r1 ⟨rs, n, hd, hz, hok, q⟩ => ?_
  subst hd
  obtain ⟨a, xs, rfl, h1, h2⟩ := r1.lst_inv
  obtain ⟨ks, e3, e4, h3⟩ := repA_rows h2
  subst e3; subst e4
  have hB : ∀ p ∈ ks, p.2.length = n ∧ TS.Bd 16 p.2 := fun p hp => hok p.2 (List.mem_map.mpr ⟨p, hp, rfl⟩)
  refine ⟨a, ks, rfl, SqL.of (hid_ex B H1 _ _ h1), fun p hp => ((h3 p hp).mono (hid_ex B H1)).sq, by rw [List.length_map] at hz; exact hz, fun b L hb hsub hall hnd => ?_⟩
  have en1 : ∀ o, Ex H1 (upd H1 b o) := fun o => Evl.Ex.new hb
  refine ⟨b, L, n, rfl, upd_same, fun p hp => (((h3 p (hsub p hp)).mono (hid_ex B H1)).mono (en1 _)).sq, fun p hp => hB p (hsub p hp), fun L' l2 pm pw hl2 => ?_⟩
  have en2 : ∀ o o', Ex (upd H1 b o) (upd (upd H1 b o) l2 o') := fun o o' => Evl.Ex.new (by
    by_cases z : l2 = b
    · rw [z, upd_same] at hl2; cases hl2
    · rw [upd_ne z] at hl2 ⊢; exact hl2)
  have sub' : ∀ p ∈ L', p ∈ ks := fun p hp => hsub p (pm.mem_iff.mp hp)
  have strict : StrictBy (TS.code 16) (L'.map (·.2)) := by
    have nd' : (L'.map (·.2)).Nodup := (pm.map (·.2)).nodup_iff.mpr hnd
    refine List.pairwise_map.mpr ?_
    have both := (List.pairwise_map.mp nd').and pw
    refine List.Pairwise.imp_of_mem (fun {x y} hx hy h => ?_) both
    have b1 := hB x (sub' x hx)
    have b2 := hB y (sub' y hy)
    have ne : TS.code 16 x.2 ≠ TS.code 16 y.2 := fun z => h.1 (code_inj (by rw [b1.1, b2.1]) b1.2 b2.2 z)
    have := h.2
    omega
  have el : L'.map (·.2) = sdR (ks.map (·.2)) := strict_ext strict (sdR_strict _) fun z => by
    rw [sdR_mem hok]
    constructor
    · intro hz
      obtain ⟨p, hp, e⟩ := List.mem_map.mp hz
      exact List.mem_map.mpr ⟨p, sub' p hp, e⟩
    · intro hz
      obtain ⟨p, hp, e⟩ := List.mem_map.mp hz
      rw [← e]
      exact (pm.map (·.2)).mem_iff.mpr (hall p hp)
  rw [← el] at q
  have bz1 := (sv.bz.ext e1).ext (en1 (S64O X.prog X.w b L))
  have ex3 := (e1.trans (en1 (S64O X.prog X.w b L))).trans (en2 _ (.lst (L'.map fun q => V.ref q.1)))
  refine k _ _ _ ex3 (.lst (by rw [hid_at (bz1.new hl2), upd_same]) (rows_repA L' fun p hp => ?_)) q
  exact ((h3 p (sub' p hp)).mono (Ex.hid (en1 _) B)).mono (Ex.hid (en2 _ _) B)
end
end DD
namespace DD
open PySem PySem.Spec PyProof.Rows L2
open Evl (Ex)
/-! ### the keys -/
abbrev TKey := List (Option Int)
abbrev tkK (P : Program) (w : World) : HeapKind P w (List Leaf) := tupleKind (leafKind P w)
theorem lfL_inj {a b : Option Int} (h : lfL a = lfL b) : a = b := by
  cases a <;> cases b <;> simp_all [lfL]
theorem lfLs_inj : ∀ {a b : TKey}, a.map lfL = b.map lfL → a = b
  | [], [], _ => rfl
  | [], _ :: _, h => by simp at h
  | _ :: _, [], h => by simp at h
  | x :: xs, y :: ys, h => by
    rw [List.map_cons, List.map_cons] at h
    injection h with h1 h2
    rw [lfL_inj h1, lfLs_inj h2]
theorem leaf_rel {P : Program} {w : World} {k : Option Int} {u : Value} (r : RelV (lfV k) u) : (leafKind P w).is (lfL k) u = true := by
  cases k with
  | none =>
    have e : u = Value.none := r
    subst e
    rfl
  | some i =>
    obtain ⟨t, rfl⟩ := (show ∃ t, u = Value.int i t from r)
    simp [leafKind, Leaf.isOf, lfL, Value.isInt]
theorem leaves_rel {P : Program} {w : World} : ∀ {k : TKey} {us : List Value}, Vals (k.map lfV) us → ItemsAre (leafKind P w) (k.map lfL) us
  | [], _, .nil => .nil
  | _ :: _, _, .cons r t => .cons (leaf_rel r) (leaves_rel t)
theorem tkey_of {P : Program} {w : World} {H : Hp} {h : Heap} {b : Addr} {k : TKey} (ok : HOk P w H h) (e : TupAt H b (k.map lfV)) : (tkK P w).is h (k.map lfL) b := by
  obtain ⟨od, _, e⟩ := e
  obtain ⟨_, _, its, r, o, h1, h2, n, h3⟩ := (show ObjOk P w H h b (.frz od (.tup (k.map lfV))) from ok b _ e)
  exact ⟨o, its.toArray, n, h1, h2, h3, by simpa using leaves_rel r⟩
/-! ### the entries -/
def lookE (es : List Ent) (k : TKey) : Option V := (es.find? fun e => decide (e.1 = k)).map (·.2.2)
def putE (es : List Ent) (k : TKey) (b : Addr) (v : V) : List Ent := if (lookE es k).isSome = true then es.map (fun e => if e.1 = k then (e.1, e.2.1, v) else e) else es ++ [(k, b, v)]
theorem lookE_pos {e : Ent} {es : List Ent} {k : TKey} (h : e.1 = k) : lookE (e :: es) k = some e.2.2 := by simp [lookE, List.find?_cons, h]
theorem lookE_neg {e : Ent} {es : List Ent} {k : TKey} (h : ¬ e.1 = k) : lookE (e :: es) k = lookE es k := by simp [lookE, List.find?_cons, h]
theorem entLook {es : List Ent} {ys : List (List Leaf × Addr × Value)} (r : Paired EntR es ys) (k : TKey) : RelO (lookE es k) ((atKey ys (k.map lfL)).map (·.2)) := by
  induction r with
  | nil => exact True.intro
  | @cons p q ps qs h t ih =>
    obtain ⟨h1, h2, h3⟩ := h
    by_cases e : p.1 = k
    · have b : atKey (q :: qs) (k.map lfL) = some q.2 := by simp [atKey, List.find?_cons, h1, e]
      rw [lookE_pos e, b]
      exact h3
    · have ne : ¬ q.1 = k.map lfL := fun z => e (lfLs_inj (h1.symm.trans z))
      have b : atKey (q :: qs) (k.map lfL) = atKey qs (k.map lfL) := by simp [atKey, List.find?_cons, ne]
      rw [lookE_neg e, b]
      exact ih
theorem entRepl {es : List Ent} {ys : List (List Leaf × Addr × Value)} (r : Paired EntR es ys) (k : TKey) {v : V} {u : Value} (rv : RelV v u) : Paired EntR (es.map fun e => if e.1 = k then (e.1, e.2.1, v) else e) (ys.map (putAt (k.map lfL) u)) := by
  induction r with
  | nil => exact .nil
  | @cons p q ps qs h t ih =>
    obtain ⟨h1, h2, h3⟩ := h
    rw [List.map_cons, List.map_cons]
    refine .cons ?_ ih
    unfold putAt
    by_cases e : p.1 = k
    · rw [if_pos e, if_pos (by rw [h1, e])]
      exact ⟨h1, h2, rv⟩
    · rw [if_neg e, if_neg fun z => e (lfLs_inj (h1.symm.trans z))]
      exact ⟨h1, h2, h3⟩
theorem paired_snoc {α β : Type} {R : α → β → Prop} {a : α} {b : β} (h : R a b) : ∀ {l : List α} {m : List β}, Paired R l m → Paired R (l ++ [a]) (m ++ [b])
  | _, _, .nil => .cons h .nil
  | _, _, .cons r t => .cons r (paired_snoc h t)
theorem entPut {es : List Ent} {ys : List (List Leaf × Addr × Value)} (r : Paired EntR es ys) (k : TKey) (b : Addr) {v : V} {u : Value} (rv : RelV v u) : Paired EntR (putE es k b v) (storedH ys (k.map lfL) b u) := by
  have e : (lookE es k).isSome = (atKey ys (k.map lfL)).isSome := by
    have q := entLook r k
    cases h1 : lookE es k with
    | none =>
      rw [h1] at q
      have := RelO.none_of q
      rw [Option.map_eq_none_iff] at this
      rw [this]
      rfl
    | some x =>
      rw [h1] at q
      obtain ⟨z, hz, _⟩ := RelO.some_of q
      obtain ⟨y, hy, _⟩ := Option.map_eq_some_iff.mp hz
      rw [hy]
      rfl
  unfold putE storedH
  rw [e]
  split
  · exact entRepl r k rv
  · exact paired_snoc ⟨rfl, rfl, rv⟩ r
theorem lookE_none {k : TKey} : ∀ {es : List Ent}, lookE es k = none ↔ ¬ k ∈ es.map (·.1)
  | [] => by simp [lookE]
  | e :: es => by
    by_cases h : e.1 = k
    · rw [lookE_pos h]; simp [h]
    · rw [lookE_neg h, lookE_none (es := es), List.map_cons, List.mem_cons]
      constructor
      · rintro h1 (h2 | h2)
        · exact h h2.symm
        · exact h1 h2
      · exact fun h1 h2 => h1 (.inr h2)
theorem lookE_isSome {k : TKey} {es : List Ent} : (lookE es k).isSome = decide (k ∈ es.map (·.1)) := by
  cases h : lookE es k with
  | none => have := lookE_none.mp h; simp [this]
  | some v =>
    have : k ∈ es.map (·.1) := Classical.byContradiction fun z => by rw [lookE_none.mpr z] at h; cases h
    simp [this]
/-! at the data -/
def putKD (kds : List (TKey × D)) (k : TKey) (d : D) : List (TKey × D) := if k ∈ kds.map (·.1) then kds.map (fun e => if e.1 = k then (e.1, d) else e) else kds ++ [(k, d)]
def lookKD (kds : List (TKey × D)) (k : TKey) : Option D := (kds.find? fun e => decide (e.1 = k)).map (·.2)
theorem putE_len (es : List Ent) (k : TKey) (b : Addr) (v : V) : (putE es k b v).length ≤ es.length + 1 := by
  unfold putE
  split
  · rw [List.length_map]; omega
  · rw [List.length_append]; simp
theorem putKD_rep {G : Wd} {H : Hp} {v : V} {d : D} (rv : Rep G H v d) {es : List Ent} {kds : List (TKey × D)} (k : TKey) (b : Addr) (hk : es.map (·.1) = kds.map (·.1)) (r : RepA G H (es.map (·.2.2)) (kds.map (·.2))) :
    (putE es k b v).map (·.1) = (putKD kds k d).map (·.1) ∧ RepA G H ((putE es k b v).map (·.2.2)) ((putKD kds k d).map (·.2)) := by
  unfold putE putKD
  rw [lookE_isSome, hk]
  by_cases hm : k ∈ kds.map (·.1)
  · rw [if_pos (decide_eq_true hm), if_pos hm]
    clear hm
    induction es generalizing kds with
    | nil =>
      cases kds with
      | nil => exact ⟨rfl, .nil⟩
      | cons _ _ => simp at hk
    | cons e es ih =>
      cases kds with
      | nil => simp at hk
      | cons q kds =>
        rw [List.map_cons, List.map_cons] at hk r
        injection hk with hk1 hk2
        cases r with
        | cons r1 r2 =>
          obtain ⟨i1, i2⟩ := ih hk2 r2
          simp only [List.map_cons]
          by_cases he : e.1 = k
          · rw [if_pos he, if_pos (hk1.symm.trans he)]
            exact ⟨by rw [hk1, i1], .cons rv i2⟩
          · rw [if_neg he, if_neg fun z => he (hk1.trans z)]
            exact ⟨by rw [hk1, i1], .cons r1 i2⟩
  · rw [if_neg (by simp [hm]), if_neg hm]
    rw [List.map_append, List.map_append, List.map_append, List.map_append, hk]
    exact ⟨rfl, r.append (.cons rv .nil)⟩
theorem putE_keys {es : List Ent} {k : TKey} {b : Addr} {v : V} : ∀ e ∈ putE es k b v, (∃ e0 ∈ es, e.1 = e0.1 ∧ e.2.1 = e0.2.1) ∨ (e.1 = k ∧ e.2.1 = b) := by
  intro e he
  unfold putE at he
  split at he
  · obtain ⟨e0, h0, rfl⟩ := List.mem_map.mp he
    refine .inl ⟨e0, h0, ?_⟩
    split <;> exact ⟨rfl, rfl⟩
  · rcases List.mem_append.mp he with h | h
    · exact .inl ⟨e, h, rfl, rfl⟩
    · rw [List.mem_singleton.mp h]; exact .inr ⟨rfl, rfl⟩
theorem putE_nodup {es : List Ent} {k : TKey} {b : Addr} {v : V} (h : (es.map (·.1)).Nodup) : ((putE es k b v).map (·.1)).Nodup := by
  unfold putE
  split
  · rw [List.map_map]
    have e : ((fun e : Ent => e.1) ∘ fun e : Ent => if e.1 = k then (e.1, e.2.1, v) else e) = fun e => e.1 := by
      funext e
      show (if e.1 = k then (e.1, e.2.1, v) else e).1 = e.1
      split <;> rfl
    rw [e]
    exact h
  · rename_i hn
    rw [lookE_isSome] at hn
    rw [List.map_append]
    refine List.nodup_append.mpr ⟨h, by simp, fun a ha b hb => ?_⟩
    simp at hb
    intro e
    rw [e, hb] at ha
    exact hn (by simp only [decide_eq_true_eq]; exact ha)
/-! ### the rules by values -/
section
variable {X : Cx} {pins : List (Addr × Obj)} {σ : Sto} {H : Hp} {s : Shared} {a b : Addr} {es : List Ent} {k : TKey} {A : Around} {E : Value → Shared → Prop}
theorem dic_is (I : Inv X pins σ H s) (e : H a = some (DicO X.prog X.w a es)) (hk : ∀ e ∈ es, TupAt H e.2.1 (e.1.map lfV)) :
    (a == sysModules) = false ∧ es.length ≤ sizeLine ∧ (es.map (·.1)).Nodup ∧ ∃ ys, Paired EntR es ys ∧ s.heap.DictOfH (tkK X.prog X.w) a ys := by
  obtain ⟨h1, h2, h3, ys, h4, o, en, ep, h5, h6, h7, h8⟩ := (show DicAt X.prog X.w a es s.heap from (I.hok a _ e).1)
  refine ⟨h1, h2, h3, ys, h4, o, en, ep, h5, h6, h7, h8, fun y hy => ?_, ?_⟩
  · clear e h8 h3 h2
    induction h4 with
    | nil => cases hy
    | @cons p q ps qs h t ih =>
      rcases List.mem_cons.mp hy with z | hy
      · rw [z, h.1, h.2.1]
        exact tkey_of I.hok (hk p List.mem_cons_self)
      · exact ih (fun e he => hk e (List.mem_cons_of_mem _ he)) hy
  · have e2 : ys.map (·.1) = (es.map (·.1)).map fun k => k.map lfL := by
      clear e hk h8 h3 h2
      induction h4 with
      | nil => rfl
      | cons h t ih => rw [List.map_cons, List.map_cons, List.map_cons, h.1, ih]
    rw [e2]
    exact List.pairwise_map.mpr (h3.imp fun ne e => ne (lfLs_inj e))
theorem dic_mk {h' : Heap} {es' : List Ent} {ys : List (List Leaf × Addr × Value)} {H' : Hp} (hd : (a == sysModules) = false) (hz : es'.length ≤ sizeLine) (hn : (es'.map (·.1)).Nodup) (r : Paired EntR es' ys) (dd : h'.DictOfH (tkK X.prog X.w) a ys) : ObjOk X.prog X.w H' h' a (DicO X.prog X.w a es') := by
  obtain ⟨o, en, ep, h5, h6, h7, h8, _, _⟩ := dd
  refine ⟨⟨hd, hz, hn, ys, r, o, en, ep, h5, h6, h7, h8⟩, ⟨o, h5⟩, fun h1 h2 p kk => ?_⟩
  obtain ⟨g1, g2, g3, ys', g4, o', en', ep', g5, g6⟩ := (show DicAt X.prog X.w a es' h1 from p)
  exact ⟨g1, g2, g3, ys', g4, o', en', ep', kk _ g5, g6⟩
theorem dic_put {v : V} {u : Value} {Q : Unit → Shared → Prop} (hu : A.units + 1 < cLine) (I : Inv X pins σ H s) (e : H a = some (DicO X.prog X.w a es)) (hk : ∀ e ∈ es, TupAt H e.2.1 (e.1.map lfV)) (eb : TupAt H b (k.map lfV)) (rv : RelV v u) (hl : es.length < sizeLine)
    (h : ∀ s', Inv X pins σ (upd H a (DicO X.prog X.w a (putE es k b v))) s' → Q () s') : wpAny (model X.prog X.w) A (setItem (.ref a) (.ref b) u) Q E s := by
  obtain ⟨h1, h2, h3, ys, h4, h5⟩ := dic_is I e hk
  refine wpAny_setItem_heap (hsz := by rw [← Paired.length h4]; exact h2) (tupleKind_room_in1 hu) (tkey_of I.hok eb) h5 fun h' dd sb => h _ ?_
  obtain ⟨o, en, ep, g1, g2⟩ := id dd
  exact d_write I (by rw [e]; exact True.intro) sb ⟨o, g1⟩ (dic_mk h1 (by have := putE_len es k b v; omega) (putE_nodup h3) (entPut h4 k b rv) dd)
theorem dic_setdef {v : V} {u : Value} {Q : Value → Shared → Prop} (hu : A.units + 1 < cLine) (I : Inv X pins σ H s) (e : H a = some (DicO X.prog X.w a es)) (hk : ∀ e ∈ es, TupAt H e.2.1 (e.1.map lfV)) (eb : TupAt H b (k.map lfV)) (rv : RelV v u) (hl : es.length < sizeLine)
    (q1 : ∀ z, lookE es k = some z → ∀ (y : Value) (s' : Shared), Inv X pins σ H s' → RelV z y → Q y s') (q2 : lookE es k = none → ∀ s', Inv X pins σ (upd H a (DicO X.prog X.w a (putE es k b v))) s' → Q u s') :
    wpAny (model X.prog X.w) A (call (.builtin "dict.setdefault") [.ref a, .ref b, u]) Q E s := by
  obtain ⟨h1, h2, h3, ys, h4, h5⟩ := dic_is I e hk
  have rl := entLook h4 k
  refine call_setdefault_heap (hsz := by rw [← Paired.length h4]; exact h2) (tupleKind_room_in1 hu) (tkey_of I.hok eb) h1 h5 (fun p hp => ?_) fun hn h' dd sb => ?_
  · rw [hp] at rl
    cases hl2 : lookE es k with
    | none => rw [hl2] at rl; cases RelO.none_of rl
    | some z =>
      rw [hl2] at rl
      exact q1 z hl2 _ _ (I.tok _) rl
  · have hl2 : lookE es k = none := by
      cases hl2 : lookE es k with
      | none => rfl
      | some z =>
        rw [hl2, hn] at rl
        obtain ⟨_, q, _⟩ := RelO.some_of rl
        cases q
    obtain ⟨o, en, ep, g1, g2⟩ := id dd
    exact q2 hl2 _ (d_write I (by rw [e]; exact True.intro) sb ⟨o, g1⟩ (dic_mk h1 (by have := putE_len es k b v; omega) (putE_nodup h3) (entPut h4 k b rv) dd))
theorem dic_notin {Q : Value → Shared → Prop} (hu : A.units + 1 < cLine) (I : Inv X pins σ H s) (e : H a = some (DicO X.prog X.w a es)) (hk : ∀ e ∈ es, TupAt H e.2.1 (e.1.map lfV)) (eb : TupAt H b (k.map lfV))
    (h : ∀ s', Inv X pins σ H s' → Q (.bool (!decide (k ∈ es.map (·.1)))) s') : wpAny (model X.prog X.w) A (compareOp .NotIn (.ref b) (.ref a)) Q E s := by
  obtain ⟨h1, h2, h3, ys, h4, h5⟩ := dic_is I e hk
  refine wpAny_notIn_heap (tupleKind_room_in1 hu) (tkey_of I.hok eb) h1 h5 ?_
  have rl := entLook h4 k
  have es_ : (atKey ys (k.map lfL)).isSome = decide (k ∈ es.map (·.1)) := by
    rw [← lookE_isSome]
    cases hl2 : lookE es k with
    | none =>
      rw [hl2] at rl
      have := RelO.none_of rl
      rw [Option.map_eq_none_iff] at this
      rw [this]
      rfl
    | some z =>
      rw [hl2] at rl
      obtain ⟨y, hy, _⟩ := RelO.some_of rl
      obtain ⟨y', hy', _⟩ := Option.map_eq_some_iff.mp hy
      rw [hy']
      rfl
  rw [es_]
  exact h _ (I.tok _)
theorem dic_get2 {v : V} {u : Value} {Q : Value → Shared → Prop} (hu : A.units + 1 < cLine) (I : Inv X pins σ H s) (e : H a = some (DicO X.prog X.w a es)) (hk : ∀ e ∈ es, TupAt H e.2.1 (e.1.map lfV)) (eb : TupAt H b (k.map lfV)) (rv : RelV v u)
    (h : ∀ y s', Inv X pins σ H s' → RelV ((lookE es k).getD v) y → Q y s') : wpAny (model X.prog X.w) A (call (.builtin "dict.get") [.ref a, .ref b, u]) Q E s := by
  obtain ⟨h1, h2, h3, ys, h4, h5⟩ := dic_is I e hk
  refine getOr_keyed (tupleKind_room_in1 hu) (tkey_of I.hok eb) h1 ⟨ys, h5, rfl⟩ (h _ _ (I.tok _) ?_)
  have rl := entLook h4 k
  rw [valueAt_pairsH]
  cases hl2 : lookE es k with
  | none =>
    rw [hl2] at rl
    rw [RelO.none_of rl]
    exact rv
  | some z =>
    rw [hl2] at rl
    obtain ⟨y, hy, hr⟩ := RelO.some_of rl
    rw [hy]
    exact hr
theorem cr_listD (hc : X.calm = true) : CallR X (.type "list") (fun xs H Q => ∃ (a : Addr) (es : List Ent), xs = [V.ref a] ∧ H a = some (DicO X.prog X.w a es) ∧ ∀ p, H p = none → Q (.ref p) (upd H p (.lst (es.map fun e => V.ref e.2.1)))) := by
  intro pins s σ H xs us Q I r h
  obtain ⟨a, es, rfl, hd, q⟩ := h
  rw [Vals.ref1 r]
  obtain ⟨h1, h2, h3, ys, h4, o, en, ep, h5, h6, h7, h8⟩ := (show DicAt X.prog X.w a es s.heap from (I.hok a _ hd).1)
  have l1 : en.size = ys.length := size_of_entries h8
  have l2 : es.length = ys.length := Paired.length h4
  refine PySem.W.kdl_call (kdl_raw h1 h6 h7) (I.ok.hd hc) h5 (by omega) fun h' tk acc' c' kp e it => ?_
  have ea : acc'.toList = es.map fun e => Value.ref e.2.1 := by
    have hl : acc'.toList.length = ys.length := by rw [Array.length_toList, it.1]; exact l1
    apply List.ext_getElem?
    intro j
    rw [List.getElem?_map]
    cases hj : acc'.toList[j]? with
    | none =>
      have g1 := List.getElem?_eq_none_iff.mp hj
      rw [List.getElem?_eq_none (by omega)]
      rfl
    | some v =>
      obtain ⟨dn, hdn, hv⟩ := it.2 j v (by rw [← Array.getElem?_toList]; exact hj)
      have qe := entry_at h8 j
      rw [hdn] at qe
      cases hy : ys[j]? with
      | none => rw [hy] at qe; cases qe
      | some y =>
        rw [hy] at qe
        have e2 : dn = entryOfKey (tkK X.prog X.w) y := Option.some.inj qe
        have hb : ∃ x, es[j]? = some x ∧ EntR x y := by
          clear q hd h3 h2 h8 l1 l2 qe hl it hj hdn
          induction h4 generalizing j with
          | nil => simp at hy
          | @cons p q ps qs h t ih =>
            cases j with
            | zero => simp at hy; subst hy; exact ⟨p, rfl, h⟩
            | succ j => exact ih j (by simpa using hy)
        obtain ⟨x, hx, rx⟩ := hb
        rw [hx, hv, e2]
        show some (Value.ref y.2.1) = some (Value.ref x.2.1)
        rw [rx.2.1]
  have hn : H s.heap.objs.size = none := I.hok.fresh (Nat.le_refl _)
  have hv : Vals (es.map fun e => V.ref e.2.1) acc'.toList := by
    rw [ea]
    clear ea q hd h3 h2 h4 h8 l1 l2 it
    induction es with
    | nil => exact .nil
    | cons e es ih => exact .cons rfl ih
  have hz : (es.map fun e => V.ref e.2.1).length ≤ sizeLine := by rw [List.length_map]; exact h2
  exact ⟨.ref _, _, I.laid (t' := tk) (o := .lst (es.map fun e => V.ref e.2.1)) kp (Nat.le_refl _) ⟨hz, acc'.toList, c', hv, by rw [Array.toArray_toList]; exact e⟩, rfl, q _ hn⟩
end
end DD
namespace DD
open PySem PySem.Spec PyProof.Rows L2
open Evl (Ex)
/-! ### methods of builtin objects that bear no attributes of their own -/
def IsTy (X : Cx) (T : String) (ty : V → Hp → Prop) : Prop := ∀ (pins : List (Addr × Obj)) (s : Shared) (σ : Sto) (H : Hp) (x : V) (v : Value), Inv X pins σ H s → RelV x v → ty x H →
  s.TypeIs v T ∧ ∀ a, v = .ref a → ∃ ob, s.heap.get? a = some ob ∧ ob.dict = none
section
variable {X : Cx} {o e f : Expr} {to te tf : TE} {name : Str} {apos cpos : Pos} {T id : String} {r : V → List V → Hp → VK → Prop} {ty : V → Hp → Prop}
def tM1 (ty : V → Hp → Prop) (r : V → List V → Hp → VK → Prop) (to te : TE) : TE := fun σ H Q => to σ H fun x H1 => ty x H1 ∧ te σ H1 fun y H2 => r x [y] H2 Q
def tM2 (ty : V → Hp → Prop) (r : V → List V → Hp → VK → Prop) (to te tf : TE) : TE := fun σ H Q => to σ H fun x H1 => ty x H1 ∧ te σ H1 fun y H2 => tf σ H2 fun z H3 => r x [y, z] H3 Q
theorem pe_m1 (pa : PlainAttrs T) (slot : Slot T name id) (hty : typeOf (.builtin id) = pure (.type "method_descriptor")) (it : IsTy X T ty) (hm : MtR X id r) (ho : PE X o to) (he : PE X e te) (m : M1 X o name apos e cpos) :
    PE X (.Call (.Attribute o name apos) [e] [] cpos) (tM1 ty r to te) := by
  refine ⟨fun pins s σ H Q I h => ?_⟩
  refine wpAny_Call_method m.base m.few m.line pa slot hty (thn (ho.run pins s σ H _ I h) fun v s1 ⟨x, H1, I1, rx, q0, q1⟩ => ?_)
  obtain ⟨t1, t2⟩ := it pins s1 σ H1 x v I1 rx q0
  refine ⟨t1, t2, ?_⟩
  rw [m.trees]
  exact Calls.callWith_builtin rfl (Calls.evalArgs_plain (Calls.spliced_cons (thn (he.run pins s1 σ H1 _ I1 q1) fun iv s2 ⟨y, H2, I2, ry, q2⟩ => Calls.spliced_nil (hm pins s2 σ H2 x [y] v [iv] Q I2 rx (.cons ry .nil) q2))))
theorem pe_m2 (pa : PlainAttrs T) (slot : Slot T name id) (hty : typeOf (.builtin id) = pure (.type "method_descriptor")) (it : IsTy X T ty) (hm : MtR X id r) (ho : PE X o to) (he : PE X e te) (hf : PE X f tf) (m : M2 X o name apos e f cpos) :
    PE X (.Call (.Attribute o name apos) [e, f] [] cpos) (tM2 ty r to te tf) := by
  refine ⟨fun pins s σ H Q I h => ?_⟩
  refine wpAny_Call_method m.base m.few m.line pa slot hty (thn (ho.run pins s σ H _ I h) fun v s1 ⟨x, H1, I1, rx, q0, q1⟩ => ?_)
  obtain ⟨t1, t2⟩ := it pins s1 σ H1 x v I1 rx q0
  refine ⟨t1, t2, ?_⟩
  rw [m.trees]
  exact Calls.callWith_builtin rfl (Calls.evalArgs_plain (Calls.spliced_cons (thn (he.run pins s1 σ H1 _ I1 q1) fun iv s2 ⟨y, H2, I2, ry, q2⟩ => Calls.spliced_cons (thn (hf.run pins s2 σ H2 _ I2 q2) fun fv s3 ⟨z, H3, I3, rz, q3⟩ =>
    Calls.spliced_nil (hm pins s3 σ H3 x [y, z] v [iv, fv] Q I3 rx (.cons ry (.cons rz .nil)) q3)))))
/-- a tuple -/
def tyTup (x : V) (H : Hp) : Prop := ∃ a xs, x = .ref a ∧ TupAt H a xs
theorem is_tup : IsTy X "tuple" tyTup := fun pins s σ H x v I rx ⟨a, xs, ex, t⟩ => by
  subst ex
  cases rx
  obtain ⟨ob, hd, t⟩ := t
  obtain ⟨h1, _, its, _, o, g, hc, _⟩ := (show ObjOk X.prog X.w H s.heap a (.frz ob (.tup xs)) from I.hok a _ t)
  exact ⟨⟨o, g, hc⟩, fun b e => by cases e; exact ⟨ob, h1, hd⟩⟩
/-- t.index(i), the first place of an int -/
theorem mt_index : MtR X "tuple.index" (fun x xs H Q => ∃ p, ∃ ys : List Int, ∃ z j, x = .ref p ∧ xs = [.int z] ∧ SqT X.K H p (ys.map V.int) ∧ ys[j]? = some z ∧ (∀ m, m < j → ys[m]? ≠ some z) ∧ Q (.int (j : Nat)) H) := by
  intro pins s σ H x xs v us Q I rx rs h
  obtain ⟨p, ys, z, j, rfl, rfl, hq, hy, hno, q⟩ := h
  cases rx
  obtain ⟨u, rfl, t, rfl⟩ := vals1 rs
  obtain ⟨its, r, pl, hz⟩ := I.tuple hq
  obtain ⟨⟨cls, dd, dt, sl⟩, ho, hc, n, hd⟩ := pl
  simp only at hc hd
  subst hc
  subst hd
  have hl : its.toArray.size = ys.length := by rw [List.size_toArray, ← r.length, List.length_map]
  have hj : j < its.toArray.size := by rw [hl]; exact (List.getElem?_eq_some_iff.mp hy).1
  have at' : ∀ (m : Nat) (hm : m < its.toArray.size), ∃ y t', ys[m]? = some y ∧ its.toArray[m] = Value.int y t' := fun m hm => by
    have hm' : m < ys.length := by rw [← hl]; exact hm
    obtain ⟨w, hw, t', hw'⟩ := r.get (i := m) (x := .int ys[m]) (by simp [hm'])
    refine ⟨ys[m], t', List.getElem?_eq_getElem hm', ?_⟩
    have e := (List.getElem?_eq_some_iff.mp hw).2
    rw [← hw', ← e]
    simp
  refine call_meets PySem.F.slot_tuple_index ⟨_, ho, rfl⟩ PySem.F.entry_tuple_index (PySem.F.args_tuple_index_2 _ _) (TI.tuple_indexAt p its.toArray n dd sl (.int z t) (eqU (.int z)) j hj ?_ ?_)
    ⟨ho, fun w hw => mem_eqAt (x := .int z) ⟨t, rfl⟩ rfl r (flat_ints ys) w (by simpa using hw), ⟨.int (j : Nat), H, I.tok _, ⟨_, rfl⟩, q⟩⟩
  · obtain ⟨y, t', h1, h2⟩ := at' j hj
    rw [hy] at h1
    cases h1
    rw [h2]
    show (z == z) = true
    exact beq_self_eq_true z
  · intro m hm hmj
    obtain ⟨y, t', h1, h2⟩ := at' m hm
    rw [h2]
    show (y == z) = false
    exact beq_eq_false_iff_ne.mpr fun e => hno m hmj (e ▸ h1)
/-- a dict with tuple keys -/
def tyTab (X : Cx) (x : V) (H : Hp) : Prop := ∃ a es, x = .ref a ∧ H a = some (DicO X.prog X.w a es)
theorem is_tab : IsTy X "dict" (tyTab X) := fun pins s σ H x v I rx ⟨a, es, ex, t⟩ => by
  subst ex
  cases rx
  obtain ⟨h1, h2, h3, ys, h4, o, en, ep, h5, h6, h7, h8⟩ := (show DicAt X.prog X.w a es s.heap from (I.hok a _ t).1)
  exact ⟨⟨o, h5, h6.1⟩, fun b e => by cases e; exact ⟨o, h5, h6.2.1⟩⟩
def KeysAt (H : Hp) (es : List Ent) : Prop := ∀ e ∈ es, TupAt H e.2.1 (e.1.map lfV)
/-- d.setdefault(k, v) -/
def rSd (X : Cx) : V → List V → Hp → VK → Prop := fun x xs H Q => ∃ a es b, ∃ k : TKey, ∃ v, x = .ref a ∧ xs = [.ref b, v] ∧ H a = some (DicO X.prog X.w a es) ∧ KeysAt H es ∧ TupAt H b (List.map lfV k) ∧ es.length < sizeLine ∧
  (∀ z, lookE es k = some z → Q z H) ∧ (lookE es k = none → Q v (upd H a (DicO X.prog X.w a (putE es k b v))))
theorem mt_sd (hu : X.A.units + 1 < cLine) : MtR X "dict.setdefault" (rSd X) := by
  intro pins s σ H x xs v us Q I rx rs h
  obtain ⟨a, es, b, k, w, rfl, rfl, h1, h2, h3, h4, q1, q2⟩ := h
  cases rx
  obtain ⟨u1, u2, rfl, r1, r2⟩ := vals2 rs
  cases r1
  exact dic_setdef hu I h1 h2 h3 r2 h4 (fun z hz y s' I' ry => ⟨z, H, I', ry, q1 z hz⟩) fun hn s' I' => ⟨w, _, I', r2, q2 hn⟩
/-- d.get(k, v) -/
def rGet2 (X : Cx) : V → List V → Hp → VK → Prop := fun x xs H Q => ∃ a es b, ∃ k : TKey, ∃ v, x = .ref a ∧ xs = [.ref b, v] ∧ H a = some (DicO X.prog X.w a es) ∧ KeysAt H es ∧ TupAt H b (List.map lfV k) ∧ Q ((lookE es k).getD v) H
theorem mt_get2 (hu : X.A.units + 1 < cLine) : MtR X "dict.get" (rGet2 X) := by
  intro pins s σ H x xs v us Q I rx rs h
  obtain ⟨a, es, b, k, w, rfl, rfl, h1, h2, h3, q⟩ := h
  cases rx
  obtain ⟨u1, u2, rfl, r1, r2⟩ := vals2 rs
  cases r1
  exact dic_get2 hu I h1 h2 h3 r2 fun y s' I' ry => ⟨_, H, I', ry, q⟩
/-- t not in d -/
def rNotTab (X : Cx) : R2 := fun x y H Q => ∃ b a es, ∃ k : TKey, x = .ref b ∧ y = .ref a ∧ H a = some (DicO X.prog X.w a es) ∧ KeysAt H es ∧ TupAt H b (List.map lfV k) ∧ Q (.bl (!decide (k ∈ es.map (·.1)))) H
theorem op_notTab (hu : X.A.units + 1 < cLine) : OpR X (compareOp .NotIn) (rNotTab X) := by
  intro pins s σ H x y v u Q I rx ry h
  obtain ⟨b, a, es, k, rfl, rfl, h1, h2, h3, q⟩ := h
  cases rx
  cases ry
  exact dic_notin hu I h1 h2 h3 fun s' I' => ⟨V.bl (!decide (k ∈ es.map fun e : Ent => e.1)), H, I', rfl, q⟩
/-- {} for tuple keys -/
def tNewTab (X : Cx) : TE := fun _ H Q => ∀ p, H p = none → Q (.ref p) (upd H p (DicO X.prog X.w p []))
theorem pe_newTab {pos : Pos} : PE X (.Dict [] [] pos) (tNewTab X) := ⟨fun pins s σ H Q I h =>
  wpAny_Dict_empty ⟨.ref s.heap.objs.size, _, I.laid (a := s.heap.objs.size) (o := DicO X.prog X.w s.heap.objs.size []) (t' := s.toks) (fun _ _ q => Heap.get?_push_of_some _ q) (Nat.le_refl _)
    (by
      have g : (s.heap.push PySem.W.emptyDict).get? s.heap.objs.size = some PySem.W.emptyDict := Heap.get?_push_size _ rfl
      refine ⟨⟨beq_eq_false_iff_ne.mpr (Ne.symm (Nat.ne_of_lt I.big)), Nat.zero_le _, List.nodup_nil, [], .nil, _, #[], 0, g, ⟨rfl, rfl, rfl⟩, rfl, rfl⟩, ⟨_, g⟩, fun h1 h2 p kk => ?_⟩
      obtain ⟨g1, g2, g3, ys', g4, o', en', ep', g5, g6⟩ := (show DicAt X.prog X.w s.heap.objs.size [] h1 from p)
      exact ⟨g1, g2, g3, ys', g4, o', en', ep', kk _ g5, g6⟩), rfl, h _ (I.hok.fresh (Nat.le_refl _))⟩⟩
/-- d[t] = v -/
def sPutTab (X : Cx) (td ty tv : TE) : TS := fun D σ H => tv σ H fun v H1 => td σ H1 fun x H2 => ty σ H2 fun y H3 => ∃ a es b, ∃ k : TKey, x = .ref a ∧ y = .ref b ∧ H3 a = some (DicO X.prog X.w a es) ∧ KeysAt H3 es ∧ TupAt H3 b (List.map lfV k) ∧ es.length < sizeLine ∧
  D.nx σ (upd H3 a (DicO X.prog X.w a (putE es k b v)))
theorem ps_putTab {value : Expr} {pos pos' : Pos} {tv : TE} (hu : X.A.units + 1 < cLine) (ho : PE X o to) (hi : PE X e te) (hv : PE X value tv) (hs : swapsWith value (some (.Subscript o e pos')) pos.line X.env = pure false) :
    PS X (.Assign [.Subscript o e pos'] value pos) (sPutTab X to te tv) := by
  refine ⟨fun pins s σ H D I h => ?_⟩
  refine wpAny_Assign_Subscript (thn (hv.run pins s σ H _ I h) fun r s1 ⟨v, H1, I1, rv, q1⟩ => thn (ho.run pins s1 σ H1 _ I1 q1) fun u s2 ⟨x, H2, I2, rx, q2⟩ => thn (hi.run pins s2 σ H2 _ I2 q2) fun iv s3 ⟨y, H3, I3, ry, a, es, b, k, ex, ey, h1, h2, h3, h4, q3⟩ => ?_) hs
  subst ex
  subst ey
  obtain rfl : u = Value.ref a := rx
  obtain rfl : iv = Value.ref b := ry
  exact dic_put hu I3 h1 h2 h3 rv h4 fun s' I' => ⟨σ, _, I', q3⟩
end
end DD
namespace DD
open PySem PySem.Spec PyProof.Rows L2
open Evl (Ex)
abbrev keyD (k : TKey) : D := .tup (k.map lfD)
abbrev kI (r : List Int) : TKey := r.map some
theorem keyD_kI (r : List Int) : keyD (kI r) = rowD r := by
  unfold keyD kI rowD
  rw [List.map_map]
  rfl
theorem kI_inj {a b : List Int} (h : kI a = kI b) : a = b := by
  unfold kI at h
  induction a generalizing b with
  | nil => cases b with
    | nil => rfl
    | cons _ _ => simp at h
  | cons x xs ih => cases b with
    | nil => simp at h
    | cons y ys =>
      rw [List.map_cons, List.map_cons] at h
      injection h with h1 h2
      rw [Option.some.inj h1, ih h2]
theorem rep_key {G : Wd} {H : Hp} {v : V} {k : TKey} (r : Rep G H v (keyD k)) : ∃ b, v = .ref b ∧ TupAt H b (k.map lfV) := by
  obtain ⟨b, xs, rfl, h1, h2⟩ := r.tup_inv
  rw [h2.lfs] at h1
  exact ⟨b, rfl, h1⟩
theorem key_rep {G : Wd} {H : Hp} {b : Addr} {k : TKey} (t : TupAt H b (k.map lfV)) : Rep G H (.ref b) (keyD k) := .tup t (repA_lfs k)
section
variable {X : Cx} {c : Cl → Addr} {env : SEnv} {e a b ix ek ev ew : Expr} {es : List Expr} {Qd : D → Prop} {P : DEnd} {pos : Pos} {body orelse : List Stmt}
/-- x = {}, to have tuple keys -/
theorem ds_newT (i : Nat) {x : Str} {p : Pos} (h : ∀ a, P.nx (env.set i (.ot a [] []))) (hN : X.N.Nodup) (hi : X.N[i]? = some x := by rfl) (hx : Loc X.env.scope x := by first | exact Or.inl rfl | exact Or.inr rfl)
    (hf : X.fn x = true ∨ X.env.scope.names.lookup x = some .local := by first | exact .inl rfl | exact .inr rfl) {spos : Pos} (hs : swapsWith (.Dict [] [] pos) (some (.Name x p)) spos.line X.env = pure false := by rfl) : DS X c env (.Assign [.Name x p] (.Dict [] [] pos) spos) P := fun A0 H0 σ H E se ft => by
  obtain ⟨e0, B, h1, h2, sv, h3⟩ := se
  refine ofS (ps_set hN hi hx pe_newTab hs hf) fun q hq => ft.nx _ _ _ (se_new (s := .ot q [] []) e0 h1 h2 sv h3 hq rfl ⟨rfl, hide_self B q, [], upd_same, rfl, fun e he => (by cases he), .nil⟩) (h q)
theorem ds_newG (i : Nat) {x : Str} {p : Pos} (h : ∀ a, P.nx (env.set i (.og a []))) (hN : X.N.Nodup) (hi : X.N[i]? = some x := by rfl) (hx : Loc X.env.scope x := by first | exact Or.inl rfl | exact Or.inr rfl)
    (hf : X.fn x = true ∨ X.env.scope.names.lookup x = some .local := by first | exact .inl rfl | exact .inr rfl) {spos : Pos} (hs : swapsWith (.Dict [] [] pos) (some (.Name x p)) spos.line X.env = pure false := by rfl) : DS X c env (.Assign [.Name x p] (.Dict [] [] pos) spos) P := fun A0 H0 σ H E se ft => by
  obtain ⟨e0, B, h1, h2, sv, h3⟩ := se
  refine ofS (ps_set hN hi hx pe_newTab hs hf) fun q hq => ft.nx _ _ _ (se_new (s := .og q []) e0 h1 h2 sv h3 hq rfl ⟨rfl, hide_self B q, by simp, fun g hg => (by cases hg), [], upd_same, fun e he => (by cases he), rfl⟩) (h q)
theorem putE_rep {G : Wd} {H : Hp} {es : List Ent} {k : TKey} {p : Addr} {v : V} (h : KeysAt H es) (t : TupAt H p (k.map lfV)) : KeysAt H (putE es k p v) := fun e he => by
  rcases putE_keys e he with ⟨e0, h0, h1, h2⟩ | ⟨h1, h2⟩
  · rw [h1, h2]; exact h e0 h0
  · rw [h1, h2]; exact t
theorem KeysAt.mono {H H' : Hp} {es : List Ent} (h : KeysAt H es) (e : Ex H H') : KeysAt H' es := fun x hx => (h x hx).mono e
theorem lookE_kds {G : Wd} {H : Hp} {k : TKey} : ∀ {es : List Ent} {kds : List (TKey × D)}, es.map (·.1) = kds.map (·.1) → RepA G H (es.map (·.2.2)) (kds.map (·.2)) →
    (lookE es k = none ∧ lookKD kds k = none) ∨ ∃ v d, lookE es k = some v ∧ lookKD kds k = some d ∧ Rep G H v d
  | [], [], _, _ => .inl ⟨rfl, rfl⟩
  | [], _ :: _, h, _ => by simp at h
  | _ :: _, [], h, _ => by simp at h
  | e :: es, q :: kds, h, r => by
    rw [List.map_cons, List.map_cons] at h r
    injection h with h1 h2
    cases r with
    | cons r1 r2 =>
      by_cases he : e.1 = k
      · refine .inr ⟨e.2.2, q.2, lookE_pos he, ?_, r1⟩
        simp [lookKD, List.find?_cons, h1.symm.trans he]
      · have hq : ¬ q.1 = k := fun z => he (h1.trans z)
        have e2 : lookKD (q :: kds) k = lookKD kds k := by simp [lookKD, List.find?_cons, hq]
        rw [lookE_neg he, e2]
        exact lookE_kds h2 r2
theorem lookKD_none {k : TKey} : ∀ {kds : List (TKey × D)}, lookKD kds k = none ↔ ¬ k ∈ kds.map (·.1)
  | [] => by simp [lookKD]
  | q :: kds => by
    by_cases h : q.1 = k
    · simp [lookKD, List.find?_cons, h]
    · have e2 : lookKD (q :: kds) k = lookKD kds k := by simp [lookKD, List.find?_cons, h]
      rw [e2, lookKD_none (kds := kds), List.map_cons, List.mem_cons]
      constructor
      · rintro h1 (h2 | h2)
        · exact h h2.symm
        · exact h1 h2
      · exact fun h1 h2 => h1 (.inr h2)
/-- d[t] = v of an own dict with tuple keys -/
theorem ds_putT (i : Nat) {y : Str} {p p2 : Pos} {ad : Addr} {kds : List (TKey × D)} (hu : X.A.units + 1 < cLine) (hs : env[i]? = some (.ot ad (kds.map (·.1)) (kds.map (·.2)))) (hz : kds.length < 100000)
    (h : DE X c env e fun d => DE X c env ix fun z => ∃ k : TKey, z = keyD k ∧ P.nx (env.set i (.ot ad ((putKD kds k d).map (·.1)) ((putKD kds k d).map (·.2)))))
    (hN : X.N[i]? = some y := by rfl) (hv : Vis X.env.scope y := by first | exact Or.inl rfl | exact Or.inr (Or.inl rfl) | exact Or.inr (Or.inr rfl))
    (hd : (y == ("__debug__" : Str)) = false := by decide) (hcd : (y == ("__classdict__" : Str)) = false := by decide)
    (hsw : swapsWith e (some (.Subscript (.Name y p) ix p2)) pos.line X.env = pure false := by rfl) : DS X c env (.Assign [.Subscript (.Name y p) ix p2] e pos) P := fun A0 H0 σ H E se ft => by
  obtain ⟨e0, B, h1, h2, sv, h3⟩ := se
  obtain ⟨q1, q2, es, q3, q4, q5, q6⟩ := sv.sl i _ hs
  refine ofS (ps_putTab hu (pe_var hN hv hd hcd) peS peS hsw) (h B σ H _ sv fun v H2 d e2 r h5 => ⟨_, q1, h5 B σ H2 _ (sv.ext e2) fun u H3 d3 e3 r3 ⟨k, hk, q⟩ => ?_⟩)
  subst hk
  have e23 := e2.trans e3
  obtain ⟨b, rfl, tb⟩ := rep_key r3
  obtain ⟨f1, f2⟩ := putKD_rep (r.mono (Ex.hid e3 B)) k b q4.symm (q6.mono (Ex.hid e23 B))
  have hl : es.length = kds.length := by have := congrArg List.length q4; simpa using this.symm
  refine ⟨ad, es, b, k, rfl, rfl, e23 _ _ q3, fun x hx => ((q5 x hx).mono (hid_ex B H)).mono e23, tb.mono (hid_ex B H3), by rw [hl]; exact Nat.lt_trans hz (by decide), ?_⟩
  refine ft.nx _ _ _ (se_put (t := .ot ad ((putKD kds k d).map (·.1)) ((putKD kds k d).map (·.2))) (e0.trans e23) h1 h2 (sv.ext e23) h3 hs (by simp [Sl.adrs]) rfl ⟨q1, q2, putE es k b v, upd_same, f1.symm, ?_, ?_⟩) q
  · rw [hid_mut q2]
    exact putE_rep (G := wdOf X c) (KeysAt.mono q5 (Ex.hid e23 B)) tb
  · rw [hid_mut q2]
    exact f2
/-- the state behind d.setdefault(k, v): the old value, or v laid at the end -/
theorem sd_core {B A0 : Addr → Bool} {H0 H H2 H3 : Hp} {σ : Sto} {i : Nat} {ad : Addr} {kds : List (TKey × D)} (e0 : Ex H0 H) (h1 : ∀ a, A0 a = true → B a = true) (h2 : ∀ a, B a = true → A0 a = false → H0 a = none) (sv : SV (wdOf X c) B env σ H)
    (h3 : ∀ (i : Nat) (s : Sl) (a : Addr), env[i]? = some s → a ∈ s.adrs → A0 a = false) (hs : env[i]? = some (.ot ad (kds.map (·.1)) (kds.map (·.2)))) (hz : kds.length < 100000) (e2 : Ex H H2) (e3 : Ex H2 H3)
    {x v : V} {k : TKey} {d : D} (hx : σ[i]? = some (some x)) {Q : VK} {y : V} (ry : Rep (wdOf X c) (hid B H2) y (keyD k)) (rv : Rep (wdOf X c) (hid B H3) v d)
    (q1 : ∀ z d2, lookKD kds k = some d2 → Rep (wdOf X c) (hid B H3) z d2 → Q z H3) (q2 : lookKD kds k = none → ∀ H4, Ex H0 H4 → SV (wdOf X c) B (env.set i (.ot ad ((kds ++ [(k, d)]).map (·.1)) ((kds ++ [(k, d)]).map (·.2)))) σ H4 → Rep (wdOf X c) (hid B H4) v d →
      (∀ (j : Nat) (s : Sl) (a : Addr), (env.set i (.ot ad ((kds ++ [(k, d)]).map (·.1)) ((kds ++ [(k, d)]).map (·.2))))[j]? = some s → a ∈ s.adrs → A0 a = false) → Q v H4) :
    rSd X x [y, v] H3 Q := by
  obtain ⟨g1, g2, es, g3, g4, g5, g6⟩ := sv.sl i _ hs
  have e23 := e2.trans e3
  rw [hx] at g1
  cases g1
  obtain ⟨b, rfl, tb⟩ := rep_key (ry.mono (Ex.hid e3 B))
  have hl : es.length = kds.length := by have := congrArg List.length g4; simpa using this.symm
  refine ⟨ad, es, b, k, v, rfl, rfl, e23 _ _ g3, fun x hx => ((g5 x hx).mono (hid_ex B H)).mono e23, tb.mono (hid_ex B H3), by rw [hl]; exact Nat.lt_trans hz (by decide), fun z hz => ?_, fun hn => ?_⟩
  · rcases lookE_kds (k := k) g4.symm (g6.mono (Ex.hid e23 B)) with ⟨n1, _⟩ | ⟨v2, d2, n1, n2, rr⟩
    · rw [hz] at n1; cases n1
    · rw [hz] at n1; cases n1
      exact q1 z d2 n2 rr
  · rcases lookE_kds (k := k) g4.symm (g6.mono (Ex.hid e23 B)) with ⟨_, n2⟩ | ⟨v2, d2, n1, n2, rr⟩
    · have hm : ¬ k ∈ kds.map (·.1) := lookKD_none.mp n2
      have ep : putKD kds k d = kds ++ [(k, d)] := by unfold putKD; rw [if_neg hm]
      obtain ⟨f1, f2⟩ := putKD_rep rv k b g4.symm (g6.mono (Ex.hid e23 B))
      rw [ep] at f1 f2
      have hA : A0 ad = false := h3 i _ ad hs (by simp [Sl.adrs])
      refine q2 n2 _ (Evl.Ex.mut ((e0.trans e2).trans e3) (h2 ad g2 hA)) (sv_put (t := .ot ad ((kds ++ [(k, d)]).map (·.1)) ((kds ++ [(k, d)]).map (·.2))) (sv.ext e23) hs (by simp [Sl.adrs]) rfl ⟨by rw [hx], g2, putE es k b v, upd_same, f1.symm, ?_, ?_⟩) ?_ (adr_set h3 (by simp only [Sl.adrs]; intro a ha; simp at ha; rw [ha]; exact hA))
      · rw [hid_mut g2]
        exact putE_rep (G := wdOf X c) (KeysAt.mono g5 (Ex.hid e23 B)) tb
      · rw [hid_mut g2]
        exact f2
      · rw [hid_mut g2]
        exact rv
    · rw [hn] at n1; cases n1
/-- y = d.setdefault(k, v) -/
theorem ds_setSd (i j : Nat) {x y : Str} {p p2 apos : Pos} {spos : Pos} {ad : Addr} {kds : List (TKey × D)} (hu : X.A.units + 1 < cLine) (hs : env[i]? = some (.ot ad (kds.map (·.1)) (kds.map (·.2)))) (hz : kds.length < 100000)
    (h : DE X c env ek fun dk => DE X c env ev fun dv => ∃ k, dk = keyD k ∧ (∀ d, lookKD kds k = some d → P.nx (env.set j (.dat d))) ∧ (lookKD kds k = none → P.nx ((env.set i (.ot ad ((kds ++ [(k, dv)]).map (·.1)) ((kds ++ [(k, dv)]).map (·.2)))).set j (.dat dv))))
    (hn : X.N.Nodup) (hN : X.N[i]? = some x := by rfl) (hv : Vis X.env.scope x := by first | exact Or.inl rfl | exact Or.inr (Or.inl rfl) | exact Or.inr (Or.inr rfl))
    (hd : (x == ("__debug__" : Str)) = false := by decide) (hcd : (x == ("__classdict__" : Str)) = false := by decide) (m : M2 X (.Name x p) "setdefault" apos ek ev pos := by exact ⟨rfl, rfl, rfl, rfl⟩)
    (hj : X.N[j]? = some y := by rfl) (hy : Loc X.env.scope y := by first | exact Or.inl rfl | exact Or.inr rfl)
    (hsw : swapsWith (.Call (.Attribute (.Name x p) "setdefault" apos) [ek, ev] [] pos) (some (.Name y p2)) spos.line X.env = pure false := by rfl)
    (hf : X.fn y = true ∨ X.env.scope.names.lookup y = some .local := by first | exact .inl rfl | exact .inr rfl) : DS X c env (.Assign [.Name y p2] (.Call (.Attribute (.Name x p) "setdefault" apos) [ek, ev] [] pos) spos) P := fun A0 H0 σ H E se ft => by
  obtain ⟨e0, B, h1, h2, sv, h3⟩ := se
  obtain ⟨g1, g2, es, g3, g4⟩ := id (sv.sl i _ hs)
  refine ofS (ps_set hn hj hy (pe_m2 PySem.F.plainAttrs_dict PySem.F.slot_dict_setdefault PySem.F.type_dict_setdefault is_tab (mt_sd hu) (pe_var hN hv hd hcd) peS peS m) hsw hf) ⟨_, g1, ⟨ad, es, rfl, g3⟩, ?_⟩
  refine h B σ H _ sv fun y H2 dk e2 rk hk => hk B σ H2 _ (sv.ext e2) fun v H3 dv e3 rv ⟨k, ek_, c1, c2⟩ => ?_
  subst ek_
  refine sd_core e0 h1 h2 sv h3 hs hz e2 e3 g1 rk rv (fun z d2 hl rz => ?_) (fun hn H4 e04 sv4 rv4 k3 => ?_)
  · exact ft.nx _ _ H3 ⟨(e0.trans e2).trans e3, B, h1, h2, ((sv.ext e2).ext e3).setD j rz, adr_set h3 (by intro a ha; simp [Sl.adrs] at ha)⟩ (c1 d2 hl)
  · exact ft.nx _ _ H4 ⟨e04, B, h1, h2, sv4.setD j rv4, adr_set k3 (by intro a ha; simp [Sl.adrs] at ha)⟩ (c2 hn)
/-- if d.setdefault(k, v) != w: the values read as data -/
theorem ds_ifSd (i : Nat) {α : Type} [DecidableEq α] {enc : α → D} {pd : α → PyData} {n : Nat} (PE_ : Pe enc pd n) (hn64 : n ≤ 64) {x : Str} {p apos cpos bpos : Pos} {ad : Addr} {kvs : List (TKey × α)} (hu : X.A.units + 64 < cLine)
    (hs : env[i]? = some (.ot ad (kvs.map (·.1)) (kvs.map fun q => enc q.2))) (hz : kvs.length < 100000)
    (h : DE X c env ek fun dk => DE X c env ev fun dv => ∃ (k : TKey) (v : α), dk = keyD k ∧ dv = enc v ∧
      (∀ u, (kvs.find? fun e => decide (e.1 = k)).map (·.2) = some u → DE X c env ew fun dw => ∃ w, dw = enc w ∧ if u ≠ w then DB X c env body P else DB X c env orelse P) ∧
      (k ∉ kvs.map (·.1) → DE X c (env.set i (.ot ad ((kvs ++ [(k, v)]).map (·.1)) ((kvs ++ [(k, v)]).map fun q => enc q.2))) ew fun dw => ∃ w, dw = enc w ∧
        if v ≠ w then DB X c (env.set i (.ot ad ((kvs ++ [(k, v)]).map (·.1)) ((kvs ++ [(k, v)]).map fun q => enc q.2))) body P else DB X c (env.set i (.ot ad ((kvs ++ [(k, v)]).map (·.1)) ((kvs ++ [(k, v)]).map fun q => enc q.2))) orelse P))
    (hN : X.N[i]? = some x := by rfl) (hv : Vis X.env.scope x := by first | exact Or.inl rfl | exact Or.inr (Or.inl rfl) | exact Or.inr (Or.inr rfl))
    (hd : (x == ("__debug__" : Str)) = false := by decide) (hcd : (x == ("__classdict__" : Str)) = false := by decide) (m : M2 X (.Name x p) "setdefault" apos ek ev cpos := by exact ⟨rfl, rfl, rfl, rfl⟩)
    (hmk : behindInMarks .NotEq ew = false := by first | exact nomark _ | rfl) : DS X c env (.If (.Compare (.Call (.Attribute (.Name x p) "setdefault" apos) [ek, ev] [] cpos) [.NotEq] [ew] bpos) body orelse pos) P := fun A0 H0 σ H E se ft => by
  obtain ⟨e0, B, h1, h2, sv, h3⟩ := se
  obtain ⟨g1, g2, es, g3, g4⟩ := id (sv.sl i _ hs)
  have ek1 : kvs.map (·.1) = (kvs.map fun q => (q.1, enc q.2)).map (·.1) := by rw [List.map_map]; rfl
  have ek2 : (kvs.map fun q => enc q.2) = (kvs.map fun q => (q.1, enc q.2)).map (·.2) := by rw [List.map_map]; rfl
  have look : ∀ k, lookKD (kvs.map fun q => (q.1, enc q.2)) k = ((kvs.find? fun e => decide (e.1 = k)).map (·.2)).map enc := fun k => by
    unfold lookKD
    rw [List.find?_map]
    show Option.map (·.2) (Option.map (fun q : TKey × α => (q.1, enc q.2)) (kvs.find? fun e => decide (e.1 = k))) = _
    rw [Option.map_map, Option.map_map]
    rfl
  rw [ek1, ek2] at hs
  refine ofS (ps_if (pt_cmp (pc_of (op_neD hu) (pe_m2 PySem.F.plainAttrs_dict PySem.F.slot_dict_setdefault PySem.F.type_dict_setdefault is_tab (mt_sd (by omega)) (pe_var hN hv hd hcd) peS peS m) peS) hmk) pbS pbS) ⟨_, g1, ⟨ad, es, rfl, g3⟩, ?_⟩
  refine h B σ H _ sv fun y H2 dk e2 rk hk => hk B σ H2 _ (sv.ext e2) fun v H3 dv e3 rv ⟨k, v0, ek_, ev_, c1, c2⟩ => ?_
  subst ek_
  subst ev_
  refine sd_core e0 h1 h2 sv h3 hs (by rw [List.length_map]; exact hz) e2 e3 g1 rk rv (fun z d2 hl rz => ?_) (fun hn H4 e04 sv4 rv4 k3 => ?_)
  · rw [look k] at hl
    obtain ⟨u, hu2, rfl⟩ := Option.map_eq_some_iff.mp hl
    refine c1 u hu2 B σ H3 _ ((sv.ext e2).ext e3) fun w H5 dw e5 rw_ ⟨w0, ew_, q⟩ => ?_
    subst ew_
    refine ⟨pd u, pd w0, PE_.dp (wdOf X c) H5 z u ((rz.mono (Ex.hid e5 B)).mono (hid_ex B H5)), PE_.dp (wdOf X c) H5 w w0 (rw_.mono (hid_ex B H5)), PE_.shaped hn64 u, PE_.shaped hn64 w0, ?_⟩
    rw [PE_.eqv]
    have se5 : SE (wdOf X c) A0 H0 env σ H5 := ⟨((e0.trans e2).trans e3).trans e5, B, h1, h2, ((sv.ext e2).ext e3).ext e5, h3⟩
    by_cases huw : u = w0
    · rw [if_neg (by simp [huw])] at q
      refine ⟨false, by simp [huw], ?_⟩
      exact q A0 H0 σ H5 E se5 ft
    · rw [if_pos huw] at q
      refine ⟨true, by simp [huw], ?_⟩
      exact q A0 H0 σ H5 E se5 ft
  · have hm : k ∉ kvs.map (·.1) := by rw [ek1]; exact lookKD_none.mp hn
    have en : SV (wdOf X c) B (env.set i (.ot ad ((kvs ++ [(k, v0)]).map (·.1)) ((kvs ++ [(k, v0)]).map fun q => enc q.2))) σ H4 := by
      have q1 : ((kvs.map fun q => (q.1, enc q.2)) ++ [(k, enc v0)]) = (kvs ++ [(k, v0)]).map fun q => (q.1, enc q.2) := by rw [List.map_append]; rfl
      rw [q1, List.map_map, List.map_map] at sv4
      exact sv4
    refine c2 hm B σ H4 _ en fun w H5 dw e5 rw_ ⟨w0, ew_, q⟩ => ?_
    subst ew_
    refine ⟨pd v0, pd w0, PE_.dp (wdOf X c) H5 v v0 ((rv4.mono (Ex.hid e5 B)).mono (hid_ex B H5)), PE_.dp (wdOf X c) H5 w w0 (rw_.mono (hid_ex B H5)), PE_.shaped hn64 v0, PE_.shaped hn64 w0, ?_⟩
    rw [PE_.eqv]
    have k3' : ∀ (j : Nat) (s : Sl) (a : Addr), (env.set i (.ot ad ((kvs ++ [(k, v0)]).map (·.1)) ((kvs ++ [(k, v0)]).map fun q => enc q.2)))[j]? = some s → a ∈ s.adrs → A0 a = false :=
      adr_set h3 (by simp only [Sl.adrs]; intro a ha; simp at ha; rw [ha]; exact h3 i _ ad hs (by simp [Sl.adrs]))
    have se5 := SE.ext e04 h1 h2 en k3' e5
    by_cases huw : v0 = w0
    · rw [if_neg (by simp [huw])] at q
      refine ⟨false, by simp [huw], ?_⟩
      exact q A0 H0 σ H5 E se5 ft
    · rw [if_pos huw] at q
      refine ⟨true, by simp [huw], ?_⟩
      exact q A0 H0 σ H5 E se5 ft
/-- t not in d, d read as data -/
theorem dc_notinT (hu : X.A.units + 1 < cLine) (h : DE X c env a fun x => DE X c env b fun y => ∃ (k : TKey) (ks : List TKey) (ds : List D), x = keyD k ∧ y = .tdic ks ds ∧ Qd (.bl (!decide (k ∈ ks)))) : DC X c env .NotIn a b Qd := by
  refine dc_op (op_notTab hu) (h.mono fun x hx => hx.mono fun y ⟨k, ks, ds, e1, e2, q⟩ => ?_)
  subst e1
  subst e2
  intro B H v u Q z r1 r2 f
  obtain ⟨p, rfl, tp⟩ := rep_key r1
  obtain ⟨q2, es, rfl, g1, g2, g3, g4⟩ := r2.tdic_inv
  refine ⟨p, q2, es, k, rfl, rfl, hid_ex B H _ _ g1, fun x hx => (g3 x hx).mono (hid_ex B H), tp.mono (hid_ex B H), ?_⟩
  rw [← g2]
  exact f _ H _ (Evl.Ex.refl H) (.bl _) q
/-- list(d) -/
theorem de_listT {p : Pos} (hc : X.calm = true) (hm : X.mg "list" = none) (h : DE X c env e fun d => ∃ ks ds, d = .tdic ks ds ∧ Qd (.lst (ks.map keyD))) (hg : Gl X "list" := by rfl) (he : starEach [e] X.env = (false, eval e X.env) :: starEach [] X.env := by rfl) :
    DE X c env (.Call (.Name "list" p) [e] [] pos) Qd := by
  refine de_callTy (cr_listD hc) hm (da_cons (h.mono fun d ⟨ks, ds, hd, q⟩ => da_nil ?_) he) hg (by decide +kernel) (by decide) (by decide) he rfl
  subst hd
  intro B H vs Q z r f
  obtain ⟨v, rfl, r1⟩ := r.one
  obtain ⟨a, es, rfl, g1, g2, g3, g4⟩ := r1.tdic_inv
  refine ⟨a, es, rfl, hid_ex B H _ _ g1, fun l hl => ?_⟩
  have en : Ex H (upd H l (.lst (es.map fun e => V.ref e.2.1))) := Evl.Ex.new hl
  have ra : ∀ {es : List Ent}, KeysAt (hid B H) es → RepA (wdOf X c) (hid B H) (es.map fun e => V.ref e.2.1) ((es.map (·.1)).map keyD) := by
    intro es
    induction es with
    | nil => intro _; exact .nil
    | cons e es ih => intro k; exact .cons (key_rep (k e List.mem_cons_self)) (ih fun x hx => k x (List.mem_cons_of_mem _ hx))
  rw [g2] at q
  exact f _ _ _ en (.lst (fresh_rep z hl) ((ra g3).mono (Ex.hid en B))) q
/-- d.get(k, w), d read as data -/
theorem de_getT {o : Expr} {apos : Pos} (hu : X.A.units + 1 < cLine) (h : DE X c env o fun x => ∃ kds : List (TKey × D), x = .tdic (kds.map (·.1)) (kds.map (·.2)) ∧ DE X c env ek fun y => DE X c env ev fun z => ∃ k : TKey, y = keyD k ∧ Qd ((lookKD kds k).getD z))
    (m : M2 X o "get" apos ek ev pos := by exact ⟨rfl, rfl, rfl, rfl⟩) : DE X c env (.Call (.Attribute o "get" apos) [ek, ev] [] pos) Qd := fun B σ H Q sv f => by
  refine ofE (pe_m2 PySem.F.plainAttrs_dict PySem.F.slot_dict_get PySem.F.type_dict_get is_tab (mt_get2 hu) peS peS peS m) ?_
  refine h B σ H _ sv fun x H1 dx e1 rx ⟨kds, hd, h1⟩ => ?_
  subst hd
  obtain ⟨a, es, rfl, g1, g2, g3, g4⟩ := rx.tdic_inv
  refine ⟨⟨a, es, rfl, hid_ex B H1 _ _ g1⟩, ?_⟩
  refine h1 B σ H1 _ (sv.ext e1) fun y H2 dy e2 ry h2 => h2 B σ H2 _ ((sv.ext e1).ext e2) fun z H3 dz e3 rz ⟨k, e5, q⟩ => ?_
  subst e5
  obtain ⟨b, rfl, tb⟩ := rep_key (ry.mono (Ex.hid e3 B))
  have e23 := e2.trans e3
  refine ⟨a, es, b, k, z, rfl, rfl, (hid_ex B H1 _ _ g1 |> e23 _ _), fun x hx => ((g3 x hx).mono (hid_ex B H1)).mono e23, tb.mono (hid_ex B H3), ?_⟩
  rcases lookE_kds (k := k) g2.symm (g4.mono (Ex.hid e23 B)) with ⟨n1, n2⟩ | ⟨v2, d2, n1, n2, rr⟩
  · rw [n1]
    rw [n2] at q
    exact f _ H3 _ (e1.trans e23) rz q
  · rw [n1]
    rw [n2] at q
    exact f _ H3 _ (e1.trans e23) rr q
/-- t.index(i) -/
theorem de_index {o : Expr} {apos : Pos} (h : DE X c env o fun x => ∃ ys : List Int, x = rowD ys ∧ DE X c env e fun z => ∃ (i : Int) (j : Nat), z = .int i ∧ ys[j]? = some i ∧ (∀ m, m < j → ys[m]? ≠ some i) ∧ Qd (.int (j : Int)))
    (m : M1 X o "index" apos e pos := by exact ⟨rfl, rfl, rfl, rfl⟩) : DE X c env (.Call (.Attribute o "index" apos) [e] [] pos) Qd := fun B σ H Q sv f => by
  refine ofE (pe_m1 PySem.F.plainAttrs_tuple PySem.F.slot_tuple_index PySem.F.type_tuple_index is_tup mt_index peS peS m) ?_
  refine h B σ H _ sv fun x H1 dx e1 rx ⟨ys, hd, h1⟩ => ?_
  subst hd
  obtain ⟨a, xs, rfl, g1, g2⟩ := rx.tup_inv
  rw [g2.ints] at g1
  refine ⟨⟨a, _, rfl, g1.mono (hid_ex B H1)⟩, ?_⟩
  refine h1 B σ H1 _ (sv.ext e1) fun z H2 dz e2 rz ⟨i, j, hd, h2, h3, q⟩ => ?_
  subst hd
  rw [rz.int_inv]
  exact ⟨a, ys, i, j, rfl, rfl, ((g1.mono (hid_ex B H1)).mono e2).sq, h2, h3, f _ H2 _ (e1.trans e2) (.int _) q⟩
end
end DD
namespace DD
open PySem PySem.Spec PyProof.Rows L2
open Evl (Ex)
/-! ### enumerate(tuple) -/
section
variable {prog : Program} {w : World} {A : Around} {E : Value → Shared → Prop} {s : Shared}
theorem meets_enumT (t : Addr) (items : Array Value) :
    Meets (Builtin.«enumerate.__new__» ⟨[.type "enumerate", .ref t], []⟩) (fun _ R s => s.heap.IsTuple t items ∧
      R (.ok (.ret (.ref (s.heap.push { cls := .type "tuple_iterator", data := .fields #[.ref t, .int 0 0] }).objs.size)))
        { s with heap := (s.heap.push { cls := .type "tuple_iterator", data := .fields #[.ref t, .int 0 0] }).push { cls := .type "enumerate", data := .fields #[.none, .bool false, .ref s.heap.objs.size, rawInt 0, .none, .none] } }) :=
  .of_wp fun prog w A R s h => by
    obtain ⟨hp, g, d, tk, os⟩ := s; obtain ⟨hL, h⟩ := h
    have hsub := sub_enumerate
    replace hL : Heap.IsTuple (Shared.heap ⟨hp, g, d, tk, os⟩) t items := hL
    wp_walk using wpAny_pyIter_tuple hL
    refine wpAny_stack_any fun st => wpAny_pure ?_
    split
    · rename_i c _ _ _ _ _
      cases (c == Value.type "enumerate")
      · wp_walk using wpAny_pyIter_tuple hL
        exact ⟨_, rfl, h⟩
      · wp_walk using wpAny_pyIter_tuple hL
        exact ⟨_, rfl, h⟩
    · wp_walk using wpAny_pyIter_tuple hL
      exact ⟨_, rfl, h⟩
theorem call_enumT {t : Addr} {items : Array Value} {Q : Value → Shared → Prop} (hL : s.heap.IsTuple t items)
    (h : ∀ h', IsEnum h' (s.heap.objs.size + 1) s.heap.objs.size 0 .none → h'.IsTupleIter s.heap.objs.size t 0 → h'.objs.size = s.heap.objs.size + 2 →
      (∀ b o, s.heap.get? b = some o → h'.get? b = some o) → Q (.ref (s.heap.objs.size + 1)) { s with heap := h' }) :
    wpAny (model prog w) A (call (.type "enumerate") [.ref t]) Q E s := by
  refine callType_new F.called_enumerate (by decide) (F.typeCall_enumerate_1 _) (F.newCall_enumerate_1 _) (fun obj => F.args_object_init_2 obj _) F.entry_enumerate_new
    (meets_enumT t items) ⟨hL, ?_⟩
  have hz : (s.heap.push { cls := .type "tuple_iterator", data := .fields #[.ref t, .int 0 0] }).objs.size = s.heap.objs.size + 1 := Heap.size_push ..
  show _ ∧ _
  rw [hz]
  have he : IsEnum ((s.heap.push { cls := .type "tuple_iterator", data := .fields #[.ref t, .int 0 0] }).push
      { cls := .type "enumerate", data := .fields #[.none, .bool false, .ref s.heap.objs.size, rawInt 0, .none, .none] }) (s.heap.objs.size + 1) s.heap.objs.size 0 .none := by
    have := Heap.get?_push_size (s.heap.push { cls := .type "tuple_iterator", data := .fields #[.ref t, .int 0 0] })
      (o := { cls := .type "enumerate", data := .fields #[.none, .bool false, .ref s.heap.objs.size, rawInt 0, .none, .none] }) rfl
    rw [hz] at this
    exact this
  exact ⟨⟨_, he, rfl⟩, h _ he ⟨_, Heap.get?_push_of_some _ (Heap.get?_push_size _ rfl), rfl, rfl⟩ (by rw [Heap.size_push, hz]) fun b o e => Heap.get?_push_of_some _ (Heap.get?_push_of_some _ e)⟩
end
def IteT (K : PySem.W.Frag) (a : Addr) : It :=
  ⟨fun i H => ∃ (xs : List V) (x : V), SqT K H a xs ∧ xs[i]? = some x, fun i H v H' => ∃ T x, v = .ref T ∧ H T = none ∧ H' = upd H T (.tup [.int (i : Nat), x]) ∧ ∀ xs, SqT K H a xs → xs[i]? = some x, fun i H => ∃ xs : List V, SqT K H a xs ∧ xs.length = i⟩
theorem turn_enumT {P : Program} {w : World} {K : PySem.W.Frag} {elts : List Expr} {kk : Nat} {tpos : Pos} (a e it : Addr) :
    Turn P w K (.Tuple elts kk tpos) (IteT K a) [e, it] e (fun i h => (∃ old, IsEnum h e it ((i : Nat) : Int) old) ∧ h.IsTupleIter it a i ∧ e ≠ it) where
  mem := by simp
  obj := fun i h st b hb => by
    obtain ⟨⟨old, he⟩, ⟨o, ho, hc, hd⟩, _⟩ := st
    have e' : b = e ∨ b = it := by simpa using hb
    rcases e' with z | z
    · rw [z]; exact ⟨_, he, fun v q => nomatch q⟩
    · rw [z]; exact ⟨o, ho, fun v q => by rw [hd] at q; cases q⟩
  keep := fun i h h' st k => let ⟨⟨old, he⟩, hi, hne⟩ := st; ⟨⟨old, k e (by simp) _ he⟩, hi.at fun o q => k it (by simp) o q, hne⟩
  item := by
    intro X hP hw hK hc i pins s σ H E I hf st hg
    subst hP hw hK
    obtain ⟨⟨old, he⟩, hit, hne⟩ := st
    obtain ⟨xs, x, hq, hx⟩ := hg
    obtain ⟨its, rv, p, hz⟩ := I.tuple hq
    obtain ⟨u, hu, ru⟩ := rv.get hx
    have hel : e < s.heap.objs.size := Heap.lt_size he
    have hil : it < s.heap.objs.size := by obtain ⟨_, q, _⟩ := hit; exact Heap.lt_size q
    have hat : a ≠ it := fun z => by
      obtain ⟨o1, g1, c1, _⟩ := id p
      obtain ⟨o2, g2, c2, _⟩ := id hit
      rw [z, g2] at g1
      cases g1
      rw [c2] at c1
      exact absurd c1 (by decide)
    have hea : e ∉ [it, a] := fun z => by
      rcases List.mem_cons.mp z with z | z
      · exact hne z
      · have z := List.mem_singleton.mp z
        obtain ⟨o1, g1, c1, _⟩ := id p
        rw [← z, show s.heap.get? e = some _ from he] at g1
        cases g1
        exact absurd (show Value.type "enumerate" = Value.type "tuple" from c1) (by decide)
    have hlt : i < its.toArray.size := by rw [List.size_toArray]; exact (List.getElem?_eq_some_iff.mp hu).1
    refine wpAny_pyNext_enum_itemC (Draws.tuple (A := X.A.in1) (I.ok.hd hc) it a hat its.toArray) he ⟨hit, p⟩ hlt hne hea fun x' h' tk hP ho hs' hT hsz hk => ?_
    have hxu : x' = u := by
      have q : its.toArray[i]? = some u := by simpa using hu
      rw [q] at hP
      exact (Option.some.inj hP).symm
    subst hxu
    refine ⟨_, rfl, wpAny_letOwnedTupleGo_enum (s := { s with heap := h', toks := tk + 1 }) ho fun h'' he' sb => ?_⟩
    have hT2 : h''.get? s.heap.objs.size = some { cls := .type "tuple", data := .seq #[.int i tk, x'] } := (sb.2 _ (Nat.ne_of_gt hel)).trans hT
    have new : ObjOk X.prog X.w (upd H s.heap.objs.size (.tup [.int (i : Nat), x])) h'' s.heap.objs.size (.tup [.int (i : Nat), x]) :=
      ⟨by show 2 ≤ sizeLine; decide, [.int i tk, x'], .cons ⟨_, rfl⟩ (.cons ru .nil), ⟨_, hT2, rfl, _, rfl⟩⟩
    have I1 : Inv X pins σ (upd H s.heap.objs.size (.tup [.int (i : Nat), x])) { s with heap := h'', toks := tk + 1 } :=
      I.turnedNew (ch := [e, it]) (fun b ob hb q => (sb.2 b (fun z => hb (by simp [z]))).trans (hk b ob (fun z => hb (by simp [z])) (fun z => hb (by simp [z])) q)) hf (Nat.le_refl _) new
    refine ⟨.ref s.heap.objs.size, _, I1, rfl, ⟨_, x, rfl, I.hok.fresh (Nat.le_refl _), rfl, fun ys hy => by rw [I.tuple_inj hy hq]; exact hx⟩, ⟨⟨x', ?_⟩, hs'.1.at fun o q => (sb.2 it (Ne.symm hne)).trans q, hne⟩, fun b hb => ?_⟩
    · have e1 : ((i + 1 : Nat) : Int) = (i : Int) + 1 := by omega
      rw [e1]; exact he'
    · have hb' : b < s.heap.objs.size := by
        have e' : b = e ∨ b = it := by simpa using hb
        rcases e' with z | z
        · rw [z]; exact hel
        · rw [z]; exact hil
      rw [upd_ne (Nat.ne_of_lt hb')]
      exact (hf b hb).1
  done := by
    intro X hP hw hK hc i pins s σ H E I hf st hg
    subst hP hw hK
    obtain ⟨⟨old, he⟩, hit, hne⟩ := st
    obtain ⟨xs, hq, hx⟩ := hg
    obtain ⟨its, rv, p, hz⟩ := I.tuple hq
    obtain ⟨f0, f1, f2, f3, f4, f5⟩ := hf it (by simp)
    have hl := rv.length
    have hat : a ≠ it := fun z => by
      obtain ⟨o1, g1, c1, _⟩ := id p
      obtain ⟨o2, g2, c2, _⟩ := id hit
      rw [z, g2] at g1
      cases g1
      rw [c2] at c1
      exact absurd c1 (by decide)
    have hi : i = its.toArray.size := by rw [List.size_toArray]; omega
    exact wpAny_pyNext_enum_endD (Draws.tuple (A := X.A.in1) (I.ok.hd hc) it a hat its.toArray) he (by rw [← hi]; exact ⟨hit, p⟩) fun h' eb => ⟨rfl, I.turned (t' := s.toks) (fun b o hb q => eb b o hb q) f0 f1 f3 f4 f5⟩
  self := fun A i s Q E st h => let ⟨⟨_, he⟩, _⟩ := st; wpAny_pyIter_enum he h
def iEnumT (K : PySem.W.Frag) (ta : TA) : TI := fun σ H R => ta σ H fun vs H1 => ∃ a xs, vs = [.ref a] ∧ SqT K H1 a xs ∧ R (IteT K a) H1
theorem pi_enumT {X : Cx} {e : Expr} {ta : TA} {p pos tpos : Pos} {elts : List Expr} {kk : Nat} (hg : Gl X "enumerate") (hm : X.mg "enumerate" = none) (ha : PA X [e] ta) (hs : starEach [e] X.env = [(false, eval e X.env)] := by rfl) :
    PI X (.Tuple elts kk tpos) (.Call (.Name "enumerate" p) [e] [] pos) (iEnumT X.K ta) := by
  refine ⟨fun pins s σ H R I h => ?_⟩
  refine Call_ (ld_blt I hg hm boot_enumerate (PyProof.Rows.callWith_type1 (thn (ha.run pos pins s σ H _ I h) fun us s1 ⟨vs, H1, I1, r1, q1⟩ => ?_) hs rfl))
  obtain ⟨a, xs, ex, hq, q⟩ := q1
  subst ex
  cases r1 with
  | cons r rr =>
    cases rr
    cases r
    obtain ⟨its, rv, p', hz⟩ := I1.tuple hq
    refine call_enumT (items := its.toArray) p' fun h' he hit hsz hk => wpAny_pyIter_enum he ?_
    have I2 : Inv X pins σ H1 { s1 with heap := h' } := I1.kept (t' := s1.toks) hk
    refine ⟨s1.heap.objs.size + 1, [s1.heap.objs.size + 1, s1.heap.objs.size], _, _, H1, rfl, I2, turn_enumT a (s1.heap.objs.size + 1) s1.heap.objs.size, ⟨⟨.none, he⟩, hit, Nat.succ_ne_self _⟩, fun b hb => ?_, q⟩
    have e' : b = s1.heap.objs.size + 1 ∨ b = s1.heap.objs.size := by simpa using hb
    have hle : s1.heap.objs.size ≤ b := by
      rcases e' with z | z
      · rw [z]; exact Nat.le_add_right _ _
      · rw [z]; exact Nat.le_refl _
    exact I1.fpOk hle (I1.hok.fresh hle)
end DD
namespace DD
open PySem PySem.Spec PyProof.Rows L2
open Evl (Ex)
/-! ### defs whose first argument is an own object of the caller -/
def Sl.adr0 : Sl → Option Addr
  | .ol a _ => some a
  | .od a _ _ => some a
  | .ot a _ _ => some a
  | .og a _ => some a
  | .oi a _ _ _ => some a
  | .ll L _ => some L
  | .rp a _ _ _ _ => some a
  | _ => none
theorem SlOk.at0 {G : Wd} {B : Addr → Bool} {H : Hp} {o : Option (Option V)} {s : Sl} {a : Addr} (h : SlOk G B H o s) (e : s.adr0 = some a) : o = some (some (.ref a)) := by
  cases s with
  | no => cases e
  | al a => cases e
  | dat d => cases e
  | _ => cases e; exact h.1
theorem Sl.mem0 {s : Sl} {a : Addr} (e : s.adr0 = some a) : a ∈ s.adrs := by
  cases s with
  | no => cases e
  | al a => cases e
  | dat d => cases e
  | _ => cases e; simp [Sl.adrs]
/-- what stands behind such a call -/
structure SelfEnd (G : Wd) (B B2 : Addr → Bool) (H H2 : Hp) (a0 : Addr) (s s2 : Sl) : Prop where
  up : ∀ a, B a = true → B2 a = true
  fresh : ∀ a, B2 a = true → B a = false → H a = none
  keep : ∀ a o, H a = some o → a ∉ s.adrs → H2 a = some o
  bz : Bz B2 H2
  ok : SlOk G B2 H2 (some (some (.ref a0))) s2
  ad : ∀ a ∈ s2.adrs, a ∈ s.adrs ∨ H a = none
  ad' : ∀ a ∈ s.adrs, a ∈ s2.adrs
  at0 : s2.adr0 = some a0
def spS (G : Wd) (Ph : Sl → List D → (Sl → D → Prop) → Prop) : Sp := fun vs H Q _ => ∃ (B : Addr → Bool) (s : Sl) (a0 : Addr) (ws : List V) (ds : List D) (Qd : Sl → D → Prop), vs = .ref a0 :: ws ∧ Bz B H ∧ s.adr0 = some a0 ∧ SlOk G B H (some (some (.ref a0))) s ∧ RepA G (hid B H) ws ds ∧ Ph s ds Qd ∧
  ∀ v H2 B2 s2 d, SelfEnd G B B2 H H2 a0 s s2 → flat d = true → Rep G H2 v d → Qd s2 d → Q v H2
def startS (N : List Str) (s : Sl) (ds : List D) : SEnv := s :: (ds.map Sl.dat ++ List.replicate (N.length - (ds.length + 1)) Sl.no)
/-- the heap without an object's own -/
def outOf (as : List Addr) (H : Hp) : Hp := fun a => if a ∈ as then none else H a
theorem outOf_ex {as : List Addr} {H : Hp} : Ex (outOf as H) H := fun a o h => by
  unfold outOf at h
  split at h
  · cases h
  · exact h
theorem outOf_at {as : List Addr} {H : Hp} {a : Addr} (h : a ∉ as) : outOf as H a = H a := by
  unfold outOf
  rw [if_neg h]
/-- how such a def ends -/
def selfEnds (s : Sl) (Qd : Sl → D → Prop) : DEnd :=
  { nx := fun env => ∃ s2, env[0]? = some s2 ∧ s2.adr0 = s.adr0 ∧ (∀ a ∈ s.adrs, a ∈ s2.adrs) ∧ Qd s2 .non, rt := fun env d => flat d = true ∧ ∃ s2, env[0]? = some s2 ∧ s2.adr0 = s.adr0 ∧ (∀ a ∈ s.adrs, a ∈ s2.adrs) ∧ Qd s2 d }
theorem fn_okS {P : Program} {w : World} {K : PySem.W.Frag} {cA : Cl → Addr} {mg : Str → Option Value} {base : Heap} {x qual : Str} {st : Stmt} {f : Addr} {fd : FuncData} {N ps : List Str} {k : Nat} {Ph : Sl → List D → (Sl → D → Prop) → Prop}
    (F : FunD K x qual (defArgs st) (defBody st) (defScope st) [] [] f fd) (S : FnScope N ps (defScope st)) (hl : ∀ s ds Qd, Ph s ds Qd → ds.length + 1 = ps.length) (hNp : ps.length ≤ N.length)
    (hb : ∀ (cdv : Value) (A : Around) (outer : List Env) (s0 : Shared) (H : Hp) (E : XK) (s : Sl) (ds : List D) (Qd : Sl → D → Prop), Room k (bx P w K mg base N qual (defScope st) f cdv A outer s0 H E).A → Ph s ds Qd →
      DB (bx P w K mg base N qual (defScope st) f cdv A outer s0 H E) cA (startS N s ds) (defBody st) (selfEnds s Qd)) :
    FnOk P w K mg base CX0 (k + 1) f fd ps (spS ⟨P, w, K, cA⟩ Ph) := by
  refine F.ok S (fun vs H Q E h => ?_) (fun cdv A outer s0 H vs Q E hr h => ?_)
  · obtain ⟨B, s, a0, ws, ds, Qd, rfl, z, h0, ok, r, p, _⟩ := h
    rw [List.length_cons, r.length]
    exact hl s ds Qd p
  · obtain ⟨B, s, a0, ws, ds, Qd, rfl, z, h0, ok, r, p, q⟩ := h
    have hlen := hl s ds Qd p
    refine ⟨semB (bx P w K mg base N qual (defScope st) f cdv A outer s0 H E) (defBody st), PSs.nox pbS, ?_⟩
    have hB : ∀ a ∈ s.adrs, B a = true := ok.adr
    have k1 : ∀ a, unhide B s.adrs a = true → B a = true := fun a h => (unhide_of h).1
    have k2 : ∀ a, B a = true → unhide B s.adrs a = false → outOf s.adrs H a = none := fun a h1 h2 => by
      unfold outOf
      rw [if_pos]
      unfold unhide at h2
      rw [h1] at h2
      simpa using h2
    have back : ∀ {env : SEnv} {σ : Sto} {H2 : Hp} {s2 : Sl} {v : V} {d : D}, SE ⟨P, w, K, cA⟩ (unhide B s.adrs) (outOf s.adrs H) env σ H2 → env[0]? = some s2 → s2.adr0 = s.adr0 → (∀ a ∈ s.adrs, a ∈ s2.adrs) → flat d = true → Rep ⟨P, w, K, cA⟩ H2 v d → Qd s2 d → Q v H2 := fun {env σ H2 s2 v d} se he h1 h2 hf rd qd => by
      obtain ⟨ex, B2, c1, c2, sv, c3⟩ := se
      have ok2 := sv.sl 0 s2 he
      have h1' : s2.adr0 = some a0 := h1.trans h0
      have e0 := ok2.at0 h1'
      refine q v H2 B2 s2 d ⟨fun a ha => ?_, fun a hb ha => ?_, fun a o ho hn => ?_, sv.bz, by rw [← e0]; exact ok2, fun a ha => ?_, h2, h1'⟩ hf rd qd
      · by_cases hm : a ∈ s.adrs
        · exact ok2.adr a (h2 a hm)
        · exact c1 a (by unfold unhide; rw [ha]; simp [hm])
      · have hm : a ∉ s.adrs := fun hm => by rw [hB a hm] at ha; cases ha
        have := c2 a hb (by unfold unhide; rw [ha]; rfl)
        rw [outOf_at hm] at this
        exact this
      · exact ex a o (by rw [outOf_at hn]; exact ho)
      · by_cases hm : a ∈ s.adrs
        · exact .inl hm
        · right
          have := c2 a (ok2.adr a ha) (c3 0 s2 a he ha)
          rw [outOf_at hm] at this
          exact this
    refine hb cdv A outer s0 H E s ds Qd hr p (unhide B s.adrs) (outOf s.adrs H) _ H _ ⟨outOf_ex, B, k1, k2, ?_, ?_⟩ ⟨fun env σ H2 se ⟨s2, he, h1, h2, qd⟩ => back se he h1 h2 rfl .non qd, fun _ _ _ _ h => h.elim, fun _ _ _ _ h => h.elim,
      fun env σ H2 v d se rd ⟨hf, s2, he, h1, h2, qd⟩ => back se he h1 h2 hf (rd.flat H2 hf) qd, fun _ _ _ _ _ _ _ _ _ h => h.elim⟩
    · unfold L2.start startS
      rw [List.length_cons, r.length]
      refine ⟨z, by simp [r.length], fun i t h => ?_, fun i j t u a h1 h2 m1 m2 => ?_⟩
      · cases i with
        | zero =>
          simp at h
          subst h
          exact ok
        | succ i =>
          rw [List.getElem?_cons_succ] at h
          rw [List.map_cons, List.cons_append, List.getElem?_cons_succ]
          exact start_get (N.length - (ds.length + 1)) r i t h
      · cases i with
        | zero =>
          cases j with
          | zero => rfl
          | succ j =>
            rw [List.getElem?_cons_succ] at h2
            rw [start_no j u h2] at m2
            cases m2
        | succ i =>
          rw [List.getElem?_cons_succ] at h1
          rw [start_no i t h1] at m1
          cases m1
    · intro i t a h ha
      cases i with
      | zero =>
        unfold startS at h
        simp at h
        subst h
        exact unhide_in ha
      | succ i =>
        unfold startS at h
        rw [List.getElem?_cons_succ] at h
        rw [start_no i t h] at ha
        cases ha
/-! ### making an instance -/
structure MkG (P : Program) (w : World) (K : PySem.W.Frag) (cA : Cl → Addr) (mg : Str → Option Value) (base : Heap) (x : Str) (k : Cl) (lv : Nat) (Ph : Sl → List D → (Sl → D → Prop) → Prop) : Prop where
  ex : ∃ (f : Addr) (fd : FuncData) (ps : List Str), Mk K (cA k) f ∧ FnOk P w K mg base CX0 lv f fd ps (spS ⟨P, w, K, cA⟩ Ph) ∧ mg x = some (.ref (cA k)) ∧ Binds K fd ps []
section
variable {X : Cx} {c : Cl → Addr} {env : SEnv} {x m : Str} {lv : Nat} {p pos apos : Pos} {e o : Expr} {es : List Expr} {Qd : D → Prop} {k : Cl}
theorem de_make {Ph : Sl → List D → (Sl → D → Prop) → Prop} (M : MkG X.prog X.w X.K c X.mg X.base x k lv Ph) (hr : Room (lv + 1) X.A)
    (h : DA X c env (e :: es) fun ds => ∀ a dx, Ph (.oi a dx k []) ds fun s2 d => d = .non ∧ ∃ ds', s2 = .oi a dx k ds' ∧ ds'.length = k.names.length ∧ Qd (.obj k ds'))
    (hg : Gl X x := by rfl) (hdb : (x == ("__debug__" : Str)) = false := by decide) (he : starEach (e :: es) X.env = (false, eval e X.env) :: starEach es X.env := by rfl) (hpl : (backTo pos (starEach es X.env)).any (·.1) = false := by rfl) :
    DE X c env (.Call (.Name x p) (e :: es) [] pos) Qd := fun B σ H Q sv g => by
  obtain ⟨f, fd, ps, Mk_, F, hm, hb⟩ := M.ex
  refine ofE (pe_make (dvs := []) Mk_ F hr hg hm hb .nil pass0 paS hdb he hpl) (h B σ H _ sv fun vs H1 ds e1 r1 q => ?_)
  intro a dx ha hdx hne
  rw [List.append_nil]
  have bz1 := sv.bz.ext e1
  have en : Ex H1 (upd (upd H1 dx (.own a)) a (.ins (c k) dx [])) := Evl.Ex.mut (Evl.Ex.new hdx) ha
  refine ⟨hide B a, .oi a dx k [], a, vs, ds, _, rfl, hide_bz bz1 en (by rw [upd_same]; simp), rfl, ⟨rfl, hide_self B a, [], by rw [upd_same]; simp, rfl, Nat.zero_le _, .nil⟩, r1.mono (hide_ex en ha), q a dx, ?_⟩
  intro v H2 B2 s2 d se hf rd ⟨hd, ds', hs2, hln, hq⟩
  subst hd
  subst hs2
  refine ⟨rd.non_inv, ?_⟩
  obtain ⟨_, _, xs, g3, g4, g5, g6⟩ := se.ok
  have e12 : Ex H1 H2 := fun b ob hb => se.keep b ob (en b ob hb) (by simp [Sl.adrs]; intro z; rw [z, ha] at hb; cases hb)
  refine g (.ref a) H2 (.obj k ds') (e1.trans e12) (.obj (c := k) (dx := dx) (xs := xs) (by rw [hid_at (bz1.new ha)]; exact g3) (by rw [g4, hln]) (g6.mono (hid_mono fun b hb => se.up b (hide_of hb)))) hq
/-- self.f = e while the instance is made -/
theorem ds_fld {P : DEnd} {value : Expr} {f : Str} {y : Str} {py pos' : Pos} {a dx : Addr} {ds : List D} (i : Nat) (F : CF X.K c) (hs : env[i]? = some (.oi a dx k ds)) (hlt : ds.length < k.names.length)
    (h : DE X c env value fun d => P.nx (env.set i (.oi a dx k (ds ++ [d])))) (hfm : f ∈ k.names) (hp : ∀ (xs : List V) (v : V), xs.length = ds.length → putF f v (k.names.zip xs) = k.names.zip (xs ++ [v]))
    (hN : X.N[i]? = some y := by rfl) (hv : Vis X.env.scope y := by first | exact Or.inl rfl | exact Or.inr (Or.inl rfl) | exact Or.inr (Or.inr rfl))
    (hd : (y == ("__debug__" : Str)) = false := by decide) (hcd : (y == ("__classdict__" : Str)) = false := by decide)
    (hsw : swapsWith value (some (.Attribute (.Name y py) f pos')) pos.line X.env = pure false := by rfl) : DS X c env (.Assign [.Attribute (.Name y py) f pos'] value pos) P := fun A0 H0 σ H E se ft => by
  obtain ⟨e0, B, h1, h2, sv, h3⟩ := se
  obtain ⟨g1, g2, xs, g3, g4, g5, g6⟩ := sv.sl i _ hs
  refine ofS (ps_fld (pe_var hN hv hd hcd) peS hsw) (h B σ H _ sv fun v H2 d e2 r q => ?_)
  have n10 : k.names.length ≤ 2 := by cases k <;> decide
  refine ⟨_, g1, a, c k, dx, _, rfl, e2 _ _ g3, F.cls k, F.na k f hfm, ?_, ?_⟩
  · rw [List.length_zip]; omega
  · refine ft.nx _ _ _ (se_put (t := .oi a dx k (ds ++ [d])) (e0.trans e2) h1 h2 (sv.ext e2) h3 hs (by simp [Sl.adrs]) rfl ⟨g1, g2, xs ++ [v], by rw [upd_same, hp xs v g4], by simp [g4], by simp; omega, ?_⟩) q
    rw [hid_mut g2]
    exact (g6.mono (Ex.hid e2 B)).append (.cons r .nil)
/-! ### methods of instances that are data -/
structure MtG (P : Program) (w : World) (K : PySem.W.Frag) (cA : Cl → Addr) (mg : Str → Option Value) (base : Heap) (k : Cl) (m : Str) (lv : Nat) (Ph : List D → (D → Prop) → Prop) : Prop where
  ex : ∃ (f : Addr) (fd : FuncData) (ps : List Str), Meth K (cA k) m f ∧ FnOk P w K mg base CX0 lv f fd ps (spD ⟨P, w, K, cA⟩ Ph) ∧ Binds K fd ps []
theorem de_meth {Ph : List D → (D → Prop) → Prop} {pl : Sem Bool} (M : MtG X.prog X.w X.K c X.mg X.base k m lv Ph) (F : CF X.K c) (hr : Room lv X.A) (h : DE X c env o fun d0 => ∃ ds0, d0 = .obj k ds0 ∧ DA X c env (e :: es) fun ds => Ph (d0 :: ds) Qd)
    (hm : ∀ xs : List V, xs.length = k.names.length → (k.names.zip xs).lookup m = none)
    (hst : starEach (e :: es) X.env = (false, eval e X.env) :: starEach es X.env := by rfl) (hpl : (backTo pos (starEach es X.env)).any (·.1) = false := by rfl)
    (ht : eval (.Call (.Attribute o m apos) (e :: es) [] pos) X.env = (do
      let ov ← eval o X.env
      standAt apos.atName
      let (f, first) ← holding [ov] (getMethod ov m pl)
      callWith pos f first (backTo pos (starEach (e :: es) X.env)) (backToKw pos (keywordEach [] X.env))) := by rfl) : DE X c env (.Call (.Attribute o m apos) (e :: es) [] pos) Qd := fun B σ H Q sv g => by
  obtain ⟨f, fd, ps, Mt, Fn, hb⟩ := M.ex
  refine ofE (pe_meth (pl := pl) (dvs := []) peS (F.cls k) Mt Fn hr hb .nil pass0 paS hst hpl ht) (h B σ H _ sv fun v H1 d0 e1 r1 ⟨ds0, hd0, h1⟩ => ?_)
  subst hd0
  obtain ⟨a, dx, xs, rfl, q1, q2, q3⟩ := id r1.obj_inv
  refine ⟨a, dx, _, rfl, hid_ex B H1 _ _ q1, hm xs q2, h1 B σ H1 _ (sv.ext e1) fun vs H2 ds e2 r2 q => ?_⟩
  rw [List.append_nil]
  exact ⟨B, _, Qd, (sv.bz.ext e1).ext e2, .cons (r1.mono (Ex.hid e2 B)) r2, q, fun z H3 d3 e3 r3 q3 => g z H3 d3 ((e1.trans e2).trans e3) r3 q3⟩
/-! ### == of instances with an own __eq__ -/
structure EqC (P : Program) (w : World) (K : PySem.W.Frag) (cA : Cl → Addr) (mg : Str → Option Value) (base : Heap) (k : Cl) (lv : Nat) (Ph : List D → (D → Prop) → Prop) : Prop where
  ex : ∃ (f : Addr) (fd : FuncData) (ps : List Str), PySem.W.findIn K (.ref (cA k)) "__eq__" = some (some (.ref f)) ∧ PySem.W.isFn K (.ref f) = true ∧ FnOk P w K mg base CX0 lv f fd ps (spD ⟨P, w, K, cA⟩ Ph) ∧ Binds K fd ps []
def rEqC (X : Cx) (G : Wd) (c : Cl → Addr) (k : Cl) (Ph : List D → (D → Prop) → Prop) : R2 := fun x y H Q => ∃ (B : Addr → Bool) (ds es : List D) (Qd : D → Prop), Bz B H ∧ Rep G (hid B H) x (.obj k ds) ∧ Rep G (hid B H) y (.obj k es) ∧ Ph [.obj k ds, .obj k es] Qd ∧
  (∀ d, Qd d → ∃ b, d = .bl b) ∧ ∀ v H2 d, Ex H H2 → Rep G (hid B H2) v d → Qd d → Q v H2
theorem op_eqC {Ph : List D → (D → Prop) → Prop} (M : EqC X.prog X.w X.K c X.mg X.base k lv Ph) (hr : Room lv X.A) : OpR X (compareOp .Eq) (rEqC X (wdOf X c) c k Ph) := by
  intro pins s σ H x y v u Q I rx ry hq
  obtain ⟨f, fd, ps, hs, hf, F, hb⟩ := M.ex
  obtain ⟨B, ds, es, Qd, bz, r1, r2, ph, hbl, fin⟩ := hq
  obtain ⟨a, dx, xs, rfl, ha, _, _⟩ := id r1.obj_inv
  obtain ⟨b, dy, ys, rfl, hb', _, _⟩ := id r2.obj_inv
  cases rx
  cases ry
  obtain ⟨mA, J, _⟩ := ins_get I.hok (hid_ex B H _ _ ha)
  obtain ⟨mB, J', _⟩ := ins_get I.hok (hid_ex B H _ _ hb')
  obtain ⟨od, J, _⟩ := J.look
  obtain ⟨od', J', _⟩ := J'.look
  obtain ⟨m, hF⟩ := I.fr
  show wpAny (model X.prog X.w) X.A (richCompare .Eq (.ref a) (.ref b)) (EP X pins σ Q) X.xe s
  refine PySem.W.cmp_K (op := .Eq) (tb := .ref (c k)) hr.units0 hF I.ok.mod.kin J J'.type (by simp [PySem.W.notFirst]) hs hf ?_
  have hsp : spD ⟨X.prog, X.w, X.K, c⟩ Ph [.ref a, .ref b] H (fun v H' => (∃ b, v = .bl b) ∧ Q v H') E0 := by
    refine ⟨B, _, Qd, bz, .cons r1 (.cons r2 .nil), ph, fun v H2 d e r q => ⟨?_, fin v H2 d e r q⟩⟩
    obtain ⟨b, rfl⟩ := hbl d q
    exact ⟨b, r.bl_inv⟩
  have hl := F.len _ _ _ _ hsp
  have rr : Vals [V.ref a, V.ref b] [Value.ref a, Value.ref b] := .cons rfl (.cons rfl .nil)
  refine wpAny_call (codeAny_mono (F.run X.A X.stack s H ⟨[.ref a, .ref b], []⟩ [.ref a, .ref b] [.ref a, .ref b] _ E0 hr I.env0 (by
    have := hb s [.ref a, .ref b] I.kIn (by simpa using hl)
    simpa using this) rr hsp) fun r s' hq => ?_)
  cases r with
  | error e => exact hq.elim
  | ok fl =>
    cases fl with
    | ret w =>
      obtain ⟨z, H', I', rz, ⟨b0, ez⟩, q⟩ := I.after hq
      subst ez
      cases rz
      exact ⟨V.bl b0, H', I', rfl, q⟩
    | next => exact False.elim hq
    | brk => exact False.elim hq
    | cont => exact False.elim hq
theorem dc_eqC {Ph : List D → (D → Prop) → Prop} {a b : Expr} (M : EqC X.prog X.w X.K c X.mg X.base k lv Ph) (hr : Room lv X.A) (h : DE X c env a fun x => DE X c env b fun y => ∃ ds es, x = .obj k ds ∧ y = .obj k es ∧ Ph [x, y] fun d => ∃ b, d = .bl b ∧ Qd d) : DC X c env .Eq a b Qd := by
  refine dc_op (op_eqC M hr) (h.mono fun x hx => hx.mono fun y ⟨ds, es, e1, e2, q⟩ => ?_)
  subst e1
  subst e2
  intro B H v u Q z r1 r2 f
  exact ⟨B, ds, es, _, z, r1, r2, q, fun d ⟨b, hb, _⟩ => ⟨b, hb⟩, fun v H2 d e r ⟨b, _, q⟩ => f v H2 d e r q⟩
end
end DD
namespace DD
open PySem PySem.Spec PyProof.Rows L2
open Evl (Ex)
section
variable {X : Cx} {c : Cl → Addr} {env : SEnv} {e e2 ek ev iter : Expr} {P : DEnd} {pos : Pos} {body : List Stmt}
/-! ### loops with two targets -/
theorem loop_turn2 {A0 B : Addr → Bool} {H0 H1 H' H'' : Hp} {σ' : Sto} {env' : SEnv} {E : Ends} {nxt : SEnv → Prop} {N : Sto → Hp → Prop} {j1 j2 : Nat} {v1 v2 : V} {d1 d2 : D} (hb : DB X c ((env'.set j1 (.dat d1)).set j2 (.dat d2)) body (turnEnd P nxt)) (e0 : Ex H0 H1) (h1 : ∀ a, A0 a = true → B a = true) (h2 : ∀ a, B a = true → A0 a = false → H0 a = none)
    (se : SE (wdOf X c) A0 (inner A0 B H1) env' σ' H') (ft : Fits (wdOf X c) A0 H0 P E) (hN : ∀ env2 σ2 H2, SE (wdOf X c) A0 (inner A0 B H1) env2 σ2 H2 → nxt env2 → N σ2 H2) (r1 : Rep (wdOf X c) (hid B H1) v1 d1) (r2 : Rep (wdOf X c) (hid B H1) v2 d2) (e3 : Ex H' H'') :
    semB X body { E with nx := N, ct := N, bk := E.nx } ((σ'.set j1 (some v1)).set j2 (some v2)) H'' := by
  obtain ⟨e1, B', k1, k2, sv, k3⟩ := se
  have eb : Ex H0 (inner A0 B H1) := inner_base e0 h2
  have eh := (inner_hid e1 h1 k2).trans (Ex.hid e3 B')
  refine hb A0 (inner A0 B H1) _ H'' _ ⟨e1.trans e3, B', k1, k2, ((sv.ext e3).setD j1 (r1.mono eh)).setD j2 (r2.mono eh), adr_set (adr_set k3 (by intro a ha; simp [Sl.adrs] at ha)) (by intro a ha; simp [Sl.adrs] at ha)⟩
    ⟨hN, fun env2 σ2 H2 s p => ft.nx env2 σ2 H2 (s.base eb) p, hN, fun env2 σ2 H2 w d2 s r2 p => ft.rt env2 σ2 H2 w d2 (s.base eb) r2 p, fun env2 σ2 H2 w t i s y z p => ft.ro env2 σ2 H2 w t i (s.base eb) y z p⟩
abbrev gTwo (K : PySem.W.Frag) (j1 j2 : Nat) : TG := gTup K 2 (gCons (gName j1) (gCons (gName j2) gNil))
theorem gTwo_of {K : PySem.W.Frag} {j1 j2 : Nat} {T : Addr} {x y : V} {σ : Sto} {H : Hp} {Q : Sto → Hp → Prop} (q : Q ((σ.set j1 (some x)).set j2 (some y)) (upd H T (.tup [x, y]))) : gTwo K j1 j2 (.ref T) σ (upd H T (.tup [x, y])) Q :=
  ⟨T, [x, y], rfl, SqT.of upd_same, rfl, x, [y], rfl, y, [], rfl, rfl, q⟩
theorem pg_two {x y : Str} {px py pt : Pos} {kk : Nat} {j1 j2 : Nat} (hc : X.calm = true) (h1 : PG X (.Name x px) (gName j1)) (h2 : PG X (.Name y py) (gName j2)) : PG X (.Tuple [.Name x px, .Name y py] kk pt) (gTwo X.K j1 j2) :=
  pg_tup hc (pgs_cons h1 (pgs_cons h2 pgs_nil))
theorem ds_forEnum {x y : Str} {px py pt p2 pos2 : Pos} {kk j1 j2 : Nat} (hc : X.calm = true) (hm : X.mg "enumerate" = none) (h1 : PG X (.Name x px) (gName j1)) (h2 : PG X (.Name y py) (gName j2))
    (h : DE X c env e fun it => ∃ (ds : List D) (Pv : Nat → SEnv → Prop), it = .tup ds ∧ Pv 0 env ∧ (∀ i d env', ds[i]? = some d → Pv i env' → DB X c ((env'.set j1 (.dat (.int (i : Int)))).set j2 (.dat d)) body (turnEnd P (Pv (i + 1)))) ∧ ∀ env', Pv ds.length env' → P.nx env')
    (hg : Gl X "enumerate" := by rfl) (hst : starEach [e] X.env = [(false, eval e X.env)] := by rfl)
    (hp : PassesOwn (model X.prog X.w) X.A X.env X.xe := by exact PassesOwn.never) (hs : ∀ x, foldedSetIterable (.Call (.Name "enumerate" p2) [e] [] pos2) X.env x = pure x := by intro _; rfl) :
    DS X c env (.For (.Tuple [.Name x px, .Name y py] kk pt) (.Call (.Name "enumerate" p2) [e] [] pos2) body [] pos) P := fun A0 H0 σ H E se ft => by
  obtain ⟨e0, B, k1, k2, sv, k3⟩ := se
  refine ofS (ps_for hp hc (pi_enumT hg hm (pa_cons peS pa_nil hst) hst) (pg_two hc h1 h2) pbS hs) (h B σ H _ sv fun v H1 d e1 r1 ⟨ds, Pv, hd, p0, ht, hend⟩ => ?_)
  subst hd
  obtain ⟨a, vs, rfl, g1, g2⟩ := r1.tup_inv
  have e01 := e0.trans e1
  have at_ : ∀ H', Ex (inner A0 B H1) H' → SqT X.K H' a vs := fun H' e => by
    obtain ⟨ob, o1, o2⟩ := id g1
    exact TupAt.sq ⟨ob, o1, e _ _ (by rw [inner_at (hid_no o2).1]; exact (hid_no o2).2)⟩
  refine ⟨a, vs, rfl, ((g1.mono (hid_ex B H1))).sq, fun i m σ' H' => m = vs.length - i ∧ i ≤ vs.length ∧ ∃ env', SE (wdOf X c) A0 (inner A0 B H1) env' σ' H' ∧ Pv i env', ⟨_, rfl, Nat.zero_le _, env, SE.inner k1 (sv.ext e1) k3, p0⟩, fun i m σ' H' ⟨hm, hn, env', s, p⟩ => ?_⟩
  by_cases hlt : i < vs.length
  · right
    refine ⟨⟨vs, vs[i], at_ H' s.ex0, List.getElem?_eq_getElem hlt⟩, fun σ2 H2 => ∃ env2, SE (wdOf X c) A0 (inner A0 B H1) env2 σ2 H2 ∧ Pv (i + 1) env2, fun σ2 H2 ⟨env2, s2, p2⟩ => ⟨vs.length - (i + 1), by omega, rfl, hlt, env2, s2, p2⟩, ?_⟩
    rintro u H2 ⟨T, z, rfl, hT, rfl, hz⟩
    obtain ⟨d, hd, rd⟩ := g2.getV (hz vs (at_ H' s.ex0))
    exact gTwo_of (loop_turn2 (ht i d env' hd p) e01 k1 k2 s ft (fun env2 σ2 H2 s2 p2 => ⟨env2, s2, p2⟩) (.int _) rd (Evl.Ex.new hT))
  · left
    have hi : i = ds.length := by rw [← g2.length]; omega
    refine ⟨⟨vs, at_ H' s.ex0, by omega⟩, ft.nx _ _ _ (s.base (inner_base e01 k2)) (hend env' (by rw [← hi]; exact p))⟩
theorem ds_forZip {x y : Str} {px py pt p2 pos2 : Pos} {kk j1 j2 : Nat} (hc : X.calm = true) (hm : X.mg "zip" = none) (h1 : PG X (.Name x px) (gName j1)) (h2 : PG X (.Name y py) (gName j2))
    (h : DE X c env e fun it => DE X c env e2 fun it2 => ∃ (ds es : List D) (Pv : Nat → SEnv → Prop), it = .tup ds ∧ it2 = .tup es ∧ ds.length = es.length ∧ Pv 0 env ∧ (∀ i d d2 env', ds[i]? = some d → es[i]? = some d2 → Pv i env' → DB X c ((env'.set j1 (.dat d)).set j2 (.dat d2)) body (turnEnd P (Pv (i + 1)))) ∧ ∀ env', Pv ds.length env' → P.nx env')
    (hg : Gl X "zip" := by rfl) (hst : starEach [e, e2] X.env = (false, eval e X.env) :: starEach [e2] X.env := by rfl) (hst2 : starEach [e2] X.env = (false, eval e2 X.env) :: starEach [] X.env := by rfl) (hpl : (backTo pos2 (starEach [e2] X.env)).any (·.1) = false := by rfl)
    (hp : PassesOwn (model X.prog X.w) X.A X.env X.xe := by exact PassesOwn.never) (hs : ∀ x, foldedSetIterable (.Call (.Name "zip" p2) [e, e2] [] pos2) X.env x = pure x := by intro _; rfl) :
    DS X c env (.For (.Tuple [.Name x px, .Name y py] kk pt) (.Call (.Name "zip" p2) [e, e2] [] pos2) body [] pos) P := fun A0 H0 σ H E se ft => by
  obtain ⟨e0, B, k1, k2, sv, k3⟩ := se
  refine ofS (ps_for hp hc (RZ.pi_zipA hg hm (pa_cons peS (pa_cons peS pa_nil hst2) hst) hst hpl) (pg_two hc h1 h2) pbS hs) (h B σ H _ sv fun v H1 d e1 r1 h1 => h1 B σ H1 _ (sv.ext e1) fun u H2 d2 e2 r2 ⟨ds, es, Pv, hd, hd2, hlen, p0, ht, hend⟩ => ?_)
  subst hd
  subst hd2
  obtain ⟨a, vs, rfl, g1, g2⟩ := (r1.mono (Ex.hid e2 B)).tup_inv
  obtain ⟨b, us, rfl, f1, f2⟩ := r2.tup_inv
  have e12 := e1.trans e2
  have e01 := e0.trans e12
  have at_ : ∀ {a : Addr} {vs : List V}, TupAt (hid B H2) a vs → ∀ H', Ex (inner A0 B H2) H' → SqT X.K H' a vs := fun {a vs} g1 H' e => by
    obtain ⟨ob, o1, o2⟩ := id g1
    exact TupAt.sq ⟨ob, o1, e _ _ (by rw [inner_at (hid_no o2).1]; exact (hid_no o2).2)⟩
  refine ⟨a, b, vs, us, rfl, .inr ⟨(g1.mono (hid_ex B H2)).sq, (f1.mono (hid_ex B H2)).sq, ?_⟩⟩
  refine RZ.for_zipT (by rw [g2.length, f2.length, hlen]) (fun i σ' H' => ∃ env', SE (wdOf X c) A0 (inner A0 B H2) env' σ' H' ∧ Pv i env') ⟨env, SE.inner k1 (sv.ext e12) k3, p0⟩ (fun i σ' H' ⟨env', s, p⟩ => ⟨at_ g1 H' s.ex0, at_ f1 H' s.ex0⟩) (fun i x y T σ' H' hx hy ⟨env', s, p⟩ hT => ?_) (fun σ' H' ⟨env', s, p⟩ => ?_)
  · obtain ⟨d, hd, rd⟩ := g2.getV hx
    obtain ⟨d', hd', rd'⟩ := f2.getV hy
    exact gTwo_of (loop_turn2 (ht i d d' env' hd hd' p) e01 k1 k2 s ft (fun env2 σ2 H2 s2 p2 => ⟨env2, s2, p2⟩) rd rd' (Evl.Ex.new hT))
  · rw [g2.length] at p
    exact ft.nx _ _ _ (s.base (inner_base e01 k2)) (hend env' p)
/-! ### groups -/
theorem og_look {es : List Ent} {gs : List (TKey × Addr × List D)} (h : es.map (fun e => (e.1, e.2.2)) = gs.map fun g => (g.1, V.ref g.2.1)) (k : TKey) :
    (lookE es k = none ∧ k ∉ gs.map (·.1)) ∨ ∃ (j : Nat) (p : Addr) (ds : List D), gs[j]? = some (k, p, ds) ∧ lookE es k = some (.ref p) := by
  induction es generalizing gs with
  | nil =>
    cases gs with
    | nil => exact .inl ⟨rfl, by simp⟩
    | cons _ _ => simp at h
  | cons e es ih =>
    cases gs with
    | nil => simp at h
    | cons g gs =>
      rw [List.map_cons, List.map_cons] at h
      injection h with h1 h2
      injection h1 with h1 h3
      by_cases he : e.1 = k
      · refine .inr ⟨0, g.2.1, g.2.2, ?_, by rw [lookE_pos he, h3]⟩
        rw [← he, h1]
        rfl
      · rw [lookE_neg he]
        rcases ih h2 with ⟨i1, i2⟩ | ⟨j, p, ds, i1, i2⟩
        · refine .inl ⟨i1, fun hm => ?_⟩
          rcases List.mem_cons.mp hm with z | z
          · exact he (h1.trans z.symm)
          · exact i2 z
        · exact .inr ⟨j + 1, p, ds, by simpa using i1, i2⟩
theorem sv_putN {G : Wd} {B : Addr → Bool} {H : Hp} {σ : Sto} (sv : SV G B env σ H) {p : Addr} {o : HO} {i : Nat} {s t : Sl} (hs : env[i]? = some s) (hp : p ∈ s.adrs) (had : ∀ a ∈ t.adrs, a ∈ s.adrs ∨ ∀ (j : Nat) (u : Sl), env[j]? = some u → a ∉ u.adrs) (ok : SlOk G B (upd H p o) σ[i]? t) : SV G B (env.set i t) σ (upd H p o) := by
  have hB : B p = true := (sv.sl i s hs).adr p hp
  have hi : i < env.length := (List.getElem?_eq_some_iff.mp hs).1
  refine ⟨fun a ha => ?_, by rw [List.length_set]; exact sv.ln, fun j u hj => ?_, fun j k u w a hj hk mj mk => ?_⟩
  · by_cases e : a = p
    · rw [e, upd_same]; simp
    · rw [upd_ne e]; exact sv.bz a ha
  · by_cases e : i = j
    · subst e
      rw [List.getElem?_set_self hi] at hj
      cases hj
      exact ok
    · rw [List.getElem?_set_ne e] at hj
      exact (sv.sl j u hj).mut hB fun hm => e (sv.dj i j s u p hs hj hp hm)
  · by_cases ej : i = j
    · by_cases ek : i = k
      · omega
      · subst ej
        rw [List.getElem?_set_self hi] at hj
        cases hj
        rw [List.getElem?_set_ne ek] at hk
        rcases had a mj with z | z
        · exact sv.dj i k s w a hs hk z mk
        · exact absurd mk (z k w hk)
    · rw [List.getElem?_set_ne ej] at hj
      by_cases ek : i = k
      · subst ek
        rw [List.getElem?_set_self hi] at hk
        cases hk
        rcases had a mk with z | z
        · exact sv.dj j i u s a hj hs mj z
        · exact absurd mj (z j u hj)
      · rw [List.getElem?_set_ne ek] at hk
        exact sv.dj j k u w a hj hk mj mk
theorem ds_groupAdd (i : Nat) {x : Str} {p apos apos2 cpos lpos cpos2 : Pos} {ad : Addr} {gs : List (TKey × Addr × List D)} (hu : X.A.units + 1 < cLine) (hs : env[i]? = some (.og ad gs)) (hz : gs.length < 100000) (hz2 : ∀ g ∈ gs, g.2.2.length < 100000)
    (h : DE X c env ek fun dk => ∃ k, dk = keyD k ∧ (∀ (j : Nat) q ds, gs[j]? = some (k, q, ds) → DE X c env ev fun d => P.nx (env.set i (.og ad (gs.set j (k, q, ds ++ [d]))))) ∧
      (k ∉ gs.map (·.1) → ∀ q, DE X c (env.set i (.og ad (gs ++ [(k, q, [])]))) ev fun d => P.nx (env.set i (.og ad (gs ++ [(k, q, [d])])))))
    (hN : X.N[i]? = some x := by rfl) (hv : Vis X.env.scope x := by first | exact Or.inl rfl | exact Or.inr (Or.inl rfl) | exact Or.inr (Or.inr rfl))
    (hd : (x == ("__debug__" : Str)) = false := by decide) (hcd : (x == ("__classdict__" : Str)) = false := by decide) (m : M2 X (.Name x p) "setdefault" apos ek (.List [] lpos) cpos := by exact ⟨rfl, rfl, rfl, rfl⟩)
    (m1 : M1 X (.Call (.Attribute (.Name x p) "setdefault" apos) [ek, .List [] lpos] [] cpos) "append" apos2 ev cpos2 := by exact ⟨rfl, rfl, rfl, rfl⟩)
    (hsw : swapsWith (.Call (.Attribute (.Call (.Attribute (.Name x p) "setdefault" apos) [ek, .List [] lpos] [] cpos) "append" apos2) [ev] [] cpos2) none pos.line X.env = pure false := by rfl) :
    DS X c env (.Expr (.Call (.Attribute (.Call (.Attribute (.Name x p) "setdefault" apos) [ek, .List [] lpos] [] cpos) "append" apos2) [ev] [] cpos2) pos) P := fun A0 H0 σ H E se ft => by
  obtain ⟨e0, B, h1, h2, sv, h3⟩ := se
  obtain ⟨g1, g2, g3, g4, es, g5, g6, g7⟩ := id (sv.sl i _ hs)
  have hA : A0 ad = false := h3 i _ ad hs (by simp [Sl.adrs])
  have isl : IsTy X "list" fun x H => ∃ (a : Addr) (xs : List V), x = V.ref a ∧ H a = some (.lst xs) := fun pins s σ H x v I r ⟨a, xs, ex, hh⟩ => by
    subst ex
    exact tyV_is I r (.inl ⟨rfl, xs, SqL.of hh⟩)
  refine ofS (ps_expr (pe_m1 PySem.F.plainAttrs_list PySem.F.slot_list_append PySem.F.type_list_append isl mt_append (pe_m2 PySem.F.plainAttrs_dict PySem.F.slot_dict_setdefault PySem.F.type_dict_setdefault is_tab (mt_sd hu) (pe_var hN hv hd hcd) peS (pe_lst pa_nil) m) peS m1) hsw) ⟨_, g1, ⟨ad, es, rfl, g5⟩, ?_⟩
  refine h B σ H _ sv fun y H2 dk e2 rk ⟨k, hk, c1, c2⟩ => ⟨Nat.zero_le _, fun q hq => ?_⟩
  subst hk
  obtain ⟨b, rfl, tb⟩ := rep_key rk
  have en : Ex H2 (upd H2 q (.lst [])) := Evl.Ex.new hq
  have e3 := e2.trans en
  have hl : es.length = gs.length := by have := congrArg List.length g7; simpa using this
  have sv3 := sv.ext e3
  refine ⟨ad, es, b, k, .ref q, rfl, rfl, e3 _ _ g5, fun x hx => ((g6 x hx).mono (hid_ex B H)).mono e3, (tb.mono (hid_ex B H2)).mono en, by rw [hl]; exact Nat.lt_trans hz (by decide), fun z hz' => ?_, fun hn => ?_⟩
  · rcases og_look g7 k with ⟨n1, _⟩ | ⟨j, p0, ds, hj, n1⟩
    · rw [hz'] at n1; cases n1
    · rw [hz'] at n1
      cases n1
      obtain ⟨_, xs, q2, q3⟩ := g4 _ (List.mem_of_getElem? hj)
      refine ⟨⟨p0, xs, rfl, e3 _ _ q2⟩, c1 j p0 ds hj B σ _ _ sv3 fun v H4 d e4 rv qn => ?_⟩
      have e34 := e3.trans e4
      have hb0 : B p0 = true := (g4 _ (List.mem_of_getElem? hj)).1
      refine ⟨p0, xs, v, rfl, rfl, e34 _ _ q2, by rw [q3.length]; exact Nat.lt_trans (hz2 _ (List.mem_of_getElem? hj)) (by decide), ?_⟩
      have hjl : j < gs.length := (List.getElem?_eq_some_iff.mp hj).1
      have egs : (gs.set j (k, p0, ds ++ [d])).map (fun g => g.2.1) = gs.map fun g => g.2.1 := by
        rw [List.map_set]
        apply List.ext_getElem?
        intro n
        by_cases hnj : j = n
        · subst hnj
          rw [List.getElem?_set_self (by simpa using hjl), List.getElem?_map, hj]
          rfl
        · rw [List.getElem?_set_ne hnj]
      have egs2 : (gs.set j (k, p0, ds ++ [d])).map (fun g => (g.1, V.ref g.2.1)) = gs.map fun g => (g.1, V.ref g.2.1) := by
        rw [List.map_set]
        apply List.ext_getElem?
        intro n
        by_cases hnj : j = n
        · subst hnj
          rw [List.getElem?_set_self (by simpa using hjl), List.getElem?_map, hj]
          rfl
        · rw [List.getElem?_set_ne hnj]
      have hne : ad ≠ p0 := fun z => by
        have := (List.nodup_cons.mp g3).1
        exact this (List.mem_map.mpr ⟨_, List.mem_of_getElem? hj, z.symm⟩)
      refine ft.nx _ _ _ (se_put (t := .og ad (gs.set j (k, p0, ds ++ [d]))) (e0.trans e34) h1 h2 (sv.ext e34) h3 hs (by simp only [Sl.adrs, List.mem_cons, List.mem_map]; exact .inr ⟨_, List.mem_of_getElem? hj, rfl⟩) (by simp only [Sl.adrs]; rw [egs]) ⟨g1, g2, by rw [egs]; exact g3, fun g hg => ?_, es, by rw [upd_ne hne]; exact e34 _ _ g5, ?_, by rw [g7, egs2]⟩) qn
      · rw [hid_mut hb0]
        obtain ⟨n, hn, rfl⟩ := List.getElem_of_mem hg
        by_cases hnj : n = j
        · subst hnj
          simp only [List.getElem_set_self]
          exact ⟨hb0, xs ++ [v], upd_same, (q3.mono (Ex.hid e34 B)).append (.cons rv .nil)⟩
        · have hnl : n < gs.length := by simpa using hn
          have eg : (gs.set j (k, p0, ds ++ [d]))[n] = gs[n] := by rw [List.getElem_set_ne (Ne.symm hnj)]
          rw [eg]
          obtain ⟨w1, ys, w2, w3⟩ := g4 gs[n] (List.getElem_mem hnl)
          refine ⟨w1, ys, ?_, w3.mono (Ex.hid e34 B)⟩
          rw [upd_ne]
          · exact e34 _ _ w2
          · intro z
            have nd := (List.nodup_cons.mp g3).2
            have hpj : (gs.map fun g => g.2.1)[j]'(by simpa using hjl) = p0 := by
              simp only [List.getElem_map]
              have := (List.getElem?_eq_some_iff.mp hj).2
              rw [this]
            have hpn : (gs.map fun g => g.2.1)[n]'(by simpa using hnl) = p0 := by
              simp only [List.getElem_map]
              exact z
            rcases Nat.lt_or_gt_of_ne hnj with hl1 | hl1
            · exact List.pairwise_iff_getElem.mp nd n j (by simpa using hnl) (by simpa using hjl) hl1 (by rw [hpj, hpn])
            · exact List.pairwise_iff_getElem.mp nd j n (by simpa using hjl) (by simpa using hnl) hl1 (by rw [hpj, hpn])
      · rw [hid_mut hb0]
        exact fun x hx => (g6 x hx).mono (Ex.hid e34 B)
  · rcases og_look g7 k with ⟨_, n2⟩ | ⟨j, p0, ds, hj, n1⟩
    · have hq0 : H q = none := Evl.fresh_back e2 hq
      have hBq : B q = false := sv.bz.new hq0
      have hneq : ad ≠ q := fun z => by rw [z, hBq] at g2; cases g2
      have svh : SV (wdOf X c) (hide B q) env σ (upd H2 q (.lst [])) := sv.hide e3 hq0 (by rw [upd_same]; simp)
      have ehid : Ex (hid B H) (hid (hide B q) (upd H2 q (.lst []))) := hide_ex e3 hq0
      have gsq : ∀ g ∈ gs, g.2.1 ≠ q := fun g hg z => by rw [← z, (g4 g hg).1] at hBq; cases hBq
      have nod : (ad :: (gs ++ [(k, q, ([] : List D))]).map (fun g => g.2.1)).Nodup := by
        rw [List.map_append, ← List.cons_append]
        refine List.nodup_append.mpr ⟨g3, by simp, fun a ha b hb => ?_⟩
        simp at hb
        rw [hb]
        rcases List.mem_cons.mp ha with z | z
        · rw [z]; exact hneq
        · obtain ⟨g, hg, rfl⟩ := List.mem_map.mp z
          exact gsq g hg
      have hed : (hide B q) ad = true := hide_of g2
      have keyK : lookE es k = none := hn
      have pe : putE es k b (.ref q) = es ++ [(k, b, .ref q)] := by unfold putE; rw [hn]; rfl
      have sv4 : SV (wdOf X c) (hide B q) (env.set i (.og ad (gs ++ [(k, q, [])]))) σ (upd (upd H2 q (.lst [])) ad (DicO X.prog X.w ad (putE es k b (.ref q)))) := by
        refine sv_putN (t := .og ad (gs ++ [(k, q, [])])) svh hs (by simp [Sl.adrs]) (fun a ha => ?_) ⟨g1, hed, nod, fun g hg => ?_, putE es k b (.ref q), upd_same, ?_, ?_⟩
        · simp only [Sl.adrs, List.map_append, List.mem_cons, List.mem_append, List.map_cons, List.map_nil, List.mem_nil_iff, or_false] at ha
          rcases ha with z | z | z
          · exact .inl (by simp [Sl.adrs, z])
          · exact .inl (by simp only [Sl.adrs, List.mem_cons]; exact .inr z)
          · exact .inr fun j u hj hm => by
              have := (sv.sl j u hj).adr a hm
              rw [z, hBq] at this
              cases this
        · rw [hid_mut hed]
          rcases List.mem_append.mp hg with hg | hg
          · obtain ⟨w1, ys, w2, w3⟩ := g4 g hg
            refine ⟨hide_of w1, ys, ?_, w3.mono ehid⟩
            rw [upd_ne]
            · exact e3 _ _ w2
            · intro z
              exact (List.nodup_cons.mp g3).1 (List.mem_map.mpr ⟨g, hg, z⟩)
          · rw [List.mem_singleton.mp hg]
            exact ⟨hide_self B q, [], by rw [upd_ne (Ne.symm hneq), upd_same], .nil⟩
        · rw [hid_mut hed]
          exact putE_rep (G := wdOf X c) (KeysAt.mono g6 ehid) (tb.mono (hide_ex en hq))
        · rw [pe, List.map_append, List.map_append, g7]
          rfl
      refine ⟨⟨q, [], rfl, by rw [upd_ne (Ne.symm hneq), upd_same]⟩, c2 n2 q (hide B q) σ _ _ sv4 fun v H5 d e5 rv qn => ?_⟩
      have e04 : Ex H0 (upd (upd H2 q (.lst [])) ad (DicO X.prog X.w ad (putE es k b (.ref q)))) := Evl.Ex.mut (e0.trans e3) (h2 ad g2 hA)
      have hAq : A0 q = false := by
        cases z : A0 q with
        | false => rfl
        | true => rw [h1 q z] at hBq; cases hBq
      refine ⟨q, [], v, rfl, rfl, e5 _ _ (by rw [upd_ne (Ne.symm hneq), upd_same]), Nat.zero_lt_of_lt (show 0 < sizeLine by decide), ?_⟩
      have hs5 : (env.set i (.og ad (gs ++ [(k, q, [])])))[i]? = some (.og ad (gs ++ [(k, q, [])])) := List.getElem?_set_self (List.getElem?_eq_some_iff.mp hs).1
      have sv5 := sv4.ext e5
      obtain ⟨o1, o2, o3, o4, es5, o5, o6, o7⟩ := id (sv5.sl i _ hs5)
      have k3 : ∀ (j : Nat) (s : Sl) (a : Addr), (env.set i (.og ad (gs ++ [(k, q, [])])))[j]? = some s → a ∈ s.adrs → A0 a = false := adr_set h3 fun a ha => by
        simp only [Sl.adrs, List.map_append, List.mem_cons, List.mem_append, List.map_cons, List.map_nil, List.mem_nil_iff, or_false] at ha
        rcases ha with z | z | z
        · rw [z]; exact hA
        · exact h3 i _ a hs (by simp only [Sl.adrs, List.mem_cons]; exact .inr z)
        · rw [z]; exact hAq
      have fin := se_put (X := X) (c := c) (t := .og ad (gs ++ [(k, q, [d])])) (p := q) (o := .lst [v]) (e04.trans e5) (fun a ha => hide_of (h1 a ha)) (fun a hb ha => by
        rcases hide_yes hb with hb | hb
        · exact h2 a hb ha
        · rw [hb]; exact Evl.fresh_back (e0.trans e2) hq) sv5 k3 hs5 (by simp [Sl.adrs]) (by simp [Sl.adrs]) ⟨o1, o2, by simpa using o3, fun g hg => ?_, es5, by rw [upd_ne hneq]; exact o5, ?_, ?_⟩
      · rw [List.set_set] at fin
        exact ft.nx _ _ _ fin qn
      · rw [hid_mut (hide_self B q)]
        rcases List.mem_append.mp hg with hg | hg
        · obtain ⟨w1, ys, w2, w3⟩ := o4 g (List.mem_append_left _ hg)
          exact ⟨w1, ys, by rw [upd_ne (gsq g hg)]; exact w2, w3⟩
        · rw [List.mem_singleton.mp hg]
          exact ⟨hide_self B q, [v], upd_same, .cons rv .nil⟩
      · rw [hid_mut (hide_self B q)]
        exact o6
      · rw [o7, List.map_append, List.map_append]
        rfl
    · rw [hn] at n1; cases n1
end
end DD
namespace DD
open PySem PySem.Spec PyProof.Rows L2
open Evl (Ex)
/-! ### new lists of ints -/
def DF (X : Cx) (c : Cl → Addr) (env : SEnv) (e : Expr) (Qi : List Int → Prop) : Prop := ∀ (B : Addr → Bool) (σ : Sto) (H : Hp) (Q : VK), SV (wdOf X c) B env σ H →
  (∀ p H2 ns, Ex H H2 → H p = none → H2 p = some (.lst (ns.map V.int)) → Qi ns → Q (.ref p) H2) → semE X e σ H Q
section
variable {X : Cx} {c : Cl → Addr} {env : SEnv} {e e2 a b elt iter : Expr} {es : List Expr} {P : DEnd} {Qi : List Int → Prop} {pos : Pos} {body orelse : List Stmt} {ifs : List Expr} {scope : Scope} {j : Nat} {x : Str} {pt : Pos}
theorem df_lcR {p2 pos2 : Pos} (hc : X.calm = true) (hN : X.N.Nodup) (ok : BlkOk X.N X.env.scope scope [(x, j)]) (hpg : InB X scope fun Y => PG Y (.Name x pt) (gName j)) (hm : X.mg "range" = none)
    (h : DE X c env iter fun it => ∃ (n : Int) (g : Int → Int), it = .int n ∧ 0 ≤ n ∧ n ≤ 100000 ∧ LcT X c env scope [] elt j (rgI n) D.int (fun _ => true) (fun i => D.int (g i)) ∧ Qi ((rgI n).map g))
    (hg : Gl X "range" := by rfl) (hst : starEach [iter] X.env = [(false, eval iter X.env)] := by rfl) (hs : ∀ x, foldedSetIterable (.Call (.Name "range" p2) [iter] [] pos2) X.env x = pure x := by intro _; rfl) :
    DF X c env (.ListComp elt [⟨.Name x pt, .Call (.Name "range" p2) [iter] [] pos2, [], 0⟩] scope pos) Qi := fun B σ H Q sv k => by
  refine ofE (pe_lc hc hN (pi_range1 hg hm (pa_cons peS pa_nil hst) hst) ok hpg ttP teP hs) (h B σ H _ sv fun v H1 d e1 r1 ⟨n, g, hd, h0, hn, T, q⟩ => ?_)
  subst hd
  rw [r1.int_inv]
  refine ⟨n, rfl, by omega, by omega, fun Dl hD => lc_range (lo := 0) (n := n.toNat) (fun i H' => LcP (wdOf X c) B H1 Dl ((((rgI n).take i).filter fun _ => true).map fun i => D.int (g i)) H') (lc_start hD) (fun i H' hi p => ?_) (fun H' p => ?_)⟩
  · have e0 : (0 : Int) + (i : Int) = (i : Int) := Int.zero_add _
    rw [e0]
    exact lc_turn T (sv.ext e1) hD (by rw [rgI_len]; omega) (rgI_get hi) (.int _) p
  · rw [← rgI_len n, List.take_length, List.filter_eq_self.mpr (fun _ _ => rfl)] at p
    obtain ⟨eH, acc, hA, rA⟩ := p
    have ea : acc = ((rgI n).map g).map V.int := by
      have q : ((rgI n).map fun i => D.int (g i)) = ((rgI n).map g).map D.int := by rw [List.map_map]; rfl
      rw [q] at rA
      exact rA.ints
    subst ea
    exact k Dl H' _ (e1.trans eH) (Evl.fresh_back e1 hD) hA q
theorem df_rep {x0 : Expr} {lpos : Pos} (h : DE X c env x0 fun d => ∃ i : Int, d = .int i ∧ DE X c env b fun y => ∃ n : Int, y = .int n ∧ 0 ≤ n ∧ n ≤ 100000 ∧ Qi (List.replicate n.toNat i)) (hs : starEach [x0] X.env = (false, eval x0 X.env) :: starEach [] X.env := by rfl) :
    DF X c env (.BinOp (.List [x0] lpos) .Mult b pos) Qi := fun B σ H Q sv k => by
  refine ofE (pe_op op_rep (pe_lst (pa_cons peS pa_nil hs)) peS) (h B σ H _ sv fun v H1 d e1 r1 ⟨i, hd, h2⟩ => ?_)
  subst hd
  rw [r1.int_inv]
  refine ⟨by show 1 ≤ sizeLine; decide, fun p hp => ?_⟩
  have en : Ex H1 (upd H1 p (.lst [.int i])) := Evl.Ex.new hp
  refine h2 B σ _ _ ((sv.ext e1).ext en) fun u H2 d2 e2 r2 ⟨n, hn, h0, h3, q⟩ => ?_
  subst hn
  rw [r2.int_inv]
  refine ⟨p, n, [.int i], rfl, rfl, e2 _ _ upd_same, by omega, by omega, sz100 (by simp only [List.length_cons, List.length_nil]; omega), fun l hl => ?_⟩
  have e12 := (e1.trans en).trans e2
  refine k l _ _ (e12.trans (Evl.Ex.new hl)) (Evl.fresh_back e12 hl) ?_ q
  rw [upd_same, flat_rep1, List.map_replicate]
/-! ### own lists of own lists of ints -/
theorem ds_newLL (i : Nat) {x : Str} {p : Pos} (h : ∀ a, P.nx (env.set i (.ll a []))) (hN : X.N.Nodup) (hi : X.N[i]? = some x := by rfl) (hx : Loc X.env.scope x := by first | exact Or.inl rfl | exact Or.inr rfl)
    (hf : X.fn x = true ∨ X.env.scope.names.lookup x = some .local := by first | exact .inl rfl | exact .inr rfl) {spos : Pos} (hs : swapsWith (.List [] pos) (some (.Name x p)) spos.line X.env = pure false := by rfl) : DS X c env (.Assign [.Name x p] (.List [] pos) spos) P := fun A0 H0 σ H E se ft => by
  obtain ⟨e0, B, h1, h2, sv, h3⟩ := se
  refine ofS (ps_set hN hi hx (pe_lst pa_nil) hs hf) ⟨Nat.zero_le _, fun q hq => ft.nx _ _ _ (se_new (s := .ll q []) e0 h1 h2 sv h3 hq rfl ⟨rfl, hide_self B q, by simp, upd_same, fun r hr => by cases hr⟩) (h q)⟩
/-- a list of ints comes under an own list of lists -/
theorem ll_snoc {B : Addr → Bool} {H H2 : Hp} {L p : Addr} {rs : List (Addr × List Int)} {ns : List Int} (h : LLat B H L rs) (e : Ex H H2) (hp : H p = none) (hp2 : H2 p = some (.lst (ns.map V.int))) (bz : Bz B H) : LLat (hide B p) (upd H2 L (.lst ((rs.map fun r => V.ref r.1) ++ [.ref p]))) L (rs ++ [(p, ns)]) := by
  obtain ⟨h1, h2, h3, h4⟩ := h
  have hB := bz.new hp
  have hne : ∀ a, B a = true → a ≠ p := fun a ha z => by rw [z, hB] at ha; cases ha
  refine ⟨hide_of h1, ?_, by rw [upd_same, List.map_append]; rfl, fun r hr => ?_⟩
  · rw [List.map_append, ← List.cons_append]
    refine List.nodup_append.mpr ⟨h2, by simp, fun a ha b hb => ?_⟩
    simp at hb
    rw [hb]
    rcases List.mem_cons.mp ha with z | z
    · rw [z]; exact hne L h1
    · obtain ⟨r, hr, rfl⟩ := List.mem_map.mp z
      exact hne _ (h4 r hr).1
  · rcases List.mem_append.mp hr with hr | hr
    · refine ⟨hide_of (h4 r hr).1, ?_⟩
      rw [upd_ne fun z => (List.nodup_cons.mp h2).1 (List.mem_map.mpr ⟨r, hr, z⟩)]
      exact e _ _ (h4 r hr).2
    · rw [List.mem_singleton.mp hr]
      refine ⟨hide_self B p, ?_⟩
      rw [upd_ne (Ne.symm (hne L h1))]
      exact hp2
/-- xs.append([..]) -/
theorem ds_appendLL (i : Nat) {x : Str} {p apos cpos : Pos} {L : Addr} {rs : List (Addr × List Int)} (hs : env[i]? = some (.ll L rs)) (hz : rs.length < 100000) (h : DF X c env e fun ns => ∀ q, P.nx (env.set i (.ll L (rs ++ [(q, ns)])))) (hN : X.N[i]? = some x := by rfl) (hv : Vis X.env.scope x := by first | exact Or.inl rfl | exact Or.inr (Or.inl rfl) | exact Or.inr (Or.inr rfl))
    (hd : (x == ("__debug__" : Str)) = false := by decide) (hcd : (x == ("__classdict__" : Str)) = false := by decide)
    (m1 : M1 X (.Name x p) "append" apos e cpos := by exact ⟨rfl, rfl, rfl, rfl⟩)
    (hsw : swapsWith (.Call (.Attribute (.Name x p) "append" apos) [e] [] cpos) none pos.line X.env = pure false := by rfl) : DS X c env (.Expr (.Call (.Attribute (.Name x p) "append" apos) [e] [] cpos) pos) P := fun A0 H0 σ H E se ft => by
  obtain ⟨e0, B, h1, h2, sv, h3⟩ := se
  obtain ⟨q1, q2⟩ := id (sv.sl i _ hs)
  have isl : IsTy X "list" fun x H => ∃ (a : Addr) (xs : List V), x = V.ref a ∧ H a = some (.lst xs) := fun pins s σ H x v I r ⟨a, xs, ex, hh⟩ => by
    subst ex
    exact tyV_is I r (.inl ⟨rfl, xs, SqL.of hh⟩)
  refine ofS (ps_expr (pe_m1 PySem.F.plainAttrs_list PySem.F.slot_list_append PySem.F.type_list_append isl mt_append (pe_var hN hv hd hcd) peS m1) hsw) ⟨_, q1, ⟨L, _, rfl, q2.2.2.1⟩, ?_⟩
  refine h B σ H _ sv fun q H2 ns e2 hq hq2 qn => ?_
  refine ⟨L, _, .ref q, rfl, rfl, e2 _ _ q2.2.2.1, by rw [List.length_map]; exact Nat.lt_trans hz (by decide), ?_⟩
  have hBq := sv.bz.new hq
  have hAL : A0 L = false := h3 i _ L hs (by simp [Sl.adrs])
  have hAq : A0 q = false := by
    cases z : A0 q with
    | false => rfl
    | true => rw [h1 q z] at hBq; cases hBq
  have svh : SV (wdOf X c) (hide B q) env σ H2 := sv.hide e2 hq (by rw [hq2]; simp)
  refine ft.nx _ _ _ ⟨Evl.Ex.mut (e0.trans e2) (h2 L q2.1 hAL), hide B q, fun a ha => hide_of (h1 a ha), fun a hb ha => ?_, sv_putN (t := .ll L (rs ++ [(q, ns)])) svh hs (by simp [Sl.adrs]) (fun a ha => ?_) ⟨q1, ll_snoc q2 e2 hq hq2 sv.bz⟩, adr_set h3 fun a ha => ?_⟩ (qn q)
  · rcases hide_yes hb with hb | hb
    · exact h2 a hb ha
    · rw [hb]; exact Evl.fresh_back e0 hq
  · simp only [Sl.adrs, List.map_append, List.mem_cons, List.mem_append, List.map_cons, List.map_nil, List.mem_nil_iff, or_false] at ha
    rcases ha with z | z | z
    · exact .inl (by simp [Sl.adrs, z])
    · exact .inl (by simp only [Sl.adrs, List.mem_cons]; exact .inr z)
    · exact .inr fun k u hk hm => by
        have := (sv.sl k u hk).adr a hm
        rw [z, hBq] at this
        cases this
  · simp only [Sl.adrs, List.map_append, List.mem_cons, List.mem_append, List.map_cons, List.map_nil, List.mem_nil_iff, or_false] at ha
    rcases ha with z | z | z
    · rw [z]; exact hAL
    · exact h3 i _ a hs (by simp only [Sl.adrs, List.mem_cons]; exact .inr z)
    · rw [z]; exact hAq
/-- return of an own object -/
theorem ds_retO (i : Nat) {x : Str} {p : Pos} {s : Sl} {a0 : Addr} (hs : env[i]? = some s) (h0 : s.adr0 = some a0) (h : P.ro s) (hN : X.N[i]? = some x := by rfl) (hv : Vis X.env.scope x := by first | exact Or.inl rfl | exact Or.inr (Or.inl rfl) | exact Or.inr (Or.inr rfl))
    (hd : (x == ("__debug__" : Str)) = false := by decide) (hcd : (x == ("__classdict__" : Str)) = false := by decide) : DS X c env (.Return (some (.Name x p)) pos) P := fun A0 H0 σ H E se ft => by
  have se0 := se
  obtain ⟨e0, B, h1, h2, sv, h3⟩ := se
  have g1 := (sv.sl i s hs).at0 h0
  exact ofS (ps_ret (pe_var hN hv hd hcd)) ⟨_, g1, ft.ro env σ H _ s i se0 hs g1 h⟩
/-- return [[..], [..]] -/
theorem ds_retLL2 (i : Nat) {lpos : Pos} (hi : env[i]? = some .no) (h : DF X c env e fun ns => DF X c env e2 fun ms => ∀ L p q, P.ro (.ll L [(p, ns), (q, ms)]))
    (hs : starEach [e, e2] X.env = (false, eval e X.env) :: starEach [e2] X.env := by rfl) (hs2 : starEach [e2] X.env = (false, eval e2 X.env) :: starEach [] X.env := by rfl) : DS X c env (.Return (some (.List [e, e2] lpos)) pos) P := fun A0 H0 σ H E se ft => by
  obtain ⟨e0, B, h1, h2, sv, h3⟩ := se
  refine ofS (ps_ret (pe_lst (pa_cons peS (pa_cons peS pa_nil hs2) hs))) (h B σ H _ sv fun p H1 ns e1 hp hp1 h4 => h4 B σ H1 _ (sv.ext e1) fun q H2 ms e2 hq hq2 h5 => ⟨by show 2 ≤ sizeLine; decide, fun L hL => ?_⟩)
  have hp2 := e2 _ _ hp1
  have en : Ex H2 (upd H2 L (.lst [.ref p, .ref q])) := Evl.Ex.new hL
  have hpq : p ≠ q := fun z => by rw [z, hq] at hp1; cases hp1
  have hLp : L ≠ p := fun z => by rw [z, hp2] at hL; cases hL
  have hLq : L ≠ q := fun z => by rw [z, hq2] at hL; cases hL
  have hq0 := Evl.fresh_back e1 hq
  have hL0 := Evl.fresh_back (e1.trans e2) hL
  have s1 : SV (wdOf X c) (hide B p) env σ H1 := sv.hide e1 hp (by rw [hp1]; simp)
  have s2 : SV (wdOf X c) (hide (hide B p) q) env σ H2 := s1.hide e2 hq (by rw [hq2]; simp)
  have s3 : SV (wdOf X c) (hide (hide (hide B p) q) L) env σ (upd H2 L (.lst [.ref p, .ref q])) := s2.hide en hL (by rw [upd_same]; simp)
  have fr : ∀ a, a = L ∨ a = p ∨ a = q → H a = none := fun a ha => by
    rcases ha with z | z | z
    · rw [z]; exact hL0
    · rw [z]; exact hp
    · rw [z]; exact hq0
  have frA : ∀ a, a = L ∨ a = p ∨ a = q → A0 a = false := fun a ha => by
    cases z : A0 a with
    | false => rfl
    | true => exact absurd (fr a ha) (sv.bz a (h1 a z))
  have had : ∀ a, a ∈ (Sl.ll L [(p, ns), (q, ms)]).adrs → a = L ∨ a = p ∨ a = q := fun a ha => by simpa [Sl.adrs] using ha
  have ok : SlOk (wdOf X c) (hide (hide (hide B p) q) L) (upd H2 L (.lst [.ref p, .ref q])) (some (some (.ref L))) (.ll L [(p, ns), (q, ms)]) := by
    refine ⟨rfl, hide_self _ L, by simp [hLp, hLq, hpq], upd_same, fun r hr => ?_⟩
    rcases List.mem_cons.mp hr with z | z
    · rw [z]; exact ⟨hide_of (hide_of (hide_self B p)), en _ _ hp2⟩
    · rw [List.mem_singleton.mp z]; exact ⟨hide_of (hide_self _ q), en _ _ hq2⟩
  have hil : i < env.length := (List.getElem?_eq_some_iff.mp hi).1
  refine ft.ro (env.set i (.ll L [(p, ns), (q, ms)])) (σ.set i (some (.ref L))) _ _ _ i ⟨((e0.trans e1).trans e2).trans en, _, fun a ha => hide_of (hide_of (hide_of (h1 a ha))), fun a hb ha => ?_, s3.set ok fun a ha k u hk hu hm => ?_, adr_set h3 fun a ha => frA a (had a ha)⟩ (List.getElem?_set_self hil) (List.getElem?_set_self (by rw [← sv.ln]; exact hil)) (h5 L p q)
  · rcases hide_yes hb with hb | hb
    · rcases hide_yes hb with hb | hb
      · rcases hide_yes hb with hb | hb
        · exact h2 a hb ha
        · rw [hb]; exact Evl.fresh_back e0 hp
      · rw [hb]; exact Evl.fresh_back e0 hq0
    · rw [hb]; exact Evl.fresh_back e0 hL0
  · exact absurd (fr a (had a ha)) (sv.bz a ((sv.sl k u hu).adr a hm))
end
/-! ### a def that returns an own object -/
structure NewEnd (G : Wd) (A0 B : Addr → Bool) (H H2 : Hp) (v : V) (s : Sl) : Prop where
  ex : Ex H H2
  up : ∀ a, A0 a = true → B a = true
  fresh : ∀ a, B a = true → A0 a = false → H a = none
  bz : Bz B H2
  ok : SlOk G B H2 (some (some v)) s
  ad : ∀ a ∈ s.adrs, A0 a = false
def spO (G : Wd) (Ph : List D → (Sl → Prop) → Prop) : Sp := fun vs H Q _ => ∃ (A0 : Addr → Bool) (ds : List D) (Qo : Sl → Prop), Bz A0 H ∧ RepA G (hid A0 H) vs ds ∧ Ph ds Qo ∧ ∀ v H2 B s, NewEnd G A0 B H H2 v s → Qo s → Q v H2
theorem fn_okO {P : Program} {w : World} {K : PySem.W.Frag} {cA : Cl → Addr} {mg : Str → Option Value} {base : Heap} {x qual : Str} {st : Stmt} {f : Addr} {fd : FuncData} {N ps : List Str} {k : Nat} {Ph : List D → (Sl → Prop) → Prop}
    (F : FunD K x qual (defArgs st) (defBody st) (defScope st) [] [] f fd) (S : FnScope N ps (defScope st)) (hl : ∀ ds Qd, Ph ds Qd → ds.length = ps.length) (hNp : ps.length ≤ N.length)
    (hb : ∀ (cdv : Value) (A : Around) (outer : List Env) (s : Shared) (H : Hp) (E : XK) (ds : List D) (Qd : Sl → Prop), Room k (bx P w K mg base N qual (defScope st) f cdv A outer s H E).A → Ph ds Qd →
      DB (bx P w K mg base N qual (defScope st) f cdv A outer s H E) cA (startE N ds) (defBody st) { nx := fun _ => False, rt := fun _ _ => False, ro := Qd }) :
    FnOk P w K mg base CX0 (k + 1) f fd ps (spO ⟨P, w, K, cA⟩ Ph) := by
  refine F.ok S (fun vs H Q E h => ?_) (fun cdv A outer s H vs Q E hr h => ?_)
  · obtain ⟨A0, ds, Qd, z, r, p, _⟩ := h
    rw [r.length]
    exact hl ds Qd p
  · obtain ⟨A0, ds, Qd, z, r, p, q⟩ := h
    have hlen := hl ds Qd p
    refine ⟨semB (bx P w K mg base N qual (defScope st) f cdv A outer s H E) (defBody st), PSs.nox pbS, ?_⟩
    have k2 : ∀ a, A0 a = true → A0 a = false → H a = none := fun a h1 h2 => by rw [h1] at h2; cases h2
    refine hb cdv A outer s H E ds Qd hr p A0 H _ H _ ⟨Evl.Ex.refl H, A0, fun _ h => h, k2, ?_, ?_⟩ ⟨fun _ _ _ _ h => h.elim, fun _ _ _ _ h => h.elim, fun _ _ _ _ h => h.elim, fun _ _ H2 v d s r2 q2 => q2.elim, fun env σ H2 v s i se hi hσ qo => ?_⟩
    · unfold L2.start startE
      rw [r.length]
      refine ⟨z, by simp [r.length], fun i s h => start_get _ r i s h, fun i j s t a h1 h2 m1 m2 => ?_⟩
      rw [start_no i s h1] at m1
      cases m1
    · intro i s a h ha
      rw [start_no i s h] at ha
      cases ha
    · obtain ⟨e0, B, h1, h2, sv, h3⟩ := se
      exact q v H2 B s ⟨e0, h1, h2, sv.bz, by rw [← hσ]; exact sv.sl i s hi, fun a ha => h3 i s a hi ha⟩ qo
structure FoG (P : Program) (w : World) (K : PySem.W.Frag) (cA : Cl → Addr) (mg : Str → Option Value) (base : Heap) (x : Str) (k : Nat) (Ph : List D → (Sl → Prop) → Prop) : Prop where
  ex : ∃ (f : Addr) (fd : FuncData) (ps : List Str), FnOk P w K mg base CX0 k f fd ps (spO ⟨P, w, K, cA⟩ Ph) ∧ mg x = some (.ref f) ∧ PySem.W.keepIn K (.ref f) = true ∧ Binds K fd ps []
end DD
namespace DD
open PySem PySem.Spec PyProof.Rows L2
open Evl (Ex)
section
variable {X : Cx} {c : Cl → Addr} {env : SEnv} {e e2 a b value : Expr} {es : List Expr} {P : DEnd} {Qd : D → Prop} {Qb : Bool → Prop} {pos : Pos} {body orelse : List Stmt}
/-! ### calls on an own object -/
theorem self_core {Ph : Sl → List D → (Sl → D → Prop) → Prop} {A0 B : Addr → Bool} {H0 H H1 : Hp} {σ : Sto} {i : Nat} {s : Sl} {a0 : Addr} {ws : List V} {ds : List D} {Qs : Sl → D → Prop} {Q : VK} {E : XK} (e0 : Ex H0 H) (h1 : ∀ a, A0 a = true → B a = true) (h2 : ∀ a, B a = true → A0 a = false → H0 a = none) (sv : SV (wdOf X c) B env σ H)
    (h3 : ∀ (i : Nat) (s : Sl) (a : Addr), env[i]? = some s → a ∈ s.adrs → A0 a = false) (hs : env[i]? = some s) (h0 : s.adr0 = some a0) (e1 : Ex H H1) (r : RepA (wdOf X c) (hid B H1) ws ds) (ph : Ph s ds Qs)
    (fin : ∀ v H2 d s2, SE (wdOf X c) A0 H0 (env.set i s2) σ H2 → flat d = true → Rep (wdOf X c) H2 v d → Qs s2 d → Q v H2) : spS (wdOf X c) Ph (.ref a0 :: ws) H1 Q E := by
  have sv1 := sv.ext e1
  have ok1 := sv1.sl i s hs
  have g0 := ok1.at0 h0
  refine ⟨B, s, a0, ws, ds, Qs, rfl, sv1.bz, h0, by rw [← g0]; exact ok1, r, ph, fun v H2 B2 s2 d se hf rd qd => fin v H2 d s2 ?_ hf rd qd⟩
  have hB : ∀ a ∈ s.adrs, B a = true := ok1.adr
  have eh : Ex (hid B H1) (hid B2 H2) := fun a o h => by
    obtain ⟨q, h⟩ := hid_no h
    rw [hid_at]
    · exact se.keep a o h fun hm => by rw [hB a hm] at q; cases q
    · cases hb : B2 a with
      | false => rfl
      | true => rw [se.fresh a hb q] at h; cases h
  have hA : ∀ a ∈ s2.adrs, A0 a = false := fun a ha => by
    rcases se.ad a ha with z | z
    · exact h3 i s a hs z
    · cases q : A0 a with
      | false => rfl
      | true => exact absurd z (sv1.bz a (h1 a q))
  have e2 : Ex H0 H2 := fun a o h => se.keep a o (e1 _ _ (e0 a o h)) fun hm => by
    rw [h2 a (hB a hm) (h3 i s a hs hm)] at h
    cases h
  refine ⟨e2, B2, fun a ha => se.up a (h1 a ha), fun a hb ha => ?_, ⟨se.bz, by rw [List.length_set]; exact sv.ln, fun j t hj => ?_, fun j k t u a hj hk mj mk => ?_⟩, adr_set h3 hA⟩
  · cases q : B a with
    | true => exact h2 a q ha
    | false => exact Evl.fresh_back (e0.trans e1) (se.fresh a hb q)
  · have hi : i < env.length := (List.getElem?_eq_some_iff.mp hs).1
    by_cases ej : i = j
    · subst ej
      rw [List.getElem?_set_self hi] at hj
      cases hj
      rw [g0]
      exact se.ok
    · rw [List.getElem?_set_ne ej] at hj
      exact (sv1.sl j t hj).grow' (fun a ha ob hob => se.keep a ob hob fun hm => ej (sv.dj i j s t a hs hj hm ha)) eh se.up
  · have hi : i < env.length := (List.getElem?_eq_some_iff.mp hs).1
    have old : ∀ {k : Nat} {u : Sl}, i ≠ k → env[k]? = some u → a ∈ u.adrs → a ∈ s2.adrs → False := fun {k u} ne hk hu hs2 => by
      rcases se.ad a hs2 with z | z
      · exact ne (sv.dj i k s u a hs hk z hu)
      · exact absurd z (sv1.bz a ((sv1.sl k u hk).adr a hu))
    by_cases ej : i = j
    · by_cases ek : i = k
      · omega
      · subst ej
        rw [List.getElem?_set_self hi] at hj
        cases hj
        rw [List.getElem?_set_ne ek] at hk
        exact (old ek hk mk mj).elim
    · rw [List.getElem?_set_ne ej] at hj
      by_cases ek : i = k
      · subst ek
        rw [List.getElem?_set_self hi] at hk
        cases hk
        exact (old ej hj mj mk).elim
      · rw [List.getElem?_set_ne ek] at hk
        exact sv.dj j k t u a hj hk mj mk
/-- a method of an own instance -/
structure MsG (P : Program) (w : World) (K : PySem.W.Frag) (cA : Cl → Addr) (mg : Str → Option Value) (base : Heap) (k : Cl) (m : Str) (lv : Nat) (Ph : Sl → List D → (Sl → D → Prop) → Prop) : Prop where
  ex : ∃ (f : Addr) (fd : FuncData) (ps : List Str), Meth K (cA k) m f ∧ FnOk P w K mg base CX0 lv f fd ps (spS ⟨P, w, K, cA⟩ Ph) ∧ Binds K fd ps []
variable {m : Str} {lv : Nat} {apos : Pos}
theorem rp_look {m : Str} (hm : m ≠ "count" ∧ m ≠ "rows") (u v : V) : ([("count", u), ("rows", v)] : List (Str × V)).lookup m = none := by
  have h1 : (m == ("count" : Str)) = false := beq_eq_false_iff_ne.mpr hm.1
  have h2 : (m == ("rows" : Str)) = false := beq_eq_false_iff_ne.mpr hm.2
  simp [List.lookup, h1, h2]
/-- return self.m(..) -/
theorem ds_retM (i : Nat) {y : Str} {py cpos : Pos} {Ph : Sl → List D → (Sl → D → Prop) → Prop} {pl : Sem Bool} {ad dx L : Addr} {n : Int} {rs : List (Addr × List Int)} (M : MsG X.prog X.w X.K c X.mg X.base .rp m lv Ph) (F : CF X.K c) (hr : Room lv X.A) (hs : env[i]? = some (.rp ad dx L n rs))
    (h : DA X c env (e :: es) fun ds => Ph (.rp ad dx L n rs) ds fun s2 d => P.rt (env.set i s2) d) (hm : m ≠ "count" ∧ m ≠ "rows")
    (hN : X.N[i]? = some y := by rfl) (hv : Vis X.env.scope y := by first | exact Or.inl rfl | exact Or.inr (Or.inl rfl) | exact Or.inr (Or.inr rfl))
    (hd : (y == ("__debug__" : Str)) = false := by decide) (hcd : (y == ("__classdict__" : Str)) = false := by decide)
    (hst : starEach (e :: es) X.env = (false, eval e X.env) :: starEach es X.env := by rfl) (hpl : (backTo cpos (starEach es X.env)).any (·.1) = false := by rfl)
    (ht : eval (.Call (.Attribute (.Name y py) m apos) (e :: es) [] cpos) X.env = (do
      let ov ← eval (.Name y py) X.env
      standAt apos.atName
      let (f, first) ← holding [ov] (getMethod ov m pl)
      callWith cpos f first (backTo cpos (starEach (e :: es) X.env)) (backToKw cpos (keywordEach [] X.env))) := by rfl) : DS X c env (.Return (some (.Call (.Attribute (.Name y py) m apos) (e :: es) [] cpos)) pos) P := fun A0 H0 σ H E se ft => by
  obtain ⟨e0, B, h1, h2, sv, h3⟩ := se
  obtain ⟨f, fd, ps, Mt, Fn, hb⟩ := M.ex
  obtain ⟨g1, g2, g3, g4, g5⟩ := id (sv.sl i _ hs)
  refine ofS (ps_ret (pe_meth (pl := pl) (dvs := []) (pe_var hN hv hd hcd) (F.cls .rp) Mt Fn hr hb .nil pass0 paS hst hpl ht)) ⟨_, g1, ad, dx, _, rfl, g4, rp_look hm _ _, h B σ H _ sv fun vs H1 ds e1 r1 q => ?_⟩
  rw [List.append_nil]
  refine self_core (E := E0) e0 h1 h2 sv h3 hs rfl e1 r1 q fun v H2 d s2 se2 hf rd qd => ?_
  exact ft.rt _ σ H2 v d se2 (rd.flat _ hf) qd
/-- if not o.m(..): .. -/
theorem ds_ifNotM (i : Nat) {y : Str} {py cpos npos : Pos} {Ph : Sl → List D → (Sl → D → Prop) → Prop} {pl : Sem Bool} {ad dx L : Addr} {n : Int} {rs : List (Addr × List Int)} (M : MsG X.prog X.w X.K c X.mg X.base .rp m lv Ph) (F : CF X.K c) (hr : Room lv X.A) (hs : env[i]? = some (.rp ad dx L n rs))
    (h : DA X c env (e :: es) fun ds => Ph (.rp ad dx L n rs) ds fun s2 d => ∃ k, d = .bl k ∧ if k = true then DB X c (env.set i s2) orelse P else DB X c (env.set i s2) body P) (hm : m ≠ "count" ∧ m ≠ "rows")
    (hN : X.N[i]? = some y := by rfl) (hv : Vis X.env.scope y := by first | exact Or.inl rfl | exact Or.inr (Or.inl rfl) | exact Or.inr (Or.inr rfl))
    (hd : (y == ("__debug__" : Str)) = false := by decide) (hcd : (y == ("__classdict__" : Str)) = false := by decide)
    (he : ∀ whole, isTrue (.Call (.Attribute (.Name y py) m apos) (e :: es) [] cpos) X.env whole = (do let v ← whole; standAt (Expr.Call (.Attribute (.Name y py) m apos) (e :: es) [] cpos).pos; holding [v] (truthy v)) := by intro _; rfl)
    (hst : starEach (e :: es) X.env = (false, eval e X.env) :: starEach es X.env := by rfl) (hpl : (backTo cpos (starEach es X.env)).any (·.1) = false := by rfl)
    (ht : eval (.Call (.Attribute (.Name y py) m apos) (e :: es) [] cpos) X.env = (do
      let ov ← eval (.Name y py) X.env
      standAt apos.atName
      let (f, first) ← holding [ov] (getMethod ov m pl)
      callWith cpos f first (backTo cpos (starEach (e :: es) X.env)) (backToKw cpos (keywordEach [] X.env))) := by rfl) : DS X c env (.If (.UnaryOp .Not (.Call (.Attribute (.Name y py) m apos) (e :: es) [] cpos) npos) body orelse pos) P := fun A0 H0 σ H E se ft => by
  obtain ⟨e0, B, h1, h2, sv, h3⟩ := se
  obtain ⟨f, fd, ps, Mt, Fn, hb⟩ := M.ex
  obtain ⟨g1, g2, g3, g4, g5⟩ := id (sv.sl i _ hs)
  refine ofS (ps_if (pt_not (pt_val (pe_meth (pl := pl) (dvs := []) (pe_var hN hv hd hcd) (F.cls .rp) Mt Fn hr hb .nil pass0 paS hst hpl ht) he)) pbS pbS) ⟨_, g1, ad, dx, _, rfl, g4, rp_look hm _ _, h B σ H _ sv fun vs H1 ds e1 r1 q => ?_⟩
  rw [List.append_nil]
  refine self_core (E := E0) e0 h1 h2 sv h3 hs rfl e1 r1 q fun v H2 d s2 se2 hf rd ⟨k, hk, qd⟩ => ?_
  subst hk
  refine ⟨k, rd.bl_inv, ?_⟩
  cases k with
  | true => exact qd A0 H0 σ H2 E se2 ft
  | false => exact qd A0 H0 σ H2 E se2 ft
/-- x = C(..), the instance the caller's own -/
theorem ds_newRp (i : Nat) {x y : Str} {p py : Pos} {cpos : Pos} {Ph : Sl → List D → (Sl → D → Prop) → Prop} (M : MkG X.prog X.w X.K c X.mg X.base x .rp lv Ph) (hr : Room (lv + 1) X.A)
    (h : DA X c env (e :: es) fun ds => ∀ a dx, Ph (.oi a dx .rp []) ds fun s2 d => d = .non ∧ (∃ L n rs, s2 = .rp a dx L n rs) ∧ P.nx (env.set i s2))
    (hN : X.N.Nodup) (hi : X.N[i]? = some y := by rfl) (hy : Loc X.env.scope y := by first | exact Or.inl rfl | exact Or.inr rfl) (hf : X.fn y = true ∨ X.env.scope.names.lookup y = some .local := by first | exact .inl rfl | exact .inr rfl)
    (hsw : swapsWith (.Call (.Name x p) (e :: es) [] cpos) (some (.Name y py)) pos.line X.env = pure false := by rfl)
    (hg : Gl X x := by rfl) (hdb : (x == ("__debug__" : Str)) = false := by decide) (he : starEach (e :: es) X.env = (false, eval e X.env) :: starEach es X.env := by rfl) (hpl : (backTo cpos (starEach es X.env)).any (·.1) = false := by rfl) :
    DS X c env (.Assign [.Name y py] (.Call (.Name x p) (e :: es) [] cpos) pos) P := fun A0 H0 σ H E se ft => by
  obtain ⟨e0, B, h1, h2, sv, h3⟩ := se
  obtain ⟨f, fd, ps, Mk_, F, hm, hb⟩ := M.ex
  refine ofS (ps_set hN hi hy (pe_make (dvs := []) Mk_ F hr hg hm hb .nil pass0 paS hdb he hpl) hsw hf) (h B σ H _ sv fun vs H1 ds e1 r1 q => ?_)
  intro a dx ha hdx hne
  rw [List.append_nil]
  have sv1 := sv.ext e1
  have bz1 := sv1.bz
  have hBa := bz1.new ha
  have en : Ex H1 (upd (upd H1 dx (.own a)) a (.ins (c .rp) dx [])) := Evl.Ex.mut (Evl.Ex.new hdx) ha
  refine ⟨hide B a, .oi a dx .rp [], a, vs, ds, _, rfl, hide_bz bz1 en (by rw [upd_same]; simp), rfl, ⟨rfl, hide_self B a, [], by rw [upd_same]; simp, rfl, Nat.zero_le _, .nil⟩, r1.mono (hide_ex en ha), q a dx, ?_⟩
  intro v H2 B2 s2 d se hf rd ⟨hd, ⟨L, n, rs, hs2⟩, hq⟩
  subst hd
  refine ⟨rd.non_inv, ?_⟩
  have e12 : Ex H1 H2 := fun b ob hb => se.keep b ob (en b ob hb) (by simp [Sl.adrs]; intro z; rw [z, ha] at hb; cases hb)
  have up2 : ∀ b, B b = true → B2 b = true := fun b hb => se.up b (hide_of hb)
  have eh : Ex (hid B H1) (hid B2 H2) := fun b o h => by
    obtain ⟨q, h⟩ := hid_no h
    rw [hid_at]
    · exact e12 _ _ h
    · cases hb : B2 b with
      | false => rfl
      | true =>
        have hba : b ≠ a := fun z => by rw [z, ha] at h; cases h
        have := se.fresh b hb (hide_no q hba)
        rw [en _ _ h] at this
        cases this
  have fr : ∀ b ∈ s2.adrs, H1 b = none := fun b hb => by
    rcases se.ad b hb with z | z
    · rw [List.mem_singleton.mp z]; exact ha
    · exact Evl.fresh_back en z
  have frA : ∀ b ∈ s2.adrs, A0 b = false := fun b hb => by
    cases z : A0 b with
    | false => rfl
    | true => exact absurd (fr b hb) (bz1 b (h1 b z))
  have svg : SV (wdOf X c) B2 env σ H2 := sv1.grow e12 eh up2 se.bz
  refine ft.nx _ _ _ ⟨(e0.trans e1).trans e12, B2, fun b hb => up2 b (h1 b hb), fun b hb hA => ?_, svg.set se.ok fun b hb j t hj ht hm => ?_, adr_set h3 frA⟩ hq
  · cases z : B b with
    | true => exact h2 b z hA
    | false =>
      by_cases hba : b = a
      · rw [hba]; exact Evl.fresh_back (e0.trans e1) ha
      · exact Evl.fresh_back ((e0.trans e1).trans en) (se.fresh b hb (hide_no z hba))
  · exact absurd (fr b hb) (bz1 b ((sv1.sl j t ht).adr b hm))
/-- self.rows = f(..): the new own list comes under the instance -/
theorem ds_fldRows (i : Nat) {x y f : Str} {py p pos' cpos : Pos} {ad dx : Addr} {n : Int} {Ph : List D → (Sl → Prop) → Prop} (M : FoG X.prog X.w X.K c X.mg X.base x lv Ph) (F : CF X.K c) (hr : Room lv X.A) (hs : env[i]? = some (.oi ad dx .rp [.int n]))
    (h : DA X c env (e :: es) fun ds => Ph ds fun s => ∃ L rs, s = .ll L rs ∧ P.nx (env.set i (.rp ad dx L n rs))) (hfm : f = "rows")
    (hN : X.N[i]? = some y := by rfl) (hv : Vis X.env.scope y := by first | exact Or.inl rfl | exact Or.inr (Or.inl rfl) | exact Or.inr (Or.inr rfl))
    (hd : (y == ("__debug__" : Str)) = false := by decide) (hcd : (y == ("__classdict__" : Str)) = false := by decide)
    (hsw : swapsWith (.Call (.Name x p) (e :: es) [] cpos) (some (.Attribute (.Name y py) f pos')) pos.line X.env = pure false := by rfl)
    (hg : Gl X x := by rfl) (hdb : (x == ("__debug__" : Str)) = false := by decide) (he : starEach (e :: es) X.env = (false, eval e X.env) :: starEach es X.env := by rfl) (hpl : (backTo cpos (starEach es X.env)).any (·.1) = false := by rfl) :
    DS X c env (.Assign [.Attribute (.Name y py) f pos'] (.Call (.Name x p) (e :: es) [] cpos) pos) P := fun A0 H0 σ H E se ft => by
  obtain ⟨e0, B, h1, h2, sv, h3⟩ := se
  obtain ⟨g1, g2, xs, g3, g4, g5, g6⟩ := id (sv.sl i _ hs)
  obtain ⟨f', fd, ps, Fn, hm, hk, hb⟩ := M.ex
  refine ofS (ps_fld (pe_var hN hv hd hcd) (pe_call (dvs := []) Fn hr hg hm hk hb .nil pass0 paS hdb he hpl) hsw) (h B σ H _ sv fun vs H1 ds e1 r1 q => ?_)
  rw [List.append_nil]
  refine ⟨B, ds, _, sv.bz.ext e1, r1, q, fun v H2 B2 s ne ⟨L, rs, hs2, hq⟩ => ?_⟩
  subst hs2
  subst hfm
  obtain ⟨o1, o2⟩ := ne.ok
  cases o1
  have e12 := e1.trans ne.ex
  cases g6 with
  | cons r0 t =>
    cases t
    cases r0
    refine ⟨_, g1, ad, c .rp, dx, _, rfl, e12 _ _ g3, F.cls .rp, F.na .rp _ (by simp [Cl.names]), by show 1 < 1000; decide, ?_⟩
    have hA : A0 ad = false := h3 i _ ad hs (by simp [Sl.adrs])
    have eh : Ex (hid B H1) (hid B2 H2) := fun b o h => by
      obtain ⟨q, h⟩ := hid_no h
      rw [hid_at]
      · exact ne.ex _ _ h
      · cases hb : B2 b with
        | false => rfl
        | true => rw [ne.fresh b hb q] at h; cases h
    have sv1 := sv.ext e1
    have svg : SV (wdOf X c) B2 env σ H2 := sv1.grow ne.ex eh ne.up ne.bz
    have fr : ∀ b ∈ (Sl.ll L rs).adrs, H1 b = none := fun b hb => ne.fresh b (o2.adr b hb) (ne.ad b hb)
    have frA : ∀ b ∈ (Sl.ll L rs).adrs, A0 b = false := fun b hb => by
      cases z : A0 b with
      | false => rfl
      | true => exact absurd (fr b hb) (sv1.bz b (h1 b z))
    have hadn : ad ∉ (Sl.ll L rs).adrs := fun hm => by
      have := fr ad hm
      rw [e1 _ _ g3] at this
      cases this
    refine ft.nx _ _ _ ⟨Evl.Ex.mut (e0.trans e12) (h2 ad g2 hA), B2, fun b hb => ne.up b (h1 b hb), fun b hb hAb => ?_, sv_putN (t := .rp ad dx L n rs) svg hs (by simp [Sl.adrs]) (fun b hb => ?_) ⟨g1, ne.up _ g2, List.nodup_cons.mpr ⟨hadn, o2.2.1⟩, by rw [upd_same]; rfl, o2.mut hadn⟩, adr_set h3 fun b hb => ?_⟩ hq
    · cases z : B b with
      | true => exact h2 b z hAb
      | false => exact Evl.fresh_back (e0.trans e1) (ne.fresh b hb z)
    · rcases List.mem_cons.mp hb with z | z
      · exact .inl (by simp [Sl.adrs, z])
      · exact .inr fun j u hj hm => absurd (fr b z) (sv1.bz b ((sv1.sl j u hj).adr b hm))
    · rcases List.mem_cons.mp hb with z | z
      · rw [z]; exact hA
      · exact frA b z
/-! ### rows of an own instance -/
/-- what a name stands for that is one of the own rows -/
theorem sv_alias {G : Wd} {B : Addr → Bool} {σ : Sto} {H : Hp} {i j : Nat} {ad dx L : Addr} {n : Int} {rs : List (Addr × List Int)} {q : Addr} {r : List Int} (sv : SV G B env σ H) (hs : env[i]? = some (.rp ad dx L n rs)) (hj : env[j]? = some (.al q)) (hm : (q, r) ∈ rs) :
    SV G (unhide B (Sl.rp ad dx L n rs).adrs) ((env.set i (Sl.rp ad dx L n rs).view).set j (.dat (lrowD r))) σ H := by
  have hij : i ≠ j := fun e => by rw [e, hj] at hs; cases hs
  have v := sv.view hs
  have hjl : j < env.length := (List.getElem?_eq_some_iff.mp hj).1
  have g1 : σ[j]? = some (some (.ref q)) := sv.sl j _ hj
  obtain ⟨o1, o2, o3, o4, o5⟩ := sv.sl i _ hs
  have rep : Rep G (hid (unhide B (Sl.rp ad dx L n rs).adrs) H) (.ref q) (lrowD r) := by
    refine .lst (xs := r.map V.int) ?_ (repA_ints r)
    rw [hid_at (unhide_in (by simp only [Sl.adrs, List.mem_cons, List.mem_map]; exact .inr (.inr ⟨_, hm, rfl⟩)))]
    exact (o5.2.2.2 _ hm).2
  have w := v.setD j rep
  have es : σ.set j (some (.ref q)) = σ := by
    apply List.ext_getElem?
    intro k
    by_cases hk : j = k
    · subst hk
      rw [List.getElem?_set_self (by rw [← sv.ln]; exact hjl), g1]
    · rw [List.getElem?_set_ne hk]
  rw [es] at w
  exact w
theorem de_view2 (i j k : Nat) {ad dx L : Addr} {n : Int} {rs : List (Addr × List Int)} {q q' : Addr} {r r' : List Int} (hs : env[i]? = some (.rp ad dx L n rs)) (hj : env[j]? = some (.al q)) (hk : env[k]? = some (.al q')) (hm : (q, r) ∈ rs) (hm' : (q', r') ∈ rs) (hjk : j ≠ k)
    (h : DE X c (((env.set i (Sl.rp ad dx L n rs).view).set j (.dat (lrowD r))).set k (.dat (lrowD r'))) e fun d => flat d = true ∧ Qd d) : DE X c env e Qd := fun B σ H Q sv f => by
  have v1 := sv_alias sv hs hj hm
  have v2 := sv_alias sv hs hk hm'
  have hik : i ≠ k := fun e => by rw [e, hk] at hs; cases hs
  have hkl : k < env.length := (List.getElem?_eq_some_iff.mp hk).1
  have ok2 := v2.sl k (.dat (lrowD r')) (by rw [List.getElem?_set_self (by rw [List.length_set]; exact hkl)])
  have g1 : σ[k]? = some (some (.ref q')) := sv.sl k _ hk
  obtain ⟨z, hz, rz⟩ := ok2
  rw [g1] at hz
  cases hz
  have w := v1.setD k rz
  have es : σ.set k (some (.ref q')) = σ := by
    apply List.ext_getElem?
    intro m
    by_cases hk : k = m
    · subst hk
      rw [List.getElem?_set_self (by rw [← sv.ln]; exact hkl), g1]
    · rw [List.getElem?_set_ne hk]
  rw [es] at w
  exact h _ σ H Q w fun v H2 d e2 rd ⟨hf, qd⟩ => f v H2 d e2 (rd.flat _ hf) qd
theorem dt_view1 (i j : Nat) {ad dx L : Addr} {n : Int} {rs : List (Addr × List Int)} {q : Addr} {r : List Int} (hs : env[i]? = some (.rp ad dx L n rs)) (hj : env[j]? = some (.al q)) (hm : (q, r) ∈ rs)
    (h : DT X c ((env.set i (Sl.rp ad dx L n rs).view).set j (.dat (lrowD r))) e Qb) : DT X c env e Qb := fun B σ H Q sv f => h _ σ H Q (sv_alias sv hs hj hm) f
theorem dt_view2 (i j k : Nat) {ad dx L : Addr} {n : Int} {rs : List (Addr × List Int)} {q q' : Addr} {r r' : List Int} (hs : env[i]? = some (.rp ad dx L n rs)) (hj : env[j]? = some (.al q)) (hk : env[k]? = some (.al q')) (hm : (q, r) ∈ rs) (hm' : (q', r') ∈ rs) (hjk : j ≠ k)
    (h : DT X c (((env.set i (Sl.rp ad dx L n rs).view).set j (.dat (lrowD r))).set k (.dat (lrowD r'))) e Qb) : DT X c env e Qb := fun B σ H Q sv f => by
  have v1 := sv_alias sv hs hj hm
  have v2 := sv_alias sv hs hk hm'
  have hik : i ≠ k := fun e => by rw [e, hk] at hs; cases hs
  have hkl : k < env.length := (List.getElem?_eq_some_iff.mp hk).1
  have ok2 := v2.sl k (.dat (lrowD r')) (by rw [List.getElem?_set_self (by rw [List.length_set]; exact hkl)])
  have g1 : σ[k]? = some (some (.ref q')) := sv.sl k _ hk
  obtain ⟨z, hz, rz⟩ := ok2
  rw [g1] at hz
  cases hz
  have w := v1.setD k rz
  have es : σ.set k (some (.ref q')) = σ := by
    apply List.ext_getElem?
    intro m
    by_cases hk : k = m
    · subst hk
      rw [List.getElem?_set_self (by rw [← sv.ln]; exact hkl), g1]
    · rw [List.getElem?_set_ne hk]
  rw [es] at w
  exact h _ σ H Q w f
/-- one = self.rows[k] -/
theorem ds_aliasRow (i j : Nat) {x y f : Str} {px py apos spos : Pos} {ix : Expr} {ad dx L : Addr} {n : Int} {rs : List (Addr × List Int)} (F : CF X.K c) (hs : env[i]? = some (.rp ad dx L n rs)) (hix : PlainIx ix) (h : DE X c env ix fun d => ∃ k : Nat, d = .int (k : Int) ∧ ∃ r, rs[k]? = some r ∧ P.nx (env.set j (.al r.1))) (hf : f = "rows")
    (hn : X.N.Nodup) (hN : X.N[i]? = some y := by rfl) (hv : Vis X.env.scope y := by first | exact Or.inl rfl | exact Or.inr (Or.inl rfl) | exact Or.inr (Or.inr rfl))
    (hd : (y == ("__debug__" : Str)) = false := by decide) (hcd : (y == ("__classdict__" : Str)) = false := by decide) (hj : X.N[j]? = some x := by rfl) (hx : Loc X.env.scope x := by first | exact Or.inl rfl | exact Or.inr rfl)
    (hb : attributeBase (.Name y py) f X.env (eval (.Name y py) X.env) = eval (.Name y py) X.env := by rfl)
    (hfn : X.fn x = true ∨ X.env.scope.names.lookup x = some .local := by first | exact .inl rfl | exact .inr rfl)
    (hsw : swapsWith (.Subscript (.Attribute (.Name y py) f apos) ix spos) (some (.Name x px)) pos.line X.env = pure false := by rfl) : DS X c env (.Assign [.Name x px] (.Subscript (.Attribute (.Name y py) f apos) ix spos) pos) P := fun A0 H0 σ H E se ft => by
  obtain ⟨e0, B, h1, h2, sv, h3⟩ := se
  obtain ⟨o1, o2, o3, o4, o5⟩ := id (sv.sl i _ hs)
  subst hf
  refine ofS (ps_set hn hj hx (pe_ix ix_list (pe_fld (pe_var hN hv hd hcd) hb) peS hix) hsw hfn) ⟨_, o1, ad, c .rp, dx, _, .ref L, rfl, o4, F.cls .rp, F.na .rp _ (by simp [Cl.names]), rfl, h B σ H _ sv fun u H2 d e2 r2 ⟨k, hk, r, hr, q⟩ => ?_⟩
  subst hk
  rw [r2.int_inv]
  have hat : atI (rs.map fun r => V.ref r.1) (k : Int) = some (.ref r.1) := by
    have hl : k < (rs.map fun r => V.ref r.1).length := by rw [List.length_map]; exact (List.getElem?_eq_some_iff.mp hr).1
    unfold L2.atI
    have : ixN (rs.map fun r => V.ref r.1).length (k : Int) = some k := by
      unfold ixN
      rw [if_pos (by omega), if_pos (by omega)]
      rfl
    rw [this]
    show (rs.map fun r => V.ref r.1)[k]? = _
    rw [List.getElem?_map, hr]
    rfl
  refine ⟨L, _, _, _, rfl, rfl, SqL.of (e2 _ _ o5.2.2.1), hat, ft.nx _ _ _ ⟨e0.trans e2, B, h1, h2, (sv.ext e2).set (s := .al r.1) rfl (fun a ha => by simp [Sl.adrs] at ha), adr_set h3 (by intro a ha; simp [Sl.adrs] at ha)⟩ q⟩
/-- row[k] = v, row one of the own rows -/
theorem ds_putRow (i j : Nat) {x : Str} {p p2 : Pos} {ix : Expr} {ad dx L : Addr} {n : Int} {rs : List (Addr × List Int)} {m : Nat} {q : Addr} {r : List Int} (hs : env[i]? = some (.rp ad dx L n rs)) (hj : env[j]? = some (.al q)) (hm : rs[m]? = some (q, r))
    (h : DE X c env e fun d => ∃ u : Int, d = .int u ∧ DE X c env ix fun y => ∃ k : Nat, y = .int (k : Int) ∧ k < r.length ∧ P.nx (env.set i (.rp ad dx L n (rs.set m (q, r.set k u)))))
    (hN : X.N[j]? = some x := by rfl) (hv : Vis X.env.scope x := by first | exact Or.inl rfl | exact Or.inr (Or.inl rfl) | exact Or.inr (Or.inr rfl))
    (hd : (x == ("__debug__" : Str)) = false := by decide) (hcd : (x == ("__classdict__" : Str)) = false := by decide)
    (ha : ∀ v, assign (.Subscript (.Name x p) ix p2) X.env v = (do
      let ov ← holding [v] (eval (.Name x p) X.env)
      let iv ← holding [v, ov] (eval ix X.env)
      standAt p2
      holding [v, ov, iv] (setItem ov iv v)
      release [v, ov, iv] []) := by intro _; rfl) (hsw : swapsWithSole [.Subscript (.Name x p) ix p2] e pos.line X.env = pure false := by rfl) (hw : swappedStores [.Subscript (.Name x p) ix p2] e X.env = pure none := by rfl)
    (hq : (assignEach [.Subscript (.Name x p) ix p2] X.env).map (·.2) = [assign (.Subscript (.Name x p) ix p2) X.env] := by rfl) : DS X c env (.Assign [.Subscript (.Name x p) ix p2] e pos) P := fun A0 H0 σ H E se ft => by
  obtain ⟨e0, B, h1, h2, sv, h3⟩ := se
  obtain ⟨o1, o2, o3, o4, o5⟩ := id (sv.sl i _ hs)
  have g1 : σ[j]? = some (some (.ref q)) := sv.sl j _ hj
  have hmem : (q, r) ∈ rs := List.mem_of_getElem? hm
  obtain ⟨w1, w2⟩ := o5.2.2.2 _ hmem
  refine ofS (ps_asg peS (pg_sub (pe_var hN hv hd hcd) peS set_list ha) hsw hw hq) (h B σ H _ sv fun v H2 d e2 r2 ⟨u, hu, h5⟩ => ⟨_, g1, h5 B σ H2 _ (sv.ext e2) fun y H3 d3 e3 r3 ⟨k, hk, hl, qn⟩ => ?_⟩)
  subst hu
  subst hk
  rw [r2.int_inv, r3.int_inv]
  have e23 := e2.trans e3
  have ix_ : ixN (r.map V.int).length (k : Int) = some k := by
    unfold ixN
    rw [List.length_map, if_pos (by omega), if_pos (by omega)]
    rfl
  refine ⟨q, _, _, k, rfl, rfl, e23 _ _ w2, ix_, ?_⟩
  have hml : m < rs.length := (List.getElem?_eq_some_iff.mp hm).1
  have eq1 : (rs.set m (q, r.set k u)).map (fun x => x.1) = rs.map fun x => x.1 := by
    rw [List.map_set]
    apply List.ext_getElem?
    intro z
    by_cases hz : m = z
    · subst hz
      rw [List.getElem?_set_self (by simpa using hml), List.getElem?_map, hm]
      rfl
    · rw [List.getElem?_set_ne hz]
  have eq2 : (rs.set m (q, r.set k u)).map (fun x => V.ref x.1) = rs.map fun x => V.ref x.1 := by
    have := congrArg (List.map V.ref) eq1
    rw [List.map_map, List.map_map] at this
    exact this
  have nd := (List.nodup_cons.mp o5.2.1)
  have hqL : L ≠ q := fun z => nd.1 (List.mem_map.mpr ⟨_, hmem, z.symm⟩)
  have hqa : ad ≠ q := fun z => (List.nodup_cons.mp o3).1 (List.mem_cons_of_mem _ (List.mem_map.mpr ⟨_, hmem, z.symm⟩))
  refine ft.nx _ _ _ (se_put (t := .rp ad dx L n (rs.set m (q, r.set k u))) (e0.trans e23) h1 h2 (sv.ext e23) h3 hs (by simp only [Sl.adrs, List.mem_cons, List.mem_map]; exact .inr (.inr ⟨_, hmem, rfl⟩)) (by simp only [Sl.adrs]; rw [eq1]) ⟨o1, o2, by rw [eq1]; exact o3, by rw [upd_ne hqa]; exact e23 _ _ o4, o5.1, by rw [eq1]; exact o5.2.1, by rw [upd_ne hqL, eq2]; exact e23 _ _ o5.2.2.1, fun x hx => ?_⟩) qn
  obtain ⟨z, hz, rfl⟩ := List.getElem_of_mem hx
  have hzl : z < rs.length := by simpa using hz
  by_cases hzm : z = m
  · subst hzm
    simp only [List.getElem_set_self]
    exact ⟨w1, by rw [upd_same, List.map_set]⟩
  · have er : (rs.set m (q, r.set k u))[z] = rs[z] := by rw [List.getElem_set_ne (Ne.symm hzm)]
    rw [er]
    obtain ⟨y1, y2⟩ := o5.2.2.2 rs[z] (List.getElem_mem hzl)
    refine ⟨y1, ?_⟩
    rw [upd_ne]
    · exact e23 _ _ y2
    · intro hne
      have hpm : (rs.map fun g => g.1)[m]'(by simpa using hml) = q := by
        simp only [List.getElem_map]
        have := (List.getElem?_eq_some_iff.mp hm).2
        rw [this]
      have hpz : (rs.map fun g => g.1)[z]'(by simpa using hzl) = q := by
        simp only [List.getElem_map]
        exact hne
      rcases Nat.lt_or_gt_of_ne hzm with hl1 | hl1
      · exact List.pairwise_iff_getElem.mp nd.2 z m (by simpa using hzl) (by simpa using hml) hl1 (by rw [hpm, hpz])
      · exact List.pairwise_iff_getElem.mp nd.2 m z (by simpa using hml) (by simpa using hzl) hl1 (by rw [hpm, hpz])
end
end DD
namespace DD
open PySem PySem.Spec PyProof.Rows L2
open Evl (Ex)
section
variable {X : Cx} {c : Cl → Addr} {env : SEnv} {e e2 ek ev ew : Expr} {es : List Expr} {P : DEnd} {Qd : D → Prop} {Qb : Bool → Prop} {pos : Pos} {body orelse : List Stmt}
/-- for row in self.rows: the rows may change, the list stays -/
theorem ds_forRows (i j : Nat) {x y f : Str} {pt py apos : Pos} {ad dx L : Addr} {n : Int} {rs : List (Addr × List Int)} (F : CF X.K c) (hc : X.calm = true) (hpg : PG X (.Name x pt) (gName j)) (hs : env[i]? = some (.rp ad dx L n rs)) (Pv : Nat → SEnv → Prop) (p0 : Pv 0 env)
    (hk : ∀ m env', Pv m env' → ∃ rs', env'[i]? = some (.rp ad dx L n rs') ∧ rs'.map (·.1) = rs.map (·.1)) (ht : ∀ (m : Nat) q r env', rs[m]? = some (q, r) → Pv m env' → DB X c (env'.set j (.al q)) body (turnEnd P (Pv (m + 1)))) (hend : ∀ env', Pv rs.length env' → P.nx env') (hf : f = "rows")
    (hN : X.N[i]? = some y := by rfl) (hv : Vis X.env.scope y := by first | exact Or.inl rfl | exact Or.inr (Or.inl rfl) | exact Or.inr (Or.inr rfl))
    (hd : (y == ("__debug__" : Str)) = false := by decide) (hcd : (y == ("__classdict__" : Str)) = false := by decide)
    (hb : attributeBase (.Name y py) f X.env (eval (.Name y py) X.env) = eval (.Name y py) X.env := by rfl)
    (hp : PassesOwn (model X.prog X.w) X.A X.env X.xe := by exact PassesOwn.never) (hst : ∀ x, foldedSetIterable (.Attribute (.Name y py) f apos) X.env x = pure x := by intro _; rfl) : DS X c env (.For (.Name x pt) (.Attribute (.Name y py) f apos) body [] pos) P := fun A0 H0 σ H E se ft => by
  obtain ⟨e0, B, h1, h2, sv, h3⟩ := se
  obtain ⟨o1, o2, o3, o4, o5⟩ := id (sv.sl i _ hs)
  subst hf
  refine ofS (ps_for hp hc (pi_list (pe_fld (pe_var hN hv hd hcd) hb)) hpg pbS hst) ⟨_, o1, ad, c .rp, dx, _, .ref L, rfl, o4, F.cls .rp, F.na .rp _ (by simp [Cl.names]), rfl, L, rfl, ⟨_, SqL.of o5.2.2.1⟩, ?_⟩
  have eb : Ex H0 (inner A0 B H) := inner_base e0 h2
  refine ⟨fun m k σ' H' => k = rs.length - m ∧ m ≤ rs.length ∧ ∃ env', SE (wdOf X c) A0 (inner A0 B H) env' σ' H' ∧ Pv m env', ⟨_, rfl, Nat.zero_le _, env, SE.inner h1 sv h3, p0⟩, fun m k σ' H' ⟨hkm, hm, env', s, p⟩ => ?_⟩
  obtain ⟨e1, B', k1, k2, sv', k3⟩ := id s
  obtain ⟨rs', w1, w2⟩ := hk m env' p
  obtain ⟨r1, r2, r3, r4, r5⟩ := sv'.sl i _ w1
  have hlen : rs'.length = rs.length := by simpa using congrArg List.length w2
  have w3 : (rs'.map fun r => V.ref r.1) = rs.map fun r => V.ref r.1 := by
    have := congrArg (List.map V.ref) w2
    rw [List.map_map, List.map_map] at this
    exact this
  have hL := r5.2.2.1
  rw [w3] at hL
  by_cases hlt : m < rs.length
  · right
    have hx : (rs.map fun r => V.ref r.1)[m]? = some (.ref rs[m].1) := by rw [List.getElem?_map, List.getElem?_eq_getElem hlt]; rfl
    refine ⟨⟨_, _, SqL.of hL, hx⟩, fun σ2 H2 => ∃ env2, SE (wdOf X c) A0 (inner A0 B H) env2 σ2 H2 ∧ Pv (m + 1) env2, fun σ2 H2 ⟨env2, s2, p2⟩ => ⟨rs.length - (m + 1), by omega, rfl, hlt, env2, s2, p2⟩, fun u H2 ⟨eH, hu⟩ => ?_⟩
    subst eH
    have eu : u = .ref rs[m].1 := by
      have q := hu _ (SqL.of hL)
      rw [hx] at q
      exact (Option.some.inj q).symm
    subst eu
    show semB X body _ (σ'.set j (some (.ref rs[m].1))) H2
    refine ht m rs[m].1 rs[m].2 env' (List.getElem?_eq_getElem hlt) p A0 (inner A0 B H) _ H2 _ ⟨e1, B', k1, k2, sv'.set (s := .al rs[m].1) rfl (fun a ha => by simp [Sl.adrs] at ha), adr_set k3 (by intro a ha; simp [Sl.adrs] at ha)⟩
      ⟨fun env2 σ2 H2 s2 p2 => ⟨env2, s2, p2⟩, fun env2 σ2 H2 s p => ft.nx env2 σ2 H2 (s.base eb) p, fun env2 σ2 H2 s2 p2 => ⟨env2, s2, p2⟩, fun env2 σ2 H2 w d2 s r2 p => ft.rt env2 σ2 H2 w d2 (s.base eb) r2 p, fun env2 σ2 H2 w t i s y z p => ft.ro env2 σ2 H2 w t i (s.base eb) y z p⟩
  · left
    have hn' : m = rs.length := by omega
    refine ⟨⟨_, SqL.of hL, by rw [List.length_map]; omega⟩, ft.nx _ _ _ (s.base eb) (hend env' (by rw [← hn']; exact p))⟩
/-- self.rows.append([..]) -/
theorem ds_rowsAppend (i : Nat) {y f : Str} {py apos2 apos cpos : Pos} {ad dx L : Addr} {n : Int} {rs : List (Addr × List Int)} (F : CF X.K c) (hs : env[i]? = some (.rp ad dx L n rs)) (hz : rs.length < 100000) (h : DF X c env e fun ns => ∀ q, P.nx (env.set i (.rp ad dx L n (rs ++ [(q, ns)])))) (hf : f = "rows")
    (hN : X.N[i]? = some y := by rfl) (hv : Vis X.env.scope y := by first | exact Or.inl rfl | exact Or.inr (Or.inl rfl) | exact Or.inr (Or.inr rfl))
    (hd : (y == ("__debug__" : Str)) = false := by decide) (hcd : (y == ("__classdict__" : Str)) = false := by decide)
    (hb : attributeBase (.Name y py) f X.env (eval (.Name y py) X.env) = eval (.Name y py) X.env := by rfl)
    (m1 : M1 X (.Attribute (.Name y py) f apos2) "append" apos e cpos := by exact ⟨rfl, rfl, rfl, rfl⟩)
    (hsw : swapsWith (.Call (.Attribute (.Attribute (.Name y py) f apos2) "append" apos) [e] [] cpos) none pos.line X.env = pure false := by rfl) : DS X c env (.Expr (.Call (.Attribute (.Attribute (.Name y py) f apos2) "append" apos) [e] [] cpos) pos) P := fun A0 H0 σ H E se ft => by
  obtain ⟨e0, B, h1, h2, sv, h3⟩ := se
  obtain ⟨o1, o2, o3, o4, o5⟩ := id (sv.sl i _ hs)
  subst hf
  have isl : IsTy X "list" fun x H => ∃ (a : Addr) (xs : List V), x = V.ref a ∧ H a = some (.lst xs) := fun pins s σ H x v I r ⟨a, xs, ex, hh⟩ => by
    subst ex
    exact tyV_is I r (.inl ⟨rfl, xs, SqL.of hh⟩)
  refine ofS (ps_expr (pe_m1 PySem.F.plainAttrs_list PySem.F.slot_list_append PySem.F.type_list_append isl mt_append (pe_fld (pe_var hN hv hd hcd) hb) peS m1) hsw) ⟨_, o1, ad, c .rp, dx, _, .ref L, rfl, o4, F.cls .rp, F.na .rp _ (by simp [Cl.names]), rfl, ⟨L, _, rfl, o5.2.2.1⟩, ?_⟩
  refine h B σ H _ sv fun q H2 ns e2 hq hq2 qn => ?_
  refine ⟨L, _, .ref q, rfl, rfl, e2 _ _ o5.2.2.1, by rw [List.length_map]; exact Nat.lt_trans hz (by decide), ?_⟩
  have hBq := sv.bz.new hq
  have hAL : A0 L = false := h3 i _ L hs (by simp [Sl.adrs])
  have hAq : A0 q = false := by
    cases z : A0 q with
    | false => rfl
    | true => rw [h1 q z] at hBq; cases hBq
  have hqa : ad ≠ q := fun z => by rw [z, hBq] at o2; cases o2
  have hLa : ad ≠ L := fun z => (List.nodup_cons.mp o3).1 (by rw [z]; exact List.mem_cons_self)
  have svh : SV (wdOf X c) (hide B q) env σ H2 := sv.hide e2 hq (by rw [hq2]; simp)
  have sn := ll_snoc o5 e2 hq hq2 sv.bz
  refine ft.nx _ _ _ ⟨Evl.Ex.mut (e0.trans e2) (h2 L o5.1 hAL), hide B q, fun a ha => hide_of (h1 a ha), fun a hb ha => ?_, sv_putN (t := .rp ad dx L n (rs ++ [(q, ns)])) svh hs (by simp [Sl.adrs]) (fun a ha => ?_) ⟨o1, hide_of o2, List.nodup_cons.mpr ⟨fun hm => ?_, sn.2.1⟩, by rw [upd_ne hLa]; exact e2 _ _ o4, sn⟩, adr_set h3 fun a ha => ?_⟩ (qn q)
  · rcases hide_yes hb with hb | hb
    · exact h2 a hb ha
    · rw [hb]; exact Evl.fresh_back e0 hq
  · simp only [Sl.adrs, List.map_append, List.mem_cons, List.mem_append, List.map_cons, List.map_nil, List.mem_nil_iff, or_false] at ha
    rcases ha with z | z | z | z
    · exact .inl (by simp [Sl.adrs, z])
    · exact .inl (by simp [Sl.adrs, z])
    · exact .inl (by simp only [Sl.adrs, List.mem_cons]; exact .inr (.inr z))
    · exact .inr fun k u hk hm => by
        have := (sv.sl k u hk).adr a hm
        rw [z, hBq] at this
        cases this
  · simp only [List.map_append, List.mem_cons, List.mem_append, List.map_cons, List.map_nil, List.mem_nil_iff, or_false] at hm
    rcases hm with z | z | z
    · exact hLa z
    · exact (List.nodup_cons.mp o3).1 (List.mem_cons_of_mem _ z)
    · exact hqa z
  · simp only [Sl.adrs, List.map_append, List.mem_cons, List.mem_append, List.map_cons, List.map_nil, List.mem_nil_iff, or_false] at ha
    rcases ha with z | z | z | z
    · rw [z]; exact h3 i _ ad hs (by simp [Sl.adrs])
    · rw [z]; exact hAL
    · exact h3 i _ a hs (by simp only [Sl.adrs, List.mem_cons]; exact .inr (.inr z))
    · rw [z]; exact hAq
/-- if d.setdefault(k, v) != w: int keys, int values -/
theorem ds_ifSdI (i : Nat) {x : Str} {p apos cpos bpos : Pos} {ad : Addr} {ks : List Int} {vs : List Int} (hu : X.A.units + 64 < cLine) (hs : env[i]? = some (.od ad ks (vs.map D.int))) (hz : ks.length < 100000)
    (h : DE X c env ek fun dk => DE X c env ev fun dv => ∃ k v : Int, dk = .int k ∧ dv = .int v ∧
      (∀ (j : Nat) u, ks[j]? = some k → vs[j]? = some u → DE X c env ew fun dw => ∃ w, dw = .int w ∧ if u ≠ w then DB X c env body P else DB X c env orelse P) ∧
      (k ∉ ks → DE X c (env.set i (.od ad (ks ++ [k]) ((vs ++ [v]).map D.int))) ew fun dw => ∃ w, dw = .int w ∧
        if v ≠ w then DB X c (env.set i (.od ad (ks ++ [k]) ((vs ++ [v]).map D.int))) body P else DB X c (env.set i (.od ad (ks ++ [k]) ((vs ++ [v]).map D.int))) orelse P))
    (hN : X.N[i]? = some x := by rfl) (hv : Vis X.env.scope x := by first | exact Or.inl rfl | exact Or.inr (Or.inl rfl) | exact Or.inr (Or.inr rfl))
    (hd : (x == ("__debug__" : Str)) = false := by decide) (hcd : (x == ("__classdict__" : Str)) = false := by decide) (m : M2 X (.Name x p) "setdefault" apos ek ev cpos := by exact ⟨rfl, rfl, rfl, rfl⟩)
    (hmk : behindInMarks .NotEq ew = false := by first | exact nomark _ | rfl) : DS X c env (.If (.Compare (.Call (.Attribute (.Name x p) "setdefault" apos) [ek, ev] [] cpos) [.NotEq] [ew] bpos) body orelse pos) P := fun A0 H0 σ H E se ft => by
  obtain ⟨e0, B, h1, h2, sv, h3⟩ := se
  obtain ⟨g1, g2, xs, g3, g4, g5, g6⟩ := id (sv.sl i _ hs)
  have ex : xs = vs.map V.int := g6.ints
  subst ex
  refine ofS (ps_if (pt_cmp (pc_of op_ne (pe_dsetd (pe_var hN hv hd hcd) peS peS m) peS) hmk) pbS pbS) ⟨_, g1, ad, rfl, .inl ⟨_, .inl g3⟩, ?_⟩
  refine h B σ H _ sv fun y H2 dk e2 rk hk => hk B σ H2 _ (sv.ext e2) fun v H3 dv e3 rv ⟨k, v0, ek_, ev_, c1, c2⟩ => ?_
  subst ek_
  subst ev_
  rw [rk.int_inv, rv.int_inv]
  have e23 := e2.trans e3
  refine ⟨zk ks (vs.map V.int), .inl k, e23 _ _ g3, rfl, Nat.lt_of_le_of_lt zk_len (Nat.lt_trans hz (by decide)), fun u hu2 => ?_, fun hn => ?_⟩
  · by_cases hm : k ∈ ks
    · obtain ⟨j, hj⟩ := List.getElem?_of_mem hm
      have hjl : j < vs.length := by
        have := (List.getElem?_eq_some_iff.mp hj).1
        simp at g5
        omega
      have hvj : vs[j]? = some vs[j] := List.getElem?_eq_getElem hjl
      have hval := valV_zk (xs := vs.map V.int) g4 hj (by rw [List.getElem?_map, hvj]; rfl)
      rw [hu2] at hval
      cases hval
      refine c1 j vs[j] hj hvj B σ H3 _ (sv.ext e23) fun w H5 dw e5 rw_ ⟨w0, ew_, q⟩ => ?_
      subst ew_
      rw [rw_.int_inv]
      have se5 : SE (wdOf X c) A0 H0 env σ H5 := ⟨(e0.trans e23).trans e5, B, h1, h2, (sv.ext e23).ext e5, h3⟩
      refine ⟨rfl, ?_⟩
      by_cases huw : vs[j] = w0
      · rw [if_neg (by simp [huw])] at q
        refine ⟨false, by simp [huw], q A0 H0 σ H5 E se5 ft⟩
      · rw [if_pos huw] at q
        refine ⟨true, by simp [huw], q A0 H0 σ H5 E se5 ft⟩
    · rw [valV_zk_none hm] at hu2
      cases hu2
  · have hm : k ∉ ks := fun hm => by
      obtain ⟨j, hj⟩ := List.getElem?_of_mem hm
      have hjl : j < vs.length := by
        have := (List.getElem?_eq_some_iff.mp hj).1
        simp at g5
        omega
      rw [valV_zk (xs := vs.map V.int) g4 hj (by rw [List.getElem?_map, List.getElem?_eq_getElem hjl]; rfl)] at hn
      cases hn
    have ep : putI ks (vs.map D.int) k (.int v0) = (ks ++ [k], (vs ++ [v0]).map D.int) := by
      have : ∀ {ks : List Int} {ds : List D}, k ∉ ks → ds.length = ks.length → putI ks ds k (.int v0) = (ks ++ [k], ds ++ [.int v0]) := by
        intro ks
        induction ks with
        | nil => intro ds _ hl; cases ds with
          | nil => rfl
          | cons _ _ => simp at hl
        | cons a ks ih => intro ds hm hl; cases ds with
          | nil => simp at hl
          | cons d ds =>
            have hne : ¬ a = k := fun z => hm (by rw [z]; exact List.mem_cons_self)
            show (if a = k then _ else _) = _
            rw [if_neg hne, ih (fun z => hm (List.mem_cons_of_mem _ z)) (by simpa using hl)]
            rfl
      rw [this hm (by simpa using g5), List.map_append]
      rfl
    obtain ⟨xs', f1, f2, f3, f4, _⟩ := putK_zk (G := wdOf X c) (H := hid B H3) (.int v0) k g4 g5 (g6.mono (Ex.hid e23 B))
    rw [ep] at f1 f2 f3 f4
    have hA : A0 ad = false := h3 i _ ad hs (by simp [Sl.adrs])
    have svn : SV (wdOf X c) B (env.set i (.od ad (ks ++ [k]) ((vs ++ [v0]).map D.int))) σ (upd H3 ad (.dK (putK (zk ks (vs.map V.int)) (.inl k) (.int v0)))) := sv_put (t := .od ad (ks ++ [k]) ((vs ++ [v0]).map D.int)) (sv.ext e23) hs (by simp [Sl.adrs]) rfl ⟨g1, g2, xs', by rw [upd_same, f1], f2, f3, by rw [hid_mut g2]; exact f4⟩
    have e04 : Ex H0 (upd H3 ad (.dK (putK (zk ks (vs.map V.int)) (.inl k) (.int v0)))) := Evl.Ex.mut (e0.trans e23) (h2 ad g2 hA)
    have k3 : ∀ (j : Nat) (s : Sl) (a : Addr), (env.set i (.od ad (ks ++ [k]) ((vs ++ [v0]).map D.int)))[j]? = some s → a ∈ s.adrs → A0 a = false := adr_set h3 (by simp only [Sl.adrs]; intro a ha; simp at ha; rw [ha]; exact hA)
    refine c2 hm B σ _ _ svn fun w H5 dw e5 rw_ ⟨w0, ew_, q⟩ => ?_
    subst ew_
    rw [rw_.int_inv]
    have se5 := SE.ext e04 h1 h2 svn k3 e5
    refine ⟨rfl, ?_⟩
    by_cases huw : v0 = w0
    · rw [if_neg (by simp [huw])] at q
      refine ⟨false, by simp [huw], q A0 H0 σ H5 E se5 ft⟩
    · rw [if_pos huw] at q
      refine ⟨true, by simp [huw], q A0 H0 σ H5 E se5 ft⟩
end
end DD
namespace DD
open PySem PySem.Spec PyProof.Rows L2
abbrev n_as_set : List Str := ["columns"]
theorem sc_as_set : FnScope n_as_set ["columns"] (defScope s_as_set) := ⟨rfl, rfl, rfl, by decide +kernel, rfl, by decide +kernel, by decide +kernel⟩
abbrev n_united : List Str := ["a", "b"]
theorem sc_united : FnScope n_united ["a", "b"] (defScope s_united) := ⟨rfl, rfl, rfl, by decide +kernel, rfl, by decide +kernel, by decide +kernel⟩
abbrev n_met : List Str := ["a", "b", "column"]
theorem sc_met : FnScope n_met ["a", "b"] (defScope s_met) := ⟨rfl, rfl, rfl, by decide +kernel, rfl, by decide +kernel, by decide +kernel⟩
abbrev n_less : List Str := ["a", "b", "column"]
theorem sc_less : FnScope n_less ["a", "b"] (defScope s_less) := ⟨rfl, rfl, rfl, by decide +kernel, rfl, by decide +kernel, by decide +kernel⟩
abbrev n_whole : List Str := ["count"]
theorem sc_whole : FnScope n_whole ["count"] (defScope s_whole) := ⟨rfl, rfl, rfl, by decide +kernel, rfl, by decide +kernel, by decide +kernel⟩
abbrev n_Sides_init : List Str := ["self", "left", "right"]
theorem sc_Sides_init : FnScope n_Sides_init ["self", "left", "right"] (defScope s_Sides_init) := ⟨rfl, rfl, rfl, by decide +kernel, rfl, by decide +kernel, by decide +kernel⟩
abbrev n_Jd_init : List Str := ["self", "parts", "part"]
theorem sc_Jd_init : FnScope n_Jd_init ["self", "parts"] (defScope s_Jd_init) := ⟨rfl, rfl, rfl, by decide +kernel, rfl, by decide +kernel, by decide +kernel⟩
abbrev n_first_rows : List Str := ["count", "target", "rows", "index", "part", "column"]
theorem sc_first_rows : FnScope n_first_rows ["count", "target"] (defScope s_first_rows) := ⟨rfl, rfl, rfl, by decide +kernel, rfl, by decide +kernel, by decide +kernel⟩
abbrev n_agree : List Str := ["one", "two", "columns", "column"]
theorem sc_agree : FnScope n_agree ["one", "two", "columns"] (defScope s_agree) := ⟨rfl, rfl, rfl, by decide +kernel, rfl, by decide +kernel, by decide +kernel⟩
abbrev n_jparts_s : List Str := ["count", "dependency", "outside"]
theorem sc_jparts_s : FnScope n_jparts_s ["count", "dependency"] (defScope s_jparts_s) := ⟨rfl, rfl, rfl, by decide +kernel, rfl, by decide +kernel, by decide +kernel⟩
abbrev n_Replay_init : List Str := ["self", "count", "target"]
theorem sc_Replay_init : FnScope n_Replay_init ["self", "count", "target"] (defScope s_Replay_init) := ⟨rfl, rfl, rfl, by decide +kernel, rfl, by decide +kernel, by decide +kernel⟩
abbrev n_Replay_has_row : List Str := ["self", "index"]
theorem sc_Replay_has_row : FnScope n_Replay_has_row ["self", "index"] (defScope s_Replay_has_row) := ⟨rfl, rfl, rfl, by decide +kernel, rfl, by decide +kernel, by decide +kernel⟩
abbrev n_Replay_make_same : List Str := ["self", "dependency", "first", "second", "column", "one", "two", "low", "high", "row"]
theorem sc_Replay_make_same : FnScope n_Replay_make_same ["self", "dependency", "first", "second", "column"] (defScope s_Replay_make_same) := ⟨rfl, rfl, rfl, by decide +kernel, rfl, by decide +kernel, by decide +kernel⟩
abbrev n_Replay_add_joined : List Str := ["self", "dependency", "indexes", "parts", "cells", "part", "index", "column", "cell"]
theorem sc_Replay_add_joined : FnScope n_Replay_add_joined ["self", "dependency", "indexes"] (defScope s_Replay_add_joined) := ⟨rfl, rfl, rfl, by decide +kernel, rfl, by decide +kernel, by decide +kernel⟩
abbrev n_Replay_take : List Str := ["self", "dependencies", "step", "dependency"]
theorem sc_Replay_take : FnScope n_Replay_take ["self", "dependencies", "step"] (defScope s_Replay_take) := ⟨rfl, rfl, rfl, by decide +kernel, rfl, by decide +kernel, by decide +kernel⟩
abbrev n_Replay_reached : List Str := ["self", "target", "one", "two", "held", "others", "row"]
theorem sc_Replay_reached : FnScope n_Replay_reached ["self", "target"] (defScope s_Replay_reached) := ⟨rfl, rfl, rfl, by decide +kernel, rfl, by decide +kernel, by decide +kernel⟩
abbrev n_chases : List Str := ["count", "dependencies", "target", "steps", "replay", "step"]
theorem sc_chases : FnScope n_chases ["count", "dependencies", "target", "steps"] (defScope s_chases) := ⟨rfl, rfl, rfl, by decide +kernel, rfl, by decide +kernel, by decide +kernel⟩
abbrev n_Table_init : List Str := ["self", "columns", "rows", "ordered", "column", "row"]
theorem sc_Table_init : FnScope n_Table_init ["self", "columns", "rows"] (defScope s_Table_init) := ⟨rfl, rfl, rfl, by decide +kernel, rfl, by decide +kernel, by decide +kernel⟩
abbrev n_Table_eq : List Str := ["self", "other"]
theorem sc_Table_eq : FnScope n_Table_eq ["self", "other"] (defScope s_Table_eq) := ⟨rfl, rfl, rfl, by decide +kernel, rfl, by decide +kernel, by decide +kernel⟩
abbrev n_Table_cells : List Str := ["self", "row", "columns", "column"]
theorem sc_Table_cells : FnScope n_Table_cells ["self", "row", "columns"] (defScope s_Table_cells) := ⟨rfl, rfl, rfl, by decide +kernel, rfl, by decide +kernel, by decide +kernel⟩
abbrev n_project : List Str := ["table", "columns", "row"]
theorem sc_project : FnScope n_project ["table", "columns"] (defScope s_project) := ⟨rfl, rfl, rfl, by decide +kernel, rfl, by decide +kernel, by decide +kernel⟩
abbrev n_mixed : List Str := ["a", "b", "columns", "first", "second", "cells", "column"]
theorem sc_mixed : FnScope n_mixed ["a", "b", "columns", "first", "second"] (defScope s_mixed) := ⟨rfl, rfl, rfl, by decide +kernel, rfl, by decide +kernel, by decide +kernel⟩
abbrev n_join : List Str := ["a", "b", "columns", "common", "groups", "row", "rows", "first", "second"]
theorem sc_join : FnScope n_join ["a", "b"] (defScope s_join) := ⟨rfl, rfl, rfl, by decide +kernel, rfl, by decide +kernel, by decide +kernel⟩
abbrev n_jparts_t : List Str := ["table", "parts", "found", "part"]
theorem sc_jparts_t : FnScope n_jparts_t ["table", "parts"] (defScope s_jparts_t) := ⟨rfl, rfl, rfl, by decide +kernel, rfl, by decide +kernel, by decide +kernel⟩
abbrev n_keeps_fd : List Str := ["table", "dependency", "found", "row", "left", "right"]
theorem sc_keeps_fd : FnScope n_keeps_fd ["table", "dependency"] (defScope s_keeps_fd) := ⟨rfl, rfl, rfl, by decide +kernel, rfl, by decide +kernel, by decide +kernel⟩
abbrev n_parts_of : List Str := ["dependency", "columns", "rest", "column"]
theorem sc_parts_of : FnScope n_parts_of ["dependency", "columns"] (defScope s_parts_of) := ⟨rfl, rfl, rfl, by decide +kernel, rfl, by decide +kernel, by decide +kernel⟩
abbrev n_keeps : List Str := ["table", "dependency"]
theorem sc_keeps : FnScope n_keeps ["table", "dependency"] (defScope s_keeps) := ⟨rfl, rfl, rfl, by decide +kernel, rfl, by decide +kernel, by decide +kernel⟩
abbrev n_is_against : List Str := ["count", "dependencies", "target", "rows", "table", "dependency", "row"]
theorem sc_is_against : FnScope n_is_against ["count", "dependencies", "target", "rows"] (defScope s_is_against) := ⟨rfl, rfl, rfl, by decide +kernel, rfl, by decide +kernel, by decide +kernel⟩
abbrev n_takes : List Str := ["count", "dependencies", "target", "verdict", "paper"]
theorem sc_takes : FnScope n_takes ["count", "dependencies", "target", "verdict", "paper"] (defScope s_takes) := ⟨rfl, rfl, rfl, by decide +kernel, rfl, by decide +kernel, by decide +kernel⟩
abbrev n_law_numbers : List Str := ["_law_script", "_law_count", "_law_rest", "_law_by_digits", "_law_numbers_here", "_law_k", "_law_cell"]
theorem sc_law_numbers : FnScope n_law_numbers ["_law_script", "_law_count"] (defScope s_law_numbers) := ⟨rfl, rfl, rfl, by decide +kernel, rfl, by decide +kernel, by decide +kernel⟩
abbrev n_law_set : List Str := ["_law_number", "_law_count", "_law_k"]
theorem sc_law_set : FnScope n_law_set ["_law_number", "_law_count"] (defScope s_law_set) := ⟨rfl, rfl, rfl, by decide +kernel, rfl, by decide +kernel, by decide +kernel⟩
abbrev n_law_sparse : List Str := ["_law_number", "_law_count", "_law_k"]
theorem sc_law_sparse : FnScope n_law_sparse ["_law_number", "_law_count"] (defScope s_law_sparse) := ⟨rfl, rfl, rfl, by decide +kernel, rfl, by decide +kernel, by decide +kernel⟩
abbrev n_law_united : List Str := ["_law_a", "_law_b"]
theorem sc_law_united : FnScope n_law_united ["_law_a", "_law_b"] (defScope s_law_united) := ⟨rfl, rfl, rfl, by decide +kernel, rfl, by decide +kernel, by decide +kernel⟩
abbrev n_law_met : List Str := ["_law_a", "_law_b", "_law_k"]
theorem sc_law_met : FnScope n_law_met ["_law_a", "_law_b"] (defScope s_law_met) := ⟨rfl, rfl, rfl, by decide +kernel, rfl, by decide +kernel, by decide +kernel⟩
abbrev n_law_less : List Str := ["_law_a", "_law_b", "_law_k"]
theorem sc_law_less : FnScope n_law_less ["_law_a", "_law_b"] (defScope s_law_less) := ⟨rfl, rfl, rfl, by decide +kernel, rfl, by decide +kernel, by decide +kernel⟩
abbrev n_law_dependency : List Str := ["_law_numbers_here", "_law_place", "_law_count", "_law_kind", "_law_left", "_law_right", "_law_rest", "_law_parts_here"]
theorem sc_law_dependency : FnScope n_law_dependency ["_law_numbers_here", "_law_place", "_law_count"] (defScope s_law_dependency) := ⟨rfl, rfl, rfl, by decide +kernel, rfl, by decide +kernel, by decide +kernel⟩
abbrev n_law_told : List Str := ["_law_numbers_here", "_law_place", "_law_count", "_law_many", "_law_found", "_law_k", "_law_one", "_law_theme", "_law_before"]
theorem sc_law_told : FnScope n_law_told ["_law_numbers_here", "_law_place", "_law_count", "_law_many"] (defScope s_law_told) := ⟨rfl, rfl, rfl, by decide +kernel, rfl, by decide +kernel, by decide +kernel⟩
abbrev n_law_object : List Str := ["_law_dependency_here", "_law_part"]
theorem sc_law_object : FnScope n_law_object ["_law_dependency_here"] (defScope s_law_object) := ⟨rfl, rfl, rfl, by decide +kernel, rfl, by decide +kernel, by decide +kernel⟩
abbrev n_law_parts : List Str := ["_law_count", "_law_one", "_law_others"]
theorem sc_law_parts : FnScope n_law_parts ["_law_count", "_law_one"] (defScope s_law_parts) := ⟨rfl, rfl, rfl, by decide +kernel, rfl, by decide +kernel, by decide +kernel⟩
abbrev n_law_first : List Str := ["_law_count", "_law_target", "_law_rows", "_law_part", "_law_k"]
theorem sc_law_first : FnScope n_law_first ["_law_count", "_law_target"] (defScope s_law_first) := ⟨rfl, rfl, rfl, by decide +kernel, rfl, by decide +kernel, by decide +kernel⟩
abbrev n_law_agree : List Str := ["_law_one", "_law_two", "_law_columns", "_law_k"]
theorem sc_law_agree : FnScope n_law_agree ["_law_one", "_law_two", "_law_columns"] (defScope s_law_agree) := ⟨rfl, rfl, rfl, by decide +kernel, rfl, by decide +kernel, by decide +kernel⟩
abbrev n_law_same : List Str := ["_law_one", "_law_rows", "_law_step_here", "_law_first_here", "_law_second", "_law_k", "_law_found", "_law_row"]
theorem sc_law_same : FnScope n_law_same ["_law_one", "_law_rows", "_law_step_here"] (defScope s_law_same) := ⟨rfl, rfl, rfl, by decide +kernel, rfl, by decide +kernel, by decide +kernel⟩
abbrev n_law_fits : List Str := ["_law_cells", "_law_row", "_law_part", "_law_k"]
theorem sc_law_fits : FnScope n_law_fits ["_law_cells", "_law_row", "_law_part"] (defScope s_law_fits) := ⟨rfl, rfl, rfl, by decide +kernel, rfl, by decide +kernel, by decide +kernel⟩
abbrev n_law_step : List Str := ["_law_count", "_law_told_here", "_law_rows", "_law_step_here", "_law_one", "_law_parts_here", "_law_cells", "_law_i", "_law_k"]
theorem sc_law_step : FnScope n_law_step ["_law_count", "_law_told_here", "_law_rows", "_law_step_here"] (defScope s_law_step) := ⟨rfl, rfl, rfl, by decide +kernel, rfl, by decide +kernel, by decide +kernel⟩
abbrev n_law_drawn_same : List Str := ["_law_one", "_law_index", "_law_rows", "_law_number", "_law_fit", "_law_i", "_law_j", "_law_k"]
theorem sc_law_drawn_same : FnScope n_law_drawn_same ["_law_one", "_law_index", "_law_rows", "_law_number"] (defScope s_law_drawn_same) := ⟨rfl, rfl, rfl, by decide +kernel, rfl, by decide +kernel, by decide +kernel⟩
abbrev n_law_drawn_join : List Str := ["_law_parts_here", "_law_index", "_law_rows", "_law_number", "_law_by_zeros", "_law_indexes", "_law_cells", "_law_part", "_law_fit", "_law_most", "_law_found", "_law_k", "_law_i", "_law_other"]
theorem sc_law_drawn_join : FnScope n_law_drawn_join ["_law_parts_here", "_law_index", "_law_rows", "_law_number", "_law_by_zeros"] (defScope s_law_drawn_join) := ⟨rfl, rfl, rfl, by decide +kernel, rfl, by decide +kernel, by decide +kernel⟩
abbrev n_law_drawn_step : List Str := ["_law_count", "_law_told_here", "_law_rows", "_law_number", "_law_by_zeros", "_law_k", "_law_index", "_law_parts_here", "_law_step_here"]
theorem sc_law_drawn_step : FnScope n_law_drawn_step ["_law_count", "_law_told_here", "_law_rows", "_law_number", "_law_by_zeros"] (defScope s_law_drawn_step) := ⟨rfl, rfl, rfl, by decide +kernel, rfl, by decide +kernel, by decide +kernel⟩
abbrev n_law_steps : List Str := ["_law_numbers_here", "_law_place", "_law_count", "_law_told_here", "_law_rows", "_law_size", "_law_by_zeros", "_law_steps_here", "_law_k", "_law_step_here"]
theorem sc_law_steps : FnScope n_law_steps ["_law_numbers_here", "_law_place", "_law_count", "_law_told_here", "_law_rows", "_law_size", "_law_by_zeros"] (defScope s_law_steps) := ⟨rfl, rfl, rfl, by decide +kernel, rfl, by decide +kernel, by decide +kernel⟩
abbrev n_law_join_target : List Str := ["_law_numbers_here", "_law_place", "_law_count", "_law_whole", "_law_a", "_law_b", "_law_c", "_law_more"]
theorem sc_law_join_target : FnScope n_law_join_target ["_law_numbers_here", "_law_place", "_law_count"] (defScope s_law_join_target) := ⟨rfl, rfl, rfl, by decide +kernel, rfl, by decide +kernel, by decide +kernel⟩
abbrev n_law_parted : List Str := ["_law_parts_here", "_law_found", "_law_part", "_law_other"]
theorem sc_law_parted : FnScope n_law_parted ["_law_parts_here"] (defScope s_law_parted) := ⟨rfl, rfl, rfl, by decide +kernel, rfl, by decide +kernel, by decide +kernel⟩
abbrev n_law_planted : List Str := ["_law_number", "_law_left", "_law_rows", "_law_count", "_law_alike", "_law_some", "_law_row", "_law_right", "_law_k"]
theorem sc_law_planted : FnScope n_law_planted ["_law_number", "_law_left", "_law_rows", "_law_count"] (defScope s_law_planted) := ⟨rfl, rfl, rfl, by decide +kernel, rfl, by decide +kernel, by decide +kernel⟩
abbrev n_law_case : List Str := ["_law_numbers_here", "_law_place", "_law_count", "_law_told_here", "_law_target", "_law_rows", "_law_left", "_law_steps_here", "_law_step_here"]
theorem sc_law_case : FnScope n_law_case ["_law_numbers_here", "_law_place", "_law_count", "_law_told_here"] (defScope s_law_case) := ⟨rfl, rfl, rfl, by decide +kernel, rfl, by decide +kernel, by decide +kernel⟩
abbrev n_law_joined : List Str := ["_law_rows", "_law_parts_here", "_law_count", "_law_ways", "_law_part", "_law_pieces", "_law_row", "_law_longer", "_law_cells", "_law_piece", "_law_found", "_law_k"]
theorem sc_law_joined : FnScope n_law_joined ["_law_rows", "_law_parts_here", "_law_count"] (defScope s_law_joined) := ⟨rfl, rfl, rfl, by decide +kernel, rfl, by decide +kernel, by decide +kernel⟩
abbrev n_law_keeps : List Str := ["_law_rows", "_law_one", "_law_count", "_law_held", "_law_row", "_law_left", "_law_right", "_law_k"]
theorem sc_law_keeps : FnScope n_law_keeps ["_law_rows", "_law_one", "_law_count"] (defScope s_law_keeps) := ⟨rfl, rfl, rfl, by decide +kernel, rfl, by decide +kernel, by decide +kernel⟩
abbrev n_law_once : List Str := ["_law_count", "_law_one", "_law_rows", "_law_found", "_law_held", "_law_row", "_law_before", "_law_k", "_law_made", "_law_other"]
theorem sc_law_once : FnScope n_law_once ["_law_count", "_law_one", "_law_rows"] (defScope s_law_once) := ⟨rfl, rfl, rfl, by decide +kernel, rfl, by decide +kernel, by decide +kernel⟩
abbrev n_law_closed : List Str := ["_law_count", "_law_told_here", "_law_rows", "_law_to_zeros", "_law_held", "_law_row", "_law_zeros", "_law_k", "_law_before", "_law_one"]
theorem sc_law_closed : FnScope n_law_closed ["_law_count", "_law_told_here", "_law_rows", "_law_to_zeros"] (defScope s_law_closed) := ⟨rfl, rfl, rfl, by decide +kernel, rfl, by decide +kernel, by decide +kernel⟩
abbrev n_law_due : List Str := ["_law_count", "_law_told_here", "_law_target", "_law_rows", "_law_k"]
theorem sc_law_due : FnScope n_law_due ["_law_count", "_law_told_here", "_law_target"] (defScope s_law_due) := ⟨rfl, rfl, rfl, by decide +kernel, rfl, by decide +kernel, by decide +kernel⟩
abbrev n_law_free : List Str := ["_law_number", "_law_count", "_law_told_here", "_law_size", "_law_index", "_law_parts_here", "_law_k"]
theorem sc_law_free : FnScope n_law_free ["_law_number", "_law_count", "_law_told_here", "_law_size"] (defScope s_law_free) := ⟨rfl, rfl, rfl, by decide +kernel, rfl, by decide +kernel, by decide +kernel⟩
abbrev n_law_loose : List Str := ["_law_count", "_law_told_here", "_law_rows", "_law_step_here", "_law_k", "_law_cells", "_law_parts_here", "_law_i", "_law_row"]
theorem sc_law_loose : FnScope n_law_loose ["_law_count", "_law_told_here", "_law_rows", "_law_step_here"] (defScope s_law_loose) := ⟨rfl, rfl, rfl, by decide +kernel, rfl, by decide +kernel, by decide +kernel⟩
abbrev n_law_near : List Str := ["_law_numbers_here", "_law_place", "_law_count", "_law_told_here", "_law_target", "_law_steps_here", "_law_k", "_law_part", "_law_rows", "_law_step_here"]
theorem sc_law_near : FnScope n_law_near ["_law_numbers_here", "_law_place", "_law_count", "_law_told_here", "_law_target", "_law_steps_here"] (defScope s_law_near) := ⟨rfl, rfl, rfl, by decide +kernel, rfl, by decide +kernel, by decide +kernel⟩
abbrev n_law_is_true : List Str := ["_law_count", "_law_objects", "_law_target", "_law_due_here", "_law_steps_here", "_law_taken"]
theorem sc_law_is_true : FnScope n_law_is_true ["_law_count", "_law_objects", "_law_target", "_law_due_here", "_law_steps_here"] (defScope s_law_is_true) := ⟨rfl, rfl, rfl, by decide +kernel, rfl, by decide +kernel, by decide +kernel⟩
abbrev n_law : List Str := ["_law_script", "_law_numbers_here", "_law_count", "_law_case_here", "_law_told_here", "_law_target", "_law_steps_here", "_law_objects", "_law_due_here", "_law_place", "_law_longer", "_law_near_here", "_law_near_due", "_law_papers", "_law_table", "_law_actual", "_law_sets", "_law_drawn", "_law_one", "_law_k", "_law_some"]
theorem sc_law : FnScope n_law ["_law_script"] (defScope s_law) := ⟨rfl, rfl, rfl, by decide +kernel, rfl, by decide +kernel, by decide +kernel⟩
/-- the built-ins that the text leaves alone -/
structure MF (mg : Str → Option Value) : Prop where
  len_ : mg "len" = none
  tuple_ : mg "tuple" = none
  sorted_ : mg "sorted" = none
  set_ : mg "set" = none
  list_ : mg "list" = none
  range_ : mg "range" = none
  int_ : mg "int" = none
  min_ : mg "min" = none
  max_ : mg "max" = none
  all_ : mg "all" = none
  any_ : mg "any" = none
  isinstance_ : mg "isinstance" = none
  enumerate_ : mg "enumerate" = none
  zip_ : mg "zip" = none
  bool_ : mg "bool" = none
end DD
namespace DD
open PySem PySem.Spec PyProof.Rows L2
/-! ### the plain things -/
inductive Dep where
  | fd (l r : List Int) | mvd (l r : List Int) | jd (ps : List (List Int))
  deriving DecidableEq
inductive Stp where
  | same (ix i j k : Int) | join (ix : Int) (is : List Int)
def depD : Dep → D
  | .fd l r => .tup [.str "fd", rowD l, rowD r]
  | .mvd l r => .tup [.str "mvd", rowD l, rowD r]
  | .jd ps => .tup [.str "jd", trowsD ps]
def depO : Dep → D
  | .fd l r => .obj .fd [rowD l, rowD r]
  | .mvd l r => .obj .mvd [rowD l, rowD r]
  | .jd ps => .obj .jd [trowsD ps]
def Dep.cl : Dep → Cl
  | .fd _ _ => .fd
  | .mvd _ _ => .mvd
  | .jd _ => .jd
def stD : Stp → D
  | .same ix i j k => .tup [.str "same", .int ix, .int i, .int j, .int k]
  | .join ix is => .tup [.str "join", .int ix, rowD is]
theorem depO_is (d : Dep) : ∃ ds, depO d = .obj d.cl ds := by cases d <;> exact ⟨_, rfl⟩
def cel (r : List Int) (k : Int) : Int := r.getD k.toNat 0
def agr (x y s : List Int) : Bool := s.all fun k => decide (cel x k = cel y k)
def SetN (n : Int) (s : List Int) : Prop := s.Pairwise (· < ·) ∧ ∀ k ∈ s, 0 ≤ k ∧ k < n
def prt (n : Int) : Dep → List (List Int)
  | .fd _ _ => []
  | .mvd l r => [sdI (l ++ r), sdI (l ++ (rgI n).filter fun k => decide (k ∉ r))]
  | .jd ps => ps
theorem at_of {α : Type} {xs : List α} {k : Int} {j : Nat} (h0 : 0 ≤ k) (hj : k.toNat = j) (h : j < xs.length) : atI xs k = some xs[j] := by
  unfold L2.atI
  have : ixN xs.length k = some j := by
    unfold ixN
    rw [if_pos h0, if_pos (by omega), hj]
  rw [this]
  exact List.getElem?_eq_getElem h
theorem at_cel {r : List Int} {k : Int} (h0 : 0 ≤ k) (h : k < r.length) : atI (r.map D.int) k = some (D.int (cel r k)) := by
  have hl : k.toNat < r.length := by omega
  rw [at_of h0 rfl (by rw [List.length_map]; exact hl)]
  unfold cel
  rw [List.getElem_map, List.getD_eq_getElem?_getD, List.getElem?_eq_getElem hl]
  rfl
theorem ix_in {x : D} {r : List Int} {k : Int} {Q : D → Prop} (hx : InI x r) (h0 : 0 ≤ k) (h : k < r.length) (q : Q (.int (cel r k))) : ixD x (.int k) Q := by
  rcases hx with rfl | rfl
  · exact ⟨_, at_cel h0 h, q⟩
  · exact ⟨_, at_cel h0 h, q⟩
theorem InI.row (r : List Int) : InI (rowD r) r := .inl rfl
theorem InI.lrow (r : List Int) : InI (lrowD r) r := .inr rfl
theorem InI.seq {x : D} {r : List Int} (h : InI x r) : seqD x = some (r.map D.int) := by
  rcases h with rfl | rfl <;> rfl
theorem SetN.len {n : Int} {s : List Int} (h : SetN n s) : s.length ≤ n.toNat := by
  have sub : ∀ (m : Nat) (s : List Int), s.Pairwise (· < ·) → (∀ k ∈ s, 0 ≤ k ∧ k < (m : Int)) → s.length ≤ m := by
    intro m
    induction m with
    | zero =>
      intro s _ h
      cases s with
      | nil => exact Nat.le_refl _
      | cons a s => have := h a List.mem_cons_self; omega
    | succ m ih =>
      intro s hp h
      rcases List.eq_nil_or_concat s with e | ⟨s', a, e⟩
      · rw [e]; exact Nat.zero_le _
      · rw [e] at hp h ⊢
        rw [List.concat_eq_append] at hp h ⊢
        have hp' := List.pairwise_append.mp hp
        rw [List.length_append, List.length_singleton]
        have := ih s' hp'.1 fun k hk => by
          have h1 := h k (List.mem_append_left _ hk)
          have h2 := hp'.2.2 k hk a (by simp)
          have h3 := h a (by simp)
          omega
        omega
  exact sub n.toNat s h.1 fun k hk => by have := h.2 k hk; omega
theorem SetN.filter {n : Int} {s : List Int} (h : SetN n s) (f : Int → Bool) : SetN n (s.filter f) :=
  ⟨h.1.filter f, fun k hk => h.2 k ((List.mem_filter.mp hk).1)⟩
theorem SetN.sd {n : Int} {s : List Int} (h : ∀ k ∈ s, 0 ≤ k ∧ k < n) : SetN n (sdI s) := ⟨sdI_strict s, fun k hk => h k (sdI_mem.mp hk)⟩
theorem SetN.nil (n : Int) : SetN n [] := ⟨.nil, fun k hk => by cases hk⟩
theorem rgI_mem {n k : Int} : k ∈ rgI n ↔ 0 ≤ k ∧ k < n := by
  unfold rgI
  simp only [List.mem_map, List.mem_range]
  constructor
  · rintro ⟨j, hj, rfl⟩; omega
  · rintro ⟨h1, h2⟩; exact ⟨k.toNat, by omega, by omega⟩
theorem SetN.rg (n : Int) : SetN n (rgI n) := by
  refine ⟨?_, fun k hk => rgI_mem.mp hk⟩
  unfold rgI
  refine List.pairwise_map.mpr (List.pairwise_lt_range.imp fun h => by omega)
theorem SetN.in64 {n : Int} {s : List Int} (h : SetN n s) (hn : n ≤ 4) : s.length ≤ 4 := by
  have := h.len
  omega
end DD
namespace DD
open PySem PySem.Spec PyProof.Rows L2
abbrev FD (K : PySem.W.Frag) (x qual : Str) (st : Stmt) (f : Addr) (fd : FuncData) : Prop := FunD K x qual (defArgs st) (defBody st) (defScope st) [] [] f fd
local macro_rules | `(tactic| walk_at "v") => `(tactic| first | refine de_var 0 rfl ?_ | refine de_var 1 rfl ?_ | refine de_var 2 rfl ?_ | refine de_var 3 rfl ?_ | refine de_var 4 rfl ?_ | refine de_var 5 rfl ?_ | refine de_var 6 rfl ?_ | refine de_var 7 rfl ?_ | refine de_var 8 rfl ?_ | refine de_var 9 rfl ?_ | refine de_var 10 rfl ?_ | refine de_var 11 rfl ?_)
/-- one step at an expression where there is but one way -/
local macro_rules | `(tactic| walk_at "e") => `(tactic| first
  | walk_at "v" | refine de_int ?_ | refine de_str ?_ | refine de_bl ?_ | refine de_non ?_
  | refine da_nil ?_ | refine da_cons ?_
  | refine de_add ?_ | refine de_sub ?_ | refine de_mul ?_ | refine de_fdiv ?_ | refine de_mod ?_ | refine de_pow ?_
  | refine de_tup ?_ | refine de_lst ?_ | refine de_not ?_ | refine dt_not ?_
  | refine de_and ?_ | refine de_or ?_ | refine de_one ?_
  | refine dc_lt ?_ | refine dc_le ?_ | refine dc_gt ?_ | refine dc_ge ?_ | refine dc_isN ?_ | refine dc_notN ?_)
section
variable {P : Program} {w : World} {K : PySem.W.Frag} {cA : Cl → Addr} {mg : Str → Option Value} {base : Heap} {f : Addr} {fd : FuncData}
/-! ### sets -/
def phAs (ds : List D) (q : D → Prop) : Prop := ∃ (x : D) (ns : List Int), ds = [x] ∧ InI x ns ∧ ns.length < 64 ∧ q (rowD (sdI ns))
theorem ok_as_set (M : MF mg) (F : FD K "as_set" "as_set" s_as_set f fd) : FnOk P w K mg base CX0 1 f fd ["columns"] (spD ⟨P, w, K, cA⟩ phAs) := by
  refine fn_ok F sc_as_set (fun ds q ⟨x, ns, h, _⟩ => by rw [h]; rfl) (by decide) (fun cdv A outer s H E ds Qd hr ⟨x, ns, e, hx, hl, q⟩ => ?_)
  subst e
  refine db_cons (ds_ret (de_tupleOf M.tuple_ (de_sortedSet rfl hr.units M.sorted_ M.set_ ?_)))
  walk_at "e"
  exact ⟨ns, hx, hl, _, rfl, q⟩
def phUn (ds : List D) (q : D → Prop) : Prop := ∃ (x y : D) (a b : List Int), ds = [x, y] ∧ InI x a ∧ InI y b ∧ a.length + b.length < 64 ∧ q (rowD (sdI (a ++ b)))
theorem ok_united (M : MF mg) (F : FD K "united" "united" s_united f fd) (F1 : FnG P w K cA mg base "as_set" 1 phAs) : FnOk P w K mg base CX0 2 f fd ["a", "b"] (spD ⟨P, w, K, cA⟩ phUn) := by
  refine fn_ok F sc_united (fun ds q ⟨x, y, a, b, h, _⟩ => by rw [h]; rfl) (by decide) (fun cdv A outer s H E ds Qd hr ⟨x, y, a, b, e, hx, hy, hl, q⟩ => ?_)
  subst e
  refine db_cons (ds_ret (de_call F1 hr (da_cons (de_add (de_listOf M.list_ ?_)))))
  walk_at "e"
  refine ⟨_, hx.seq, de_listOf M.list_ ?_⟩
  walk_at "e"
  refine ⟨_, hy.seq, ?_⟩
  refine ⟨by simp; omega, da_nil ⟨_, a ++ b, rfl, .inr (by rw [← List.map_append]), by simp; omega, q⟩⟩
def phMet (ds : List D) (q : D → Prop) : Prop := ∃ (x y : D) (xs ys : List Int), ds = [x, y] ∧ x = rowD xs ∧ InI y ys ∧ xs.length ≤ 1000 ∧ q (rowD (xs.filter fun k => decide (k ∈ ys)))
theorem ok_met (M : MF mg) (F : FD K "met" "met" s_met f fd) : FnOk P w K mg base CX0 1 f fd ["a", "b"] (spD ⟨P, w, K, cA⟩ phMet) := by
  refine fn_ok F sc_met (fun ds q ⟨x, y, a, b, h, _⟩ => by rw [h]; rfl) (by decide) (fun cdv A outer s H E ds Qd hr ⟨x, y, xs, ys, e, hx, hy, hl, q⟩ => ?_)
  subst e
  subst hx
  refine db_cons (ds_ret (de_tupleOf M.tuple_ (de_lcT (j := 2) rfl sc_met.nd (blkOk_by (N := n_met) (sc := defScope s_met) (by decide +kernel)) (fun _ _ _ _ _ => pg_name (i := 2) sc_met.nd rfl (Or.inl rfl)) ?_)))
  walk_at "e"
  refine ⟨Int, xs, D.int, fun i => decide (i ∈ ys), D.int, rfl, by omega, ⟨fun i hi _ _ _ _ _ => di_one (dt_cmp (dc_in ?_)), fun i hi hf _ _ _ _ _ => ?_⟩, ?_⟩
  · walk_at "e"
    walk_at "e"
    exact ⟨i, ys, rfl, hy, _, rfl, rfl⟩
  · exact de_var 2 rfl rfl
  · exact ⟨_, rfl, q⟩
def phLess (ds : List D) (q : D → Prop) : Prop := ∃ (x y : D) (xs ys : List Int), ds = [x, y] ∧ x = rowD xs ∧ InI y ys ∧ xs.length ≤ 1000 ∧ q (rowD (xs.filter fun k => decide (k ∉ ys)))
theorem notdec (p : Prop) [Decidable p] : (!decide p) = decide (¬ p) := by by_cases h : p <;> simp [h]
theorem ok_less (M : MF mg) (F : FD K "less" "less" s_less f fd) : FnOk P w K mg base CX0 1 f fd ["a", "b"] (spD ⟨P, w, K, cA⟩ phLess) := by
  refine fn_ok F sc_less (fun ds q ⟨x, y, a, b, h, _⟩ => by rw [h]; rfl) (by decide) (fun cdv A outer s H E ds Qd hr ⟨x, y, xs, ys, e, hx, hy, hl, q⟩ => ?_)
  subst e
  subst hx
  refine db_cons (ds_ret (de_tupleOf M.tuple_ (de_lcT (j := 2) rfl sc_less.nd (blkOk_by (N := n_less) (sc := defScope s_less) (by decide +kernel)) (fun _ _ _ _ _ => pg_name (i := 2) sc_less.nd rfl (Or.inl rfl)) ?_)))
  walk_at "e"
  refine ⟨Int, xs, D.int, fun i => decide (i ∉ ys), D.int, rfl, by omega, ⟨fun i hi _ _ _ _ _ => di_one (dt_cmp (dc_notin ?_)), fun i hi hf _ _ _ _ _ => ?_⟩, ?_⟩
  · walk_at "e"
    walk_at "e"
    exact ⟨i, ys, rfl, hy, _, rfl, notdec _⟩
  · exact de_var 2 rfl rfl
  · exact ⟨_, rfl, q⟩
def phWhole (ds : List D) (q : D → Prop) : Prop := ∃ n : Int, ds = [.int n] ∧ 0 ≤ n ∧ n ≤ 1000 ∧ q (rowD (rgI n))
theorem ok_whole (M : MF mg) (F : FD K "whole" "whole" s_whole f fd) : FnOk P w K mg base CX0 1 f fd ["count"] (spD ⟨P, w, K, cA⟩ phWhole) := by
  refine fn_ok F sc_whole (fun ds q ⟨n, h, _⟩ => by rw [h]; rfl) (by decide) (fun cdv A outer s H E ds Qd hr ⟨n, e, h0, hl, q⟩ => ?_)
  subst e
  refine db_cons (ds_ret (de_tupRange rfl M.tuple_ M.range_ ?_))
  walk_at "e"
  exact ⟨n, rfl, h0, by omega, q⟩
/-! ### the classes of dependencies -/
def phSides (k : Cl) (s : Sl) (ds : List D) (q : Sl → D → Prop) : Prop := ∃ (x y : D) (a b : List Int) (ad dx : Addr), s = .oi ad dx k [] ∧ ds = [x, y] ∧ InI x a ∧ InI y b ∧ a.length < 64 ∧ b.length < 64 ∧ q (.oi ad dx k [rowD (sdI a), rowD (sdI b)]) .non
theorem put_two {k : Cl} {f g : Str} (hk : k.names = [f, g]) (hfg : (f == g) = false) : (∀ (xs : List V) (v : V), xs.length = 0 → putF f v (k.names.zip xs) = k.names.zip (xs ++ [v])) ∧ ∀ (xs : List V) (v : V), xs.length = 1 → putF g v (k.names.zip xs) = k.names.zip (xs ++ [v]) := by
  rw [hk]
  constructor
  · intro xs v h
    cases xs with
    | nil => rfl
    | cons _ _ => simp at h
  · intro xs v h
    obtain ⟨x, rfl⟩ := one_of h
    have : ¬ f = g := fun e => by rw [e] at hfg; simp at hfg
    show putF g v [(f, x)] = [(f, x), (g, v)]
    unfold putF
    rw [if_neg this]
    rfl
theorem ok_Sides (k : Cl) (hk : k.names = (["left", "right"] : List Str)) (M : MF mg) (C : CF K cA) (F : FD K "__init__" "Sides.__init__" s_Sides_init f fd) (F1 : FnG P w K cA mg base "as_set" 1 phAs) : FnOk P w K mg base CX0 2 f fd ["self", "left", "right"] (spS ⟨P, w, K, cA⟩ (phSides k)) := by
  refine fn_okS F sc_Sides_init (fun s ds q ⟨x, y, a, b, ad, dx, h, e, _⟩ => by rw [e]; rfl) (by decide) (fun cdv A outer s0 H E s ds Qd hr ⟨x, y, a, b, ad, dx, h, e, hx, hy, ha, hb, q⟩ => ?_)
  subst h
  subst e
  have p2 := put_two hk nLR
  refine db_cons (ds_fld 0 C rfl (by rw [hk]; simp) (de_call F1 hr (da_cons (de_var 1 rfl (da_nil ⟨_, a, rfl, hx, ha, ?_⟩)))) (by rw [hk]; simp) p2.1)
  refine db_cons (ds_fld 0 C rfl (by rw [hk]; simp) (de_call F1 hr (da_cons (de_var 2 rfl (da_nil ⟨_, b, rfl, hy, hb, ?_⟩)))) (by rw [hk]; simp) p2.2)
  exact db_nil ⟨_, rfl, rfl, fun a ha => ha, q⟩
def phJd (s : Sl) (ds : List D) (q : Sl → D → Prop) : Prop := ∃ (xs : List D) (ps : List (List Int)) (ad dx : Addr), s = .oi ad dx .jd [] ∧ ds = [.lst (ps.map lrowD)] ∧ ps.length ≤ 1000 ∧ (∀ p ∈ ps, p.length < 64) ∧ q (.oi ad dx .jd [trowsD (ps.map sdI)]) .non
theorem put_one (xs : List V) (v : V) (h : xs.length = 0) : putF "parts" v (Cl.jd.names.zip xs) = Cl.jd.names.zip (xs ++ [v]) := by
  cases xs with
  | nil => rfl
  | cons _ _ => simp at h
theorem filter_true {α : Type} (xs : List α) : xs.filter (fun _ => true) = xs := List.filter_eq_self.mpr fun _ _ => rfl
theorem ok_Jd (M : MF mg) (C : CF K cA) (F : FD K "__init__" "Jd.__init__" s_Jd_init f fd) (F1 : FnG P w K cA mg base "as_set" 1 phAs) : FnOk P w K mg base CX0 2 f fd ["self", "parts"] (spS ⟨P, w, K, cA⟩ phJd) := by
  refine fn_okS F sc_Jd_init (fun s ds q ⟨_, ps, ad, dx, h, e, _⟩ => by rw [e]; rfl) (by decide) (fun cdv A outer s0 H E s ds Qd hr ⟨_, ps, ad, dx, h, e, hz, hl, q⟩ => ?_)
  subst h
  subst e
  refine db_cons (ds_fld 0 C rfl (by decide) (de_tupleOf M.tuple_ (de_lcL (j := 2) rfl sc_Jd_init.nd (blkOk_by (N := n_Jd_init) (sc := defScope s_Jd_init) (by decide +kernel)) (fun _ _ _ _ _ => pg_name (i := 2) sc_Jd_init.nd rfl (Or.inl rfl)) ?_)) (by simp [Cl.names]) put_one)
  walk_at "e"
  refine ⟨_, ps, lrowD, fun _ => true, fun p => rowD (sdI p), rfl, by omega, ⟨fun p hp _ _ _ _ _ => di_nil rfl, fun p hp _ _ _ _ _ _ => de_call F1 hr (da_cons (de_var 2 rfl (da_nil ⟨_, p, rfl, .inr rfl, hl p hp, rfl⟩)))⟩, ?_⟩
  refine ⟨_, rfl, db_nil ⟨_, rfl, rfl, fun a ha => ha, ?_⟩⟩
  rw [filter_true]
  have : (ps.map fun p => rowD (sdI p)) = (ps.map sdI).map rowD := by rw [List.map_map]; rfl
  rw [this]
  exact q
end
end DD
namespace DD
open PySem PySem.Spec PyProof.Rows L2
local macro_rules | `(tactic| walk_at "v") => `(tactic| first | refine de_var 0 rfl ?_ | refine de_var 1 rfl ?_ | refine de_var 2 rfl ?_ | refine de_var 3 rfl ?_ | refine de_var 4 rfl ?_ | refine de_var 5 rfl ?_ | refine de_var 6 rfl ?_ | refine de_var 7 rfl ?_ | refine de_var 8 rfl ?_ | refine de_var 9 rfl ?_ | refine de_var 10 rfl ?_ | refine de_var 11 rfl ?_)
local macro_rules | `(tactic| walk_at "i") => `(tactic| refine de_ix (fun _ _ => rfl) ?_)
local macro_rules | `(tactic| walk_at "e") => `(tactic| first
  | walk_at "v" | refine de_int ?_ | refine de_str ?_ | refine de_bl ?_ | refine de_non ?_
  | refine da_nil ?_ | refine da_cons ?_
  | refine de_add ?_ | refine de_sub ?_ | refine de_mul ?_ | refine de_fdiv ?_ | refine de_mod ?_ | refine de_pow ?_
  | refine de_tup ?_ | refine de_lst ?_ | refine de_not ?_ | refine dt_not ?_
  | refine de_and ?_ | refine de_or ?_ | refine de_one ?_
  | refine dc_lt ?_ | refine dc_le ?_ | refine dc_gt ?_ | refine dc_ge ?_ | refine dc_isN ?_ | refine dc_notN ?_)
section
variable {P : Program} {w : World} {K : PySem.W.Frag} {cA : Cl → Addr} {mg : Str → Option Value} {base : Heap} {f : Addr} {fd : FuncData}
def RowsN (n : Int) (rows : List (List Int)) : Prop := ∀ r ∈ rows, r.length = n.toNat
def DepN (n : Int) : Dep → Prop
  | .fd l r => SetN n l ∧ SetN n r
  | .mvd l r => SetN n l ∧ SetN n r
  | .jd ps => (∀ p ∈ ps, SetN n p) ∧ 2 ≤ ps.length ∧ ps.length ≤ 4 ∧ ∀ k, 0 ≤ k → k < n → ∃ p ∈ ps, k ∈ p
/-- names of the classes stand for them -/
structure CG (mg : Str → Option Value) (cA : Cl → Addr) : Prop where
  fd : mg "Fd" = some (.ref (cA .fd))
  mvd : mg "Mvd" = some (.ref (cA .mvd))
  jd : mg "Jd" = some (.ref (cA .jd))
  tab : mg "Table" = some (.ref (cA .tab))
  rp : mg "Replay" = some (.ref (cA .rp))
/-! ### agree, joined_parts -/
def phAgree (ds : List D) (q : D → Prop) : Prop := ∃ (x y : D) (a b s : List Int), ds = [x, y, rowD s] ∧ InI x a ∧ InI y b ∧ s.length ≤ 1000 ∧ (∀ k ∈ s, 0 ≤ k ∧ k < a.length ∧ k < b.length) ∧ q (.bl (agr a b s))
theorem ok_agree (M : MF mg) (F : FD K "agree" "agree" s_agree f fd) : FnOk P w K mg base CX0 1 f fd ["one", "two", "columns"] (spD ⟨P, w, K, cA⟩ phAgree) := by
  refine fn_ok F sc_agree (fun ds q ⟨x, y, a, b, s, h, _⟩ => by rw [h]; rfl) (by decide) (fun cdv A outer s0 H E ds Qd hr ⟨x, y, a, b, s, e, hx, hy, hl, hb, q⟩ => ?_)
  subst e
  refine db_cons (ds_ret (de_all rfl M.all_ (de_lcT (j := 3) rfl sc_agree.nd (blkOk_by (N := n_agree) (sc := defScope s_agree) (by decide +kernel)) (fun _ _ _ _ _ => pg_name (i := 3) sc_agree.nd rfl (Or.inl rfl)) ?_)))
  walk_at "e"
  refine ⟨Int, s, D.int, fun _ => true, fun k => .bl (decide (cel a k = cel b k)), rfl, by omega, ⟨fun i hi _ _ _ _ _ => di_nil rfl, fun k hk hf _ _ _ _ _ => de_cmp (dc_eq (de_ix (fun _ _ => rfl) ?_))⟩, ?_⟩
  · walk_at "e"
    walk_at "e"
    refine ix_in hx (hb k hk).1 (hb k hk).2.1 ?_
    refine de_ix (fun _ _ => rfl) ?_
    walk_at "e"
    walk_at "e"
    refine ix_in hy (hb k hk).1 (hb k hk).2.2 ?_
    exact ⟨_, rfl, rfl⟩
  · refine ⟨s.map fun k => decide (cel a k = cel b k), ?_, ?_⟩
    · rw [filter_true, List.map_map]; rfl
    · have : (s.map fun k => decide (cel a k = cel b k)).all id = agr a b s := by unfold agr; rw [List.all_map]; rfl
      rw [this]
      exact q
end

end DD
namespace DD
open PySem PySem.Spec PyProof.Rows L2
local macro_rules | `(tactic| walk_at "v") => `(tactic| first | refine de_var 0 rfl ?_ | refine de_var 1 rfl ?_ | refine de_var 2 rfl ?_ | refine de_var 3 rfl ?_ | refine de_var 4 rfl ?_ | refine de_var 5 rfl ?_ | refine de_var 6 rfl ?_ | refine de_var 7 rfl ?_ | refine de_var 8 rfl ?_ | refine de_var 9 rfl ?_ | refine de_var 10 rfl ?_ | refine de_var 11 rfl ?_)
local macro_rules | `(tactic| walk_at "i") => `(tactic| refine de_ix (fun _ _ => rfl) ?_)
local macro_rules | `(tactic| walk_at "e") => `(tactic| first
  | walk_at "v" | refine de_int ?_ | refine de_str ?_ | refine de_bl ?_ | refine de_non ?_
  | refine da_nil ?_ | refine da_cons ?_
  | refine de_add ?_ | refine de_sub ?_ | refine de_mul ?_ | refine de_fdiv ?_ | refine de_mod ?_ | refine de_pow ?_
  | refine de_tup ?_ | refine de_lst ?_ | refine de_not ?_ | refine dt_not ?_
  | refine de_and ?_ | refine de_or ?_ | refine de_one ?_
  | refine dc_lt ?_ | refine dc_le ?_ | refine dc_gt ?_ | refine dc_ge ?_ | refine dc_isN ?_ | refine dc_notN ?_)
section
variable {P : Program} {w : World} {K : PySem.W.Frag} {cA : Cl → Addr} {mg : Str → Option Value} {base : Heap} {f : Addr} {fd : FuncData}
theorem de_isi {X : Cx} {c : Cl → Addr} {env : SEnv} {e : Expr} {Qd : D → Prop} {x : Str} {kC : Cl} {p p2 pos : Pos} {dep : Dep} (F : CF X.K c) (hm : X.mg "isinstance" = none) (hC : X.mg x = some (.ref (c kC))) (h : DE X c env e fun d => ∃ t, d = depO t ∧ Qd (.bl (decide (t.cl = kC))))
    (hg : Gl X "isinstance" := by rfl) (hg2 : Gl X x := by rfl) (hd : (x == ("__debug__" : Str)) = false := by decide)
    (he : starEach [e, .Name x p2] X.env = (false, eval e X.env) :: starEach [.Name x p2] X.env := by rfl) (he2 : starEach [.Name x p2] X.env = (false, eval (.Name x p2) X.env) :: starEach [] X.env := by rfl) (hpl : (backTo pos (starEach [.Name x p2] X.env)).any (·.1) = false := by rfl) :
    DE X c env (.Call (.Name "isinstance" p) [e, .Name x p2] [] pos) Qd :=
  de_isiC F hm hC (h.mono fun d ⟨t, ht, q⟩ => by obtain ⟨ds, hds⟩ := depO_is t; exact ⟨_, ds, ht.trans hds, q⟩) hg hg2 hd he he2 hpl
/-! ### joined_parts of judgesteps -/
def phJp (ds : List D) (q : D → Prop) : Prop := ∃ (n : Int) (d : Dep), ds = [.int n, depO d] ∧ 0 ≤ n ∧ n ≤ 4 ∧ DepN n d ∧ q (if d.cl = .fd then .non else trowsD (prt n d))
theorem ok_jparts_s (M : MF mg) (C : CF K cA) (G : CG mg cA) (F : FD K "joined_parts" "joined_parts" s_jparts_s f fd) (F2 : FnG P w K cA mg base "united" 2 phUn) (F3 : FnG P w K cA mg base "less" 1 phLess) (F4 : FnG P w K cA mg base "whole" 1 phWhole) :
    FnOk P w K mg base CX0 3 f fd ["count", "dependency"] (spD ⟨P, w, K, cA⟩ phJp) := by
  refine fn_ok F sc_jparts_s (fun ds q ⟨n, d, h, _⟩ => by rw [h]; rfl) (by decide) (fun cdv A outer s0 H E ds Qd hr ⟨n, d, e, h0, hn, hd, q⟩ => ?_)
  subst e
  refine db_cons (ds_if (dt_val (de_isi (dep := d) C M.isinstance_ G.jd (de_var 1 rfl ⟨d, rfl, _, rfl, ?_⟩))))
  cases d with
  | jd ps =>
    refine db_cons (ds_ret (de_parts C (de_var 1 rfl ?_)))
    exact q
  | fd l r =>
    refine db_nil (db_cons (ds_if (dt_val (de_isi (dep := .fd l r) C M.isinstance_ G.mvd (de_var 1 rfl ⟨.fd l r, rfl, _, rfl, ?_⟩)))))
    refine db_nil (db_cons (ds_ret (de_non ?_)))
    exact q
  | mvd l r =>
    refine db_nil (db_cons (ds_if (dt_val (de_isi (dep := .mvd l r) C M.isinstance_ G.mvd (de_var 1 rfl ⟨.mvd l r, rfl, _, rfl, ?_⟩)))))
    have hl := hd.1.in64 hn
    have hr4 := hd.2.in64 hn
    have hw : (rgI n).length ≤ 4 := by rw [rgI_len]; omega
    refine db_cons (ds_set 2 (de_call F3 (hr.mono (by decide)) (da_cons (de_call F4 (hr.mono (by decide)) (da_cons (de_var 0 rfl (da_nil ⟨n, rfl, h0, by omega, da_cons (de_right C (de_var 1 rfl (da_nil ⟨_, _, rgI n, r, rfl, rfl, .inl rfl, by omega, ?_⟩)))⟩)))))) sc_jparts_s.nd)
    refine db_cons (ds_ret (de_tup (da_cons (de_call F2 hr (da_cons (de_left C (de_var 1 rfl (da_cons (de_right C (de_var 1 rfl (da_nil ⟨_, _, l, r, rfl, .inl rfl, .inl rfl, by omega, ?_⟩)))))))))))
    refine da_cons (de_call F2 hr (da_cons (de_left C (de_var 1 rfl (da_cons (de_var 2 rfl (da_nil ⟨_, _, l, _, rfl, .inl rfl, .inl rfl, ?_, da_nil ⟨by simp, q⟩⟩)))))))
    have := List.length_filter_le (fun k => decide (k ∉ r)) (rgI n)
    omega
/-! ### Replay.has_row -/
def rpD (n : Int) (rows : List (List Int)) : D := .obj .rp [.int n, .lst (rows.map lrowD)]
def rpRowsD : D → (D → Prop) → Prop
  | .obj .rp [_, l], Q => Q l
  | _, _ => False
def rpCntD : D → (D → Prop) → Prop
  | .obj .rp [l, _], Q => Q l
  | _, _ => False
theorem nCtR : (("count" : Str) == ("rows" : Str)) = false := by decide +kernel
theorem nRCt : (("rows" : Str) == ("count" : Str)) = false := by decide +kernel
theorem de_rpRows {X : Cx} {c : Cl → Addr} {env : SEnv} {e : Expr} {Qd : D → Prop} {pos : Pos} (F : CF X.K c) (h : DE X c env e fun x => rpRowsD x Qd) (hb : attributeBase e "rows" X.env (eval e X.env) = eval e X.env := by rfl) : DE X c env (.Attribute e "rows" pos) Qd := by
  refine de_fld F (h.mono fun x hx => ?_) hb
  unfold rpRowsD at hx
  split at hx
  · exact ⟨.rp, _, 1, _, rfl, List.mem_cons_of_mem _ List.mem_cons_self, fun xs hl => by obtain ⟨x, y, rfl⟩ := two_of hl; exact look2 nRCt, rfl, hx⟩
  · exact hx.elim
theorem de_rpCnt {X : Cx} {c : Cl → Addr} {env : SEnv} {e : Expr} {Qd : D → Prop} {pos : Pos} (F : CF X.K c) (h : DE X c env e fun x => rpCntD x Qd) (hb : attributeBase e "count" X.env (eval e X.env) = eval e X.env := by rfl) : DE X c env (.Attribute e "count" pos) Qd := by
  refine de_fld F (h.mono fun x hx => ?_) hb
  unfold rpCntD at hx
  split at hx
  · exact ⟨.rp, _, 0, _, rfl, List.mem_cons_self, fun xs hl => by obtain ⟨x, y, rfl⟩ := two_of hl; exact look1, rfl, hx⟩
  · exact hx.elim
def inR (rows : List (List Int)) (i : Int) : Bool := decide (0 ≤ i ∧ i < rows.length)
def phHas (ds : List D) (q : D → Prop) : Prop := ∃ (n : Int) (rows : List (List Int)) (i : Int), ds = [rpD n rows, .int i] ∧ q (.bl (inR rows i))
theorem ok_has (M : MF mg) (C : CF K cA) (F : FD K "has_row" "Replay.has_row" s_Replay_has_row f fd) : FnOk P w K mg base CX0 1 f fd ["self", "index"] (spD ⟨P, w, K, cA⟩ phHas) := by
  refine fn_ok F sc_Replay_has_row (fun ds q ⟨n, rows, i, h, _⟩ => by rw [h]; rfl) (by decide) (fun cdv A outer s0 H E ds Qd hr ⟨n, rows, i, e, q⟩ => ?_)
  subst e
  refine db_cons (ds_ret (de_chain ?_))
  walk_at "e"
  walk_at "e"
  refine ⟨0, i, rfl, rfl, ?_⟩
  by_cases h : (0 : Int) ≤ i
  · rw [if_pos h]
    refine de_len M.len_ (de_rpRows C (de_var 0 rfl ?_))
    refine ⟨_, rfl, _, rfl, ?_⟩
    have e : decide (i < ((rows.map lrowD).length : Int)) = inR rows i := by unfold inR; simp [h]
    rw [e]
    exact q
  · rw [if_neg h]
    have e : inR rows i = false := by unfold inR; simp [h]
    rw [e] at q
    exact q
/-! ### first_rows -/
def zeroR (n : Int) : List Int := List.replicate n.toNat 0
def markR (n : Int) (l : List Int) : List Int := (rgI n).map fun k => if k ∈ l then 0 else 1
def rowJ (n : Int) (i : Nat) (p : List Int) : List Int := (rgI n).map fun k => ((i : Int) + 1) * (if k ∈ p then 0 else 1)
def firstR (n : Int) : Dep → List (List Int)
  | .jd ps => (List.range ps.length).map fun i => rowJ n i (ps.getD i [])
  | .fd l _ => [zeroR n, markR n l]
  | .mvd l _ => [zeroR n, markR n l]
def phFr (ds : List D) (q : Sl → Prop) : Prop := ∃ (n : Int) (t : Dep), ds = [.int n, depO t] ∧ 0 ≤ n ∧ n ≤ 4 ∧ DepN n t ∧ ∀ L (rs : List (Addr × List Int)), rs.map (·.2) = firstR n t → q (.ll L rs)
theorem int_notin (k : Int) (p : List Int) : (if (!decide (k ∈ p)) = true then (1 : Int) else 0) = if k ∈ p then 0 else 1 := by by_cases h : k ∈ p <;> simp [h]
theorem ok_first (M : MF mg) (C : CF K cA) (G : CG mg cA) (F : FD K "first_rows" "first_rows" s_first_rows f fd) : FnOk P w K mg base CX0 1 f fd ["count", "target"] (spO ⟨P, w, K, cA⟩ phFr) := by
  refine fn_okO F sc_first_rows (fun ds q ⟨n, t, h, _⟩ => by rw [h]; rfl) (by decide) (fun cdv A outer s0 H E ds Qd hr ⟨n, t, e, h0, hn, ht, q⟩ => ?_)
  subst e
  refine db_cons (ds_if (dt_val (de_isi (dep := t) C M.isinstance_ G.jd (de_var 1 rfl ⟨t, rfl, _, rfl, ?_⟩))))
  have two : ∀ l : List Int, (leftD (depO t) = fun Q => Q (rowD l)) → firstR n t = [zeroR n, markR n l] → SetN n l → DB (bx P w K mg base n_first_rows "first_rows" (defScope s_first_rows) f cdv A outer s0 H E) cA (startE n_first_rows [.int n, depO t]) [(defBody s_first_rows).getD 1 (.Pass ⟨0, 0, 0, 0⟩)] { nx := fun _ => False, rt := fun _ _ => False, ro := Qd } := by
    intro l hl hf hs
    refine db_cons (ds_retLL2 2 rfl (df_rep ?_))
    walk_at "e"
    refine ⟨0, rfl, ?_⟩
    walk_at "e"
    refine ⟨n, rfl, h0, by omega, ?_⟩
    refine df_lcR (j := 5) rfl sc_first_rows.nd (blkOk_by (N := n_first_rows) (sc := defScope s_first_rows) (by decide +kernel)) (fun _ _ _ _ _ => pg_name (i := 5) sc_first_rows.nd rfl (Or.inl rfl)) M.range_ ?_
    walk_at "e"
    refine ⟨n, fun k => if k ∈ l then 0 else 1, rfl, h0, by omega, ⟨fun k hk _ _ _ _ _ => di_nil rfl, fun k hk _ _ _ _ _ _ => de_intOf M.int_ (de_cmp (dc_notin ?_))⟩, fun L p p2 => q L _ ?_⟩
    · walk_at "e"
      refine de_left C (de_var 1 rfl ?_)
      rw [hl]
      refine ⟨k, l, rfl, .inl rfl, ?_⟩
      show D.int _ = D.int _
      rw [int_notin]
    · rw [hf]; rfl
  cases t with
  | jd ps =>
    obtain ⟨g1, g2, g3, g4⟩ := ht
    refine db_cons (ds_newLL 2 (fun L => ?_) sc_first_rows.nd)
    refine db_cons (ds_forEnum (j1 := 3) (j2 := 4) rfl M.enumerate_ (pg_name (i := 3) sc_first_rows.nd rfl (by first | exact Or.inl rfl | exact Or.inr rfl)) (pg_name (i := 4) sc_first_rows.nd rfl (by first | exact Or.inl rfl | exact Or.inr rfl)) (de_parts C (de_var 1 rfl ?_)))
    refine ⟨ps.map rowD, fun i env' => ∃ (rs : List (Addr × List Int)) (s3 s4 : Sl), env' = [.dat (.int n), .dat (depO (.jd ps)), .ll L rs, s3, s4, .no] ∧ rs.map (·.2) = (List.range i).map fun i => rowJ n i (ps.getD i []), rfl, ⟨[], .no, .no, rfl, rfl⟩, ?_, ?_⟩
    · rintro i d env' hd ⟨rs, s3, s4, rfl, hrs⟩
      rw [List.getElem?_map] at hd
      obtain ⟨p, hp, rfl⟩ := Option.map_eq_some_iff.mp hd
      have hil : i < ps.length := (List.getElem?_eq_some_iff.mp hp).1
      have hlen : rs.length = i := by have := congrArg List.length hrs; simpa using this
      refine db_cons (ds_appendLL 2 rfl (by omega) ?_)
      refine df_lcR (j := 5) rfl sc_first_rows.nd (blkOk_by (N := n_first_rows) (sc := defScope s_first_rows) (by decide +kernel)) (fun _ _ _ _ _ => pg_name (i := 5) sc_first_rows.nd rfl (Or.inl rfl)) M.range_ ?_
      walk_at "e"
      refine ⟨n, fun k => ((i : Int) + 1) * (if k ∈ p then 0 else 1), rfl, h0, by omega, ⟨fun k hk _ _ _ _ _ => di_nil rfl, fun k hk _ _ _ _ _ _ => ?_⟩, fun x => db_nil ⟨rs ++ [(x, rowJ n i p)], _, _, rfl, ?_⟩⟩
      · walk_at "e"
        walk_at "e"
        walk_at "e"
        walk_at "e"
        refine de_intOf M.int_ (de_cmp (dc_notin ?_))
        walk_at "e"
        walk_at "e"
        refine ⟨k, p, rfl, .inl rfl, ?_⟩
        refine ⟨.inl ⟨by omega, by omega⟩, ?_⟩
        show D.int _ = D.int _
        rw [int_notin]
      · rw [List.map_append, hrs, List.range_succ, List.map_append]
        have : ps.getD i [] = p := by rw [List.getD_eq_getElem?_getD, hp]; rfl
        rw [List.map_cons, List.map_nil, List.map_cons, List.map_nil, this]
    · rintro env' ⟨rs, s3, s4, rfl, hrs⟩
      refine db_cons (ds_retO 2 rfl rfl (q L rs ?_))
      rw [hrs, List.length_map]
      rfl
  | fd l r => exact db_nil (two l rfl rfl ht.1)
  | mvd l r => exact db_nil (two l rfl rfl ht.1)
end

end DD
namespace DD
open PySem PySem.Spec PyProof.Rows L2
local macro_rules | `(tactic| walk_at "v") => `(tactic| first | refine de_var 0 rfl ?_ | refine de_var 1 rfl ?_ | refine de_var 2 rfl ?_ | refine de_var 3 rfl ?_ | refine de_var 4 rfl ?_ | refine de_var 5 rfl ?_ | refine de_var 6 rfl ?_ | refine de_var 7 rfl ?_ | refine de_var 8 rfl ?_ | refine de_var 9 rfl ?_ | refine de_var 10 rfl ?_ | refine de_var 11 rfl ?_)
local macro_rules | `(tactic| walk_at "i") => `(tactic| refine de_ix (fun _ _ => rfl) ?_)
local macro_rules | `(tactic| walk_at "e") => `(tactic| first
  | walk_at "v" | refine de_int ?_ | refine de_str ?_ | refine de_bl ?_ | refine de_non ?_
  | refine da_nil ?_ | refine da_cons ?_
  | refine de_add ?_ | refine de_sub ?_ | refine de_mul ?_ | refine de_fdiv ?_ | refine de_mod ?_ | refine de_pow ?_
  | refine de_tup ?_ | refine de_lst ?_ | refine de_not ?_ | refine dt_not ?_
  | refine de_and ?_ | refine de_or ?_ | refine de_one ?_
  | refine dc_lt ?_ | refine dc_le ?_ | refine dc_gt ?_ | refine dc_ge ?_ | refine dc_isN ?_ | refine dc_notN ?_)
section
variable {P : Program} {w : World} {K : PySem.W.Frag} {cA : Cl → Addr} {mg : Str → Option Value} {base : Heap} {f : Addr} {fd : FuncData}
theorem dec_irrel {p : Prop} (i j : Decidable p) : @decide p i = @decide p j := by cases Subsingleton.elim i j; rfl
/-! ### Replay(count, target) -/
def phRp (s : Sl) (ds : List D) (q : Sl → D → Prop) : Prop := ∃ (n : Int) (t : Dep) (ad dx : Addr), s = .oi ad dx .rp [] ∧ ds = [.int n, depO t] ∧ 0 ≤ n ∧ n ≤ 4 ∧ DepN n t ∧ ∀ L (rs : List (Addr × List Int)), rs.map (·.2) = firstR n t → q (.rp ad dx L n rs) .non
theorem put_cnt (xs : List V) (v : V) (h : xs.length = 0) : putF "count" v (Cl.rp.names.zip xs) = Cl.rp.names.zip (xs ++ [v]) := by
  cases xs with
  | nil => rfl
  | cons _ _ => simp at h
theorem ok_Replay (M : MF mg) (C : CF K cA) (F : FD K "__init__" "Replay.__init__" s_Replay_init f fd) (F1 : FoG P w K cA mg base "first_rows" 1 phFr) : FnOk P w K mg base CX0 2 f fd ["self", "count", "target"] (spS ⟨P, w, K, cA⟩ phRp) := by
  refine fn_okS F sc_Replay_init (fun s ds q ⟨n, t, ad, dx, h, e, _⟩ => by rw [e]; rfl) (by decide) (fun cdv A outer s0 H E s ds Qd hr ⟨n, t, ad, dx, h, e, h0, hn, ht, q⟩ => ?_)
  subst h
  subst e
  refine db_cons (ds_fld 0 C rfl (by decide) (de_var 1 rfl ?_) (by simp [Cl.names]) put_cnt)
  refine db_cons (ds_fldRows 0 F1 C hr rfl (da_cons (de_var 1 rfl (da_cons (de_var 2 rfl (da_nil ⟨n, t, rfl, h0, hn, ht, fun L rs hrs => ⟨L, rs, rfl, db_nil ⟨_, rfl, rfl, ?_, q L rs hrs⟩⟩⟩))))) rfl)
  intro a ha
  simp only [Sl.adrs, List.mem_singleton] at ha
  rw [ha]
  exact List.mem_cons_self
/-! ### Replay.reached -/
def othersR (n : Int) (l r : List Int) : List Int := (rgI n).filter fun k => decide (k ∉ sdI (l ++ r))
def reachB (n : Int) (rows : List (List Int)) : Dep → Bool
  | .jd _ => decide (zeroR n ∈ rows)
  | .fd _ r => agr (rows.getD 0 []) (rows.getD 1 []) r
  | .mvd l r => rows.any fun x => agr x (rows.getD 0 []) (sdI (l ++ r)) && agr x (rows.getD 1 []) (othersR n l r)
def phReach (ds : List D) (q : D → Prop) : Prop := ∃ (n : Int) (rows : List (List Int)) (t : Dep), ds = [rpD n rows, depO t] ∧ 0 ≤ n ∧ n ≤ 4 ∧ DepN n t ∧ RowsN n rows ∧ 2 ≤ rows.length ∧ rows.length ≤ 1000 ∧ q (.bl (reachB n rows t))
theorem at_row {rows : List (List Int)} (m : Nat) (h : m < rows.length) {Q : D → Prop} (q : Q (lrowD (rows.getD m []))) : ixD (.lst (rows.map lrowD)) (.int (m : Int)) Q := by
  have e : (rows.map lrowD)[m]'(by simpa using h) = lrowD (rows.getD m []) := by rw [List.getElem_map, List.getD_eq_getElem?_getD, List.getElem?_eq_getElem h]; rfl
  exact ⟨_, at_of (j := m) (by omega) (by omega) (by simpa using h), by rw [e]; exact q⟩
theorem RowsN.getD {n : Int} {rows : List (List Int)} (h : RowsN n rows) {m : Nat} (hm : m < rows.length) : (rows.getD m []).length = n.toNat := by
  rw [List.getD_eq_getElem?_getD, List.getElem?_eq_getElem hm]
  exact h _ (List.getElem_mem hm)
theorem lists_map (rows : List (List Int)) : (rows.map fun r => D.lst (r.map D.int)) = rows.map lrowD := rfl
theorem ok_reached (M : MF mg) (C : CF K cA) (G : CG mg cA) (F : FD K "reached" "Replay.reached" s_Replay_reached f fd) (F1 : FnG P w K cA mg base "agree" 1 phAgree) (F2 : FnG P w K cA mg base "united" 2 phUn) (F3 : FnG P w K cA mg base "less" 1 phLess) (F4 : FnG P w K cA mg base "whole" 1 phWhole) :
    FnOk P w K mg base CX0 3 f fd ["self", "target"] (spD ⟨P, w, K, cA⟩ phReach) := by
  refine fn_ok F sc_Replay_reached (fun ds q ⟨n, rows, t, h, _⟩ => by rw [h]; rfl) (by decide) (fun cdv A outer s0 H E ds Qd hr ⟨n, rows, t, e, h0, hn, ht, hR, h2, hz, q⟩ => ?_)
  subst e
  have z0 := hR.getD (m := 0) (by omega)
  have z1 := hR.getD (m := 1) (by omega)
  refine db_cons (ds_if (dt_val (de_isi (dep := t) C M.isinstance_ G.jd (de_var 1 rfl ⟨t, rfl, _, rfl, ?_⟩))))
  have two : ∀ {P' : DEnd} {rest : List Stmt}, DB (bx P w K mg base n_Replay_reached "Replay.reached" (defScope s_Replay_reached) f cdv A outer s0 H E) cA [.dat (rpD n rows), .dat (depO t), .dat (lrowD (rows.getD 0 [])), .dat (lrowD (rows.getD 1 [])), .no, .no, .no] rest P' → DB (bx P w K mg base n_Replay_reached "Replay.reached" (defScope s_Replay_reached) f cdv A outer s0 H E) cA (startE n_Replay_reached [rpD n rows, depO t]) ((defBody s_Replay_reached).getD 1 (.Pass ⟨0, 0, 0, 0⟩) :: (defBody s_Replay_reached).getD 2 (.Pass ⟨0, 0, 0, 0⟩) :: rest) P' := by
    intro P' rest h
    refine db_cons (ds_set 2 (de_ix (fun _ _ => rfl) (de_rpRows C (de_var 0 rfl (de_int (at_row (rows := rows) 0 (by omega) ?_))))) sc_Replay_reached.nd)
    refine db_cons (ds_set 3 (de_ix (fun _ _ => rfl) (de_rpRows C (de_var 0 rfl (de_int (at_row (rows := rows) 1 (by omega) ?_))))) sc_Replay_reached.nd)
    exact h
  cases t with
  | jd ps =>
    refine db_cons (ds_ret (de_cmp (dc_ind Pe.lrow (by decide) (by have := hr.un; omega) ?_)))
    walk_at "e"
    walk_at "e"
    walk_at "e"
    walk_at "e"
    refine da_nil ⟨by simp, ?_⟩
    refine de_rpCnt C (de_var 0 rfl ?_)
    refine ⟨h0, by omega, de_rpRows C (de_var 0 rfl ?_)⟩
    refine ⟨zeroR n, rows, ?_, rfl, ?_⟩
    · show D.lst _ = D.lst _
      unfold zeroR
      rw [List.map_replicate]
    · show Qd _
      rw [dec_irrel _ inferInstance]
      exact q
  | fd l r =>
    refine db_nil (two ?_)
    refine db_cons (ds_if (dt_val (de_isi (dep := .fd l r) C M.isinstance_ G.fd (de_var 1 rfl ⟨.fd l r, rfl, _, rfl, ?_⟩))))
    refine db_cons (ds_ret (de_call F1 (hr.mono (by decide)) (da_cons (de_var 2 rfl (da_cons (de_var 3 rfl (da_cons (de_right C (de_var 1 rfl (da_nil ⟨_, _, rows.getD 0 [], rows.getD 1 [], r, rfl, .inr rfl, .inr rfl, ?_, fun k hk => ?_, q⟩))))))))))
    · have := ht.2.in64 hn; omega
    · have := ht.2.2 k hk; omega
  | mvd l r =>
    refine db_nil (two ?_)
    refine db_cons (ds_if (dt_val (de_isi (dep := .mvd l r) C M.isinstance_ G.fd (de_var 1 rfl ⟨.mvd l r, rfl, _, rfl, ?_⟩))))
    have l4 := ht.1.in64 hn
    have r4 := ht.2.in64 hn
    have hw : (rgI n).length ≤ 4 := by rw [rgI_len]; omega
    refine db_nil (db_cons (ds_set 4 (de_call F2 hr (da_cons (de_left C (de_var 1 rfl (da_cons (de_right C (de_var 1 rfl (da_nil ⟨_, _, l, r, rfl, .inl rfl, .inl rfl, by omega, ?_⟩)))))))) sc_Replay_reached.nd))
    refine db_cons (ds_set 5 (de_call F3 (hr.mono (by decide)) (da_cons (de_call F4 (hr.mono (by decide)) (da_cons (de_rpCnt C (de_var 0 rfl (da_nil ⟨n, rfl, h0, by omega, da_cons (de_var 4 rfl (da_nil ⟨_, _, rgI n, sdI (l ++ r), rfl, rfl, .inl rfl, by omega, ?_⟩))⟩))))))) sc_Replay_reached.nd)
    refine db_cons (ds_ret (de_any rfl M.any_ (de_lcL (j := 6) rfl sc_Replay_reached.nd (blkOk_by (N := n_Replay_reached) (sc := defScope s_Replay_reached) (by decide +kernel)) (fun _ _ _ _ _ => pg_name (i := 6) sc_Replay_reached.nd rfl (by first | exact Or.inl rfl | exact Or.inr rfl)) (de_rpRows C (de_var 0 rfl ?_)))))
    have held : ∀ k ∈ sdI (l ++ r), 0 ≤ k ∧ k < n := fun k hk => by
      rcases List.mem_append.mp (sdI_mem.mp hk) with h | h
      · exact ht.1.2 k h
      · exact ht.2.2 k h
    have hsl : (sdI (l ++ r)).length ≤ 1000 := by have := sdI_len (l ++ r); rw [List.length_append] at this; omega
    refine ⟨_, rows, lrowD, fun _ => true, fun x => .bl (agr x (rows.getD 0 []) (sdI (l ++ r)) && agr x (rows.getD 1 []) (othersR n l r)), rfl, by omega, ⟨fun p hp _ _ _ _ _ => di_nil rfl, fun x hx _ s' H0' C' cl fp => ?_⟩, ?_⟩
    · have zx := hR x hx
      refine de_and (de_call F1 (hr.mono (by decide)) (da_cons (de_var 6 rfl (da_cons (de_var 2 rfl (da_cons (de_var 4 rfl (da_nil ⟨_, _, x, rows.getD 0 [], sdI (l ++ r), rfl, .inr rfl, .inr rfl, hsl, fun k hk => ?_, _, rfl, ?_⟩))))))))
      · have := held k hk; omega
      · split
        · rename_i hag
          refine de_one (de_call F1 (hr.mono (by decide)) (da_cons (de_var 6 rfl (da_cons (de_var 3 rfl (da_cons (de_var 5 rfl (da_nil ⟨_, _, x, rows.getD 1 [], othersR n l r, rfl, .inr rfl, .inr rfl, ?_, fun k hk => ?_, ?_⟩))))))))
          · have := List.length_filter_le (fun k => decide (k ∉ sdI (l ++ r))) (rgI n)
            unfold othersR
            omega
          · have := rgI_mem.mp (List.mem_filter.mp hk).1
            omega
          · rw [hag, Bool.true_and]
        · rename_i hag
          have : agr x (rows.getD 0 []) (sdI (l ++ r)) = false := by simpa using hag
          rw [this, Bool.false_and]
    · refine ⟨rows.map fun x => agr x (rows.getD 0 []) (sdI (l ++ r)) && agr x (rows.getD 1 []) (othersR n l r), ?_, ?_⟩
      · rw [filter_true, List.map_map]; rfl
      · have e : (rows.map fun x => agr x (rows.getD 0 []) (sdI (l ++ r)) && agr x (rows.getD 1 []) (othersR n l r)).any id = reachB n rows (.mvd l r) := by
          unfold reachB
          rw [List.any_map]
          rfl
        rw [e]
        exact q
end

end DD
namespace DD
open PySem PySem.Spec PyProof.Rows L2
section
variable {P : Program} {w : World} {K : PySem.W.Frag} {cA : Cl → Addr} {mg : Str → Option Value} {base : Heap} {f : Addr} {fd : FuncData}
theorem rp_view (ad dx L : Addr) (n : Int) (rs : List (Addr × List Int)) : (Sl.rp ad dx L n rs).view = .dat (rpD n (rs.map (·.2))) := by
  show Sl.dat (.obj .rp [.int n, .lst (rs.map fun r => D.lst (r.2.map D.int))]) = _
  unfold rpD
  rw [List.map_map]
  rfl
/-! ### make_same -/
def lowR (k lo hi : Int) (r : List Int) : List Int := if cel r k = hi then r.set k.toNat lo else r
def sameR (rows : List (List Int)) (l r : List Int) (i j k : Int) : Option (List (List Int)) :=
  if inR rows i = true ∧ inR rows j = true ∧ k ∈ r ∧ agr (rows.getD i.toNat []) (rows.getD j.toNat []) l = true ∧ cel (rows.getD i.toNat []) k ≠ cel (rows.getD j.toNat []) k then
    some (rows.map (lowR k (min (cel (rows.getD i.toNat []) k) (cel (rows.getD j.toNat []) k)) (max (cel (rows.getD i.toNat []) k) (cel (rows.getD j.toNat []) k)))) else none
def mkR (rows : List (List Int)) (i j k : Int) : Dep → Option (List (List Int))
  | .fd l r => sameR rows l r i j k
  | _ => none
def phMk (s : Sl) (ds : List D) (q : Sl → D → Prop) : Prop := ∃ (n : Int) (d : Dep) (i j k : Int) (ad dx L : Addr) (rs : List (Addr × List Int)), s = .rp ad dx L n rs ∧ ds = [depO d, .int i, .int j, .int k] ∧ 0 ≤ n ∧ n ≤ 4 ∧ DepN n d ∧ RowsN n (rs.map (·.2)) ∧
  (mkR (rs.map (·.2)) i j k d = none → q s (.bl false)) ∧ ∀ rows', mkR (rs.map (·.2)) i j k d = some rows' → ∀ rs' : List (Addr × List Int), rs'.map (·.1) = rs.map (·.1) → rs'.map (·.2) = rows' → q (.rp ad dx L n rs') (.bl true)
section
variable {α : Type} {g : α → α} {rs : List α} {m : Nat} {x : α}
theorem lo_get (h : rs[m]? = some x) : ((rs.take m).map g ++ rs.drop m)[m]? = some x := by
  have hm : m < rs.length := (List.getElem?_eq_some_iff.mp h).1
  rw [List.getElem?_append_right (by rw [List.length_map, List.length_take]; omega), List.length_map, List.length_take, List.getElem?_drop]
  have : m + (m - min m rs.length) = m := by omega
  rw [this]
  exact h
theorem lo_split (h : rs[m]? = some x) : rs = rs.take m ++ x :: rs.drop (m + 1) := by
  obtain ⟨hm, he⟩ := List.getElem?_eq_some_iff.mp h
  rw [← he, ← List.drop_eq_getElem_cons hm, List.take_append_drop]
theorem lo_set (h : rs[m]? = some x) : ((rs.take m).map g ++ rs.drop m).set m (g x) = (rs.take (m + 1)).map g ++ rs.drop (m + 1) := by
  obtain ⟨hm, he⟩ := List.getElem?_eq_some_iff.mp h
  have hl : ((rs.take m).map g).length = m := by rw [List.length_map, List.length_take]; omega
  rw [List.set_append_right _ _ (by omega), hl, Nat.sub_self, List.drop_eq_getElem_cons hm, he, List.set_cons_zero, List.take_add_one, h, List.map_append, List.append_assoc]
  rfl
theorem lo_same (h : rs[m]? = some x) (e : g x = x) : ((rs.take m).map g ++ rs.drop m) = (rs.take (m + 1)).map g ++ rs.drop (m + 1) := by
  rw [← lo_set h, e]
  obtain ⟨hm, he⟩ := List.getElem?_eq_some_iff.mp (lo_get (g := g) h)
  apply List.ext_getElem?
  intro z
  by_cases hz : m = z
  · subst hz
    rw [List.getElem?_set_self hm, lo_get h]
  · rw [List.getElem?_set_ne hz]
end
theorem inR_iff {rows : List (List Int)} {i : Int} : inR rows i = true ↔ 0 ≤ i ∧ i < rows.length := by unfold inR; simp
theorem de_has {X : Cx} {c : Cl → Addr} {env : SEnv} {e : Expr} {p pos apos : Pos} {Qd : D → Prop} {ad dx L : Addr} {n : Int} {rs : List (Addr × List Int)} {y : Str} {pl : Sem Bool} (i0 : Nat) (Hs : MtG X.prog X.w X.K c X.mg X.base .rp "has_row" 1 phHas) (F : CF X.K c) (hr : Room 1 X.A) (hs : env[i0]? = some (.rp ad dx L n rs))
    (h : DE X c (env.set i0 (.dat (rpD n (rs.map (·.2))))) e fun d => ∃ i, d = .int i ∧ Qd (.bl (inR (rs.map (·.2)) i)))
    (hN : X.N[i0]? = some y := by rfl) (hv : Vis X.env.scope y := by first | exact Or.inl rfl | exact Or.inr (Or.inl rfl) | exact Or.inr (Or.inr rfl))
    (hd : (y == ("__debug__" : Str)) = false := by decide) (hcd : (y == ("__classdict__" : Str)) = false := by decide)
    (hst : starEach [e] X.env = (false, eval e X.env) :: starEach [] X.env := by rfl)
    (ht : eval (.Call (.Attribute (.Name y p) "has_row" apos) [e] [] pos) X.env = (do
      let ov ← eval (.Name y p) X.env
      standAt apos.atName
      let (f, first) ← holding [ov] (getMethod ov "has_row" pl)
      callWith pos f first (backTo pos (starEach [e] X.env)) (backToKw pos (keywordEach [] X.env))) := by rfl) : DE X c env (.Call (.Attribute (.Name y p) "has_row" apos) [e] [] pos) Qd := by
  have hl : i0 < env.length := (List.getElem?_eq_some_iff.mp hs).1
  refine de_view i0 hs ?_
  rw [rp_view]
  exact de_meth (k := .rp) (pl := pl) Hs F hr (de_var i0 (List.getElem?_set_self hl) ⟨_, rfl, da_cons (h.mono fun d ⟨i, hi, q⟩ => by subst hi; exact da_nil ⟨n, _, i, rfl, rfl, q⟩) hst⟩ hN hv hd hcd) (fun xs hl => by obtain ⟨u, v, rfl⟩ := two_of hl; exact rp_look (by decide) u v) hst rfl ht
theorem ok_make_same (M : MF mg) (C : CF K cA) (G : CG mg cA) (F : FD K "make_same" "Replay.make_same" s_Replay_make_same f fd) (F1 : FnG P w K cA mg base "agree" 1 phAgree) (Hs : MtG P w K cA mg base .rp "has_row" 1 phHas) :
    FnOk P w K mg base CX0 2 f fd ["self", "dependency", "first", "second", "column"] (spS ⟨P, w, K, cA⟩ phMk) := by
  refine fn_okS F sc_Replay_make_same (fun s ds q ⟨n, d, i, j, k, ad, dx, L, rs, h, e, _⟩ => by rw [e]; rfl) (by decide) (fun cdv A outer s0 H E s ds Qd hr ⟨n, d, i, j, k, ad, dx, L, rs, h, e, h0, hn, hd, hR, q1, q2⟩ => ?_)
  subst h
  subst e
  have rfalse : mkR (rs.map (·.2)) i j k d = none → ∀ {env : SEnv} {rest : List Stmt} {j' : Nat} {p p' : Pos} {P' : DEnd}, env[0]? = some (.rp ad dx L n rs) → P'.rt = (selfEnds (.rp ad dx L n rs) Qd).rt → DB (bx P w K mg base n_Replay_make_same "Replay.make_same" (defScope s_Replay_make_same) f cdv A outer s0 H E) cA env (.Return (some (.Constant (.bool false) j' p)) p' :: rest) P' := by
    intro hnone env rest j' p p' P' he hP
    refine db_cons (ds_ret (de_bl ?_))
    show P'.rt env _
    rw [hP]
    exact ⟨rfl, _, he, rfl, fun a ha => ha, q1 hnone⟩
  refine db_cons (ds_if (dt_bool (dw_or (dt_not (dt_val (de_isi (dep := d) C M.isinstance_ G.fd (de_var 1 rfl ⟨d, rfl, _, rfl, ?_⟩)))))))
  cases d with
  | mvd l r => exact rfalse rfl rfl rfl
  | jd ps => exact rfalse rfl rfl rfl
  | fd l r =>
    refine dw_or (dt_not (dt_val (de_has 0 Hs C (hr.mono (by decide)) rfl (de_var 2 rfl ⟨i, rfl, _, rfl, ?_⟩))))
    by_cases hi : inR (rs.map (·.2)) i = true
    · rw [hi]
      refine dw_or1 (dt_not (dt_val (de_has 0 Hs C (hr.mono (by decide)) rfl (de_var 3 rfl ⟨j, rfl, _, rfl, ?_⟩))))
      by_cases hj : inR (rs.map (·.2)) j = true
      · rw [hj]
        obtain ⟨i0, i1⟩ := inR_iff.mp hi
        obtain ⟨j0, j1⟩ := inR_iff.mp hj
        rw [List.length_map] at i1 j1
        have gi : rs[i.toNat]? = some rs[i.toNat] := List.getElem?_eq_getElem (by omega)
        have gj : rs[j.toNat]? = some rs[j.toNat] := List.getElem?_eq_getElem (by omega)
        have ei : ((i.toNat : Nat) : Int) = i := by omega
        have ej : ((j.toNat : Nat) : Int) = j := by omega
        have mi : (rs[i.toNat].1, rs[i.toNat].2) ∈ rs := List.getElem_mem _
        have mj : (rs[j.toNat].1, rs[j.toNat].2) ∈ rs := List.getElem_mem _
        have xi : (rs.map (·.2)).getD i.toNat [] = rs[i.toNat].2 := by rw [List.getD_eq_getElem?_getD, List.getElem?_map, gi]; rfl
        have xj : (rs.map (·.2)).getD j.toNat [] = rs[j.toNat].2 := by rw [List.getD_eq_getElem?_getD, List.getElem?_map, gj]; rfl
        have li : rs[i.toNat].2.length = n.toNat := hR _ (List.mem_map.mpr ⟨_, mi, rfl⟩)
        have lj : rs[j.toNat].2.length = n.toNat := hR _ (List.mem_map.mpr ⟨_, mj, rfl⟩)
        have mkE : mkR (rs.map (·.2)) i j k (.fd l r) = sameR (rs.map (·.2)) l r i j k := rfl
        unfold sameR at mkE
        rw [xi, xj] at mkE
        generalize hx : rs[i.toNat] = x at *
        generalize hy : rs[j.toNat] = y at *
        refine db_nil (db_cons (ds_aliasRow 0 5 C rfl (fun _ _ => rfl) (de_var 2 rfl ⟨i.toNat, by rw [ei], x, gi, ?_⟩) rfl sc_Replay_make_same.nd))
        refine db_cons (ds_aliasRow 0 6 C rfl (fun _ _ => rfl) (de_var 3 rfl ⟨j.toNat, by rw [ej], y, gj, ?_⟩) rfl sc_Replay_make_same.nd)
        refine db_cons (ds_if (dt_view2 0 5 6 rfl rfl rfl mi mj (by decide) (dt_bool (dw_or (dt_cmp (dc_notin (de_var 4 rfl (de_right C (de_var 1 rfl ⟨k, r, rfl, .inl rfl, _, rfl, ?_⟩)))))))))
        by_cases hk : k ∈ r
        · have kk := hd.2.2 k hk
          simp only [hk, decide_true, Bool.not_true]
          refine dw_or (dt_not (dt_val (de_call F1 (hr.mono (by decide)) (da_cons (de_var 5 rfl (da_cons (de_var 6 rfl (da_cons (de_left C (de_var 1 rfl (da_nil ⟨_, _, x.2, y.2, l, rfl, .inr rfl, .inr rfl, ?_, fun z hz => ?_, _, rfl, ?_⟩)))))))))))
          · have := hd.1.in64 hn; omega
          · have := hd.1.2 z hz; omega
          · by_cases hag : agr x.2 y.2 l = true
            · rw [hag]
              refine dw_or1 (dt_cmp (dc_eq (de_ix (fun _ _ => rfl) (de_var 5 rfl (de_var 4 rfl (ix_in (.inr rfl) kk.1 (by omega) (de_ix (fun _ _ => rfl) (de_var 6 rfl (de_var 4 rfl (ix_in (.inr rfl) kk.1 (by omega) ⟨_, rfl, _, rfl, ?_⟩)))))))))) 
              by_cases hc : cel x.2 k = cel y.2 k
              · rw [if_pos (decide_eq_true hc)]
                refine rfalse ?_ rfl rfl
                rw [mkE, if_neg fun z => z.2.2.2.2 hc]
              · rw [if_neg (by simp [hc])]
                rw [if_pos ⟨hi, hj, hk, hag, hc⟩] at mkE
                refine db_nil (db_cons (ds_set 7 (de_view2 0 5 6 rfl rfl rfl mi mj (by decide) (de_min2 rfl M.min_ (de_ix (fun _ _ => rfl) (de_var 5 rfl (de_var 4 rfl (ix_in (.inr rfl) kk.1 (by omega) (de_ix (fun _ _ => rfl) (de_var 6 rfl (de_var 4 rfl (ix_in (.inr rfl) kk.1 (by omega) ⟨_, _, rfl, rfl, rfl, ?_⟩)))))))))) sc_Replay_make_same.nd))
                refine db_cons (ds_set 8 (de_view2 0 5 6 rfl rfl rfl mi mj (by decide) (de_max2 rfl M.max_ (de_ix (fun _ _ => rfl) (de_var 5 rfl (de_var 4 rfl (ix_in (.inr rfl) kk.1 (by omega) (de_ix (fun _ _ => rfl) (de_var 6 rfl (de_var 4 rfl (ix_in (.inr rfl) kk.1 (by omega) ⟨_, _, rfl, rfl, rfl, ?_⟩)))))))))) sc_Replay_make_same.nd)
                generalize hlo : min (cel x.2 k) (cel y.2 k) = lo at *
                generalize hhi : max (cel x.2 k) (cel y.2 k) = hi' at *
                let g : Addr × List Int → Addr × List Int := fun z => (z.1, lowR k lo hi' z.2)
                refine db_cons (ds_forRows 0 9 C rfl (pg_name (i := 9) sc_Replay_make_same.nd rfl (by first | exact Or.inl rfl | exact Or.inr rfl)) rfl (fun m env' => ∃ s9 : Sl, env' = [.rp ad dx L n ((rs.take m).map g ++ rs.drop m), .dat (depO (.fd l r)), .dat (.int i), .dat (.int j), .dat (.int k), .al x.1, .al y.1, .dat (.int lo), .dat (.int hi'), s9]) ⟨.no, rfl⟩ ?_ ?_ ?_ rfl)
                · rintro m env' ⟨s9, rfl⟩
                  refine ⟨_, rfl, ?_⟩
                  rw [List.map_append, List.map_map]
                  show (rs.take m).map (fun z => z.1) ++ _ = _
                  rw [← List.map_append, List.take_append_drop]
                · rintro m qa ra env' hm ⟨s9, rfl⟩
                  have gm := lo_get (g := g) hm
                  have lr : ra.length = n.toNat := hR _ (List.mem_map.mpr ⟨_, List.mem_of_getElem? hm, rfl⟩)
                  refine db_cons (ds_if (dt_view1 0 9 rfl rfl (List.mem_of_getElem? gm) (dt_cmp (dc_eq (de_ix (fun _ _ => rfl) (de_var 9 rfl (de_var 4 rfl (ix_in (.inr rfl) kk.1 (by omega) (de_var 8 rfl ⟨_, rfl, _, rfl, ?_⟩)))))))))
                  by_cases hz : cel ra k = hi'
                  · rw [if_pos (decide_eq_true hz)]
                    refine db_cons (ds_putRow 0 9 rfl rfl gm (de_var 7 rfl ⟨lo, rfl, de_var 4 rfl ⟨k.toNat, by rw [show ((k.toNat : Nat) : Int) = k by omega], by omega, db_nil (db_nil ⟨.al qa, ?_⟩)⟩⟩))
                    have eg : (qa, ra.set k.toNat lo) = g (qa, ra) := by
                      show _ = (qa, lowR k lo hi' ra)
                      unfold lowR
                      rw [if_pos hz]
                    rw [eg, lo_set hm]
                    rfl
                  · rw [if_neg (by simp [hz])]
                    have eg : g (qa, ra) = (qa, ra) := by
                      show (qa, lowR k lo hi' ra) = _
                      unfold lowR
                      rw [if_neg hz]
                    refine db_nil (db_nil ⟨.al qa, ?_⟩)
                    rw [← lo_same hm eg]
                    rfl
                · rintro env' ⟨s9, rfl⟩
                  refine db_cons (ds_ret (de_bl ⟨rfl, _, rfl, rfl, ?_, q2 _ mkE _ ?_ ?_⟩))
                  · rw [List.take_length, List.drop_length, List.append_nil]
                    intro a ha
                    have : (rs.map g).map (fun z => z.1) = rs.map fun z => z.1 := by rw [List.map_map]; rfl
                    show a ∈ ad :: L :: (rs.map g).map (fun z => z.1)
                    rw [this]
                    exact ha
                  · rw [List.take_length, List.drop_length, List.append_nil, List.map_map]; rfl
                  · rw [List.take_length, List.drop_length, List.append_nil, List.map_map, List.map_map]; rfl
            · have hag : agr x.2 y.2 l = false := by simpa using hag
              rw [hag]
              refine rfalse ?_ rfl rfl
              rw [mkE, if_neg fun z => by rw [hag] at z; exact absurd z.2.2.2.1 (by decide)]
        · simp only [hk, decide_false, Bool.not_false]
          refine rfalse ?_ rfl rfl
          rw [mkE, if_neg fun z => hk z.2.2.1]
      · have hj : inR (rs.map (·.2)) j = false := by simpa using hj
        rw [hj]
        refine rfalse ?_ rfl rfl
        show sameR _ l r i j k = none
        unfold sameR
        rw [if_neg fun z => by rw [hj] at z; exact absurd z.2.1 (by decide)]
    · have hi : inR (rs.map (·.2)) i = false := by simpa using hi
      rw [hi]
      refine rfalse ?_ rfl rfl
      show sameR _ l r i j k = none
      unfold sameR
      rw [if_neg fun z => by rw [hi] at z; exact absurd z.1 (by decide)]
end

end DD
namespace DD
open PySem PySem.Spec PyProof.Rows L2
section
variable {P : Program} {w : World} {K : PySem.W.Frag} {cA : Cl → Addr} {mg : Str → Option Value} {base : Heap} {f : Addr} {fd : FuncData}
theorem room1 {k : Nat} {A : Around} (r : Room k A) : A.units + 1 < cLine := by have := r.un; omega
theorem room65 {k : Nat} {A : Around} (r : Room k A) : A.units + 65 < cLine := by have := r.un; omega
theorem de_viewRp {X : Cx} {c : Cl → Addr} {env : SEnv} {e : Expr} {Qd : D → Prop} {ad dx L : Addr} {n : Int} {rs : List (Addr × List Int)} (i : Nat) (hs : env[i]? = some (.rp ad dx L n rs)) (h : DE X c (env.set i (.dat (rpD n (rs.map (·.2))))) e fun d => flat d = true ∧ Qd d) : DE X c env e Qd := by
  refine de_view i hs ?_
  rw [rp_view]
  exact h
/-! ### add_joined -/
abbrev rowAt (rows : List (List Int)) (i : Int) : List Int := rows.getD i.toNat []
structure JoinOk (n : Int) (rows ps : List (List Int)) (is row : List Int) : Prop where
  ln : is.length = ps.length
  ir : ∀ i ∈ is, inR rows i = true
  rl : row.length = n.toNat
  at_ : ∀ (m : Nat) p i, ps[m]? = some p → is[m]? = some i → ∀ k ∈ p, cel row k = cel (rowAt rows i) k
def pairsAt (rows : List (List Int)) (p : List Int) (i : Int) : List (Int × Int) := p.map fun k => (k, cel (rowAt rows i) k)
def pairsTo (rows ps : List (List Int)) (is : List Int) (m : Nat) : List (Int × Int) := ((ps.zip is).take m).flatMap fun q => pairsAt rows q.1 q.2
structure Cst (ks vs : List Int) (S : List (Int × Int)) : Prop where
  nd : ks.Nodup
  ln : vs.length = ks.length
  to : ∀ (j : Nat) k v, ks[j]? = some k → vs[j]? = some v → (k, v) ∈ S
  of : ∀ q ∈ S, ∃ j : Nat, ks[j]? = some q.1 ∧ vs[j]? = some q.2
theorem Cst.nil : Cst [] [] [] := ⟨.nil, rfl, fun j k v h _ => by simp at h, fun q h => by cases h⟩
theorem Cst.new {ks vs : List Int} {S : List (Int × Int)} (h : Cst ks vs S) {k v : Int} (hk : k ∉ ks) : Cst (ks ++ [k]) (vs ++ [v]) (S ++ [(k, v)]) where
  nd := List.nodup_append.mpr ⟨h.nd, by simp, fun a ha b hb => by simp at hb; rw [hb]; intro e; rw [e] at ha; exact hk ha⟩
  ln := by simp [h.ln]
  to := fun j a b h1 h2 => by
    by_cases hj : j < ks.length
    · rw [List.getElem?_append_left hj] at h1
      rw [List.getElem?_append_left (by rw [h.ln]; exact hj)] at h2
      exact List.mem_append_left _ (h.to j a b h1 h2)
    · have e : j = ks.length := by
        have := (List.getElem?_eq_some_iff.mp h1).1
        rw [List.length_append, List.length_singleton] at this
        omega
      subst e
      rw [List.getElem?_append_right (Nat.le_refl _), Nat.sub_self] at h1
      rw [List.getElem?_append_right (by rw [h.ln]; exact Nat.le_refl _), h.ln, Nat.sub_self] at h2
      simp at h1 h2
      rw [← h1, ← h2]
      simp
  of := fun q hq => by
    rcases List.mem_append.mp hq with hq | hq
    · obtain ⟨j, h1, h2⟩ := h.of q hq
      exact ⟨j, by rw [List.getElem?_append_left (List.getElem?_eq_some_iff.mp h1).1]; exact h1, by rw [List.getElem?_append_left (List.getElem?_eq_some_iff.mp h2).1]; exact h2⟩
    · rw [List.mem_singleton.mp hq]
      exact ⟨ks.length, by rw [List.getElem?_append_right (Nat.le_refl _), Nat.sub_self]; rfl, by rw [List.getElem?_append_right (by rw [h.ln]; exact Nat.le_refl _), h.ln, Nat.sub_self]; rfl⟩
theorem Cst.old {ks vs : List Int} {S : List (Int × Int)} (h : Cst ks vs S) {k v : Int} {j : Nat} (h1 : ks[j]? = some k) (h2 : vs[j]? = some v) : Cst ks vs (S ++ [(k, v)]) where
  nd := h.nd
  ln := h.ln
  to := fun j a b h1 h2 => List.mem_append_left _ (h.to j a b h1 h2)
  of := fun q hq => by
    rcases List.mem_append.mp hq with hq | hq
    · exact h.of q hq
    · rw [List.mem_singleton.mp hq]
      exact ⟨j, h1, h2⟩
theorem JoinOk.pairs {n : Int} {rows ps : List (List Int)} {is row : List Int} (h : JoinOk n rows ps is row) {m : Nat} {q : Int × Int} (hq : q ∈ pairsTo rows ps is m) : cel row q.1 = q.2 := by
  unfold pairsTo at hq
  obtain ⟨z, hz, hq⟩ := List.mem_flatMap.mp hq
  unfold pairsAt at hq
  obtain ⟨k, hk, rfl⟩ := List.mem_map.mp hq
  obtain ⟨j, hj, e⟩ := List.getElem_of_mem (List.mem_of_mem_take hz)
  rw [List.getElem_zip] at e
  have hl := List.length_zip (l₁ := ps) (l₂ := is)
  have j1 : j < ps.length := by rw [hl] at hj; omega
  have j2 : j < is.length := by rw [hl] at hj; omega
  rw [← e] at hk ⊢
  exact h.at_ j ps[j] is[j] (List.getElem?_eq_getElem j1) (List.getElem?_eq_getElem j2) k hk
theorem pairsTo_succ {rows ps : List (List Int)} {is : List Int} {m : Nat} {p : List Int} {i : Int} (h1 : ps[m]? = some p) (h2 : is[m]? = some i) : pairsTo rows ps is (m + 1) = pairsTo rows ps is m ++ pairsAt rows p i := by
  unfold pairsTo
  have : (ps.zip is)[m]? = some (p, i) := by rw [List.getElem?_zip_eq_some]; exact ⟨h1, h2⟩
  rw [List.take_add_one, this, List.flatMap_append]
  simp
structure PrtOk (n : Int) (ps : List (List Int)) : Prop where
  st : ∀ p ∈ ps, SetN n p
  cov : ∀ k, 0 ≤ k → k < n → ∃ p ∈ ps, k ∈ p
  two : 2 ≤ ps.length
  four : ps.length ≤ 4
theorem prt_ok {n : Int} {d : Dep} (h : DepN n d) (hc : d.cl ≠ .fd) : PrtOk n (prt n d) := by
  cases d with
  | fd l r => exact absurd rfl hc
  | jd ps => exact ⟨h.1, h.2.2.2, h.2.1, h.2.2.1⟩
  | mvd l r =>
    obtain ⟨hl, hr⟩ := h
    have s2 : SetN n ((rgI n).filter fun k => decide (k ∉ r)) := (SetN.rg n).filter _
    refine ⟨fun p hp => ?_, fun k h0 h1 => ?_, Nat.le_refl 2, by show 2 ≤ 4; decide⟩
    · rcases List.mem_cons.mp hp with e | hp
      · rw [e]
        exact SetN.sd fun k hk => (List.mem_append.mp hk).elim (hl.2 k) (hr.2 k)
      · rw [List.mem_singleton.mp hp]
        exact SetN.sd fun k hk => (List.mem_append.mp hk).elim (hl.2 k) (s2.2 k)
    · by_cases hk : k ∈ r
      · exact ⟨_, List.mem_cons_self, sdI_mem.mpr (List.mem_append_right _ hk)⟩
      · exact ⟨_, List.mem_cons_of_mem _ List.mem_cons_self, sdI_mem.mpr (List.mem_append_right _ (List.mem_filter.mpr ⟨rgI_mem.mpr ⟨h0, h1⟩, by simp [hk]⟩))⟩
theorem cel_map {n k : Int} {g : Int → Int} (h0 : 0 ≤ k) (h1 : k < n) : cel ((rgI n).map g) k = g k := by
  unfold cel
  rw [List.getD_eq_getElem?_getD, List.getElem?_map, rgI_get (by omega)]
  show g ((k.toNat : Nat) : Int) = g k
  rw [show ((k.toNat : Nat) : Int) = k by omega]
theorem cel_ext {n : Int} {x y : List Int} (hx : x.length = n.toNat) (hy : y.length = n.toNat) (h : ∀ k, 0 ≤ k → k < n → cel x k = cel y k) : x = y := by
  apply List.ext_getElem (by omega)
  intro i h1 h2
  have := h (i : Int) (by omega) (by omega)
  unfold cel at this
  rw [show ((i : Int)).toNat = i by omega, List.getD_eq_getElem?_getD, List.getD_eq_getElem?_getD, List.getElem?_eq_getElem h1, List.getElem?_eq_getElem h2] at this
  exact this
theorem len_rg {n : Int} {g : Int → Int} : ((rgI n).map g).length = n.toNat := by rw [List.length_map, rgI_len]
def phAj (s : Sl) (ds : List D) (q : Sl → D → Prop) : Prop := ∃ (n : Int) (d : Dep) (is : List Int) (ad dx L : Addr) (rs : List (Addr × List Int)), s = .rp ad dx L n rs ∧ ds = [depO d, rowD is] ∧ 0 ≤ n ∧ n ≤ 4 ∧ DepN n d ∧ RowsN n (rs.map (·.2)) ∧ rs.length ≤ 1000 ∧ is.length ≤ 1000 ∧
  (d.cl = .fd → q s (.bl false)) ∧ (d.cl ≠ .fd → (¬ ∃ row, JoinOk n (rs.map (·.2)) (prt n d) is row) → q s (.bl false)) ∧ (d.cl ≠ .fd → ∀ row, JoinOk n (rs.map (·.2)) (prt n d) is row → ∀ p, q (.rp ad dx L n (rs ++ [(p, row)])) (.bl true))
theorem rp_adrs_snoc {ad dx L : Addr} {n : Int} {rs : List (Addr × List Int)} {x : Addr × List Int} : ∀ a ∈ (Sl.rp ad dx L n rs).adrs, a ∈ (Sl.rp ad dx L n (rs ++ [x])).adrs := fun a ha => by
  simp only [Sl.adrs, List.map_append, List.mem_cons, List.mem_append] at ha ⊢
  rcases ha with h | h | h
  · exact .inl h
  · exact .inr (.inl h)
  · exact .inr (.inr (.inl h))
theorem ok_add_joined (M : MF mg) (C : CF K cA) (G : CG mg cA) (F : FD K "add_joined" "Replay.add_joined" s_Replay_add_joined f fd) (F1 : FnG P w K cA mg base "joined_parts_judgesteps" 3 phJp) (Hs : MtG P w K cA mg base .rp "has_row" 1 phHas) :
    FnOk P w K mg base CX0 4 f fd ["self", "dependency", "indexes"] (spS ⟨P, w, K, cA⟩ phAj) := by
  refine fn_okS F sc_Replay_add_joined (fun s ds q ⟨n, d, is, ad, dx, L, rs, h, e, _⟩ => by rw [e]; rfl) (by decide) (fun cdv A outer s0 H E s ds Qd hr ⟨n, d, is, ad, dx, L, rs, h, e, h0, hn, hd, hR, hz, hiz, q0, q1, q2⟩ => ?_)
  subst h
  subst e
  have rfalse : Qd (.rp ad dx L n rs) (.bl false) → ∀ {env : SEnv} {rest : List Stmt} {j' : Nat} {p p' : Pos} {P' : DEnd}, env[0]? = some (.rp ad dx L n rs) → P'.rt = (selfEnds (.rp ad dx L n rs) Qd).rt → DB (bx P w K mg base n_Replay_add_joined "Replay.add_joined" (defScope s_Replay_add_joined) f cdv A outer s0 H E) cA env (.Return (some (.Constant (.bool false) j' p)) p' :: rest) P' := by
    intro hnone env rest j' p p' P' he hP
    refine db_cons (ds_ret (de_bl ?_))
    show P'.rt env _
    rw [hP]
    exact ⟨rfl, _, he, rfl, fun a ha => ha, hnone⟩
  refine db_cons (ds_set 3 (de_call F1 hr (da_cons (de_viewRp 0 rfl (de_rpCnt C (de_var 0 rfl ⟨rfl, da_cons (de_var 1 rfl (da_nil ⟨n, d, rfl, h0, hn, hd, ?_⟩))⟩))))) sc_Replay_add_joined.nd)
  refine db_cons (ds_if (dt_bool (dw_or (dt_cmp (dc_isN (de_var 3 rfl ⟨_, rfl, ?_⟩))))))
  by_cases hfd : d.cl = .fd
  · rw [if_pos hfd]
    exact rfalse (q0 hfd) rfl rfl
  · rw [if_neg hfd]
    have po := prt_ok hd hfd
    generalize hps : prt n d = ps at *
    refine dw_or (dt_cmp (dc_ne (de_len M.len_ (de_var 2 rfl ⟨_, rfl, de_len M.len_ (de_var 3 rfl ⟨_, rfl, _, rfl, _, rfl, ?_⟩)⟩))))
    simp only [List.length_map]
    by_cases hl : is.length = ps.length
    · have hl' : (is.length : Int) = (ps.length : Int) := by omega
      simp only [hl', decide_true, Bool.not_true]
      refine dw_or1 (dt_not (dt_val (de_all rfl M.all_ (de_lcT (j := 6) rfl sc_Replay_add_joined.nd (blkOk_by (N := n_Replay_add_joined) (sc := defScope s_Replay_add_joined) (by decide +kernel)) (fun _ _ _ _ _ => pg_name (i := 6) sc_Replay_add_joined.nd rfl (by first | exact Or.inl rfl | exact Or.inr rfl)) (de_var 2 rfl ?_)))))
      refine ⟨Int, is, D.int, fun _ => true, fun i => .bl (inR (rs.map (·.2)) i), rfl, by omega, ⟨fun i hi _ _ _ _ _ => di_nil rfl, fun i hi _ _ _ _ _ _ => de_has 0 Hs C (hr.mono (by decide)) rfl (de_var 6 rfl ⟨i, rfl, rfl⟩)⟩, is.map (inR (rs.map (·.2))), by rw [filter_true, List.map_map]; rfl, _, rfl, ?_⟩
      by_cases hin : ((is.map (inR (rs.map (·.2)))).all id) = true
      · rw [hin]
        have hir : ∀ i ∈ is, inR (rs.map (·.2)) i = true := fun i hi => List.all_eq_true.mp hin _ (List.mem_map.mpr ⟨i, hi, rfl⟩)
        generalize hrows : rs.map (·.2) = rows at *
        have rl : rows.length = rs.length := by rw [← hrows, List.length_map]
        refine db_nil (db_cons (ds_newD 4 (fun dc => ?_) sc_Replay_add_joined.nd))
        refine db_cons (ds_forZip (j1 := 5) (j2 := 6) rfl M.zip_ (pg_name (i := 5) sc_Replay_add_joined.nd rfl (by first | exact Or.inl rfl | exact Or.inr rfl)) (pg_name (i := 6) sc_Replay_add_joined.nd rfl (by first | exact Or.inl rfl | exact Or.inr rfl)) (de_var 3 rfl (de_var 2 rfl ?_)))
        refine ⟨ps.map rowD, is.map D.int, fun m env' => ∃ (ks vs : List Int) (s5 s6 s7 s8 : Sl), env' = [.rp ad dx L n rs, .dat (depO d), .dat (rowD is), .dat (trowsD ps), .od dc ks (vs.map D.int), s5, s6, s7, s8] ∧ Cst ks vs (pairsTo rows ps is m) ∧ ks.length ≤ 4 * m, rfl, rfl, by simp [hl], ⟨[], [], .no, .no, .no, .no, rfl, Cst.nil, Nat.le_refl _⟩, ?_, ?_⟩
        · rintro m d1 d2 env' hd1 hd2 ⟨ks, vs, s5, s6, s7, s8, rfl, hC, hkl⟩
          rw [List.getElem?_map] at hd1 hd2
          obtain ⟨p, hp, rfl⟩ := Option.map_eq_some_iff.mp hd1
          obtain ⟨i, hi, rfl⟩ := Option.map_eq_some_iff.mp hd2
          have pset := po.st p (List.mem_of_getElem? hp)
          have p4 := pset.in64 hn
          have hinr := inR_iff.mp (hir i (List.mem_of_getElem? hi))
          have hml : m < 4 := by have := (List.getElem?_eq_some_iff.mp hp).1; have := po.four; omega
          have succ := pairsTo_succ (rows := rows) hp hi
          have rlen : (rowAt rows i).length = n.toNat := hR.getD (by omega)
          have gr : rows[i.toNat]? = some (rowAt rows i) := by show _ = some (rows.getD i.toNat []); rw [List.getD_eq_getElem?_getD, List.getElem?_eq_getElem (by omega : i.toNat < rows.length)]; rfl
          refine db_cons (ds_forT rfl (pg_name (i := 7) sc_Replay_add_joined.nd rfl (by first | exact Or.inl rfl | exact Or.inr rfl)) (de_var 5 rfl ?_))
          refine ⟨p.map D.int, fun z env' => ∃ (ks vs : List Int) (s7 s8 : Sl), env' = [.rp ad dx L n rs, .dat (depO d), .dat (rowD is), .dat (trowsD ps), .od dc ks (vs.map D.int), .dat (rowD p), .dat (.int i), s7, s8] ∧ Cst ks vs (pairsTo rows ps is m ++ (pairsAt rows p i).take z) ∧ ks.length ≤ 4 * m + z, rfl, ⟨ks, vs, s7, s8, rfl, by simpa using hC, by omega⟩, ?_, ?_⟩
          · rintro z dk env' hz' ⟨ks, vs, s7, s8, rfl, hC, hkl⟩
            rw [List.getElem?_map] at hz'
            obtain ⟨k, hk, rfl⟩ := Option.map_eq_some_iff.mp hz'
            have kk := pset.2 k (List.mem_of_getElem? hk)
            have hzl : z < p.length := (List.getElem?_eq_some_iff.mp hk).1
            have tk : (pairsAt rows p i).take (z + 1) = (pairsAt rows p i).take z ++ [(k, cel (rowAt rows i) k)] := by
              rw [List.take_add_one]
              unfold pairsAt
              rw [List.getElem?_map, hk]
              rfl
            have bad : ∀ u : Int, (k, u) ∈ pairsTo rows ps is m ++ (pairsAt rows p i).take z → u ≠ cel (rowAt rows i) k → ¬ ∃ row, JoinOk n rows ps is row := by
              rintro u hu hne ⟨row, jo⟩
              have e1 := jo.at_ m p i hp hi k (List.mem_of_getElem? hk)
              have e2 : cel row k = u := by
                rcases List.mem_append.mp hu with h | h
                · exact jo.pairs h
                · have : (k, u) ∈ pairsTo rows ps is (m + 1) := by rw [succ]; exact List.mem_append_right _ (List.mem_of_mem_take h)
                  exact jo.pairs this
              exact hne (e2.symm.trans e1)
            refine db_cons (ds_set 8 (de_viewRp 0 rfl (de_ix (fun _ _ => rfl) (de_ix (fun _ _ => rfl) (de_rpRows C (de_var 0 rfl (de_var 6 rfl ⟨lrowD (rowAt rows i), ?_, de_var 7 rfl (ix_in (.inr rfl) kk.1 (by omega) ⟨rfl, ?_⟩)⟩)))))) sc_Replay_add_joined.nd)
            · rw [hrows, at_of (j := i.toNat) hinr.1 rfl (by simp; omega)]
              rw [List.getElem_map]
              have := (List.getElem?_eq_some_iff.mp gr).2
              rw [this]
            · refine db_cons (ds_ifSdI 4 (by have := hr.un; omega) rfl (by omega) (de_var 7 rfl (de_var 8 rfl ⟨k, cel (rowAt rows i) k, rfl, rfl, ?_, ?_⟩)))
              · intro j u h1 h2
                refine de_var 8 rfl ⟨_, rfl, ?_⟩
                by_cases hu : u = cel (rowAt rows i) k
                · rw [if_neg (by simp [hu])]
                  refine db_nil (db_nil ⟨ks, vs, _, _, rfl, ?_, by omega⟩)
                  rw [tk, ← List.append_assoc]
                  exact hC.old h1 (by rw [h2, hu])
                · rw [if_pos hu]
                  exact rfalse (q1 hfd (bad u (hC.to j k u h1 h2) hu)) rfl rfl
              · intro hk'
                refine de_var 8 rfl ⟨_, rfl, ?_⟩
                rw [if_neg (by simp)]
                refine db_nil (db_nil ⟨ks ++ [k], vs ++ [cel (rowAt rows i) k], _, _, rfl, ?_, by simp; omega⟩)
                rw [tk, ← List.append_assoc]
                exact hC.new hk'
          · rintro env' ⟨ks, vs, s7, s8, rfl, hC, hkl⟩
            refine db_nil ⟨ks, vs, _, _, s7, s8, rfl, ?_, ?_⟩
            · rw [succ]
              have : (pairsAt rows p i).take (p.map D.int).length = pairsAt rows p i := by rw [List.length_map]; unfold pairsAt; rw [← List.map_take, List.take_length]
              rw [this] at hC
              exact hC
            · rw [List.length_map] at hkl
              omega
        · rintro env' ⟨ks, vs, s5, s6, s7, s8, rfl, hC, hkl⟩
          rw [List.length_map] at hC
          have hzl : (ps.zip is).length = ps.length := by rw [List.length_zip]; omega
          have memS : ∀ (m : Nat) p i, ps[m]? = some p → is[m]? = some i → ∀ k ∈ p, (k, cel (rowAt rows i) k) ∈ pairsTo rows ps is ps.length := by
            intro m p i h1 h2 k hk
            unfold pairsTo
            refine List.mem_flatMap.mpr ⟨(p, i), ?_, List.mem_map.mpr ⟨k, hk, rfl⟩⟩
            rw [← hzl, List.take_length]
            refine List.mem_of_getElem? (i := m) ?_
            rw [List.getElem?_zip_eq_some]
            exact ⟨h1, h2⟩
          have get : ∀ k, 0 ≤ k → k < n → ∃ (j : Nat) (v : Int), ks[j]? = some k ∧ vs[j]? = some v := by
            intro k k0 k1
            obtain ⟨p, hp, hk⟩ := po.cov k k0 k1
            obtain ⟨m, hm, rfl⟩ := List.getElem_of_mem hp
            have hm2 : m < is.length := by omega
            obtain ⟨j, j1, j2⟩ := hC.of _ (memS m ps[m] is[m] (List.getElem?_eq_getElem hm) (List.getElem?_eq_getElem hm2) k hk)
            exact ⟨j, _, j1, j2⟩
          have gx : ∃ g : Int → Int, ∀ k, 0 ≤ k → k < n → ∃ j : Nat, ks[j]? = some k ∧ vs[j]? = some (g k) := by
            refine ⟨fun k => if h : 0 ≤ k ∧ k < n then (get k h.1 h.2).choose_spec.choose else 0, fun k k0 k1 => ?_⟩
            simp only [dif_pos (show 0 ≤ k ∧ k < n from ⟨k0, k1⟩)]
            exact ⟨(get k k0 k1).choose, (get k k0 k1).choose_spec.choose_spec⟩
          obtain ⟨g, hg⟩ := gx
          have jo : JoinOk n rows ps is ((rgI n).map g) := by
            refine ⟨hl, hir, len_rg, fun m p i h1 h2 k hk => ?_⟩
            have kk := (po.st p (List.mem_of_getElem? h1)).2 k hk
            rw [cel_map kk.1 kk.2]
            obtain ⟨j, j1, j2⟩ := hg k kk.1 kk.2
            obtain ⟨j', i1, i2⟩ := hC.of _ (memS m p i h1 h2 k hk)
            have : j = j' := by
              have jl := (List.getElem?_eq_some_iff.mp j1)
              have il := (List.getElem?_eq_some_iff.mp i1)
              rcases Nat.lt_trichotomy j j' with h | h | h
              · exact absurd (jl.2.trans il.2.symm) (List.pairwise_iff_getElem.mp hC.nd j j' jl.1 il.1 h)
              · exact h
              · exact absurd (il.2.trans jl.2.symm) (List.pairwise_iff_getElem.mp hC.nd j' j il.1 jl.1 h)
            subst this
            rw [j2] at i2
            exact Option.some.inj i2
          refine db_cons (ds_rowsAppend 0 C rfl (by omega) (df_lcR (j := 7) rfl sc_Replay_add_joined.nd (blkOk_by (N := n_Replay_add_joined) (sc := defScope s_Replay_add_joined) (by decide +kernel)) (fun _ _ _ _ _ => pg_name (i := 7) sc_Replay_add_joined.nd rfl (by first | exact Or.inl rfl | exact Or.inr rfl)) M.range_ (de_viewRp 0 rfl (de_rpCnt C (de_var 0 rfl ⟨rfl, n, g, rfl, h0, by omega, ⟨fun k hk _ _ _ _ _ => di_nil rfl, fun k hk _ _ _ _ _ _ => de_dgetO 4 (room1 hr) rfl (fun _ _ => rfl) (de_var 7 rfl ?_)⟩, fun x => ?_⟩)))) rfl)
          · obtain ⟨j, j1, j2⟩ := hg k (rgI_mem.mp hk).1 (rgI_mem.mp hk).2
            exact ⟨k, j, .int (g k), rfl, j1, by rw [List.getElem?_map, j2]; rfl, rfl⟩
          · exact db_cons (ds_ret (de_bl ⟨rfl, _, rfl, rfl, rp_adrs_snoc, q2 hfd _ jo x⟩))
      · have hin : ((is.map (inR (rs.map (·.2)))).all id) = false := by simpa using hin
        rw [hin]
        refine rfalse (q1 hfd ?_) rfl rfl
        rintro ⟨row, jo⟩
        have : ((is.map (inR (rs.map (·.2)))).all id) = true := List.all_eq_true.mpr fun b hb => by
          obtain ⟨i, hi, rfl⟩ := List.mem_map.mp hb
          exact jo.ir i hi
        rw [this] at hin
        cases hin
    · have hl' : ¬ (is.length : Int) = (ps.length : Int) := by omega
      simp only [hl', decide_false, Bool.not_false]
      exact rfalse (q1 hfd fun ⟨row, jo⟩ => hl jo.ln) rfl rfl
end

end DD
namespace DD
open PySem PySem.Spec PyProof.Rows L2
local macro_rules | `(tactic| walk_at "v") => `(tactic| first | refine de_var 0 rfl ?_ | refine de_var 1 rfl ?_ | refine de_var 2 rfl ?_ | refine de_var 3 rfl ?_ | refine de_var 4 rfl ?_ | refine de_var 5 rfl ?_ | refine de_var 6 rfl ?_ | refine de_var 7 rfl ?_ | refine de_var 8 rfl ?_ | refine de_var 9 rfl ?_ | refine de_var 10 rfl ?_ | refine de_var 11 rfl ?_)
local macro_rules | `(tactic| walk_at "i") => `(tactic| refine de_ix (fun _ _ => rfl) ?_)
local macro_rules | `(tactic| walk_at "e") => `(tactic| first
  | walk_at "v" | refine de_int ?_ | refine de_str ?_ | refine de_bl ?_ | refine de_non ?_
  | refine da_nil ?_ | refine da_cons ?_
  | refine de_add ?_ | refine de_sub ?_ | refine de_mul ?_ | refine de_fdiv ?_ | refine de_mod ?_ | refine de_pow ?_
  | refine de_tup ?_ | refine de_lst ?_ | refine de_not ?_ | refine dt_not ?_
  | refine de_and ?_ | refine de_or ?_ | refine de_one ?_
  | refine dc_lt ?_ | refine dc_le ?_ | refine dc_gt ?_ | refine dc_ge ?_ | refine dc_isN ?_ | refine dc_notN ?_)
section
variable {P : Program} {w : World} {K : PySem.W.Frag} {cA : Cl → Addr} {mg : Str → Option Value} {base : Heap} {f : Addr} {fd : FuncData}
/-! ### take, chases -/
def StepR (n : Int) (deps : List Dep) (rows : List (List Int)) : Stp → List (List Int) → Prop
  | .same ix i j k, rows' => ∃ d, 0 ≤ ix ∧ deps[ix.toNat]? = some d ∧ mkR rows i j k d = some rows'
  | .join ix is, rows' => ∃ d row, 0 ≤ ix ∧ deps[ix.toNat]? = some d ∧ d.cl ≠ .fd ∧ JoinOk n rows (prt n d) is row ∧ rows' = rows ++ [row]
def RunR (n : Int) (deps : List Dep) : List (List Int) → List Stp → List (List Int) → Prop
  | rows, [], r' => r' = rows
  | rows, st :: sts, r' => ∃ r1, StepR n deps rows st r1 ∧ RunR n deps r1 sts r'
theorem JoinOk.det {n : Int} {rows ps : List (List Int)} {is x y : List Int} (po : PrtOk n ps) (h1 : JoinOk n rows ps is x) (h2 : JoinOk n rows ps is y) : x = y := by
  refine cel_ext h1.rl h2.rl fun k k0 k1 => ?_
  obtain ⟨p, hp, hk⟩ := po.cov k k0 k1
  obtain ⟨m, hm, rfl⟩ := List.getElem_of_mem hp
  have hm2 : m < is.length := by rw [h1.ln]; exact hm
  rw [h1.at_ m ps[m] is[m] (List.getElem?_eq_getElem hm) (List.getElem?_eq_getElem hm2) k hk, h2.at_ m ps[m] is[m] (List.getElem?_eq_getElem hm) (List.getElem?_eq_getElem hm2) k hk]
theorem StepR.det {n : Int} {deps : List Dep} (hD : ∀ d ∈ deps, DepN n d) {rows r1 r2 : List (List Int)} {st : Stp} (h1 : StepR n deps rows st r1) (h2 : StepR n deps rows st r2) : r1 = r2 := by
  cases st with
  | same ix i j k =>
    obtain ⟨d, _, e1, e2⟩ := h1
    obtain ⟨d', _, f1, f2⟩ := h2
    rw [e1] at f1
    cases f1
    rw [e2] at f2
    exact Option.some.inj f2
  | join ix is =>
    obtain ⟨d, x, _, e1, ec, jx, rfl⟩ := h1
    obtain ⟨d', y, _, f1, _, jy, rfl⟩ := h2
    rw [e1] at f1
    cases f1
    rw [jx.det (prt_ok (hD d (List.mem_of_getElem? e1)) ec) jy]
theorem RunR.snoc {n : Int} {deps : List Dep} {st : Stp} : ∀ {sts : List Stp} {rows r1 r2 : List (List Int)}, RunR n deps rows sts r1 → StepR n deps r1 st r2 → RunR n deps rows (sts ++ [st]) r2
  | [], rows, r1, r2, h, s => by cases h; exact ⟨r2, s, rfl⟩
  | _ :: sts, rows, r1, r2, ⟨r0, h0, h⟩, s => ⟨r0, h0, RunR.snoc h s⟩
theorem RunR.split {n : Int} {deps : List Dep} {more : List Stp} : ∀ {sts : List Stp} {rows r2 : List (List Int)}, RunR n deps rows (sts ++ more) r2 → ∃ r1, RunR n deps rows sts r1 ∧ RunR n deps r1 more r2
  | [], rows, r2, h => ⟨rows, rfl, h⟩
  | _ :: sts, rows, r2, ⟨r0, h0, h⟩ => by
    obtain ⟨r1, a, b⟩ := RunR.split h
    exact ⟨r1, ⟨r0, h0, a⟩, b⟩
theorem RunR.det {n : Int} {deps : List Dep} (hD : ∀ d ∈ deps, DepN n d) : ∀ {sts : List Stp} {rows r1 r2 : List (List Int)}, RunR n deps rows sts r1 → RunR n deps rows sts r2 → r1 = r2
  | [], rows, r1, r2, h1, h2 => by rw [show r1 = rows from h1, show r2 = rows from h2]
  | _ :: sts, rows, r1, r2, ⟨a, a1, a2⟩, ⟨b, b1, b2⟩ => by
    have := StepR.det hD a1 b1
    subst this
    exact RunR.det hD a2 b2
theorem sameR_some {rows : List (List Int)} {l r : List Int} {i j k : Int} {r1 : List (List Int)} (h : sameR rows l r i j k = some r1) :
    (inR rows i = true ∧ inR rows j = true ∧ k ∈ r ∧ agr (rows.getD i.toNat []) (rows.getD j.toNat []) l = true ∧ cel (rows.getD i.toNat []) k ≠ cel (rows.getD j.toNat []) k) ∧
    r1 = rows.map (lowR k (min (cel (rows.getD i.toNat []) k) (cel (rows.getD j.toNat []) k)) (max (cel (rows.getD i.toNat []) k) (cel (rows.getD j.toNat []) k))) := by
  unfold sameR at h
  by_cases hc : inR rows i = true ∧ inR rows j = true ∧ k ∈ r ∧ agr (rows.getD i.toNat []) (rows.getD j.toNat []) l = true ∧ cel (rows.getD i.toNat []) k ≠ cel (rows.getD j.toNat []) k
  · rw [if_pos hc] at h
    exact ⟨hc, (Option.some.inj h).symm⟩
  · rw [if_neg hc] at h
    cases h
theorem lowR_len (k lo hi : Int) (r : List Int) : (lowR k lo hi r).length = r.length := by
  unfold lowR
  split
  · rw [List.length_set]
  · rfl
theorem StepR.rows {n : Int} {deps : List Dep} {rows r1 : List (List Int)} {st : Stp} (h : StepR n deps rows st r1) (hR : RowsN n rows) : RowsN n r1 ∧ rows.length ≤ r1.length ∧ r1.length ≤ rows.length + 1 := by
  cases st with
  | same ix i j k =>
    obtain ⟨d, _, _, e⟩ := h
    cases d with
    | fd l r =>
      obtain ⟨_, rfl⟩ := sameR_some (show sameR rows l r i j k = some r1 from e)
      refine ⟨fun x hx => ?_, by rw [List.length_map]; omega, by rw [List.length_map]; omega⟩
      obtain ⟨y, hy, rfl⟩ := List.mem_map.mp hx
      rw [lowR_len]
      exact hR y hy
    | mvd l r => cases e
    | jd ps => cases e
  | join ix is =>
    obtain ⟨d, x, _, _, _, jx, rfl⟩ := h
    refine ⟨fun y hy => ?_, by simp, by simp⟩
    rcases List.mem_append.mp hy with h | h
    · exact hR y h
    · rw [List.mem_singleton.mp h]; exact jx.rl
theorem RunR.rows {n : Int} {deps : List Dep} : ∀ {sts : List Stp} {rows r1 : List (List Int)}, RunR n deps rows sts r1 → RowsN n rows → RowsN n r1 ∧ rows.length ≤ r1.length ∧ r1.length ≤ rows.length + sts.length
  | [], rows, r1, h, hR => by cases h; exact ⟨hR, Nat.le_refl _, Nat.le_refl _⟩
  | st :: sts, rows, r1, ⟨a, a1, a2⟩, hR => by
    obtain ⟨h1, h2, h3⟩ := a1.rows hR
    obtain ⟨g1, g2, g3⟩ := RunR.rows a2 h1
    exact ⟨g1, by omega, by simp; omega⟩
def StpOk : Stp → Prop
  | .same _ _ _ _ => True
  | .join _ is => is.length ≤ 1000
def phTake (s : Sl) (ds : List D) (q : Sl → D → Prop) : Prop := ∃ (n : Int) (deps : List Dep) (st : Stp) (ad dx L : Addr) (rs : List (Addr × List Int)), s = .rp ad dx L n rs ∧ ds = [.lst (deps.map depO), stD st] ∧ 0 ≤ n ∧ n ≤ 4 ∧ (∀ d ∈ deps, DepN n d) ∧ RowsN n (rs.map (·.2)) ∧ rs.length ≤ 1000 ∧ StpOk st ∧
  ((¬ ∃ rows', StepR n deps (rs.map (·.2)) st rows') → q s (.bl false)) ∧ ∀ rows', StepR n deps (rs.map (·.2)) st rows' → ∀ rs' : List (Addr × List Int), rs'.map (·.2) = rows' → (∀ a ∈ (Sl.rp ad dx L n rs).adrs, a ∈ (Sl.rp ad dx L n rs').adrs) → q (.rp ad dx L n rs') (.bl true)
theorem ok_take (M : MF mg) (C : CF K cA) (F : FD K "take" "Replay.take" s_Replay_take f fd) (H1 : MsG P w K cA mg base .rp "make_same" 2 phMk) (H2 : MsG P w K cA mg base .rp "add_joined" 4 phAj) :
    FnOk P w K mg base CX0 5 f fd ["self", "dependencies", "step"] (spS ⟨P, w, K, cA⟩ phTake) := by
  refine fn_okS F sc_Replay_take (fun s ds q ⟨n, deps, st, ad, dx, L, rs, h, e, _⟩ => by rw [e]; rfl) (by decide) (fun cdv A outer s0 H E s ds Qd hr ⟨n, deps, st, ad, dx, L, rs, h, e, h0, hn, hD, hR, hz, hst, q1, q2⟩ => ?_)
  subst h
  subst e
  have fin : ∀ (rows' : List (List Int)) (rs' : List (Addr × List Int)) d, flat d = true → Qd (.rp ad dx L n rs') d → (∀ a ∈ (Sl.rp ad dx L n rs).adrs, a ∈ (Sl.rp ad dx L n rs').adrs) → ∀ {env : SEnv}, env[0]? = some (.rp ad dx L n rs') → (selfEnds (.rp ad dx L n rs) Qd).rt env d := fun rows' rs' d hf hq ha env he => ⟨hf, _, he, rfl, ha, hq⟩
  have at1 : ∀ {Q : D → Prop}, (∀ ix, (match st with | .same ix _ _ _ => ix | .join ix _ => ix) = ix → Q (.int ix)) → ixD (stD st) (.int 1) Q := fun {Q} h => by
    cases st <;> exact ⟨_, rfl, h _ rfl⟩
  have hrt : Qd (.rp ad dx L n rs) (.bl false) → ∀ {env : SEnv} {rest : List Stmt} {j' : Nat} {p p' : Pos} {P' : DEnd}, env[0]? = some (.rp ad dx L n rs) → P'.rt = (selfEnds (.rp ad dx L n rs) Qd).rt → DB (bx P w K mg base n_Replay_take "Replay.take" (defScope s_Replay_take) f cdv A outer s0 H E) cA env (.Return (some (.Constant (.bool false) j' p)) p' :: rest) P' := by
    intro hq env rest j' p p' P' he hP
    refine db_cons (ds_ret (de_bl ?_))
    show P'.rt env _
    rw [hP]
    exact ⟨rfl, _, he, rfl, fun a ha => ha, hq⟩
  refine db_cons (ds_if (dt_not (dt_chain ?_)))
  walk_at "e"
  walk_at "i"
  walk_at "e"
  walk_at "e"
  refine at1 fun ix hix => ⟨0, ix, rfl, rfl, ?_⟩
  have bad : ¬ (0 ≤ ix ∧ ix < deps.length) → Qd (.rp ad dx L n rs) (.bl false) := fun hb => q1 fun ⟨rows', hs⟩ => hb (by
    cases st with
    | same ix' i j k =>
      obtain ⟨d, g1, g2, _⟩ := hs
      have := (List.getElem?_eq_some_iff.mp g2).1
      have : ix' = ix := hix
      omega
    | join ix' is =>
      obtain ⟨d, _, g1, g2, _⟩ := hs
      have := (List.getElem?_eq_some_iff.mp g2).1
      have : ix' = ix := hix
      omega)
  by_cases h1 : 0 ≤ ix
  · rw [if_pos h1]
    refine de_len M.len_ (de_var 1 rfl ⟨_, rfl, _, rfl, ?_⟩)
    by_cases h2 : ix < deps.length
    · have h2' : decide (ix < ((deps.map depO).length : Int)) = true := by simp [h2]
      rw [h2']
      have gd : deps[ix.toNat]? = some deps[ix.toNat] := List.getElem?_eq_getElem (by omega)
      generalize hd : deps[ix.toNat] = d at *
      have hdN := hD d (List.mem_of_getElem? gd)
      have e0 : ∀ {Q : D → Prop}, Q (depO d) → ixD (.lst (deps.map depO)) (.int ix) Q := fun {Q} h => ⟨_, at_of (j := ix.toNat) h1 rfl (by simp; omega), by rw [List.getElem_map, hd]; exact h⟩
      refine db_nil (db_cons (ds_set 3 ?_ sc_Replay_take.nd))
      walk_at "i"
      walk_at "e"
      walk_at "i"
      walk_at "e"
      walk_at "e"
      refine at1 fun ix' hix' => ?_
      have : ix' = ix := hix'.symm.trans hix
      subst this
      refine e0 ?_
      refine db_cons (ds_if (dt_cmp (dc_eq (de_ix (fun _ _ => rfl) (de_var 2 rfl (de_int ?_))))))
      cases st with
      | same ix i j k =>
        have : ix = ix' := hix
        subst this
        refine ⟨_, rfl, de_str ⟨true, rfl, _, rfl, ?_⟩⟩
        refine db_cons (ds_retM 0 H1 C (hr.mono (by decide)) rfl ?_ (by decide))
        refine da_cons (de_var 3 rfl (da_cons (de_ix (fun _ _ => rfl) (de_var 2 rfl (de_int ⟨_, rfl, da_cons (de_ix (fun _ _ => rfl) (de_var 2 rfl (de_int ⟨_, rfl, da_cons (de_ix (fun _ _ => rfl) (de_var 2 rfl (de_int ⟨_, rfl, da_nil ?_⟩)))⟩)))⟩)))))
        refine ⟨n, d, i, j, k, ad, dx, L, rs, rfl, rfl, h0, hn, hdN, hR, fun hnone => fin [] rs _ rfl (q1 ?_) (fun a ha => ha) rfl, fun rows' hsome rs' hf hs => ?_⟩
        · rintro ⟨rows', d', _, g2, g3⟩
          rw [gd] at g2
          cases g2
          rw [hnone] at g3
          cases g3
        · have had : ∀ a ∈ (Sl.rp ad dx L n rs).adrs, a ∈ (Sl.rp ad dx L n rs').adrs := fun a ha => by
            show a ∈ ad :: L :: rs'.map (·.1)
            rw [hf]
            exact ha
          exact fin rows' rs' _ rfl (q2 rows' ⟨d, h1, gd, hsome⟩ rs' hs had) had rfl
      | join ix is =>
        have : ix = ix' := hix
        subst this
        refine ⟨_, rfl, de_str ⟨false, rfl, _, rfl, ?_⟩⟩
        refine db_nil (db_cons (ds_retM 0 H2 C hr rfl ?_ (by decide)))
        refine da_cons (de_var 3 rfl (da_cons (de_ix (fun _ _ => rfl) (de_var 2 rfl (de_int ⟨_, rfl, da_nil ?_⟩)))))
        refine ⟨n, d, is, ad, dx, L, rs, rfl, rfl, h0, hn, hdN, hR, hz, hst, fun hfd => fin [] rs _ rfl (q1 ?_) (fun a ha => ha) rfl, fun hfd hno => fin [] rs _ rfl (q1 ?_) (fun a ha => ha) rfl, fun hfd row jo p => fin [] _ _ rfl (q2 _ ⟨d, row, h1, gd, hfd, jo, rfl⟩ _ (by rw [List.map_append]; rfl) rp_adrs_snoc) rp_adrs_snoc rfl⟩
        · rintro ⟨rows', d', row, _, g2, g3, _⟩
          rw [gd] at g2
          cases g2
          exact g3 hfd
        · rintro ⟨rows', d', row, _, g2, g3, g4, _⟩
          rw [gd] at g2
          cases g2
          exact hno ⟨row, g4⟩
    · have h2' : decide (ix < ((deps.map depO).length : Int)) = false := by simp; omega
      rw [h2']
      exact hrt (bad fun z => h2 z.2) rfl rfl
  · rw [if_neg h1]
    exact hrt (bad fun z => h1 z.1) rfl rfl
def phCh (ds : List D) (q : D → Prop) : Prop := ∃ (n : Int) (deps : List Dep) (t : Dep) (sts : List Stp), ds = [.int n, .lst (deps.map depO), depO t, .tup (sts.map stD)] ∧ 0 ≤ n ∧ n ≤ 4 ∧ (∀ d ∈ deps, DepN n d) ∧ DepN n t ∧ (∀ st ∈ sts, StpOk st) ∧ sts.length ≤ 100 ∧
  ((¬ ∃ rows', RunR n deps (firstR n t) sts rows') → q (.bl false)) ∧ ∀ rows', RunR n deps (firstR n t) sts rows' → q (.bl (reachB n rows' t))
theorem first_rows_ok {n : Int} {t : Dep} (h0 : 0 ≤ n) (h : DepN n t) : RowsN n (firstR n t) ∧ 2 ≤ (firstR n t).length ∧ (firstR n t).length ≤ 4 := by
  have two : ∀ l, RowsN n [zeroR n, markR n l] := fun l r hr => by
    rcases List.mem_cons.mp hr with e | hr
    · rw [e]; unfold zeroR; rw [List.length_replicate]
    · rw [List.mem_singleton.mp hr]; exact len_rg
  cases t with
  | fd l r => exact ⟨two l, Nat.le_refl 2, by show 2 ≤ 4; decide⟩
  | mvd l r => exact ⟨two l, Nat.le_refl 2, by show 2 ≤ 4; decide⟩
  | jd ps =>
    have hl : (firstR n (.jd ps)).length = ps.length := by unfold firstR; rw [List.length_map, List.length_range]
    rw [hl]
    refine ⟨fun r hr => ?_, h.2.1, h.2.2.1⟩
    unfold firstR at hr
    obtain ⟨i, _, rfl⟩ := List.mem_map.mp hr
    exact len_rg
theorem ok_chases (M : MF mg) (C : CF K cA) (F : FD K "chases" "chases" s_chases f fd) (H0 : MkG P w K cA mg base "Replay" .rp 2 phRp) (H1 : MsG P w K cA mg base .rp "take" 5 phTake) (H2 : MtG P w K cA mg base .rp "reached" 3 phReach) :
    FnOk P w K mg base CX0 6 f fd ["count", "dependencies", "target", "steps"] (spD ⟨P, w, K, cA⟩ phCh) := by
  refine fn_ok F sc_chases (fun ds q ⟨n, deps, t, sts, h, _⟩ => by rw [h]; rfl) (by decide) (fun cdv A outer s0 H E ds Qd hr ⟨n, deps, t, sts, e, h0, hn, hD, ht, hst, hz, q1, q2⟩ => ?_)
  subst e
  obtain ⟨f1, f2, f3⟩ := first_rows_ok h0 ht
  refine db_cons (ds_newRp 4 H0 (hr.mono (by decide)) (da_cons (de_var 0 rfl (da_cons (de_var 2 rfl (da_nil fun ad dx => ⟨n, t, ad, dx, rfl, rfl, h0, hn, ht, fun L rs hrs => ⟨rfl, ⟨L, n, rs, rfl⟩, ?_⟩⟩))))) sc_chases.nd)
  refine db_cons (ds_forT rfl (pg_name (i := 5) sc_chases.nd rfl (by first | exact Or.inl rfl | exact Or.inr rfl)) (de_var 3 rfl ?_))
  refine ⟨sts.map stD, fun m env' => ∃ (rs : List (Addr × List Int)) (s5 : Sl), env' = [.dat (.int n), .dat (.lst (deps.map depO)), .dat (depO t), .dat (.tup (sts.map stD)), .rp ad dx L n rs, s5] ∧ RunR n deps (firstR n t) (sts.take m) (rs.map (·.2)), rfl, ⟨rs, .no, rfl, by rw [hrs, List.take_zero]; rfl⟩, ?_, ?_⟩
  · rintro m d env' hd ⟨rs, s5, rfl, hrun⟩
    rw [List.getElem?_map] at hd
    obtain ⟨st, hs, rfl⟩ := Option.map_eq_some_iff.mp hd
    obtain ⟨g1, g2, g3⟩ := hrun.rows f1
    have hml : m < sts.length := (List.getElem?_eq_some_iff.mp hs).1
    have tk : sts.take (m + 1) = sts.take m ++ [st] := by rw [List.take_add_one, hs]; rfl
    have rl : rs.length ≤ 1000 := by rw [List.length_map] at g3; have := List.length_take_le m sts; omega
    refine db_cons (ds_ifNotM 4 H1 C hr rfl (da_cons (de_var 1 rfl (da_cons (de_var 5 rfl (da_nil ?_))))) (by decide))
    refine ⟨n, deps, st, ad, dx, L, rs, rfl, rfl, h0, hn, hD, g1, rl, hst st (List.mem_of_getElem? hs), fun hno => ⟨false, rfl, ?_⟩, fun rows' hs' rs' hrs' _ => ⟨true, rfl, ?_⟩⟩
    · refine db_cons (ds_ret (de_bl (q1 ?_)))
      rintro ⟨rowsF, hF⟩
      rw [← List.take_append_drop (m + 1) sts, tk, List.append_assoc] at hF
      obtain ⟨r1, a, b⟩ := hF.split
      rw [RunR.det hD a hrun] at b
      obtain ⟨r2, b1, _⟩ := b
      exact hno ⟨r2, b1⟩
    · refine db_nil (db_nil ⟨rs', _, rfl, ?_⟩)
      rw [tk, hrs']
      exact hrun.snoc hs'
  · rintro env' ⟨rs, s5, rfl, hrun⟩
    rw [List.length_map, List.take_length] at hrun
    obtain ⟨g1, g2, g3⟩ := hrun.rows f1
    refine db_cons (ds_ret (de_viewRp 4 rfl (de_meth (k := .rp) H2 C (hr.mono (by decide)) (de_var 4 rfl ⟨_, rfl, da_cons (de_var 2 rfl (da_nil ⟨n, rs.map (·.2), t, rfl, h0, hn, ht, g1, by omega, by omega, rfl, q2 _ hrun⟩))⟩) (fun xs hl => by obtain ⟨u, v, rfl⟩ := two_of hl; exact rp_look (by decide) u v))))
end

end DD
namespace DD
open PySem PySem.Spec PyProof.Rows L2
section
variable {P : Program} {w : World} {K : PySem.W.Frag} {cA : Cl → Addr} {mg : Str → Option Value} {base : Heap} {f : Addr} {fd : FuncData}
/-! ### tables -/
def tabD (cs : List Int) (rows : List (List Int)) : D := .obj .tab [rowD cs, trowsD rows]
def pk (cs row cols : List Int) : List Int := cols.map fun k => row.getD (cs.idxOf k) 0
def Inc (cs : List Int) : Prop := cs.Pairwise (· < ·)
theorem idx_of {cs : List Int} {k : Int} (hc : Inc cs) (hk : k ∈ cs) : cs[cs.idxOf k]? = some k ∧ ∀ m, m < cs.idxOf k → cs[m]? ≠ some k := by
  have hl : cs.idxOf k < cs.length := List.idxOf_lt_length_of_mem hk
  have he : cs[cs.idxOf k] = k := List.getElem_idxOf hl
  refine ⟨by rw [List.getElem?_eq_getElem hl, he], fun m hm h => ?_⟩
  obtain ⟨hml, hme⟩ := List.getElem?_eq_some_iff.mp h
  have := List.pairwise_iff_getElem.mp hc m (cs.idxOf k) hml hl hm
  rw [hme, he] at this
  exact absurd this (Int.lt_irrefl _)
theorem at_getD {r : List Int} {j : Nat} (h : j < r.length) {Q : D → Prop} (q : Q (.int (r.getD j 0))) : ixD (rowD r) (.int (j : Int)) Q := by
  refine ⟨_, at_of (j := j) (by omega) (by omega) (by simpa using h), ?_⟩
  have : (r.map D.int)[j]'(by simpa using h) = .int (r.getD j 0) := by rw [List.getElem_map, List.getD_eq_getElem?_getD, List.getElem?_eq_getElem h]; rfl
  rw [this]
  exact q
def phCells (ds : List D) (q : D → Prop) : Prop := ∃ (cs : List Int) (rows : List (List Int)) (row cols : List Int), ds = [tabD cs rows, rowD row, rowD cols] ∧ Inc cs ∧ row.length = cs.length ∧ cols.length ≤ 1000 ∧ (∀ k ∈ cols, k ∈ cs) ∧ q (rowD (pk cs row cols))
theorem ok_cells (M : MF mg) (C : CF K cA) (F : FD K "cells" "Table.cells" s_Table_cells f fd) : FnOk P w K mg base CX0 1 f fd ["self", "row", "columns"] (spD ⟨P, w, K, cA⟩ phCells) := by
  refine fn_ok F sc_Table_cells (fun ds q ⟨cs, rows, row, cols, h, _⟩ => by rw [h]; rfl) (by decide) (fun cdv A outer s0 H E ds Qd hr ⟨cs, rows, row, cols, e, hc, hl, hz, hs, q⟩ => ?_)
  subst e
  refine db_cons (ds_ret (de_tupleOf M.tuple_ (de_lcT (j := 3) rfl sc_Table_cells.nd (blkOk_by (N := n_Table_cells) (sc := defScope s_Table_cells) (by decide +kernel)) (fun _ _ _ _ _ => pg_name (i := 3) sc_Table_cells.nd rfl (by first | exact Or.inl rfl | exact Or.inr rfl)) (de_var 2 rfl ?_))))
  refine ⟨Int, cols, D.int, fun _ => true, fun k => .int (row.getD (cs.idxOf k) 0), rfl, by omega, ⟨fun i hi _ _ _ _ _ => di_nil rfl, fun k hk _ _ _ _ _ _ => ?_⟩, _, rfl, ?_⟩
  · have hi := idx_of hc (hs k hk)
    refine de_ix (fun _ _ => rfl) (de_var 1 rfl (de_index (de_cols C (de_var 0 rfl ?_))))
    exact ⟨cs, rfl, de_var 3 rfl ⟨k, _, rfl, hi.1, hi.2, at_getD (by rw [hl]; exact (List.getElem?_eq_some_iff.mp hi.1).1) rfl⟩⟩
  · rw [filter_true]
    have : (cols.map fun k => D.int (row.getD (cs.idxOf k) 0)) = (pk cs row cols).map D.int := by unfold pk; rw [List.map_map]; rfl
    rw [this]
    exact q
def phTab (s : Sl) (ds : List D) (q : Sl → D → Prop) : Prop := ∃ (x y : D) (cs : List Int) (rs : List (List Int)) (ad dx : Addr), s = .oi ad dx .tab [] ∧ ds = [x, y] ∧ InI x cs ∧ (y = rowsD rs ∨ y = trowsD rs) ∧ Inc cs ∧ (∀ k ∈ cs, 0 ≤ k) ∧ cs.length < 64 ∧ rs.length ≤ 64 ∧ RowsOk cs.length rs ∧ q (.oi ad dx .tab [rowD cs, trowsD (sdR rs)]) .non
theorem put_tab : (∀ (xs : List V) (v : V), xs.length = 0 → putF "columns" v (Cl.tab.names.zip xs) = Cl.tab.names.zip (xs ++ [v])) ∧ ∀ (xs : List V) (v : V), xs.length = 1 → putF "rows" v (Cl.tab.names.zip xs) = Cl.tab.names.zip (xs ++ [v]) := put_two rfl nCR
theorem all_true {α : Type} (xs : List α) : (xs.map fun _ => true).all id = true := by rw [List.all_map]; exact List.all_eq_true.mpr fun _ _ => rfl
theorem ok_Table (M : MF mg) (C : CF K cA) (F : FD K "__init__" "Table.__init__" s_Table_init f fd) : FnOk P w K mg base CX0 1 f fd ["self", "columns", "rows"] (spS ⟨P, w, K, cA⟩ phTab) := by
  refine fn_okS F sc_Table_init (fun s ds q ⟨x, y, cs, rs, ad, dx, h, e, _⟩ => by rw [e]; rfl) (by decide) (fun cdv A outer s0 H E s ds Qd hr ⟨x, y, cs, rs, ad, dx, h, e, hx, hy, hc, hp, hl, hz, hR, q⟩ => ?_)
  subst h
  subst e
  have eR : ∀ r ∈ rs, r.length = cs.length := fun r hr => (hR r hr).1
  have fin : ∀ {P' : DEnd}, P'.nx = (selfEnds (.oi ad dx .tab []) Qd).nx → DB (bx P w K mg base n_Table_init "Table.__init__" (defScope s_Table_init) f cdv A outer s0 H E) cA [.oi ad dx .tab [rowD cs, trowsD (sdR rs)], .dat x, .dat y, .dat (.bl true), .no, .no] [] P' := by
    intro P' hP
    refine db_nil ?_
    rw [hP]
    exact ⟨_, rfl, rfl, fun a ha => ha, q⟩
  refine db_cons (ds_set 3 (de_and (de_cmp (dc_eqd Pe.lrow (by decide) hr.units (de_listOf M.list_ (de_var 1 rfl ⟨_, hx.seq, de_sortedSet rfl hr.units M.sorted_ M.set_ (de_var 1 rfl ⟨cs, hx, hl, cs, sdI cs, rfl, rfl, ?_⟩)⟩))))) sc_Table_init.nd)
  refine ⟨true, by rw [sdI_id hc]; simp, ?_⟩
  have ge : ∀ {Q : D → Prop}, Q (.bl true) → DE (bx P w K mg base n_Table_init "Table.__init__" (defScope s_Table_init) f cdv A outer s0 H E) cA (startS n_Table_init (.oi ad dx .tab []) [x, y]) (match (defBody s_Table_init).getD 0 (.Pass ⟨0, 0, 0, 0⟩) with | .Assign _ (.BoolOp _ (_ :: e :: _) _) _ => e | _ => .Constant .none 0 ⟨0, 0, 0, 0⟩) Q := by
    intro Q hq
    rcases hx with rfl | rfl
    · refine de_all rfl M.all_ (de_lcT (j := 4) rfl sc_Table_init.nd (blkOk_by (N := n_Table_init) (sc := defScope s_Table_init) (by decide +kernel)) (fun _ _ _ _ _ => pg_name (i := 4) sc_Table_init.nd rfl (by first | exact Or.inl rfl | exact Or.inr rfl)) (de_var 1 rfl ?_))
      refine ⟨Int, cs, D.int, fun _ => true, fun k => .bl true, rfl, by omega, ⟨fun i hi _ _ _ _ _ => di_nil rfl, fun k hk _ _ _ _ _ _ => de_cmp (dc_ge (de_var 4 rfl (de_int ?_)))⟩, cs.map fun _ => true, by rw [filter_true, List.map_map]; rfl, by rw [all_true]; exact hq⟩
      exact congrArg D.bl (decide_eq_true (hp k hk))
    · refine de_all rfl M.all_ (de_lcL (j := 4) rfl sc_Table_init.nd (blkOk_by (N := n_Table_init) (sc := defScope s_Table_init) (by decide +kernel)) (fun _ _ _ _ _ => pg_name (i := 4) sc_Table_init.nd rfl (by first | exact Or.inl rfl | exact Or.inr rfl)) (de_var 1 rfl ?_))
      refine ⟨Int, cs, D.int, fun _ => true, fun k => .bl true, rfl, by omega, ⟨fun i hi _ _ _ _ _ => di_nil rfl, fun k hk _ _ _ _ _ _ => de_cmp (dc_ge (de_var 4 rfl (de_int ?_)))⟩, cs.map fun _ => true, by rw [filter_true, List.map_map]; rfl, by rw [all_true]; exact hq⟩
      exact congrArg D.bl (decide_eq_true (hp k hk))
  rw [if_pos rfl]
  refine de_one (ge ?_)
  have tabc : ∀ {Q : D → Prop} {env : SEnv} {p p' : Pos}, env[1]? = some (.dat x) → Q (rowD cs) → DE (bx P w K mg base n_Table_init "Table.__init__" (defScope s_Table_init) f cdv A outer s0 H E) cA env (.Call (.Name "tuple" p) [.Name "columns" p'] [] p) Q := fun {Q env p p'} he hq => de_tupleOf M.tuple_ (de_var 1 he ⟨_, hx.seq, hq⟩)
  rcases hy with rfl | rfl
  · refine db_cons (ds_if (dt_bool (dw_or (dt_not (dt_val (de_var 3 rfl ⟨_, rfl, ?_⟩))))))
    refine dw_or1 (dt_not (dt_val (de_all rfl M.all_ (de_lcL (j := 5) rfl sc_Table_init.nd (blkOk_by (N := n_Table_init) (sc := defScope s_Table_init) (by decide +kernel)) (fun _ _ _ _ _ => pg_name (i := 5) sc_Table_init.nd rfl (by first | exact Or.inl rfl | exact Or.inr rfl)) (de_var 2 rfl ?_)))))
    refine ⟨_, rs, rowD, fun _ => true, fun _ => .bl true, rfl, by omega, ⟨fun i hi _ _ _ _ _ => di_nil rfl, fun r hr' _ _ _ _ _ _ => de_cmp (dc_eq (de_len M.len_ (de_var 5 rfl ⟨_, rfl, de_len M.len_ (de_var 1 rfl ⟨_, hx.seq, _, rfl, ?_⟩)⟩)))⟩, rs.map fun _ => true, by rw [filter_true, List.map_map]; rfl, true, by rw [all_true], ?_⟩
    · show D.bl _ = D.bl _
      rw [decide_eq_true (by rw [List.length_map, List.length_map, eR r hr'])]
    · refine db_nil (db_cons (ds_fld 0 C rfl (by decide) (de_tupleOf M.tuple_ (de_var 1 rfl ⟨_, hx.seq, ?_⟩)) (by simp [Cl.names]) put_tab.1))
      refine db_cons (ds_fld 0 C rfl (by simp [Cl.names]) (de_tupleOf M.tuple_ (de_sortedRows rfl hr.units M.sorted_ M.set_ (de_lcL (j := 5) rfl sc_Table_init.nd (blkOk_by (N := n_Table_init) (sc := defScope s_Table_init) (by decide +kernel)) (fun _ _ _ _ _ => pg_name (i := 5) sc_Table_init.nd rfl (by first | exact Or.inl rfl | exact Or.inr rfl)) (de_var 2 rfl ?_)))) (by simp [Cl.names]) put_tab.2)
      refine ⟨_, rs, rowD, fun _ => true, rowD, rfl, by omega, ⟨fun i hi _ _ _ _ _ => di_nil rfl, fun r hr' _ _ _ _ _ _ => de_tupleOf M.tuple_ (de_var 5 rfl ⟨_, rfl, rfl⟩)⟩, rs, cs.length, by rw [filter_true], hz, hR, _, rfl, fin rfl⟩
  · refine db_cons (ds_if (dt_bool (dw_or (dt_not (dt_val (de_var 3 rfl ⟨_, rfl, ?_⟩))))))
    refine dw_or1 (dt_not (dt_val (de_all rfl M.all_ (de_lcT (j := 5) rfl sc_Table_init.nd (blkOk_by (N := n_Table_init) (sc := defScope s_Table_init) (by decide +kernel)) (fun _ _ _ _ _ => pg_name (i := 5) sc_Table_init.nd rfl (by first | exact Or.inl rfl | exact Or.inr rfl)) (de_var 2 rfl ?_)))))
    refine ⟨_, rs, rowD, fun _ => true, fun _ => .bl true, rfl, by omega, ⟨fun i hi _ _ _ _ _ => di_nil rfl, fun r hr' _ _ _ _ _ _ => de_cmp (dc_eq (de_len M.len_ (de_var 5 rfl ⟨_, rfl, de_len M.len_ (de_var 1 rfl ⟨_, hx.seq, _, rfl, ?_⟩)⟩)))⟩, rs.map fun _ => true, by rw [filter_true, List.map_map]; rfl, true, by rw [all_true], ?_⟩
    · show D.bl _ = D.bl _
      rw [decide_eq_true (by rw [List.length_map, List.length_map, eR r hr'])]
    · refine db_nil (db_cons (ds_fld 0 C rfl (by decide) (de_tupleOf M.tuple_ (de_var 1 rfl ⟨_, hx.seq, ?_⟩)) (by simp [Cl.names]) put_tab.1))
      refine db_cons (ds_fld 0 C rfl (by simp [Cl.names]) (de_tupleOf M.tuple_ (de_sortedRows rfl hr.units M.sorted_ M.set_ (de_lcT (j := 5) rfl sc_Table_init.nd (blkOk_by (N := n_Table_init) (sc := defScope s_Table_init) (by decide +kernel)) (fun _ _ _ _ _ => pg_name (i := 5) sc_Table_init.nd rfl (by first | exact Or.inl rfl | exact Or.inr rfl)) (de_var 2 rfl ?_)))) (by simp [Cl.names]) put_tab.2)
      refine ⟨_, rs, rowD, fun _ => true, rowD, rfl, by omega, ⟨fun i hi _ _ _ _ _ => di_nil rfl, fun r hr' _ _ _ _ _ _ => de_tupleOf M.tuple_ (de_var 5 rfl ⟨_, rfl, rfl⟩)⟩, rs, cs.length, by rw [filter_true], hz, hR, _, rfl, fin rfl⟩
def phTabEq (ds : List D) (q : D → Prop) : Prop := ∃ (c1 c2 : List Int) (r1 r2 : List (List Int)), ds = [tabD c1 r1, tabD c2 r2] ∧ ∀ b : Bool, (b = true ↔ c1 = c2 ∧ r1 = r2) → q (.bl b)
theorem ok_Table_eq (M : MF mg) (C : CF K cA) (G : CG mg cA) (F : FD K "__eq__" "Table.__eq__" s_Table_eq f fd) : FnOk P w K mg base CX0 1 f fd ["self", "other"] (spD ⟨P, w, K, cA⟩ phTabEq) := by
  refine fn_ok F sc_Table_eq (fun ds q ⟨c1, c2, r1, r2, h, _⟩ => by rw [h]; rfl) (by decide) (fun cdv A outer s0 H E ds Qd hr ⟨c1, c2, r1, r2, e, q⟩ => ?_)
  subst e
  refine db_cons (ds_ret (de_and (de_isiC C M.isinstance_ G.tab (de_var 1 rfl ⟨.tab, _, rfl, true, rfl, ?_⟩))))
  rw [if_pos rfl]
  refine de_and (de_cmp (dc_eqd Pe.row (by decide) hr.units (de_cols C (de_var 0 rfl ?_))))
  refine de_cols C (de_var 1 rfl ⟨c1, c2, rfl, rfl, _, rfl, ?_⟩)
  by_cases h : c1 = c2
  · rw [if_pos (by simpa using h)]
    refine de_one (de_cmp (dc_eqd Pe.trows (by decide) hr.units (de_rows C (de_var 0 rfl ?_))))
    refine de_rows C (de_var 1 rfl ⟨r1, r2, rfl, rfl, q _ ?_⟩)
    rw [decide_eq_true_iff]
    exact ⟨fun h' => ⟨h, h'⟩, fun h' => h'.2⟩
  · have hd : ¬ decide (c1 = c2) = true := by simpa using h
    rw [if_neg hd]
    exact q false ⟨fun z => (by cases z), fun z => absurd z.1 h⟩
end

end DD
namespace DD
open PySem PySem.Spec PyProof.Rows L2
section
variable {P : Program} {w : World} {K : PySem.W.Frag} {cA : Cl → Addr} {mg : Str → Option Value} {base : Heap} {f : Addr} {fd : FuncData}
theorem tab_look (xs : List V) (hl : xs.length = Cl.tab.names.length) : (Cl.tab.names.zip xs).lookup ("cells" : Str) = none := by
  obtain ⟨u, v, rfl⟩ := two_of hl
  have h1 : (("cells" : Str) == ("columns" : Str)) = false := by decide +kernel
  have h2 : (("cells" : Str) == ("rows" : Str)) = false := by decide +kernel
  show List.lookup _ [(("columns" : Str), u), (("rows" : Str), v)] = none
  simp [List.lookup, h1, h2]
theorem sdR_len (rs : List (List Int)) : (sdR rs).length ≤ rs.length := by
  unfold sdR sdU
  have ins : ∀ (x : List Int) (l : List (List Int)), (insU (TS.code 16) x l).length ≤ l.length + 1 := by
    intro x l
    induction l with
    | nil => simp [insU]
    | cons y l ih =>
      unfold insU
      split
      · simp
      · split
        · simp
        · simp; omega
  induction rs with
  | nil => exact Nat.le_refl _
  | cons r rs ih =>
    rw [List.foldr_cons]
    have := ins r (List.foldr (insU (TS.code 16)) [] rs)
    simp only [List.length_cons]
    omega
theorem sdR_ok {d : Nat} {rs : List (List Int)} (h : RowsOk d rs) : RowsOk d (sdR rs) := fun r hr => h r ((sdR_mem h).mp hr)
/-- a table as a value -/
structure TabOk (A : List Int × List (List Int)) : Prop where
  inc : Inc A.1
  pos : ∀ k ∈ A.1, 0 ≤ k
  few : A.1.length ≤ 10
  ok : RowsOk A.1.length A.2
  sz : A.2.length ≤ 64
theorem pk_len (cs row cols : List Int) : (pk cs row cols).length = cols.length := by unfold pk; rw [List.length_map]
theorem pk_bd {cs row cols : List Int} (hl : row.length = cs.length) (hb : TS.Bd 16 row) (hs : ∀ k ∈ cols, k ∈ cs) : TS.Bd 16 (pk cs row cols) := by
  intro x hx
  unfold pk at hx
  obtain ⟨k, hk, rfl⟩ := List.mem_map.mp hx
  have := List.idxOf_lt_length_of_mem (hs k hk)
  rw [List.getD_eq_getElem?_getD, List.getElem?_eq_getElem (by omega)]
  exact hb _ (List.getElem_mem _)
def jt1 (cs : List Int) (rows : List (List Int)) (p : List Int) : List Int × List (List Int) := (p, sdR (rows.map fun r => pk cs r p))
theorem jt1_rows {A : List Int × List (List Int)} (h : TabOk A) {p : List Int} (hs : ∀ k ∈ p, k ∈ A.1) : RowsOk p.length (A.2.map fun r => pk A.1 r p) := fun x hx => by
  obtain ⟨r, hr, rfl⟩ := List.mem_map.mp hx
  have := h.ok r hr
  exact ⟨pk_len _ _ _, pk_bd this.1 this.2 hs⟩
theorem jt1_ok {A : List Int × List (List Int)} (h : TabOk A) {p : List Int} (hp : Inc p) (hl : p.length ≤ 10) (hs : ∀ k ∈ p, k ∈ A.1) : TabOk (jt1 A.1 A.2 p) :=
  ⟨hp, fun k hk => h.pos k (hs k hk), hl, sdR_ok (jt1_rows h hs), by have := sdR_len (A.2.map fun r => pk A.1 r p); rw [List.length_map] at this; have := h.sz; show (sdR _).length ≤ 64; omega⟩
def phProj (ds : List D) (q : D → Prop) : Prop := ∃ (A : List Int × List (List Int)) (p : List Int), ds = [tabD A.1 A.2, rowD p] ∧ TabOk A ∧ Inc p ∧ p.length ≤ 10 ∧ (∀ k ∈ p, k ∈ A.1) ∧ q (tabD (jt1 A.1 A.2 p).1 (jt1 A.1 A.2 p).2)
theorem ok_project (M : MF mg) (C : CF K cA) (F : FD K "project" "project" s_project f fd) (H1 : MkG P w K cA mg base "Table" .tab 1 phTab) (H2 : MtG P w K cA mg base .tab "cells" 1 phCells) : FnOk P w K mg base CX0 3 f fd ["table", "columns"] (spD ⟨P, w, K, cA⟩ phProj) := by
  refine fn_ok F sc_project (fun ds q ⟨A, p, h, _⟩ => by rw [h]; rfl) (by decide) (fun cdv A' outer s0 H E ds Qd hr ⟨A, p, e, hA, hp, hl, hs, q⟩ => ?_)
  subst e
  refine db_cons (ds_ret (de_make H1 hr (da_cons (de_var 1 rfl (da_cons (de_lcT (j := 2) rfl sc_project.nd (blkOk_by (N := n_project) (sc := defScope s_project) (by decide +kernel)) (fun _ _ _ _ _ => pg_name (i := 2) sc_project.nd rfl (by first | exact Or.inl rfl | exact Or.inr rfl)) (de_rows C (de_var 0 rfl ?_))))))))
  refine ⟨_, A.2, rowD, fun _ => true, fun r => rowD (pk A.1 r p), rfl, by have := hA.sz; omega, ⟨fun i hi _ _ _ _ _ => di_nil rfl, fun r hr' _ _ _ _ _ _ => de_meth (k := .tab) H2 C (hr.mono (by decide)) (de_var 0 rfl ⟨_, rfl, da_cons (de_var 2 rfl (da_cons (de_var 1 rfl (da_nil ⟨A.1, A.2, r, p, rfl, hA.inc, (hA.ok r hr').1, by omega, hs, rfl⟩))))⟩) tab_look⟩, ?_⟩
  rw [filter_true]
  have : (A.2.map fun r => rowD (pk A.1 r p)) = (A.2.map fun r => pk A.1 r p).map rowD := by rw [List.map_map]; rfl
  rw [this]
  exact da_nil fun a dx => ⟨_, _, p, A.2.map fun r => pk A.1 r p, a, dx, rfl, rfl, .inl rfl, .inl rfl, hp, fun k hk => hA.pos k (hs k hk), by omega, by rw [List.length_map]; exact hA.sz, jt1_rows hA hs, rfl, _, rfl, rfl, q⟩
/-! ### mixed, join -/
def mixR (ca cb cols x y : List Int) : List Int := cols.map fun k => if k ∈ ca then x.getD (ca.idxOf k) 0 else y.getD (cb.idxOf k) 0
def phMixed (ds : List D) (q : D → Prop) : Prop := ∃ (ca cb cols x y : List Int) (ra rb : List (List Int)), ds = [tabD ca ra, tabD cb rb, rowD cols, rowD x, rowD y] ∧ Inc ca ∧ Inc cb ∧ cols.length ≤ 1000 ∧ x.length = ca.length ∧ y.length = cb.length ∧ (∀ k ∈ cols, k ∈ ca ∨ k ∈ cb) ∧ q (rowD (mixR ca cb cols x y))
theorem ok_mixed (M : MF mg) (C : CF K cA) (F : FD K "mixed" "mixed" s_mixed f fd) : FnOk P w K mg base CX0 1 f fd ["a", "b", "columns", "first", "second"] (spD ⟨P, w, K, cA⟩ phMixed) := by
  refine fn_ok F sc_mixed (fun ds q ⟨ca, cb, cols, x, y, ra, rb, h, _⟩ => by rw [h]; rfl) (by decide) (fun cdv A' outer s0 H E ds Qd hr ⟨ca, cb, cols, x, y, ra, rb, e, ha, hb, hz, hx, hy, hs, q⟩ => ?_)
  subst e
  refine db_cons (ds_newL 5 (fun L => ?_) sc_mixed.nd)
  refine db_cons (ds_forT rfl (pg_name (i := 6) sc_mixed.nd rfl (by first | exact Or.inl rfl | exact Or.inr rfl)) (de_var 2 rfl ?_))
  refine ⟨cols.map D.int, fun m env' => ∃ s6 : Sl, env' = [.dat (tabD ca ra), .dat (tabD cb rb), .dat (rowD cols), .dat (rowD x), .dat (rowD y), .ol L ((mixR ca cb (cols.take m) x y).map D.int), s6], rfl, ⟨.no, rfl⟩, ?_, ?_⟩
  · rintro m d env' hd ⟨s6, rfl⟩
    rw [List.getElem?_map] at hd
    obtain ⟨k, hk, rfl⟩ := Option.map_eq_some_iff.mp hd
    have hml := (List.getElem?_eq_some_iff.mp hk).1
    have tk : ∀ v : Int, v = (if k ∈ ca then x.getD (ca.idxOf k) 0 else y.getD (cb.idxOf k) 0) → (mixR ca cb (cols.take m) x y).map D.int ++ [D.int v] = (mixR ca cb (cols.take (m + 1)) x y).map D.int := fun v hv => by
      unfold mixR
      rw [List.take_add_one, hk, List.map_append, List.map_append, hv]
      rfl
    have hlen : ((mixR ca cb (cols.take m) x y).map D.int).length < 100000 := by
      unfold mixR
      rw [List.length_map, List.length_map, List.length_take]
      omega
    refine db_cons (ds_if (dt_cmp (dc_in (de_var 6 rfl (de_cols C (de_var 0 rfl ⟨k, ca, rfl, .inl rfl, _, rfl, ?_⟩))))))
    by_cases hka : k ∈ ca
    · rw [if_pos (by simpa using hka)]
      have hi := idx_of ha hka
      refine db_cons (ds_append 5 rfl hlen (de_ix (fun _ _ => rfl) (de_var 3 rfl (de_index (de_cols C (de_var 0 rfl ⟨ca, rfl, de_var 6 rfl ⟨k, _, rfl, hi.1, hi.2, at_getD (by rw [hx]; exact (List.getElem?_eq_some_iff.mp hi.1).1) ?_⟩⟩))))))
      refine db_nil (db_nil ⟨.dat (.int k), ?_⟩)
      rw [← tk _ (by rw [if_pos hka])]
      rfl
    · rw [if_neg (by simpa using hka)]
      have hkb : k ∈ cb := (hs k (List.mem_of_getElem? hk)).resolve_left hka
      have hi := idx_of hb hkb
      refine db_cons (ds_append 5 rfl hlen (de_ix (fun _ _ => rfl) (de_var 4 rfl (de_index (de_cols C (de_var 1 rfl ⟨cb, rfl, de_var 6 rfl ⟨k, _, rfl, hi.1, hi.2, at_getD (by rw [hy]; exact (List.getElem?_eq_some_iff.mp hi.1).1) ?_⟩⟩))))))
      refine db_nil (db_nil ⟨.dat (.int k), ?_⟩)
      rw [← tk _ (by rw [if_neg hka])]
      rfl
  · rintro env' ⟨s6, rfl⟩
    rw [List.length_map, List.take_length]
    refine db_freeze 5 rfl (db_cons (ds_ret (de_tupleOf M.tuple_ (de_var 5 rfl ⟨_, rfl, q⟩))))
/-- groups -/
def lookG (gs : List (TKey × Addr × List D)) (k : TKey) : List D := ((gs.find? fun g => decide (g.1 = k)).map (·.2.2)).getD []
theorem lookG_set {k : TKey} {q : Addr} {ds ds' : List D} : ∀ {gs : List (TKey × Addr × List D)} {j : Nat}, (gs.map (·.1)).Nodup → gs[j]? = some (k, q, ds) → lookG gs k = ds ∧ ∀ k', lookG (gs.set j (k, q, ds')) k' = if k' = k then ds' else lookG gs k'
  | [], _, _, h => by simp at h
  | g :: gs, 0, _, h => by
    simp at h
    subst h
    refine ⟨by simp [lookG, List.find?_cons], fun k' => ?_⟩
    rw [List.set_cons_zero]
    by_cases e : k' = k
    · subst e; simp [lookG, List.find?_cons]
    · have : ¬ k = k' := fun z => e z.symm
      simp [lookG, List.find?_cons, e, this]
  | g :: gs, j + 1, hn, h => by
    rw [List.map_cons] at hn
    obtain ⟨n1, n2⟩ := List.nodup_cons.mp hn
    have h' : gs[j]? = some (k, q, ds) := by simpa using h
    obtain ⟨i1, i2⟩ := lookG_set (ds' := ds') n2 h'
    have hk : k ∈ gs.map (·.1) := List.mem_map.mpr ⟨_, List.mem_of_getElem? h', rfl⟩
    have gk : ¬ g.1 = k := fun z => n1 (by rw [z]; exact hk)
    have c1 : lookG (g :: gs) k = lookG gs k := by simp [lookG, List.find?_cons, gk]
    refine ⟨c1.trans i1, fun k' => ?_⟩
    rw [List.set_cons_succ]
    by_cases e : g.1 = k'
    · have : ¬ k' = k := fun z => gk (e.trans z)
      rw [if_neg this]
      simp [lookG, List.find?_cons, e]
    · have d1 : lookG (g :: gs.set j (k, q, ds')) k' = lookG (gs.set j (k, q, ds')) k' := by simp [lookG, List.find?_cons, e]
      have d2 : lookG (g :: gs) k' = lookG gs k' := by simp [lookG, List.find?_cons, e]
      rw [d1, d2, i2]
theorem lookG_new {k : TKey} {q : Addr} {ds : List D} : ∀ {gs : List (TKey × Addr × List D)}, k ∉ gs.map (·.1) → lookG gs k = [] ∧ ∀ k', lookG (gs ++ [(k, q, ds)]) k' = if k' = k then ds else lookG gs k'
  | [], _ => by
    refine ⟨rfl, fun k' => ?_⟩
    by_cases e : k' = k
    · subst e; simp [lookG]
    · have : ¬ k = k' := fun z => e z.symm
      simp [lookG, e, this]
  | g :: gs, h => by
    rw [List.map_cons] at h
    have gk : ¬ g.1 = k := fun z => h (by rw [z]; exact List.mem_cons_self)
    obtain ⟨i1, i2⟩ := lookG_new (q := q) (ds := ds) (fun z => h (List.mem_cons_of_mem _ z))
    have c1 : lookG (g :: gs) k = lookG gs k := by simp [lookG, List.find?_cons, gk]
    refine ⟨c1.trans i1, fun k' => ?_⟩
    rw [List.cons_append]
    by_cases e : g.1 = k'
    · have : ¬ k' = k := fun z => gk (e.trans z)
      rw [if_neg this]
      simp [lookG, List.find?_cons, e]
    · have d1 : lookG (g :: (gs ++ [(k, q, ds)])) k' = lookG (gs ++ [(k, q, ds)]) k' := by simp [lookG, List.find?_cons, e]
      have d2 : lookG (g :: gs) k' = lookG gs k' := by simp [lookG, List.find?_cons, e]
      rw [d1, d2, i2]
theorem lookG_kd (gs : List (TKey × Addr × List D)) (k : TKey) : (lookKD (gs.map fun g => (g.1, D.lst g.2.2)) k).getD (.lst []) = .lst (lookG gs k) := by
  unfold lookKD lookG
  rw [List.find?_map]
  have e : ((fun e : TKey × D => decide (e.1 = k)) ∘ fun g : TKey × Addr × List D => (g.1, D.lst g.2.2)) = fun g => decide (g.1 = k) := rfl
  rw [e]
  cases gs.find? fun g => decide (g.1 = k) <;> rfl
/-- the rows of a join, in order -/
def joinL (A B : List Int × List (List Int)) : List (List Int) :=
  A.2.flatMap fun x => (B.2.filter fun s => decide (pk B.1 s (A.1.filter fun k => decide (k ∈ B.1)) = pk A.1 x (A.1.filter fun k => decide (k ∈ B.1)))).map (mixR A.1 B.1 (sdI (A.1 ++ B.1)) x)
def jtJ (A B : List Int × List (List Int)) : List Int × List (List Int) := (sdI (A.1 ++ B.1), sdR (joinL A B))
theorem mix_bd {ca cb cols x y : List Int} (hx : x.length = ca.length) (hy : y.length = cb.length) (bx : TS.Bd 16 x) (by_ : TS.Bd 16 y) (hs : ∀ k ∈ cols, k ∈ ca ∨ k ∈ cb) : TS.Bd 16 (mixR ca cb cols x y) := by
  intro v hv
  unfold mixR at hv
  obtain ⟨k, hk, rfl⟩ := List.mem_map.mp hv
  by_cases h : k ∈ ca
  · rw [if_pos h]
    have := List.idxOf_lt_length_of_mem h
    rw [List.getD_eq_getElem?_getD, List.getElem?_eq_getElem (by omega)]
    exact bx _ (List.getElem_mem _)
  · rw [if_neg h]
    have := List.idxOf_lt_length_of_mem ((hs k hk).resolve_left h)
    rw [List.getD_eq_getElem?_getD, List.getElem?_eq_getElem (by omega)]
    exact by_ _ (List.getElem_mem _)
theorem un_mem {a b : List Int} {k : Int} : k ∈ sdI (a ++ b) ↔ k ∈ a ∨ k ∈ b := by rw [sdI_mem, List.mem_append]
theorem joinL_ok {A B : List Int × List (List Int)} (hA : TabOk A) (hB : TabOk B) : RowsOk (sdI (A.1 ++ B.1)).length (joinL A B) := fun r hr => by
  unfold joinL at hr
  obtain ⟨x, hx, hr⟩ := List.mem_flatMap.mp hr
  obtain ⟨y, hy, rfl⟩ := List.mem_map.mp hr
  have hy := (List.mem_filter.mp hy).1
  refine ⟨by unfold mixR; rw [List.length_map], mix_bd (hA.ok x hx).1 (hB.ok y hy).1 (hA.ok x hx).2 (hB.ok y hy).2 fun k hk => un_mem.mp hk⟩
theorem jtJ_ok {A B : List Int × List (List Int)} (hA : TabOk A) (hB : TabOk B) (hf : (sdI (A.1 ++ B.1)).length ≤ 10) (hz : (joinL A B).length ≤ 64) : TabOk (jtJ A B) :=
  ⟨sdI_strict _, fun k hk => (un_mem.mp hk).elim (hA.pos k) (hB.pos k), hf, sdR_ok (joinL_ok hA hB), Nat.le_trans (sdR_len _) hz⟩
def phJoin (ds : List D) (q : D → Prop) : Prop := ∃ (A B : List Int × List (List Int)), ds = [tabD A.1 A.2, tabD B.1 B.2] ∧ TabOk A ∧ TabOk B ∧ (sdI (A.1 ++ B.1)).length ≤ 10 ∧ (joinL A B).length ≤ 64 ∧ q (tabD (jtJ A B).1 (jtJ A B).2)
theorem ok_join (M : MF mg) (C : CF K cA) (F : FD K "join" "join" s_join f fd) (H1 : MkG P w K cA mg base "Table" .tab 1 phTab) (H2 : MtG P w K cA mg base .tab "cells" 1 phCells) (F1 : FnG P w K cA mg base "united" 2 phUn) (F2 : FnG P w K cA mg base "met" 1 phMet) (F3 : FnG P w K cA mg base "mixed" 1 phMixed) :
    FnOk P w K mg base CX0 3 f fd ["a", "b"] (spD ⟨P, w, K, cA⟩ phJoin) := by
  refine fn_ok F sc_join (fun ds q ⟨A, B, h, _⟩ => by rw [h]; rfl) (by decide) (fun cdv A' outer s0 H E ds Qd hr ⟨A, B, e, hA, hB, hf, hz, q⟩ => ?_)
  subst e
  have a10 := hA.few
  have b10 := hB.few
  have asz := hA.sz
  have bsz := hB.sz
  refine db_cons (ds_set 2 (de_call F1 hr (da_cons (de_cols C (de_var 0 rfl (da_cons (de_cols C (de_var 1 rfl (da_nil ⟨_, _, A.1, B.1, rfl, .inl rfl, .inl rfl, by omega, ?_⟩)))))))) sc_join.nd)
  refine db_cons (ds_set 3 (de_call F2 (hr.mono (by decide)) (da_cons (de_cols C (de_var 0 rfl (da_cons (de_cols C (de_var 1 rfl (da_nil ⟨_, _, A.1, B.1, rfl, rfl, .inl rfl, by omega, ?_⟩)))))))) sc_join.nd)
  generalize hcm : (A.1.filter fun k => decide (k ∈ B.1)) = cm
  have cmA : ∀ k ∈ cm, k ∈ A.1 := fun k hk => by rw [← hcm] at hk; exact (List.mem_filter.mp hk).1
  have cmB : ∀ k ∈ cm, k ∈ B.1 := fun k hk => by rw [← hcm] at hk; simpa using (List.mem_filter.mp hk).2
  have cml : cm.length ≤ 10 := by rw [← hcm]; exact Nat.le_trans (List.length_filter_le _ _) a10
  refine db_cons (ds_newG 4 (fun gd => ?_) sc_join.nd)
  refine db_cons (ds_forT rfl (pg_name (i := 5) sc_join.nd rfl (by first | exact Or.inl rfl | exact Or.inr rfl)) (de_rows C (de_var 1 rfl ?_)))
  refine ⟨B.2.map rowD, fun m env' => ∃ (gs : List (TKey × Addr × List D)) (s5 : Sl), env' = [.dat (tabD A.1 A.2), .dat (tabD B.1 B.2), .dat (rowD (sdI (A.1 ++ B.1))), .dat (rowD cm), .og gd gs, s5, .no, .no, .no] ∧ (gs.map (·.1)).Nodup ∧ gs.length ≤ m ∧ (∀ g ∈ gs, g.2.2.length ≤ m) ∧ ∀ k : List Int, lookG gs (kI k) = ((B.2.take m).filter fun s => decide (pk B.1 s cm = k)).map rowD, rfl, ⟨[], .no, rfl, .nil, Nat.le_refl _, fun g hg => (by cases hg), fun k => rfl⟩, ?_, ?_⟩
  · rintro m d env' hd ⟨gs, s5, rfl, hnd, hgl, hgd, hlk⟩
    rw [List.getElem?_map] at hd
    obtain ⟨y, hy, rfl⟩ := Option.map_eq_some_iff.mp hd
    have hml := (List.getElem?_eq_some_iff.mp hy).1
    have yok := hB.ok y (List.mem_of_getElem? hy)
    have tk : ∀ k : List Int, ((B.2.take (m + 1)).filter fun s => decide (pk B.1 s cm = k)).map rowD = ((B.2.take m).filter fun s => decide (pk B.1 s cm = k)).map rowD ++ if k = pk B.1 y cm then [rowD y] else [] := fun k => by
      rw [List.take_add_one, hy, List.filter_append, List.map_append]
      congr 1
      by_cases hk : k = pk B.1 y cm
      · rw [if_pos hk]
        show List.map rowD (List.filter _ [y]) = _
        rw [List.filter_cons_of_pos (by simp [hk])]
        rfl
      · have : ¬ pk B.1 y cm = k := fun z => hk z.symm
        rw [if_neg hk]
        show List.map rowD (List.filter _ [y]) = _
        rw [List.filter_cons_of_neg (by simp [this])]
        rfl
    refine db_cons (ds_groupAdd 4 (room1 hr) rfl (by omega) (fun g hg => by have := hgd g hg; omega) (de_meth (k := .tab) H2 C (hr.mono (by decide)) (de_var 1 rfl ⟨_, rfl, da_cons (de_var 5 rfl (da_cons (de_var 3 rfl (da_nil ⟨B.1, B.2, y, cm, rfl, hB.inc, yok.1, by omega, cmB, kI (pk B.1 y cm), (keyD_kI _).symm, fun j qa ds hj => ?_, fun hno qa => ?_⟩))))⟩) tab_look))
    · refine de_var 5 rfl (db_nil ⟨_, _, rfl, ?_, by rw [List.length_set]; omega, ?_, fun k => ?_⟩)
      · have hjl := (List.getElem?_eq_some_iff.mp hj).1
        have : (gs.set j (kI (pk B.1 y cm), qa, ds ++ [rowD y])).map (·.1) = gs.map (·.1) := by
          rw [List.map_set]
          apply List.ext_getElem?
          intro z
          by_cases hz' : j = z
          · subst hz'
            rw [List.getElem?_set_self (by simpa using hjl), List.getElem?_map, hj]
            rfl
          · rw [List.getElem?_set_ne hz']
        rw [this]
        exact hnd
      · intro g hg
        rcases List.mem_or_eq_of_mem_set hg with h | h
        · have := hgd g h; omega
        · rw [h]
          have := hgd _ (List.mem_of_getElem? hj)
          simp only at this
          simp only [List.length_append, List.length_singleton]
          omega
      · obtain ⟨i1, i2⟩ := lookG_set (ds' := ds ++ [rowD y]) hnd hj
        rw [i2, tk, ← hlk k]
        by_cases hk : k = pk B.1 y cm
        · subst hk
          rw [if_pos rfl, if_pos rfl, i1]
        · rw [if_neg fun z => hk (kI_inj z), if_neg hk, List.append_nil]
    · refine de_var 5 rfl (db_nil ⟨_, _, rfl, ?_, by simp; omega, ?_, fun k => ?_⟩)
      · rw [List.map_append]
        refine List.nodup_append.mpr ⟨hnd, by simp, fun a ha b hb => ?_⟩
        simp at hb
        rw [hb]
        intro z
        rw [z] at ha
        exact hno ha
      · intro g hg
        rcases List.mem_append.mp hg with h | h
        · have := hgd g h; omega
        · rw [List.mem_singleton.mp h]; simp
      · obtain ⟨i1, i2⟩ := lookG_new (q := qa) (ds := [rowD y]) hno
        rw [i2, tk, ← hlk k]
        by_cases hk : k = pk B.1 y cm
        · subst hk
          rw [if_pos rfl, if_pos rfl, i1]
          rfl
        · rw [if_neg fun z => hk (kI_inj z), if_neg hk, List.append_nil]
  · rintro env' ⟨gs, s5, rfl, hnd, hgl, hgd, hlk⟩
    rw [List.length_map, List.take_length] at hlk
    rw [List.length_map] at hgd
    refine db_freeze 4 rfl (db_cons (ds_newL 6 (fun rl => ?_) sc_join.nd))
    refine db_cons (ds_forT rfl (pg_name (i := 7) sc_join.nd rfl (by first | exact Or.inl rfl | exact Or.inr rfl)) (de_rows C (de_var 0 rfl ?_)))
    let mk : List Int → List (List Int) := fun x => (B.2.filter fun s => decide (pk B.1 s cm = pk A.1 x cm)).map (mixR A.1 B.1 (sdI (A.1 ++ B.1)) x)
    have mkl : ∀ x, (mk x).length ≤ 64 := fun x => by show (List.map _ _).length ≤ 64; rw [List.length_map]; exact Nat.le_trans (List.length_filter_le _ _) bsz
    have mkE : joinL A B = A.2.flatMap mk := by unfold joinL; rw [hcm]
    refine ⟨A.2.map rowD, fun m env' => ∃ s7 s8 : Sl, env' = [.dat (tabD A.1 A.2), .dat (tabD B.1 B.2), .dat (rowD (sdI (A.1 ++ B.1))), .dat (rowD cm), (Sl.og gd gs).view, s5, .ol rl (((A.2.take m).flatMap mk).map rowD), s7, s8] ∧ ((A.2.take m).flatMap mk).length ≤ 64 * m, rfl, ⟨.no, .no, rfl, Nat.le_refl _⟩, ?_, ?_⟩
    · rintro m d env' hd ⟨s7, s8, rfl, hml⟩
      rw [List.getElem?_map] at hd
      obtain ⟨x, hx, rfl⟩ := Option.map_eq_some_iff.mp hd
      have hm64 := (List.getElem?_eq_some_iff.mp hx).1
      have xok := hA.ok x (List.mem_of_getElem? hx)
      have mx := mkl x
      refine db_cons (ds_forL rfl (pg_name (i := 8) sc_join.nd rfl (by first | exact Or.inl rfl | exact Or.inr rfl)) (de_getT (room1 hr) (de_var 4 rfl ⟨gs.map fun g => (g.1, D.lst g.2.2), ?_, de_meth (k := .tab) H2 C (hr.mono (by decide)) (de_var 0 rfl ⟨_, rfl, da_cons (de_var 7 rfl (da_cons (de_var 3 rfl (da_nil ⟨A.1, A.2, x, cm, rfl, hA.inc, xok.1, by omega, cmA, de_lst (da_nil ⟨by simp, kI (pk A.1 x cm), (keyD_kI _).symm, ?_⟩)⟩))))⟩) tab_look⟩)))
      · show D.tdic _ _ = D.tdic _ _
        rw [List.map_map, List.map_map]
        rfl
      · rw [lookG_kd, hlk]
        generalize hsel : (B.2.filter fun s => decide (pk B.1 s cm = pk A.1 x cm)) = sel
        have selB : ∀ y ∈ sel, y ∈ B.2 := fun y hy => by rw [← hsel] at hy; exact (List.mem_filter.mp hy).1
        have mks : mk x = sel.map (mixR A.1 B.1 (sdI (A.1 ++ B.1)) x) := by show List.map _ _ = _; rw [hsel]
        refine ⟨sel.map rowD, fun z env' => ∃ s8 : Sl, env' = [.dat (tabD A.1 A.2), .dat (tabD B.1 B.2), .dat (rowD (sdI (A.1 ++ B.1))), .dat (rowD cm), (Sl.og gd gs).view, s5, .ol rl (((A.2.take m).flatMap mk ++ (sel.take z).map (mixR A.1 B.1 (sdI (A.1 ++ B.1)) x)).map rowD), .dat (rowD x), s8], rfl, ⟨s8, by simp⟩, ?_, ?_⟩
        · rintro z d env' hd ⟨s8, rfl⟩
          rw [List.getElem?_map] at hd
          obtain ⟨y, hy, rfl⟩ := Option.map_eq_some_iff.mp hd
          have yok := hB.ok y (selB y (List.mem_of_getElem? hy))
          have hlen : (((A.2.take m).flatMap mk ++ (sel.take z).map (mixR A.1 B.1 (sdI (A.1 ++ B.1)) x)).map rowD).length < 100000 := by
            rw [List.length_map, List.length_append, List.length_map, List.length_take]
            have : sel.length ≤ 64 := by rw [mks, List.length_map] at mx; exact mx
            omega
          refine db_cons (ds_append 6 rfl hlen (de_call F3 (hr.mono (by decide)) (da_cons (de_var 0 rfl (da_cons (de_var 1 rfl (da_cons (de_var 2 rfl (da_cons (de_var 7 rfl (da_cons (de_var 8 rfl (da_nil ⟨A.1, B.1, sdI (A.1 ++ B.1), x, y, A.2, B.2, rfl, hA.inc, hB.inc, by omega, xok.1, yok.1, fun k hk => un_mem.mp hk, db_nil ⟨.dat (rowD y), ?_⟩⟩)))))))))))))
          rw [List.take_add_one, hy, List.map_append, List.map_append, List.map_append, List.map_append, List.append_assoc]
          rfl
        · rintro env' ⟨s8, rfl⟩
          refine db_nil ⟨.dat (rowD x), s8, ?_, ?_⟩
          · rw [List.length_map, List.take_length, List.take_add_one, hx, List.flatMap_append]
            have : (some x).toList.flatMap mk = sel.map (mixR A.1 B.1 (sdI (A.1 ++ B.1)) x) := by rw [← mks]; simp
            rw [this]
          · rw [List.take_add_one, hx, List.flatMap_append, List.length_append]
            have : ((some x).toList.flatMap mk).length = (mk x).length := by simp
            rw [this]
            omega
    · rintro env' ⟨s7, s8, rfl, hml⟩
      rw [List.length_map, List.take_length, ← mkE]
      refine db_freeze 6 rfl (db_cons (ds_ret (de_make H1 hr (da_cons (de_var 2 rfl (da_cons (de_var 6 rfl (da_nil fun a dx => ?_))))))))
      exact ⟨_, _, sdI (A.1 ++ B.1), joinL A B, a, dx, rfl, rfl, .inl rfl, .inl rfl, sdI_strict _, fun k hk => (un_mem.mp hk).elim (hA.pos k) (hB.pos k), by omega, hz, joinL_ok hA hB, rfl, _, rfl, rfl, q⟩
end

end DD
namespace DD
open PySem PySem.Spec PyProof.Rows L2
section
variable {P : Program} {w : World} {K : PySem.W.Frag} {cA : Cl → Addr} {mg : Str → Option Value} {base : Heap} {f : Addr} {fd : FuncData}
/-! ### slices -/
theorem cut_from {xs : List D} (i : Nat) : cutD xs (some (i : Int)) none = xs.drop i := by
  unfold cutD
  rw [HT.sIx_nat]
  show List.take (xs.length - _) _ = _
  by_cases h : i ≤ xs.length
  · rw [Nat.min_eq_left h, List.take_of_length_le (by rw [List.length_drop]; exact Nat.le_refl _)]
  · rw [Nat.min_eq_right (by omega), List.drop_length, List.drop_eq_nil_of_le (by omega)]
    simp
theorem cut_to {xs : List D} (i : Nat) : cutD xs none (some (i : Int)) = xs.take i := by
  unfold cutD
  rw [HT.sIx_nat]
  show List.take (_ - 0) (List.drop 0 xs) = _
  rw [List.drop_zero, Nat.sub_zero]
  by_cases h : i ≤ xs.length
  · rw [Nat.min_eq_left h]
  · rw [Nat.min_eq_right (by omega), List.take_length, List.take_of_length_le (by omega)]
theorem cut_both {xs : List D} (i j : Nat) : cutD xs (some (i : Int)) (some (j : Int)) = (xs.drop i).take (j - i) := by
  unfold cutD
  rw [HT.sIx_nat, HT.sIx_nat]
  by_cases h : i ≤ xs.length
  · rw [Nat.min_eq_left h]
    by_cases h2 : j ≤ xs.length
    · rw [Nat.min_eq_left h2]
    · rw [Nat.min_eq_right (by omega), List.take_of_length_le (by rw [List.length_drop]; exact Nat.le_refl _), List.take_of_length_le (by rw [List.length_drop]; omega)]
  · rw [List.drop_eq_nil_of_le (i := min i xs.length) (by omega), List.drop_eq_nil_of_le (i := i) (by omega)]
    simp
section
variable {X : Cx} {c : Cl → Addr} {env : SEnv} {e b b2 : Expr} {Qd : D → Prop} {pos p2 : Pos}
theorem de_slFrom (h : DE X c env e fun x => DE X c env b fun y => ∃ i : Nat, y = .int (i : Int) ∧ ((∃ ds, x = .tup ds ∧ Qd (.tup (ds.drop i))) ∨ ∃ ds, x = .lst ds ∧ Qd (.lst (ds.drop i)))) : DE X c env (.Subscript e (.Slice (some b) none none p2) pos) Qd :=
  de_slice (h.mono fun x hx => DE.mono (Qd' := fun d => ∃ i, d = .int i ∧ DO X c env none fun u => slD x (some i) u Qd) hx fun y ⟨i, hi, hq⟩ => ⟨i, hi, by
    rcases hq with ⟨ds, rfl, q⟩ | ⟨ds, rfl, q⟩
    · show Qd (.tup (cutD ds _ _)); rw [cut_from]; exact q
    · show Qd (.lst (cutD ds _ _)); rw [cut_from]; exact q⟩)
theorem de_slTo (h : DE X c env e fun x => DE X c env b fun y => ∃ i : Nat, y = .int (i : Int) ∧ ((∃ ds, x = .tup ds ∧ Qd (.tup (ds.take i))) ∨ ∃ ds, x = .lst ds ∧ Qd (.lst (ds.take i)))) : DE X c env (.Subscript e (.Slice none (some b) none p2) pos) Qd :=
  de_slice (h.mono fun x hx => DE.mono (Qd' := fun d => ∃ i, d = .int i ∧ slD x none (some i) Qd) hx fun y ⟨i, hi, hq⟩ => ⟨i, hi, by
    rcases hq with ⟨ds, rfl, q⟩ | ⟨ds, rfl, q⟩
    · show Qd (.tup (cutD ds _ _)); rw [cut_to]; exact q
    · show Qd (.lst (cutD ds _ _)); rw [cut_to]; exact q⟩)
theorem de_slBoth (h : DE X c env e fun x => DE X c env b fun y => ∃ i : Nat, y = .int (i : Int) ∧ DE X c env b2 fun z => ∃ j : Nat, z = .int (j : Int) ∧ ((∃ ds, x = .tup ds ∧ Qd (.tup ((ds.drop i).take (j - i)))) ∨ ∃ ds, x = .lst ds ∧ Qd (.lst ((ds.drop i).take (j - i))))) : DE X c env (.Subscript e (.Slice (some b) (some b2) none p2) pos) Qd :=
  de_slice (h.mono fun x hx => DE.mono (Qd' := fun d => ∃ i, d = .int i ∧ DO X c env (some b2) fun u => slD x (some i) u Qd) hx fun y ⟨i, hi, hq⟩ => ⟨i, hi, DE.mono (Qd' := fun d => ∃ j, d = .int j ∧ slD x (some (i : Int)) (some j) Qd) hq fun z ⟨j, hj, hq⟩ => ⟨j, hj, by
    rcases hq with ⟨ds, rfl, q⟩ | ⟨ds, rfl, q⟩
    · show Qd (.tup (cutD ds _ _)); rw [cut_both]; exact q
    · show Qd (.lst (cutD ds _ _)); rw [cut_both]; exact q⟩⟩)
end
/-! ### joined_parts of table -/
def jtF (cs : List Int) (rows : List (List Int)) (A : List Int × List (List Int)) (ps : List (List Int)) : List Int × List (List Int) := ps.foldl (fun A p => jtJ A (jt1 cs rows p)) A
def JtOk (cs : List Int) (rows : List (List Int)) : List Int × List (List Int) → List (List Int) → Prop
  | _, [] => True
  | A, p :: ps => (sdI (A.1 ++ p)).length ≤ 10 ∧ (joinL A (jt1 cs rows p)).length ≤ 64 ∧ JtOk cs rows (jtJ A (jt1 cs rows p)) ps
structure PartOk (cs p : List Int) : Prop where
  inc : Inc p
  few : p.length ≤ 10
  sub : ∀ k ∈ p, k ∈ cs
def phJt (ds : List D) (q : D → Prop) : Prop := ∃ (A : List Int × List (List Int)) (p0 : List Int) (ps : List (List Int)), ds = [tabD A.1 A.2, trowsD (p0 :: ps)] ∧ TabOk A ∧ (∀ p ∈ p0 :: ps, PartOk A.1 p) ∧ JtOk A.1 A.2 (jt1 A.1 A.2 p0) ps ∧ q (tabD (jtF A.1 A.2 (jt1 A.1 A.2 p0) ps).1 (jtF A.1 A.2 (jt1 A.1 A.2 p0) ps).2)
theorem ok_jparts_t (M : MF mg) (C : CF K cA) (F : FD K "joined_parts" "joined_parts" s_jparts_t f fd) (F1 : FnG P w K cA mg base "project" 3 phProj) (F2 : FnG P w K cA mg base "join" 3 phJoin) : FnOk P w K mg base CX0 4 f fd ["table", "parts"] (spD ⟨P, w, K, cA⟩ phJt) := by
  refine fn_ok F sc_jparts_t (fun ds q ⟨A, p0, ps, h, _⟩ => by rw [h]; rfl) (by decide) (fun cdv A' outer s0 H E ds Qd hr ⟨A, p0, ps, e, hA, hp, hj, q⟩ => ?_)
  subst e
  have g0 := hp p0 List.mem_cons_self
  refine db_cons (ds_set 2 (de_call F1 hr (da_cons (de_var 0 rfl (da_cons (de_ix (fun _ _ => rfl) (de_var 1 rfl (de_int ⟨rowD p0, at_of (j := 0) (by omega) rfl (by simp), da_nil ⟨A, p0, rfl, hA, g0.inc, g0.few, g0.sub, ?_⟩⟩))))))) sc_jparts_t.nd)
  refine db_cons (ds_forT rfl (pg_name (i := 3) sc_jparts_t.nd rfl (by first | exact Or.inl rfl | exact Or.inr rfl)) (de_slFrom (de_var 1 rfl (de_int ⟨1, rfl, .inl ⟨_, rfl, ?_⟩⟩))))
  refine ⟨ps.map rowD, fun m env' => ∃ (B : List Int × List (List Int)) (s3 : Sl), env' = [.dat (tabD A.1 A.2), .dat (trowsD (p0 :: ps)), .dat (tabD B.1 B.2), s3] ∧ TabOk B ∧ JtOk A.1 A.2 B (ps.drop m) ∧ jtF A.1 A.2 B (ps.drop m) = jtF A.1 A.2 (jt1 A.1 A.2 p0) ps, rfl, ⟨_, .no, rfl, jt1_ok hA g0.inc g0.few g0.sub, hj, rfl⟩, ?_, ?_⟩
  · rintro m d env' hd ⟨B, s3, rfl, hB, hjB, hf⟩
    rw [List.getElem?_map] at hd
    obtain ⟨p, hpm, rfl⟩ := Option.map_eq_some_iff.mp hd
    obtain ⟨hml, hme⟩ := List.getElem?_eq_some_iff.mp hpm
    have gp := hp p (List.mem_cons_of_mem _ (List.mem_of_getElem? hpm))
    have dr : ps.drop m = p :: ps.drop (m + 1) := by rw [List.drop_eq_getElem_cons hml, hme]
    rw [dr] at hjB hf
    obtain ⟨j1, j2, j3⟩ := hjB
    have h1 := jt1_ok hA gp.inc gp.few gp.sub
    refine db_cons (ds_set 2 (de_call F2 hr (da_cons (de_var 2 rfl (da_cons (de_call F1 hr (da_cons (de_var 0 rfl (da_cons (de_var 3 rfl (da_nil ⟨A, p, rfl, hA, gp.inc, gp.few, gp.sub, da_nil ⟨B, jt1 A.1 A.2 p, rfl, hB, h1, j1, j2, ?_⟩⟩)))))))))) sc_jparts_t.nd)
    exact db_nil ⟨_, _, rfl, jtJ_ok hB h1 j1 j2, j3, hf⟩
  · rintro env' ⟨B, s3, rfl, hB, hjB, hf⟩
    rw [List.length_map, List.drop_length] at hf
    have : B = jtF A.1 A.2 (jt1 A.1 A.2 p0) ps := hf
    subst this
    exact db_cons (ds_ret (de_var 2 rfl q))
/-! ### keeps -/
theorem idx_rg {n k : Int} (h0 : 0 ≤ k) (h1 : k < n) : (rgI n).idxOf k = k.toNat := by
  have hm : k ∈ rgI n := rgI_mem.mpr ⟨h0, h1⟩
  have hl := List.idxOf_lt_length_of_mem hm
  have he : (rgI n)[(rgI n).idxOf k] = k := List.getElem_idxOf hl
  have hg := rgI_get (n := n) (i := (rgI n).idxOf k) (by rw [← rgI_len]; exact hl)
  rw [List.getElem?_eq_getElem hl, he] at hg
  have := Option.some.inj hg
  omega
theorem pk_rg {n : Int} {row cols : List Int} (h : ∀ k ∈ cols, 0 ≤ k ∧ k < n) : pk (rgI n) row cols = cols.map (cel row) := by
  unfold pk
  refine List.map_congr_left fun k hk => ?_
  rw [idx_rg (h k hk).1 (h k hk).2]
  rfl
theorem agr_map {x y s : List Int} : agr x y s = true ↔ s.map (cel x) = s.map (cel y) := by
  unfold agr
  rw [List.all_eq_true]
  constructor
  · intro h
    exact List.map_congr_left fun k hk => by simpa using h k hk
  · intro h k hk
    rw [decide_eq_true_iff]
    exact List.map_inj_left.mp h k hk
def KeepsV (n : Int) (rows : List (List Int)) : Dep → Prop
  | .fd l r => ∀ x ∈ rows, ∀ y ∈ rows, agr x y l = true → agr x y r = true
  | d => jtF (rgI n) rows (jt1 (rgI n) rows ((prt n d).headD [])) (prt n d).tail = (rgI n, rows)
def phKfd (ds : List D) (q : D → Prop) : Prop := ∃ (n : Int) (rows : List (List Int)) (l r : List Int), ds = [tabD (rgI n) rows, depO (.fd l r)] ∧ n ≤ 4 ∧ TabOk (rgI n, rows) ∧ SetN n l ∧ SetN n r ∧ ∀ b : Bool, (b = true ↔ KeepsV n rows (.fd l r)) → q (.bl b)
theorem ok_keeps_fd (M : MF mg) (C : CF K cA) (F : FD K "keeps_fd" "keeps_fd" s_keeps_fd f fd) (H2 : MtG P w K cA mg base .tab "cells" 1 phCells) : FnOk P w K mg base CX0 2 f fd ["table", "dependency"] (spD ⟨P, w, K, cA⟩ phKfd) := by
  refine fn_ok F sc_keeps_fd (fun ds q ⟨n, rows, l, r, h, _⟩ => by rw [h]; rfl) (by decide) (fun cdv A' outer s0 H E ds Qd hr ⟨n, rows, l, r, e, hn, hT, hl, hr', q⟩ => ?_)
  subst e
  have sz : rows.length ≤ 64 := hT.sz
  have l4 := hl.in64 hn
  have r4 := hr'.in64 hn
  refine db_cons (ds_newT 2 (fun td => ?_) sc_keeps_fd.nd)
  refine db_cons (ds_forT rfl (pg_name (i := 3) sc_keeps_fd.nd rfl (by first | exact Or.inl rfl | exact Or.inr rfl)) (de_rows C (de_var 0 rfl ?_)))
  refine ⟨rows.map rowD, fun m env' => ∃ (kvs : List (TKey × List Int)) (s3 s4 s5 : Sl), env' = [.dat (tabD (rgI n) rows), .dat (depO (.fd l r)), .ot td (kvs.map (·.1)) (kvs.map fun z => rowD z.2), s3, s4, s5] ∧ kvs.length ≤ m ∧
      (∀ e ∈ kvs, ∃ x ∈ rows, e = (kI (l.map (cel x)), r.map (cel x))) ∧ ∀ x ∈ rows.take m, (kvs.find? fun e => decide (e.1 = kI (l.map (cel x)))).map (·.2) = some (r.map (cel x)), rfl, ⟨[], .no, .no, .no, rfl, Nat.le_refl _, fun e he => (by cases he), fun x hx => (by simp at hx)⟩, ?_, ?_⟩
  · rintro m d env' hd ⟨kvs, s3, s4, s5, rfl, hkl, hk1, hk2⟩
    rw [List.getElem?_map] at hd
    obtain ⟨x, hx, rfl⟩ := Option.map_eq_some_iff.mp hd
    have hm := (List.getElem?_eq_some_iff.mp hx).1
    have xm := List.mem_of_getElem? hx
    have xok := hT.ok x xm
    have sub : ∀ {s : List Int}, SetN n s → ∀ k ∈ s, k ∈ rgI n := fun hs k hk => rgI_mem.mpr (hs.2 k hk)
    have tk : rows.take (m + 1) = rows.take m ++ [x] := by rw [List.take_add_one, hx]; rfl
    refine db_cons (ds_set 4 (de_meth (k := .tab) H2 C hr (de_var 0 rfl ⟨_, rfl, da_cons (de_var 3 rfl (da_cons (de_left C (de_var 1 rfl (da_nil ⟨rgI n, rows, x, l, rfl, hT.inc, xok.1, by omega, sub hl, ?_⟩)))))⟩) tab_look) sc_keeps_fd.nd)
    refine db_cons (ds_set 5 (de_meth (k := .tab) H2 C hr (de_var 0 rfl ⟨_, rfl, da_cons (de_var 3 rfl (da_cons (de_right C (de_var 1 rfl (da_nil ⟨rgI n, rows, x, r, rfl, hT.inc, xok.1, by omega, sub hr', ?_⟩)))))⟩) tab_look) sc_keeps_fd.nd)
    rw [pk_rg hl.2, pk_rg hr'.2]
    refine db_cons (ds_ifSd 2 Pe.row (by decide) hr.units rfl (by omega) (de_var 4 rfl (de_var 5 rfl ⟨kI (l.map (cel x)), r.map (cel x), (keyD_kI _).symm, rfl, ?_, ?_⟩)))
    · intro u hu
      refine de_var 5 rfl ⟨_, rfl, ?_⟩
      obtain ⟨e0, he0, hu'⟩ := Option.map_eq_some_iff.mp hu
      have hmem := List.mem_of_find?_eq_some he0
      have hkey : e0.1 = kI (l.map (cel x)) := by simpa using List.find?_some he0
      obtain ⟨y, hy, ey⟩ := hk1 e0 hmem
      have yk : l.map (cel y) = l.map (cel x) := kI_inj (by rw [← hkey, ey])
      have yu : u = r.map (cel y) := by rw [← hu', ey]
      by_cases hux : u = r.map (cel x)
      · rw [if_neg (by simp [hux])]
        refine db_nil (db_nil ⟨kvs, _, _, _, rfl, by omega, hk1, fun z hz => ?_⟩)
        rw [tk] at hz
        rcases List.mem_append.mp hz with h | h
        · exact hk2 z h
        · rw [List.mem_singleton.mp h, hu, hux]
      · rw [if_pos hux]
        refine db_cons (ds_ret (de_bl (q false ⟨fun z => (by cases z), fun hK => absurd ?_ hux⟩)))
        rw [yu]
        exact agr_map.mp (hK y hy x xm (agr_map.mpr yk))
    · intro hno
      refine de_var 5 rfl ⟨_, rfl, ?_⟩
      rw [if_neg (by simp)]
      refine db_nil (db_nil ⟨kvs ++ [(kI (l.map (cel x)), r.map (cel x))], _, _, _, rfl, by simp; omega, fun e he => ?_, fun z hz => ?_⟩)
      · rcases List.mem_append.mp he with h | h
        · exact hk1 e h
        · exact ⟨x, xm, List.mem_singleton.mp h⟩
      · rw [tk] at hz
        rw [List.find?_append]
        rcases List.mem_append.mp hz with h | h
        · obtain ⟨e0, he0, hu'⟩ := Option.map_eq_some_iff.mp (hk2 z h)
          rw [he0]
          simpa using hu'
        · rw [List.mem_singleton.mp h]
          have : kvs.find? (fun e => decide (e.1 = kI (l.map (cel x)))) = none := by
            rw [List.find?_eq_none]
            intro e he hc
            exact hno (List.mem_map.mpr ⟨e, he, by simpa using hc⟩)
          rw [this]
          simp
  · rintro env' ⟨kvs, s3, s4, s5, rfl, hkl, hk1, hk2⟩
    rw [List.length_map, List.take_length] at hk2
    refine db_cons (ds_ret (de_bl (q true ⟨fun _ x hx y hy ha => ?_, fun _ => rfl⟩)))
    have e1 := hk2 x hx
    rw [agr_map.mp ha, hk2 y hy] at e1
    exact agr_map.mpr (Option.some.inj e1).symm
def phPo (ds : List D) (q : D → Prop) : Prop := ∃ (n : Int) (d : Dep), ds = [depO d, rowD (rgI n)] ∧ 0 ≤ n ∧ n ≤ 4 ∧ DepN n d ∧ d.cl ≠ .fd ∧ q (trowsD (prt n d))
theorem ok_parts_of (M : MF mg) (C : CF K cA) (G : CG mg cA) (F : FD K "parts_of" "parts_of" s_parts_of f fd) (F2 : FnG P w K cA mg base "united" 2 phUn) : FnOk P w K mg base CX0 3 f fd ["dependency", "columns"] (spD ⟨P, w, K, cA⟩ phPo) := by
  refine fn_ok F sc_parts_of (fun ds q ⟨n, d, h, _⟩ => by rw [h]; rfl) (by decide) (fun cdv A outer s0 H E ds Qd hr ⟨n, d, e, h0, hn, hd, hc, q⟩ => ?_)
  subst e
  refine db_cons (ds_if (dt_val (de_isi (dep := d) C M.isinstance_ G.jd (de_var 0 rfl ⟨d, rfl, _, rfl, ?_⟩))))
  cases d with
  | fd l r => exact absurd rfl hc
  | jd ps => exact db_cons (ds_ret (de_parts C (de_var 0 rfl q)))
  | mvd l r =>
    have hl := hd.1.in64 hn
    have hr4 := hd.2.in64 hn
    have hw : (rgI n).length ≤ 4 := by rw [rgI_len]; omega
    refine db_nil (db_cons (ds_lcT 2 (j := 3) rfl sc_parts_of.nd (blkOk_by (N := n_parts_of) (sc := defScope s_parts_of) (by decide +kernel)) (fun _ _ _ _ _ => pg_name (i := 3) sc_parts_of.nd rfl (by first | exact Or.inl rfl | exact Or.inr rfl)) rfl (de_var 1 rfl ?_)))
    refine ⟨Int, rgI n, D.int, fun k => decide (k ∉ r), D.int, rfl, by omega, ⟨fun k hk _ _ _ _ _ => di_one (dt_cmp (dc_notin (de_var 3 rfl (de_right C (de_var 0 rfl ⟨k, r, rfl, .inl rfl, _, rfl, notdec _⟩))))), fun k hk _ _ _ _ _ _ => de_var 3 rfl rfl⟩, ?_⟩
    refine db_cons (ds_ret (de_tup (da_cons (de_call F2 hr (da_cons (de_left C (de_var 0 rfl (da_cons (de_right C (de_var 0 rfl (da_nil ⟨_, _, l, r, rfl, .inl rfl, .inl rfl, by omega, ?_⟩)))))))))))
    refine da_cons (de_call F2 hr (da_cons (de_left C (de_var 0 rfl (da_cons (de_var 2 rfl (da_nil ⟨_, _, l, _, rfl, .inl rfl, .inr rfl, ?_, da_nil ⟨by simp, q⟩⟩)))))))
    have := List.length_filter_le (fun k => decide (k ∉ r)) (rgI n)
    omega
end

end DD
namespace DD
open PySem PySem.Spec PyProof.Rows L2
section
variable {P : Program} {w : World} {K : PySem.W.Frag} {cA : Cl → Addr} {mg : Str → Option Value} {base : Heap} {f : Addr} {fd : FuncData}
/-! ### keeps, is_against, takes -/
def PtJ (n : Int) (rows : List (List Int)) (d : Dep) : Prop := d.cl ≠ .fd → JtOk (rgI n) rows (jt1 (rgI n) rows ((prt n d).headD [])) (prt n d).tail
theorem prt_cons {n : Int} {d : Dep} (h : PrtOk n (prt n d)) : prt n d = (prt n d).headD [] :: (prt n d).tail := by
  have := h.two
  cases hp : prt n d with
  | nil => rw [hp] at this; simp at this
  | cons a l => rfl
theorem PrtOk.part {n : Int} {ps : List (List Int)} (h : PrtOk n ps) (hn : n ≤ 4) {p : List Int} (hp : p ∈ ps) : PartOk (rgI n) p :=
  ⟨(h.st p hp).1, by have := (h.st p hp).in64 hn; omega, fun k hk => rgI_mem.mpr ((h.st p hp).2 k hk)⟩
def phKeeps (ds : List D) (q : D → Prop) : Prop := ∃ (n : Int) (rows : List (List Int)) (d : Dep), ds = [tabD (rgI n) rows, depO d] ∧ 0 ≤ n ∧ n ≤ 4 ∧ TabOk (rgI n, rows) ∧ DepN n d ∧ PtJ n rows d ∧ ∀ b : Bool, (b = true ↔ KeepsV n rows d) → q (.bl b)
theorem ok_keeps (M : MF mg) (C : CF K cA) (G : CG mg cA) (F : FD K "keeps" "keeps" s_keeps f fd) (F1 : FnG P w K cA mg base "keeps_fd" 2 phKfd) (F2 : FnG P w K cA mg base "joined_parts_table" 4 phJt) (F3 : FnG P w K cA mg base "parts_of" 3 phPo) (E1 : EqC P w K cA mg base .tab 1 phTabEq) :
    FnOk P w K mg base CX0 5 f fd ["table", "dependency"] (spD ⟨P, w, K, cA⟩ phKeeps) := by
  refine fn_ok F sc_keeps (fun ds q ⟨n, rows, d, h, _⟩ => by rw [h]; rfl) (by decide) (fun cdv A' outer s0 H E ds Qd hr ⟨n, rows, d, e, h0, hn, hT, hd, hj, q⟩ => ?_)
  subst e
  have rest : ∀ {P' : DEnd}, P'.rt = (fun _ => Qd) → d.cl ≠ .fd → DB (bx P w K mg base n_keeps "keeps" (defScope s_keeps) f cdv A' outer s0 H E) cA (startE n_keeps [tabD (rgI n) rows, depO d]) ((defBody s_keeps).drop 1) P' := by
    intro P' hP hc
    have po := prt_ok hd hc
    have pc := prt_cons po
    refine db_cons (ds_ret (de_cmp (dc_eqC (k := .tab) E1 (hr.mono (by decide)) (de_call F2 hr (da_cons (de_var 0 rfl (da_cons (de_call F3 (hr.mono (by decide)) (da_cons ?_)))))))))
    refine de_var 1 rfl (da_cons (de_cols C (de_var 0 rfl ?_)))
    refine da_nil ⟨n, d, rfl, h0, hn, hd, hc, da_nil ⟨(rgI n, rows), (prt n d).headD [], (prt n d).tail, by rw [← pc], hT, fun p hp => po.part hn (by rw [pc]; exact hp), hj hc, ?_⟩⟩
    refine de_var 0 rfl ⟨_, _, rfl, rfl, _, _, _, _, rfl, fun b hb => ⟨b, rfl, ?_⟩⟩
    rw [hP]
    refine q b ?_
    rw [hb]
    have : KeepsV n rows d ↔ jtF (rgI n) rows (jt1 (rgI n) rows ((prt n d).headD [])) (prt n d).tail = (rgI n, rows) := by
      cases d with
      | fd l r => exact absurd rfl hc
      | mvd l r => exact Iff.rfl
      | jd ps => exact Iff.rfl
    rw [this]
    exact ⟨fun h => Prod.ext h.1 h.2, fun h => ⟨congrArg Prod.fst h, congrArg Prod.snd h⟩⟩
  refine db_cons (ds_if (dt_val (de_isi (dep := d) C M.isinstance_ G.fd (de_var 1 rfl ⟨d, rfl, _, rfl, ?_⟩))))
  cases d with
  | fd l r => exact db_cons (ds_ret (de_call F1 (hr.mono (by decide)) (da_cons (de_var 0 rfl (da_cons (de_var 1 rfl (da_nil ⟨n, rows, l, r, rfl, hn, hT, hd.1, hd.2, q⟩)))))))
  | mvd l r => exact db_nil (rest rfl (fun z => nomatch z))
  | jd ps => exact db_nil (rest rfl (fun z => nomatch z))
def phAg (ds : List D) (q : D → Prop) : Prop := ∃ (n : Int) (deps : List Dep) (t : Dep) (rows : List (List Int)), ds = [.int n, .lst (deps.map depO), depO t, trowsD rows] ∧ 0 ≤ n ∧ n ≤ 4 ∧ (∀ d ∈ deps, DepN n d) ∧ DepN n t ∧ rows.length ≤ 64 ∧ RowsOk n.toNat rows ∧ (∀ d ∈ deps, PtJ n (sdR rows) d) ∧ PtJ n (sdR rows) t ∧
  ∀ b : Bool, (b = true ↔ (∀ d ∈ deps, KeepsV n (sdR rows) d) ∧ ¬ KeepsV n (sdR rows) t) → q (.bl b)
theorem rg_ok {n : Int} (hn : n ≤ 4) {rows : List (List Int)} (hz : rows.length ≤ 64) (h : RowsOk n.toNat rows) : TabOk (rgI n, rows) :=
  ⟨(SetN.rg n).1, fun k hk => (rgI_mem.mp hk).1, by show (rgI n).length ≤ 10; rw [rgI_len]; omega, by show RowsOk (rgI n).length rows; rw [rgI_len]; exact h, hz⟩
theorem ok_is_against (M : MF mg) (C : CF K cA) (F : FD K "is_against" "is_against" s_is_against f fd) (H1 : MkG P w K cA mg base "Table" .tab 1 phTab) (F1 : FnG P w K cA mg base "whole" 1 phWhole) (F2 : FnG P w K cA mg base "keeps" 5 phKeeps) :
    FnOk P w K mg base CX0 6 f fd ["count", "dependencies", "target", "rows"] (spD ⟨P, w, K, cA⟩ phAg) := by
  refine fn_ok F sc_is_against (fun ds q ⟨n, deps, t, rows, h, _⟩ => by rw [h]; rfl) (by decide) (fun cdv A' outer s0 H E ds Qd hr ⟨n, deps, t, rows, e, h0, hn, hD, ht, hz, hR, hjD, hjt, q⟩ => ?_)
  subst e
  have hT := rg_ok hn (Nat.le_trans (sdR_len rows) hz) (sdR_ok hR)
  refine db_cons (ds_if (dt_not (dt_val (de_all rfl M.all_ (de_lcT (j := 6) rfl sc_is_against.nd (blkOk_by (N := n_is_against) (sc := defScope s_is_against) (by decide +kernel)) (fun _ _ _ _ _ => pg_name (i := 6) sc_is_against.nd rfl (by first | exact Or.inl rfl | exact Or.inr rfl)) (de_var 3 rfl ?_))))))
  refine ⟨_, rows, rowD, fun _ => true, fun _ => .bl true, rfl, by omega, ⟨fun i hi _ _ _ _ _ => di_nil rfl, fun r hr' _ _ _ _ _ _ => de_cmp (dc_eq (de_len M.len_ (de_var 6 rfl ⟨_, rfl, de_var 0 rfl ⟨_, rfl, ?_⟩⟩)))⟩, rows.map fun _ => true, by rw [filter_true, List.map_map]; rfl, true, by rw [all_true], ?_⟩
  · refine congrArg D.bl (decide_eq_true ?_)
    have := (hR r hr').1
    rw [List.length_map]
    omega
  · refine db_nil (db_cons (ds_set 4 (de_make H1 (hr.mono (by decide)) (da_cons (de_call F1 (hr.mono (by decide)) (da_cons (de_var 0 rfl (da_nil ⟨n, rfl, h0, by omega, da_cons (de_var 3 rfl (da_nil fun a dx => ⟨_, _, rgI n, rows, a, dx, rfl, rfl, .inl rfl, .inr rfl, (SetN.rg n).1, fun k hk => (rgI_mem.mp hk).1, by rw [rgI_len]; omega, hz, by rw [rgI_len]; exact hR, rfl, _, rfl, rfl, ?_⟩))⟩)))))) sc_is_against.nd))
    refine db_cons (ds_forL rfl (pg_name (i := 5) sc_is_against.nd rfl (by first | exact Or.inl rfl | exact Or.inr rfl)) (de_var 1 rfl ?_))
    refine ⟨deps.map depO, fun m env' => ∃ s5 : Sl, env' = [.dat (.int n), .dat (.lst (deps.map depO)), .dat (depO t), .dat (trowsD rows), .dat (tabD (rgI n) (sdR rows)), s5, .no] ∧ ∀ d ∈ deps.take m, KeepsV n (sdR rows) d, rfl, ⟨.no, rfl, fun d hd => by simp at hd⟩, ?_, ?_⟩
    · rintro m d env' hd ⟨s5, rfl, hk⟩
      rw [List.getElem?_map] at hd
      obtain ⟨dp, hm, rfl⟩ := Option.map_eq_some_iff.mp hd
      have dm := List.mem_of_getElem? hm
      refine db_cons (ds_if (dt_not (dt_val (de_call F2 hr (da_cons (de_var 4 rfl (da_cons (de_var 5 rfl (da_nil ⟨n, sdR rows, dp, rfl, h0, hn, hT, hD dp dm, hjD dp dm, fun b hb => ⟨b, rfl, ?_⟩⟩)))))))))
      cases b with
      | true =>
        refine db_nil (db_nil ⟨_, rfl, fun z hz => ?_⟩)
        rw [List.take_add_one, hm] at hz
        rcases List.mem_append.mp hz with h | h
        · exact hk z h
        · simp at h; rw [h]; exact hb.mp rfl
      | false =>
        refine db_cons (ds_ret (de_bl (q false ⟨fun z => (by cases z), fun z => ?_⟩)))
        exact hb.mpr (z.1 dp dm)
    · rintro env' ⟨s5, rfl, hk⟩
      rw [List.length_map, List.take_length] at hk
      refine db_cons (ds_ret (de_not (de_call F2 hr (da_cons (de_var 4 rfl (da_cons (de_var 2 rfl (da_nil ⟨n, sdR rows, t, rfl, h0, hn, hT, ht, hjt, fun b hb => ⟨b, rfl, q _ ?_⟩⟩))))))))
      cases b with
      | true => exact ⟨fun z => (by cases z), fun z => absurd (hb.mp rfl) z.2⟩
      | false => exact ⟨fun _ => ⟨hk, fun z => by have := hb.mpr z; cases this⟩, fun _ => rfl⟩
def phTakes (ds : List D) (q : D → Prop) : Prop :=
  (∃ (n : Int) (deps : List Dep) (t : Dep) (sts : List Stp), ds = [.int n, .lst (deps.map depO), depO t, .bl true, .tup [.str "chased", .tup (sts.map stD)]] ∧ phCh [.int n, .lst (deps.map depO), depO t, .tup (sts.map stD)] q) ∨
  ∃ (n : Int) (deps : List Dep) (t : Dep) (rows : List (List Int)), ds = [.int n, .lst (deps.map depO), depO t, .bl false, .tup [.str "table", trowsD rows]] ∧ phAg [.int n, .lst (deps.map depO), depO t, trowsD rows] q
theorem str_eq (x y : Str) (b : Bool) (h : (x == y) = b) : decide (x = y) = b := by rw [← beqD]; exact h
theorem ok_takes (M : MF mg) (F : FD K "takes" "takes" s_takes f fd) (F1 : FnG P w K cA mg base "chases" 6 phCh) (F2 : FnG P w K cA mg base "is_against" 6 phAg) : FnOk P w K mg base CX0 7 f fd ["count", "dependencies", "target", "verdict", "paper"] (spD ⟨P, w, K, cA⟩ phTakes) := by
  refine fn_ok F sc_takes (fun ds q h => by rcases h with ⟨_, _, _, _, h, _⟩ | ⟨_, _, _, _, h, _⟩ <;> (rw [h]; rfl)) (by decide) (fun cdv A' outer s0 H E ds Qd hr h => ?_)
  rcases h with ⟨n, deps, t, sts, e, hq⟩ | ⟨n, deps, t, rows, e, hq⟩
  · subst e
    refine db_cons (ds_if (dt_bool (dw_and (dt_val (de_var 3 rfl ⟨true, rfl, ?_⟩)))))
    refine dw_and1 (dt_cmp (dc_eq (de_ix (fun _ _ => rfl) (de_var 4 rfl (de_int ⟨_, rfl, de_str ⟨false, rfl, false, rfl, ?_⟩⟩)))))
    refine db_nil (db_cons (ds_if (dt_bool (dw_and (dt_val (de_var 3 rfl ⟨true, rfl, ?_⟩))))))
    refine dw_and1 (dt_cmp (dc_eq (de_ix (fun _ _ => rfl) (de_var 4 rfl (de_int ⟨_, rfl, de_str ⟨true, rfl, true, rfl, ?_⟩⟩)))))
    refine db_cons (ds_ret (de_call F1 hr (da_cons (de_var 0 rfl (da_cons (de_var 1 rfl (da_cons (de_var 2 rfl (da_cons ?_)))))))))
    refine de_ix (fun _ _ => rfl) (de_var 4 rfl (de_int ⟨_, rfl, da_nil hq⟩))
  · subst e
    refine db_cons (ds_if (dt_bool (dw_and (dt_val (de_var 3 rfl ⟨false, rfl, ?_⟩)))))
    refine db_nil (db_cons (ds_if (dt_bool (dw_and (dt_val (de_var 3 rfl ⟨false, rfl, ?_⟩))))))
    refine db_nil (db_cons (ds_if (dt_bool (dw_and (dt_not (dt_val (de_var 3 rfl ⟨false, rfl, ?_⟩)))))))
    refine dw_and1 (dt_cmp (dc_eq (de_ix (fun _ _ => rfl) (de_var 4 rfl (de_int ⟨_, rfl, de_str ⟨true, rfl, true, rfl, ?_⟩⟩)))))
    refine db_cons (ds_ret (de_call F2 hr (da_cons (de_var 0 rfl (da_cons (de_var 1 rfl (da_cons (de_var 2 rfl (da_cons ?_)))))))))
    refine de_ix (fun _ _ => rfl) (de_var 4 rfl (de_int ⟨_, rfl, da_nil hq⟩))
end

end DD
namespace DD
open PySem PySem.Spec PyProof.Rows L2
section
variable {P : Program} {w : World} {K : PySem.W.Frag} {cA : Cl → Addr} {mg : Str → Option Value} {base : Heap} {f : Addr} {fd : FuncData}
/-! ### the law's defs: numbers and sets -/
def phNum (ds : List D) (q : D → Prop) : Prop := ∃ (ss : List Int) (c : Int), ds = [.scr (ss.map D.int), .int c] ∧ ss.length ≤ 1000 ∧ 0 ≤ c ∧ c ≤ 1000 ∧ ∀ ns : List Int, ns.length = c.toNat → (∀ x ∈ ns, 0 ≤ x ∧ x < 1000000) → q (lrowD ns)
theorem ok_law_numbers (M : MF mg) (F : FD K "_law_numbers" "_law_numbers" s_law_numbers f fd) : FnOk P w K mg base CX0 1 f fd ["_law_script", "_law_count"] (spD ⟨P, w, K, cA⟩ phNum) := by
  refine fn_ok F sc_law_numbers (fun ds q ⟨ss, c, h, _⟩ => by rw [h]; rfl) (by decide) (fun cdv A' outer s0 H E ds Qd hr ⟨ss, c, e, hs, h0, hc, q⟩ => ?_)
  subst e
  refine db_cons (ds_set 2 (de_int ?_) sc_law_numbers.nd)
  refine db_cut (fun env' => ∃ r : Int, env' = [.dat (.scr (ss.map D.int)), .dat (.int c), .dat (.int r), .no, .no, .no, .no]) ?_ ?_
  · refine ds_if (dt_cmp (dc_gt (de_len M.len_ (de_var 0 rfl ⟨_, rfl, de_int ⟨_, rfl, ?_⟩⟩))))
    by_cases hl : 0 < ss.length
    · rw [if_pos (decide_eq_true (by rw [List.length_map]; omega))]
      refine db_cons (ds_set 2 (de_ix (fun _ _ => rfl) (de_var 0 rfl (de_int ⟨_, at_of (j := 0) (by omega) rfl (by simpa using hl), ?_⟩))) sc_law_numbers.nd)
      exact db_nil ⟨ss[0], by rw [List.getElem_map]; rfl⟩
    · rw [if_neg fun h => hl (by have := of_decide_eq_true h; rw [List.length_map] at this; omega)]
      exact db_nil ⟨0, rfl⟩
  · rintro env' ⟨r, rfl⟩
    refine db_cons (ds_set 3 (de_cmp (dc_ge (de_var 2 rfl (de_pow (de_int (de_int ⟨⟨by decide, by decide, by decide⟩, ?_⟩)))))) sc_law_numbers.nd)
    refine db_cons (ds_newL 4 (fun L => ?_) sc_law_numbers.nd)
    refine db_cons (ds_forR rfl (pg_name (i := 5) sc_law_numbers.nd rfl (by first | exact Or.inl rfl | exact Or.inr rfl)) M.range_ (de_var 1 rfl ?_))
    refine ⟨c, fun m env' => ∃ (r : Int) (b : Bool) (ns : List Int) (s5 s6 : Sl), env' = [.dat (.scr (ss.map D.int)), .dat (.int c), .dat (.int r), .dat (.bl b), .ol L (ns.map D.int), s5, s6] ∧ ns.length = m ∧ ∀ x ∈ ns, 0 ≤ x ∧ x < 1000000, rfl, by omega, by omega, ⟨r, _, [], _, _, rfl, rfl, fun x hx => (by cases hx)⟩, ?_, ?_⟩
    · rintro m env' hm ⟨r, b, ns, s5, s6, rfl, hl, hb⟩
      have snoc : ∀ v : Int, 0 ≤ v → v < 1000000 → (∀ x ∈ ns ++ [v], 0 ≤ x ∧ x < 1000000) := fun v v0 v1 x hx => by
        rcases List.mem_append.mp hx with h | h
        · exact hb x h
        · rw [List.mem_singleton.mp h]; exact ⟨v0, v1⟩
      have fin : ∀ (v r' : Int) (s6 : Sl), 0 ≤ v → v < 1000000 → ∃ (r : Int) (b' : Bool) (ns' : List Int) (t5 t6 : Sl), [Sl.dat (.scr (ss.map D.int)), .dat (.int c), .dat (.int r'), .dat (.bl b), .ol L (ns.map D.int ++ [.int v]), .dat (.int (m : Int)), s6] = [.dat (.scr (ss.map D.int)), .dat (.int c), .dat (.int r), .dat (.bl b'), .ol L (ns'.map D.int), t5, t6] ∧ ns'.length = m + 1 ∧ ∀ x ∈ ns', 0 ≤ x ∧ x < 1000000 := fun v r' s6 v0 v1 =>
        ⟨r', b, ns ++ [v], _, _, by rw [List.map_append]; rfl, by simp [hl], snoc v v0 v1⟩
      refine db_cons ?_
      have other : ∀ {P' : DEnd}, (∀ v s6, 0 ≤ v → v < 1000000 → P'.nx [Sl.dat (.scr (ss.map D.int)), .dat (.int c), .dat (.int r), .dat (.bl b), .ol L (ns.map D.int ++ [.int v]), .dat (.int (m : Int)), s6]) → DB (bx P w K mg base n_law_numbers "_law_numbers" (defScope s_law_numbers) f cdv A' outer s0 H E) cA
          [Sl.dat (.scr (ss.map D.int)), .dat (.int c), .dat (.int r), .dat (.bl b), .ol L (ns.map D.int), .dat (.int (m : Int)), s6] (match (defBody s_law_numbers).getD 4 (.Pass ⟨0, 0, 0, 0⟩) with | .For _ _ (.If _ _ els _ :: _) _ _ => els | _ => []) P' := by
        intro P' hP
        refine db_cons (ds_set 6 (de_int ?_) sc_law_numbers.nd)
        refine db_cut (fun env' => ∃ v : Int, env' = [Sl.dat (.scr (ss.map D.int)), .dat (.int c), .dat (.int r), .dat (.bl b), .ol L (ns.map D.int), .dat (.int (m : Int)), .dat (.int v)]) ?_ ?_
        · refine ds_if (dt_cmp (dc_gt (de_len M.len_ (de_var 0 rfl ⟨_, rfl, de_int ⟨_, rfl, ?_⟩⟩))))
          by_cases hl : 0 < ss.length
          · rw [if_pos (decide_eq_true (by rw [List.length_map]; omega))]
            refine db_cons (ds_set 6 (de_add (de_ix (fun _ _ => rfl) (de_var 0 rfl (de_mod (de_var 5 rfl (de_len M.len_ (de_var 0 rfl ⟨_, rfl, ?_⟩))))))) sc_law_numbers.nd)
            have lp : (0 : Int) < (ss.map D.int).length := by rw [List.length_map]; omega
            have m1 := Int.emod_nonneg (m : Int) (Int.ne_of_gt lp)
            have m2 := Int.emod_lt_of_pos (m : Int) lp
            refine ⟨lp, _, at_of (j := ((m : Int) % ((ss.map D.int).length : Int)).toNat) m1 rfl (by omega), ?_⟩
            rw [List.getElem_map]
            refine de_mul (de_int (de_var 5 rfl ⟨.inl ⟨by decide, by decide⟩, ?_⟩))
            exact db_nil ⟨_, rfl⟩
          · rw [if_neg fun h => hl (by have := of_decide_eq_true h; rw [List.length_map] at this; omega)]
            exact db_nil ⟨13, rfl⟩
        · rintro env' ⟨v, rfl⟩
          refine db_cons (ds_append 4 rfl (by rw [List.length_map]; omega) (de_mod (de_mod (de_mul (de_mod (de_mul (de_var 6 rfl (de_int ⟨.inr ⟨by decide, by decide⟩, ?_⟩)))))))) 
          refine de_int ⟨by decide, de_int ⟨.inr ⟨by decide, by decide⟩, de_int ⟨by decide, de_int ⟨by decide, db_nil (hP _ _ ?_ ?_)⟩⟩⟩⟩
          · exact Int.emod_nonneg _ (by decide)
          · exact Int.emod_lt_of_pos _ (by decide)
      refine ds_if (dt_bool (dw_and (dt_val (de_var 3 rfl ⟨b, rfl, ?_⟩))))
      cases b with
      | false => exact other fun v s6 v0 v1 => db_nil (fin v r s6 v0 v1)
      | true =>
        refine dw_and1 (dt_cmp (dc_gt (de_var 2 rfl (de_int ⟨_, rfl, ?_⟩))))
        by_cases hr0 : 0 < r
        · rw [if_pos (decide_eq_true hr0)]
          refine db_cons (ds_append 4 rfl (by rw [List.length_map]; omega) (de_mod (de_var 2 rfl (de_int ⟨by decide, ?_⟩))))
          refine db_cons (ds_set 2 (de_fdiv (de_var 2 rfl (de_int ⟨⟨by decide, by decide⟩, ?_⟩))) sc_law_numbers.nd)
          exact db_nil (db_nil (fin _ _ _ (Int.emod_nonneg _ (by decide)) (Int.emod_lt_of_pos _ (by decide))))
        · rw [if_neg (by simpa using hr0)]
          exact other fun v s6 v0 v1 => db_nil (fin v r s6 v0 v1)
    · rintro env' ⟨r, b, ns, s5, s6, rfl, hl, hb⟩
      exact db_freeze 4 rfl (db_cons (ds_ret (de_var 4 rfl (q ns hl hb))))
end

end DD
namespace DD
open PySem PySem.Spec PyProof.Rows L2
section
variable {P : Program} {w : World} {K : PySem.W.Frag} {cA : Cl → Addr} {mg : Str → Option Value} {base : Heap} {f : Addr} {fd : FuncData}
/-- what a number draws -/
def phSet (ds : List D) (q : D → Prop) : Prop := ∃ (v n : Int), ds = [.int v, .int n] ∧ 0 ≤ n ∧ n ≤ 4 ∧ ∀ s, SetN n s → q (rowD s)
theorem cel_mem {cs : List Int} {k : Int} (h0 : 0 ≤ k) (h1 : k < cs.length) : cel cs k ∈ cs := by
  unfold cel
  rw [List.getD_eq_getElem?_getD, List.getElem?_eq_getElem (by omega : k.toNat < cs.length)]
  exact List.getElem_mem _
theorem ok_law_set (M : MF mg) (F : FD K "_law_set" "_law_set" s_law_set f fd) : FnOk P w K mg base CX0 1 f fd ["_law_number", "_law_count"] (spD ⟨P, w, K, cA⟩ phSet) := by
  refine fn_ok F sc_law_set (fun ds q ⟨v, n, h, _⟩ => by rw [h]; rfl) (by decide) (fun cdv A' outer s0 H E ds Qd hr ⟨v, n, e, h0, hn, q⟩ => ?_)
  subst e
  let cs : List Int := [1, 2, 4, 8, 16, 32, 64, 128, 256, 512]
  have hcs : ∀ c ∈ cs, 0 < c ∧ c < 1073741824 := by decide
  refine db_cons (ds_ret (de_tupleOf M.tuple_ (de_lcR (j := 2) rfl sc_law_set.nd (blkOk_by (N := n_law_set) (sc := defScope s_law_set) (by decide +kernel)) (fun _ _ _ _ _ => pg_name (i := 2) sc_law_set.nd rfl (by first | exact Or.inl rfl | exact Or.inr rfl)) M.range_ (de_var 1 rfl ?_))))
  refine ⟨n, fun k => decide (v / cel cs k % 2 = 1), D.int, rfl, h0, by omega, ⟨fun k hk _ _ _ _ _ => di_one (dt_cmp (dc_eq (de_mod (de_fdiv (de_var 0 rfl (de_ix (fun _ _ => rfl) (de_lst ?_))))))), fun k hk _ _ _ _ _ _ => de_var 2 rfl rfl⟩, _, rfl, q _ ((SetN.rg n).filter _)⟩
  have kk := rgI_mem.mp hk
  refine da_cons (de_int (da_cons (de_int (da_cons (de_int (da_cons (de_int (da_cons (de_int (da_cons (de_int (da_cons (de_int (da_cons (de_int (da_cons (de_int (da_cons (de_int (da_nil ⟨by simp, de_var 2 rfl ?_⟩))))))))))))))))))))
  have kl : k < cs.length := by show k < 10; omega
  refine ⟨_, at_cel (r := cs) kk.1 kl, ?_⟩
  have hc := hcs _ (cel_mem kk.1 kl)
  exact ⟨⟨hc.1, hc.2⟩, de_int ⟨by decide, de_int ⟨_, rfl, _, rfl, rfl⟩⟩⟩
theorem ok_law_sparse (M : MF mg) (F : FD K "_law_sparse" "_law_sparse" s_law_sparse f fd) : FnOk P w K mg base CX0 1 f fd ["_law_number", "_law_count"] (spD ⟨P, w, K, cA⟩ phSet) := by
  refine fn_ok F sc_law_sparse (fun ds q ⟨v, n, h, _⟩ => by rw [h]; rfl) (by decide) (fun cdv A' outer s0 H E ds Qd hr ⟨v, n, e, h0, hn, q⟩ => ?_)
  subst e
  let cs : List Int := [1, 3, 9, 27, 81, 243, 729, 2187, 6561, 19683]
  have hcs : ∀ c ∈ cs, 0 < c ∧ c < 1073741824 := by decide
  refine db_cons (ds_ret (de_tupleOf M.tuple_ (de_lcR (j := 2) rfl sc_law_sparse.nd (blkOk_by (N := n_law_sparse) (sc := defScope s_law_sparse) (by decide +kernel)) (fun _ _ _ _ _ => pg_name (i := 2) sc_law_sparse.nd rfl (by first | exact Or.inl rfl | exact Or.inr rfl)) M.range_ (de_var 1 rfl ?_))))
  refine ⟨n, fun k => decide (v / cel cs k % 3 = 1), D.int, rfl, h0, by omega, ⟨fun k hk _ _ _ _ _ => di_one (dt_cmp (dc_eq (de_mod (de_fdiv (de_var 0 rfl (de_ix (fun _ _ => rfl) (de_lst ?_))))))), fun k hk _ _ _ _ _ _ => de_var 2 rfl rfl⟩, _, rfl, q _ ((SetN.rg n).filter _)⟩
  have kk := rgI_mem.mp hk
  refine da_cons (de_int (da_cons (de_int (da_cons (de_int (da_cons (de_int (da_cons (de_int (da_cons (de_int (da_cons (de_int (da_cons (de_int (da_cons (de_int (da_cons (de_int (da_nil ⟨by simp, de_var 2 rfl ?_⟩))))))))))))))))))))
  have kl : k < cs.length := by show k < 10; omega
  refine ⟨_, at_cel (r := cs) kk.1 kl, ?_⟩
  have hc := hcs _ (cel_mem kk.1 kl)
  exact ⟨⟨hc.1, hc.2⟩, de_int ⟨by decide, de_int ⟨_, rfl, _, rfl, rfl⟩⟩⟩
def phUn2 (ds : List D) (q : D → Prop) : Prop := ∃ (a b : List Int), ds = [rowD a, rowD b] ∧ a.length + b.length < 64 ∧ q (rowD (sdI (a ++ b)))
theorem ok_law_united (M : MF mg) (F : FD K "_law_united" "_law_united" s_law_united f fd) : FnOk P w K mg base CX0 1 f fd ["_law_a", "_law_b"] (spD ⟨P, w, K, cA⟩ phUn2) := by
  refine fn_ok F sc_law_united (fun ds q ⟨a, b, h, _⟩ => by rw [h]; rfl) (by decide) (fun cdv A' outer s0 H E ds Qd hr ⟨a, b, e, hl, q⟩ => ?_)
  subst e
  refine db_cons (ds_ret (de_tupleOf M.tuple_ (de_sortedSet rfl hr.units M.sorted_ M.set_ (de_add (de_var 0 rfl (de_var 1 rfl ⟨by simp; omega, a ++ b, .inl (by rw [← List.map_append]), by simp; omega, _, rfl, q⟩))))))
def phMet2 (ds : List D) (q : D → Prop) : Prop := ∃ (xs ys : List Int), ds = [rowD xs, rowD ys] ∧ xs.length ≤ 1000 ∧ q (rowD (xs.filter fun k => decide (k ∈ ys)))
theorem ok_law_met (M : MF mg) (F : FD K "_law_met" "_law_met" s_law_met f fd) : FnOk P w K mg base CX0 1 f fd ["_law_a", "_law_b"] (spD ⟨P, w, K, cA⟩ phMet2) := by
  refine fn_ok F sc_law_met (fun ds q ⟨a, b, h, _⟩ => by rw [h]; rfl) (by decide) (fun cdv A' outer s0 H E ds Qd hr ⟨xs, ys, e, hl, q⟩ => ?_)
  subst e
  refine db_cons (ds_ret (de_tupleOf M.tuple_ (de_lcT (j := 2) rfl sc_law_met.nd (blkOk_by (N := n_law_met) (sc := defScope s_law_met) (by decide +kernel)) (fun _ _ _ _ _ => pg_name (i := 2) sc_law_met.nd rfl (by first | exact Or.inl rfl | exact Or.inr rfl)) (de_var 0 rfl ?_))))
  exact ⟨Int, xs, D.int, fun i => decide (i ∈ ys), D.int, rfl, by omega, ⟨fun i hi _ _ _ _ _ => di_one (dt_cmp (dc_in (de_var 2 rfl (de_var 1 rfl ⟨i, ys, rfl, .inl rfl, _, rfl, rfl⟩)))), fun i hi hf _ _ _ _ _ => de_var 2 rfl rfl⟩, _, rfl, q⟩
def phLess2 (ds : List D) (q : D → Prop) : Prop := ∃ (xs ys : List Int), ds = [rowD xs, rowD ys] ∧ xs.length ≤ 1000 ∧ q (rowD (xs.filter fun k => decide (k ∉ ys)))
theorem ok_law_less (M : MF mg) (F : FD K "_law_less" "_law_less" s_law_less f fd) : FnOk P w K mg base CX0 1 f fd ["_law_a", "_law_b"] (spD ⟨P, w, K, cA⟩ phLess2) := by
  refine fn_ok F sc_law_less (fun ds q ⟨a, b, h, _⟩ => by rw [h]; rfl) (by decide) (fun cdv A' outer s0 H E ds Qd hr ⟨xs, ys, e, hl, q⟩ => ?_)
  subst e
  refine db_cons (ds_ret (de_tupleOf M.tuple_ (de_lcT (j := 2) rfl sc_law_less.nd (blkOk_by (N := n_law_less) (sc := defScope s_law_less) (by decide +kernel)) (fun _ _ _ _ _ => pg_name (i := 2) sc_law_less.nd rfl (by first | exact Or.inl rfl | exact Or.inr rfl)) (de_var 0 rfl ?_))))
  exact ⟨Int, xs, D.int, fun i => decide (i ∉ ys), D.int, rfl, by omega, ⟨fun i hi _ _ _ _ _ => di_one (dt_cmp (dc_notin (de_var 2 rfl (de_var 1 rfl ⟨i, ys, rfl, .inl rfl, _, rfl, notdec _⟩)))), fun i hi hf _ _ _ _ _ => de_var 2 rfl rfl⟩, _, rfl, q⟩
/-! ### agree, parts, first rows -/
def phAgree2 (ds : List D) (q : D → Prop) : Prop := ∃ (a b s : List Int), ds = [rowD a, rowD b, rowD s] ∧ s.length ≤ 1000 ∧ (∀ k ∈ s, 0 ≤ k ∧ k < a.length ∧ k < b.length) ∧ q (.bl (agr a b s))
theorem len_none {α : Type} (s : List α) (p : α → Bool) : decide (((s.filter fun k => !p k).length : Int) = 0) = s.all p := by
  induction s with
  | nil => rfl
  | cons a s ih =>
    rw [List.all_cons, ← ih]
    cases h : p a with
    | true => rw [List.filter_cons_of_neg (by simp [h])]; simp
    | false => rw [List.filter_cons_of_pos (by simp [h])]; simp; omega
theorem ok_law_agree (M : MF mg) (F : FD K "_law_agree" "_law_agree" s_law_agree f fd) : FnOk P w K mg base CX0 1 f fd ["_law_one", "_law_two", "_law_columns"] (spD ⟨P, w, K, cA⟩ phAgree2) := by
  refine fn_ok F sc_law_agree (fun ds q ⟨a, b, s, h, _⟩ => by rw [h]; rfl) (by decide) (fun cdv A' outer s0 H E ds Qd hr ⟨a, b, s, e, hl, hb, q⟩ => ?_)
  subst e
  refine db_cons (ds_ret (de_cmp (dc_eq (de_len M.len_ (de_lcT (j := 3) rfl sc_law_agree.nd (blkOk_by (N := n_law_agree) (sc := defScope s_law_agree) (by decide +kernel)) (fun _ _ _ _ _ => pg_name (i := 3) sc_law_agree.nd rfl (by first | exact Or.inl rfl | exact Or.inr rfl)) (de_var 2 rfl ?_))))))
  refine ⟨Int, s, D.int, fun k => !decide (cel a k = cel b k), D.int, rfl, by omega, ⟨fun k hk _ _ _ _ _ => di_one (dt_cmp (dc_ne (de_ix (fun _ _ => rfl) (de_var 0 rfl (de_var 3 rfl (ix_in (.inl rfl) (hb k hk).1 (hb k hk).2.1 (de_ix (fun _ _ => rfl) (de_var 1 rfl (de_var 3 rfl (ix_in (.inl rfl) (hb k hk).1 (hb k hk).2.2 ⟨_, rfl, _, rfl, rfl⟩)))))))))), fun i hi hf _ _ _ _ _ => de_var 3 rfl rfl⟩, _, rfl, de_int ⟨_, rfl, ?_⟩⟩
  rw [List.length_map]
  have := len_none s fun k => decide (cel a k = cel b k)
  show Qd (.bl (decide (((s.filter fun k => !decide (cel a k = cel b k)).length : Int) = 0)))
  rw [this]
  exact q
def phParts2 (ds : List D) (q : D → Prop) : Prop := ∃ (n : Int) (d : Dep), ds = [.int n, depD d] ∧ 0 ≤ n ∧ n ≤ 4 ∧ DepN n d ∧ d.cl ≠ .fd ∧ q (trowsD (prt n d))
theorem ok_law_parts (M : MF mg) (F : FD K "_law_parts" "_law_parts" s_law_parts f fd) (F1 : FnG P w K cA mg base "_law_less" 1 phLess2) (F2 : FnG P w K cA mg base "_law_united" 1 phUn2) : FnOk P w K mg base CX0 2 f fd ["_law_count", "_law_one"] (spD ⟨P, w, K, cA⟩ phParts2) := by
  refine fn_ok F sc_law_parts (fun ds q ⟨n, d, h, _⟩ => by rw [h]; rfl) (by decide) (fun cdv A' outer s0 H E ds Qd hr ⟨n, d, e, h0, hn, hd, hc, q⟩ => ?_)
  subst e
  cases d with
  | fd l r => exact absurd rfl hc
  | jd ps =>
    refine db_cons (ds_if (dt_cmp (dc_eq (de_ix (fun _ _ => rfl) (de_var 1 rfl (de_int ⟨_, rfl, de_str ⟨true, rfl, true, rfl, ?_⟩⟩))))))
    exact db_cons (ds_ret (de_ix (fun _ _ => rfl) (de_var 1 rfl (de_int ⟨_, rfl, q⟩))))
  | mvd l r =>
    have hl := hd.1.in64 hn
    have hr4 := hd.2.in64 hn
    have hw : (rgI n).length ≤ 4 := by rw [rgI_len]; omega
    refine db_cons (ds_if (dt_cmp (dc_eq (de_ix (fun _ _ => rfl) (de_var 1 rfl (de_int ⟨_, rfl, de_str ⟨false, rfl, false, rfl, ?_⟩⟩))))))
    refine db_nil (db_cons (ds_set 2 (de_call F1 hr (da_cons (de_tupRange rfl M.tuple_ M.range_ (de_var 0 rfl ⟨n, rfl, h0, by omega, da_cons (de_ix (fun _ _ => rfl) (de_var 1 rfl (de_int ⟨_, rfl, da_nil ⟨rgI n, r, rfl, by omega, ?_⟩⟩)))⟩)))) sc_law_parts.nd))
    refine db_cons (ds_ret (de_tup (da_cons (de_call F2 hr (da_cons (de_ix (fun _ _ => rfl) (de_var 1 rfl (de_int ⟨_, rfl, da_cons (de_ix (fun _ _ => rfl) (de_var 1 rfl (de_int ⟨_, rfl, da_nil ⟨l, r, rfl, by omega, ?_⟩⟩)))⟩))))))))
    refine da_cons (de_call F2 hr (da_cons (de_ix (fun _ _ => rfl) (de_var 1 rfl (de_int ⟨_, rfl, da_cons (de_var 2 rfl (da_nil ⟨l, _, rfl, ?_, da_nil ⟨by simp, q⟩⟩))⟩)))))
    have := List.length_filter_le (fun k => decide (k ∉ r)) (rgI n)
    omega
def phObj (ds : List D) (q : D → Prop) : Prop := ∃ (n : Int) (d : Dep), ds = [depD d] ∧ n ≤ 4 ∧ DepN n d ∧ q (depO d)
theorem ok_law_object (M : MF mg) (F : FD K "_law_object" "_law_object" s_law_object f fd) (H1 : MkG P w K cA mg base "Fd" .fd 2 (phSides .fd)) (H2 : MkG P w K cA mg base "Mvd" .mvd 2 (phSides .mvd)) (H3 : MkG P w K cA mg base "Jd" .jd 2 phJd) : FnOk P w K mg base CX0 4 f fd ["_law_dependency_here"] (spD ⟨P, w, K, cA⟩ phObj) := by
  refine fn_ok F sc_law_object (fun ds q ⟨n, d, h, _⟩ => by rw [h]; rfl) (by decide) (fun cdv A' outer s0 H E ds Qd hr ⟨n, d, e, hn, hd, q⟩ => ?_)
  subst e
  cases d with
  | fd l r =>
    have hl := hd.1.in64 hn
    have hr4 := hd.2.in64 hn
    refine db_cons (ds_if (dt_cmp (dc_eq (de_ix (fun _ _ => rfl) (de_var 0 rfl (de_int ⟨_, rfl, de_str ⟨true, rfl, true, rfl, ?_⟩⟩))))))
    refine db_cons (ds_ret (de_make H1 hr (da_cons (de_listOf M.list_ (de_ix (fun _ _ => rfl) (de_var 0 rfl (de_int ⟨_, rfl, _, rfl, da_cons (de_listOf M.list_ (de_ix (fun _ _ => rfl) (de_var 0 rfl (de_int ⟨_, rfl, _, rfl, da_nil fun a dx => ⟨_, _, l, r, a, dx, rfl, rfl, .inr rfl, .inr rfl, by omega, by omega, rfl, _, rfl, rfl, ?_⟩⟩))))⟩)))))))
    rw [sdI_id hd.1.1, sdI_id hd.2.1]
    exact q
  | mvd l r =>
    have hl := hd.1.in64 hn
    have hr4 := hd.2.in64 hn
    refine db_cons (ds_if (dt_cmp (dc_eq (de_ix (fun _ _ => rfl) (de_var 0 rfl (de_int ⟨_, rfl, de_str ⟨false, rfl, false, rfl, ?_⟩⟩))))))
    refine db_nil (db_cons (ds_if (dt_cmp (dc_eq (de_ix (fun _ _ => rfl) (de_var 0 rfl (de_int ⟨_, rfl, de_str ⟨true, rfl, true, rfl, ?_⟩⟩)))))))
    refine db_cons (ds_ret (de_make H2 hr (da_cons (de_listOf M.list_ (de_ix (fun _ _ => rfl) (de_var 0 rfl (de_int ⟨_, rfl, _, rfl, da_cons (de_listOf M.list_ (de_ix (fun _ _ => rfl) (de_var 0 rfl (de_int ⟨_, rfl, _, rfl, da_nil fun a dx => ⟨_, _, l, r, a, dx, rfl, rfl, .inr rfl, .inr rfl, by omega, by omega, rfl, _, rfl, rfl, ?_⟩⟩))))⟩)))))))
    rw [sdI_id hd.1.1, sdI_id hd.2.1]
    exact q
  | jd ps =>
    refine db_cons (ds_if (dt_cmp (dc_eq (de_ix (fun _ _ => rfl) (de_var 0 rfl (de_int ⟨_, rfl, de_str ⟨false, rfl, false, rfl, ?_⟩⟩))))))
    refine db_nil (db_cons (ds_if (dt_cmp (dc_eq (de_ix (fun _ _ => rfl) (de_var 0 rfl (de_int ⟨_, rfl, de_str ⟨false, rfl, false, rfl, ?_⟩⟩)))))))
    refine db_nil (db_cons (ds_ret (de_make H3 hr (da_cons (de_lcT (j := 1) rfl sc_law_object.nd (blkOk_by (N := n_law_object) (sc := defScope s_law_object) (by decide +kernel)) (fun _ _ _ _ _ => pg_name (i := 1) sc_law_object.nd rfl (by first | exact Or.inl rfl | exact Or.inr rfl)) (de_ix (fun _ _ => rfl) (de_var 0 rfl (de_int ⟨_, rfl, ?_⟩))))))))
    have hlen := hd.2.2.1
    refine ⟨_, ps, rowD, fun _ => true, lrowD, rfl, by omega, ⟨fun i hi _ _ _ _ _ => di_nil rfl, fun p hp _ _ _ _ _ _ => de_listOf M.list_ (de_var 1 rfl ⟨_, rfl, rfl⟩)⟩, ?_⟩
    rw [filter_true]
    refine da_nil fun a dx => ⟨[], ps, a, dx, rfl, rfl, by omega, fun p hp => by have := (hd.1 p hp).in64 hn; omega, rfl, _, rfl, rfl, ?_⟩
    have : ps.map sdI = ps := by
      conv => rhs; rw [← List.map_id ps]
      exact List.map_congr_left fun p hp => sdI_id (hd.1 p hp).1
    rw [this]
    exact q
end

end DD
namespace DD
open PySem PySem.Spec PyProof.Rows L2
section
variable {P : Program} {w : World} {K : PySem.W.Frag} {cA : Cl → Addr} {mg : Str → Option Value} {base : Heap} {f : Addr} {fd : FuncData}
/-! ### first rows, told dependencies -/
def phFirst2 (ds : List D) (q : D → Prop) : Prop := ∃ (n : Int) (t : Dep), ds = [.int n, depD t] ∧ 0 ≤ n ∧ n ≤ 4 ∧ DepN n t ∧ q (rowsD (firstR n t))
theorem map_zero {n : Int} : ((rgI n).map fun _ => (0 : Int)) = zeroR n := by
  unfold zeroR
  rw [← rgI_len]
  exact List.map_const' ..
theorem ok_law_first (M : MF mg) (F : FD K "_law_first" "_law_first" s_law_first f fd) : FnOk P w K mg base CX0 1 f fd ["_law_count", "_law_target"] (spD ⟨P, w, K, cA⟩ phFirst2) := by
  refine fn_ok F sc_law_first (fun ds q ⟨n, t, h, _⟩ => by rw [h]; rfl) (by decide) (fun cdv A' outer s0 H E ds Qd hr ⟨n, t, e, h0, hn, ht, q⟩ => ?_)
  subst e
  refine db_cons (ds_newL 2 (fun L => ?_) sc_law_first.nd)
  have two : ∀ (x : Str) (l r : List Int) {P' : DEnd}, (x = "fd" ∨ x = "mvd") → P'.rt = (fun _ => Qd) → (firstR n t = [zeroR n, markR n l]) → depD t = .tup [.str x, rowD l, rowD r] → DB (bx P w K mg base n_law_first "_law_first" (defScope s_law_first) f cdv A' outer s0 H E) cA [.dat (.int n), .dat (.tup [.str x, rowD l, rowD r]), .ol L [], .no, .no] ((defBody s_law_first).drop 2) P' := by
    intro x l r P' hx hP hf hd
    refine db_cons (ds_ret (de_lst (da_cons (de_tupleOf M.tuple_ (de_lcR (j := 4) rfl sc_law_first.nd (blkOk_by (N := n_law_first) (sc := defScope s_law_first) (by decide +kernel)) (fun _ _ _ _ _ => pg_name (i := 4) sc_law_first.nd rfl (by first | exact Or.inl rfl | exact Or.inr rfl)) M.range_ (de_var 0 rfl ?_))))))
    refine ⟨n, fun _ => true, fun _ => .int 0, rfl, h0, by omega, ⟨fun k hk _ _ _ _ _ => di_nil rfl, fun k hk _ _ _ _ _ _ => de_int rfl⟩, _, rfl, ?_⟩
    refine da_cons (de_tupleOf M.tuple_ (de_lcR (j := 4) rfl sc_law_first.nd (blkOk_by (N := n_law_first) (sc := defScope s_law_first) (by decide +kernel)) (fun _ _ _ _ _ => pg_name (i := 4) sc_law_first.nd rfl (by first | exact Or.inl rfl | exact Or.inr rfl)) M.range_ (de_var 0 rfl ?_)))
    refine ⟨n, fun _ => true, fun k => .int (if k ∈ l then 0 else 1), rfl, h0, by omega, ⟨fun k hk _ _ _ _ _ => di_nil rfl, fun k hk _ _ _ _ _ _ => de_intOf M.int_ (de_cmp (dc_notin (de_var 4 rfl (de_ix (fun _ _ => rfl) (de_var 1 rfl (de_int ⟨_, rfl, k, l, rfl, .inl rfl, ?_⟩))))))⟩, _, rfl, da_nil ⟨by simp, ?_⟩⟩
    · exact congrArg D.int (int_notin k l)
    · rw [hP, filter_true]
      have e1 : ((rgI n).map fun _ => D.int 0) = (zeroR n).map D.int := by rw [← map_zero, List.map_map]; rfl
      have e2 : ((rgI n).map fun k => D.int (if k ∈ l then 0 else 1)) = (markR n l).map D.int := by unfold markR; rw [List.map_map]; rfl
      rw [e1, e2]
      rw [hf] at q
      exact q
  cases t with
  | fd l r =>
    refine db_cons (ds_if (dt_cmp (dc_eq (de_ix (fun _ _ => rfl) (de_var 1 rfl (de_int ⟨_, rfl, de_str ⟨false, rfl, false, rfl, ?_⟩⟩))))))
    exact db_nil (two "fd" l r (.inl rfl) rfl rfl rfl)
  | mvd l r =>
    refine db_cons (ds_if (dt_cmp (dc_eq (de_ix (fun _ _ => rfl) (de_var 1 rfl (de_int ⟨_, rfl, de_str ⟨false, rfl, false, rfl, ?_⟩⟩))))))
    exact db_nil (two "mvd" l r (.inr rfl) rfl rfl rfl)
  | jd ps =>
    have p4 := ht.2.2.1
    refine db_cons (ds_if (dt_cmp (dc_eq (de_ix (fun _ _ => rfl) (de_var 1 rfl (de_int ⟨_, rfl, de_str ⟨true, rfl, true, rfl, ?_⟩⟩))))))
    refine db_cons (ds_forT rfl (pg_name (i := 3) sc_law_first.nd rfl (by first | exact Or.inl rfl | exact Or.inr rfl)) (de_ix (fun _ _ => rfl) (de_var 1 rfl (de_int ⟨_, rfl, ?_⟩))))
    refine ⟨ps.map rowD, fun m env' => ∃ s3 : Sl, env' = [.dat (.int n), .dat (depD (.jd ps)), .ol L (((List.range m).map fun i => rowJ n i (ps.getD i [])).map rowD), s3, .no], rfl, ⟨.no, rfl⟩, ?_, ?_⟩
    · rintro m d env' hd ⟨s3, rfl⟩
      rw [List.getElem?_map] at hd
      obtain ⟨p, hp, rfl⟩ := Option.map_eq_some_iff.mp hd
      have hml := (List.getElem?_eq_some_iff.mp hp).1
      refine db_cons (ds_append 2 rfl (by rw [List.length_map, List.length_map, List.length_range]; omega) (de_tupleOf M.tuple_ (de_lcR (j := 4) rfl sc_law_first.nd (blkOk_by (N := n_law_first) (sc := defScope s_law_first) (by decide +kernel)) (fun _ _ _ _ _ => pg_name (i := 4) sc_law_first.nd rfl (by first | exact Or.inl rfl | exact Or.inr rfl)) M.range_ (de_var 0 rfl ?_))))
      refine ⟨n, fun _ => true, fun k => .int (((m : Int) + 1) * (if k ∈ p then 0 else 1)), rfl, h0, by omega, ⟨fun k hk _ _ _ _ _ => di_nil rfl, fun k hk _ _ _ _ _ _ => ?_⟩, _, rfl, db_nil ⟨.dat (rowD p), ?_⟩⟩
      · refine de_mul (de_view 2 rfl (de_add (de_len M.len_ (de_var 2 rfl ⟨_, rfl, de_int ⟨rfl, de_intOf M.int_ (de_cmp (dc_notin (de_var 4 rfl (de_var 3 rfl ⟨k, p, rfl, .inl rfl, ?_⟩))))⟩⟩))))
        refine ⟨.inl ⟨by omega, by rw [List.length_map, List.length_map, List.length_range]; omega⟩, ?_⟩
        rw [List.length_map, List.length_map, List.length_range]
        exact congrArg D.int (by rw [int_notin])
      · have e1 : ((rgI n).filter fun _ => true).map (fun k => D.int (((m : Int) + 1) * (if k ∈ p then 0 else 1))) = (rowJ n m p).map D.int := by rw [filter_true]; unfold rowJ; rw [List.map_map]; rfl
        have e2 : ps.getD m [] = p := by rw [List.getD_eq_getElem?_getD, hp]; rfl
        rw [e1, List.range_succ, List.map_append, List.map_append, List.map_cons, List.map_nil, List.map_cons, List.map_nil, e2]
        rfl
    · rintro env' ⟨s3, rfl⟩
      rw [List.length_map]
      refine db_freeze 2 rfl (db_cons (ds_ret (de_var 2 rfl q)))
/-- what is told: at most three parts; the first and the third of three lie apart -/
def FitP : List (List Int) → Prop
  | [_, _] => True
  | [a, _, c] => ∀ k ∈ a, k ∉ c
  | _ => False
def ToldN (n : Int) (d : Dep) : Prop := DepN n d ∧ (d.cl ≠ .fd → FitP (prt n d))
theorem told_mvd {n : Int} {l r : List Int} (hl : SetN n l) (hr : SetN n r) : ToldN n (.mvd l r) := ⟨⟨hl, hr⟩, fun _ => trivial⟩
theorem told_fd {n : Int} {l r : List Int} (hl : SetN n l) (hr : SetN n r) : ToldN n (.fd l r) := ⟨⟨hl, hr⟩, fun h => absurd rfl h⟩
def NumOk (ns : List Int) : Prop := ns.length = 21 ∧ ∀ x ∈ ns, 0 ≤ x ∧ x < 1000000
theorem NumOk.at_ {ns : List Int} (h : NumOk ns) {k : Int} (h0 : 0 ≤ k) (h1 : k < 21) {Q : D → Prop} (q : ∀ x : Int, 0 ≤ x → x < 1000000 → Q (.int x)) : ixD (lrowD ns) (.int k) Q := by
  have hl : k < ns.length := by have := h.1; omega
  have := h.2 _ (cel_mem h0 hl)
  exact ix_in (.inr rfl) h0 hl (q _ this.1 this.2)
def phDepn (ds : List D) (q : D → Prop) : Prop := ∃ (ns : List Int) (pl n : Int), ds = [lrowD ns, .int pl, .int n] ∧ NumOk ns ∧ 0 ≤ pl ∧ pl < 20 ∧ 0 ≤ n ∧ n ≤ 4 ∧ ∀ d, ToldN n d → q (depD d)
theorem ok_law_dependency (M : MF mg) (F : FD K "_law_dependency" "_law_dependency" s_law_dependency f fd) (F1 : FnG P w K cA mg base "_law_sparse" 1 phSet) (F2 : FnG P w K cA mg base "_law_less" 1 phLess2) (F3 : FnG P w K cA mg base "_law_united" 1 phUn2) : FnOk P w K mg base CX0 2 f fd ["_law_numbers_here", "_law_place", "_law_count"] (spD ⟨P, w, K, cA⟩ phDepn) := by
  refine fn_ok F sc_law_dependency (fun ds q ⟨ns, pl, n, h, _⟩ => by rw [h]; rfl) (by decide) (fun cdv A' outer s0 H E ds Qd hr ⟨ns, pl, n, e, hN, p0, p1, h0, hn, q⟩ => ?_)
  subst e
  refine db_cons (ds_set 3 (de_mod (de_ix (fun _ _ => rfl) (de_var 0 rfl (de_var 1 rfl (hN.at_ p0 (by omega) fun x x0 x1 => de_int ⟨by decide, ?_⟩))))) sc_law_dependency.nd)
  generalize x % 5 = kind
  refine db_cons (ds_set 4 (de_call F1 hr (da_cons (de_fdiv (de_ix (fun _ _ => rfl) (de_var 0 rfl (de_var 1 rfl (hN.at_ p0 (by omega) fun y y0 y1 => de_int ⟨⟨by decide, by decide⟩, da_cons (de_var 2 rfl (da_nil ⟨_, n, rfl, h0, hn, fun l hl => ?_⟩))⟩))))))) sc_law_dependency.nd)
  refine db_cons (ds_set 5 (de_call F1 hr (da_cons (de_ix (fun _ _ => rfl) (de_var 0 rfl (de_add (de_var 1 rfl (de_int ?_))))))) sc_law_dependency.nd)
  refine hN.at_ (k := pl + 1) (by omega) (by omega) fun y y0 y1 => ?_
  refine da_cons (de_var 2 rfl (da_nil ⟨_, n, rfl, h0, hn, fun r hr2 => ?_⟩))
  have l4 := hl.in64 hn
  have r4 := hr2.in64 hn
  have hw : (rgI n).length ≤ 4 := by rw [rgI_len]; omega
  have ret3 : ∀ (x : Str) (d : Dep), ToldN n d → D.tup [.str x, rowD l, rowD r] = depD d → Qd (.tup [.str x, rowD l, rowD r]) := fun x d hd he => by rw [he]; exact q d hd
  refine db_cons (ds_if (dt_cmp (dc_lt (de_var 3 rfl (de_int ⟨_, rfl, ?_⟩)))))
  split
  · exact db_cons (ds_ret (de_tup (da_cons (de_str (da_cons (de_var 4 rfl (da_cons (de_var 5 rfl (da_nil ⟨by simp, ret3 "fd" _ (told_fd hl hr2) rfl⟩)))))))))
  · refine db_nil (db_cons (ds_if (dt_cmp (dc_lt (de_var 3 rfl (de_int ⟨_, rfl, ?_⟩))))))
    split
    · exact db_cons (ds_ret (de_tup (da_cons (de_str (da_cons (de_var 4 rfl (da_cons (de_var 5 rfl (da_nil ⟨by simp, ret3 "mvd" _ (told_mvd hl hr2) rfl⟩)))))))))
    · have hs : SetN n ((rgI n).filter fun k => decide (k ∉ r)) := (SetN.rg n).filter _
      have s4 := hs.in64 hn
      have hu : SetN n (sdI (((rgI n).filter fun k => decide (k ∉ r)) ++ l)) := SetN.sd fun k hk => (List.mem_append.mp hk).elim (hs.2 k) (hl.2 k)
      have cov : ∀ k, 0 ≤ k → k < n → k ∈ r ∨ k ∈ (rgI n).filter fun k => decide (k ∉ r) := fun k k0 k1 => by
        by_cases hk : k ∈ r
        · exact .inl hk
        · exact .inr (List.mem_filter.mpr ⟨rgI_mem.mpr ⟨k0, k1⟩, by simp [hk]⟩)
      have j2 : ToldN n (.jd [sdI (((rgI n).filter fun k => decide (k ∉ r)) ++ l), r]) := by
        refine ⟨⟨fun p hp => ?_, Nat.le_refl 2, by show 2 ≤ 4; decide, fun k k0 k1 => ?_⟩, fun _ => trivial⟩
        · rcases List.mem_cons.mp hp with e | hp
          · rw [e]; exact hu
          · rw [List.mem_singleton.mp hp]; exact hr2
        · rcases cov k k0 k1 with h | h
          · exact ⟨r, by simp, h⟩
          · exact ⟨_, List.mem_cons_self, sdI_mem.mpr (List.mem_append_left _ h)⟩
      have j3 : ToldN n (.jd [r, l, (rgI n).filter fun k => decide (k ∉ r)]) := by
        refine ⟨⟨fun p hp => ?_, by show 2 ≤ 3; decide, by show 3 ≤ 4; decide, fun k k0 k1 => ?_⟩, fun _ => ?_⟩
        · simp at hp
          rcases hp with e | e | e
          · rw [e]; exact hr2
          · rw [e]; exact hl
          · rw [e]; simpa using hs
        · rcases cov k k0 k1 with h | h
          · exact ⟨r, by simp, h⟩
          · exact ⟨_, by simp, h⟩
        · intro k hk hk2
          have := (List.mem_filter.mp hk2).2
          simp at this
          exact this hk
      refine db_nil (db_cons (ds_set 6 (de_call F2 hr (da_cons (de_tupRange rfl M.tuple_ M.range_ (de_var 2 rfl ⟨n, rfl, h0, by omega, da_cons (de_var 5 rfl (da_nil ⟨rgI n, r, rfl, by omega, ?_⟩))⟩)))) sc_law_dependency.nd))
      refine db_cons (ds_set 7 (de_tup (da_cons (de_call F3 hr (da_cons (de_var 6 rfl (da_cons (de_var 4 rfl (da_nil ⟨_, l, rfl, by omega, da_cons (de_var 5 rfl (da_nil ⟨by simp, ?_⟩))⟩)))))))) sc_law_dependency.nd)
      refine db_cons (ds_if (dt_cmp (dc_eq (de_mod (de_fdiv (de_ix (fun _ _ => rfl) (de_var 0 rfl (de_add (de_var 1 rfl (de_int ?_))))))))))
      refine hN.at_ (k := pl + 1) (by omega) (by omega) fun y y0 y1 => ?_
      refine de_int ⟨⟨by decide, by decide⟩, de_int ⟨by decide, de_int ⟨_, rfl, _, rfl, ?_⟩⟩⟩
      split
      · refine db_cons (ds_set 7 (de_tup (da_cons (de_var 5 rfl (da_cons (de_var 4 rfl (da_cons (de_var 6 rfl (da_nil ⟨by simp, ?_⟩)))))))) sc_law_dependency.nd)
        exact db_nil (db_cons (ds_ret (de_tup (da_cons (de_str (da_cons (de_var 7 rfl (da_nil ⟨by simp, q _ j3⟩))))))))
      · exact db_nil (db_cons (ds_ret (de_tup (da_cons (de_str (da_cons (de_var 7 rfl (da_nil ⟨by simp, q _ j2⟩))))))))
end

end DD
namespace DD
open PySem PySem.Spec PyProof.Rows L2
section
variable {P : Program} {w : World} {K : PySem.W.Frag} {cA : Cl → Addr} {mg : Str → Option Value} {base : Heap} {f : Addr} {fd : FuncData}
/-! ### told, one step -/
def tagD : Dep → Str
  | .fd _ _ => "fd"
  | .mvd _ _ => "mvd"
  | .jd _ => "jd"
def phTold (ds : List D) (q : D → Prop) : Prop := ∃ (ns : List Int) (pl n many : Int), ds = [lrowD ns, .int pl, .int n, .int many] ∧ NumOk ns ∧ 0 ≤ pl ∧ 0 ≤ many ∧ pl + 2 * many ≤ 20 ∧ 0 ≤ n ∧ n ≤ 4 ∧ ∀ deps : List Dep, deps.length = many.toNat → (∀ d ∈ deps, ToldN n d) → q (.lst (deps.map depD))
theorem at_dep0 {d : Dep} {Q : D → Prop} (q : Q (.str (tagD d))) : ixD (depD d) (.int 0) Q := by cases d <;> exact ⟨_, rfl, q⟩
theorem ne_jd (d : Dep) : eqD (.str (tagD d)) (.str "jd") = some (decide (d.cl = .jd)) := by cases d <;> rfl
theorem ne_fd (d : Dep) : eqD (.str (tagD d)) (.str "fd") = some (decide (d.cl = .fd)) := by cases d <;> rfl
/-- what is not a join dependency has two sides -/
theorem sides {n : Int} {d : Dep} (h : ToldN n d) (hc : ¬ d.cl = .jd) : ∃ l r, SetN n l ∧ SetN n r ∧ depD d = .tup [.str (tagD d), rowD l, rowD r] ∧ ∀ l' r', SetN n l' → SetN n r' → ∃ d', ToldN n d' ∧ depD d' = .tup [.str (tagD d), rowD l', rowD r'] := by
  cases d with
  | fd l r => exact ⟨l, r, h.1.1, h.1.2, rfl, fun l' r' hl hr => ⟨.fd l' r', told_fd hl hr, rfl⟩⟩
  | mvd l r => exact ⟨l, r, h.1.1, h.1.2, rfl, fun l' r' hl hr => ⟨.mvd l' r', told_mvd hl hr, rfl⟩⟩
  | jd ps => exact absurd rfl hc
theorem at_lst {α : Type} {enc : α → D} {xs : List α} {k : Int} {x : α} (h0 : 0 ≤ k) (h : xs[k.toNat]? = some x) {Q : D → Prop} (q : Q (enc x)) : ∃ d, atI (xs.map enc) k = some d ∧ Q d := by
  obtain ⟨hl, he⟩ := List.getElem?_eq_some_iff.mp h
  exact ⟨_, at_of (j := k.toNat) h0 rfl (by simpa using hl), by rw [List.getElem_map, he]; exact q⟩
theorem SetN.take {n : Int} {s : List Int} (h : SetN n s) (m : Nat) : SetN n (s.take m) := ⟨h.1.sublist (List.take_sublist m s), fun k hk => h.2 k (List.mem_of_mem_take hk)⟩
theorem ok_law_told (M : MF mg) (F : FD K "_law_told" "_law_told" s_law_told f fd) (F1 : FnG P w K cA mg base "_law_dependency" 2 phDepn) (F2 : FnG P w K cA mg base "_law_less" 1 phLess2) : FnOk P w K mg base CX0 3 f fd ["_law_numbers_here", "_law_place", "_law_count", "_law_many"] (spD ⟨P, w, K, cA⟩ phTold) := by
  refine fn_ok F sc_law_told (fun ds q ⟨ns, pl, n, many, h, _⟩ => by rw [h]; rfl) (by decide) (fun cdv A' outer s0 H E ds Qd hr ⟨ns, pl, n, many, e, hN, p0, m0, pm, h0, hn, q⟩ => ?_)
  subst e
  refine db_cons (ds_newL 4 (fun L => ?_) sc_law_told.nd)
  refine db_cons (ds_forR rfl (pg_name (i := 5) sc_law_told.nd rfl (by first | exact Or.inl rfl | exact Or.inr rfl)) M.range_ (de_var 3 rfl ?_))
  refine ⟨many, fun m env' => ∃ (deps : List Dep) (s5 s6 s7 s8 : Sl), env' = [.dat (lrowD ns), .dat (.int pl), .dat (.int n), .dat (.int many), .ol L (deps.map depD), s5, s6, s7, s8] ∧ deps.length = m ∧ ∀ d ∈ deps, ToldN n d, rfl, by omega, by omega, ⟨[], _, _, _, _, rfl, rfl, fun d hd => (by cases hd)⟩, ?_, ?_⟩
  · rintro m env' hm ⟨deps, s5, s6, s7, s8, rfl, hl, hT⟩
    refine db_cons (ds_set 6 ?_ sc_law_told.nd)
    refine de_call F1 hr (da_cons (de_var 0 rfl (da_cons ?_)))
    refine de_add (de_var 1 rfl (de_mul (de_int (de_var 5 rfl ⟨.inl ⟨by decide, by decide⟩, ?_⟩))))
    refine da_cons (de_var 2 rfl (da_nil ⟨ns, _, n, rfl, hN, by omega, by omega, h0, hn, fun d hd => ?_⟩))
    refine db_cons (ds_set 7 ?_ sc_law_told.nd)
    refine de_mod (de_fdiv (de_ix (fun _ _ => rfl) (de_var 0 rfl ?_)))
    refine de_add (de_add (de_var 1 rfl (de_mul (de_int (de_var 5 rfl ⟨.inl ⟨by decide, by decide⟩, ?_⟩)))))
    refine de_int ?_
    refine hN.at_ (k := pl + 2 * m + 1) (by omega) (by omega) fun y y0 y1 => ?_
    refine de_int ⟨⟨by decide, by decide⟩, de_int ⟨by decide, ?_⟩⟩
    generalize y / 59049 % 4 = th
    have fin : ∀ {P' : DEnd} {d : Dep} {t7 t8 : Sl}, ToldN n d → P'.nx = (fun env' => ∃ (deps : List Dep) (s5 s6 s7 s8 : Sl), env' = [.dat (lrowD ns), .dat (.int pl), .dat (.int n), .dat (.int many), .ol L (deps.map depD), s5, s6, s7, s8] ∧ deps.length = m + 1 ∧ ∀ d ∈ deps, ToldN n d) →
        DB (bx P w K mg base n_law_told "_law_told" (defScope s_law_told) f cdv A' outer s0 H E) cA [.dat (lrowD ns), .dat (.int pl), .dat (.int n), .dat (.int many), .ol L (deps.map depD), .dat (.int (m : Int)), .dat (depD d), t7, t8] (match (defBody s_law_told).getD 1 (.Pass ⟨0, 0, 0, 0⟩) with | .For _ _ b _ _ => b.drop 3 | _ => []) P' := by
      intro P' d t7 t8 hd hP
      refine db_cons (ds_append 4 rfl (by rw [List.length_map]; omega) (de_var 6 rfl (db_nil ?_)))
      rw [hP]
      refine ⟨deps ++ [d], _, _, _, _, by rw [List.map_append]; rfl, by simp [hl], fun z hz => ?_⟩
      rcases List.mem_append.mp hz with h | h
      · exact hT z h
      · rw [List.mem_singleton.mp h]; exact hd
    refine db_cut (fun env' => ∃ (d : Dep) (t7 t8 : Sl), ToldN n d ∧ env' = [.dat (lrowD ns), .dat (.int pl), .dat (.int n), .dat (.int many), .ol L (deps.map depD), .dat (.int (m : Int)), .dat (depD d), t7, t8]) ?_ ?_
    · refine ds_if (dt_bool (dw_and (dt_cmp (dc_gt (de_var 5 rfl (de_int ⟨_, rfl, ?_⟩))))))
      by_cases hm0 : 0 < m
      · rw [if_pos (decide_eq_true (by show (0 : Int) < m; omega))]
        obtain ⟨b, hb⟩ : ∃ b, deps[m - 1]? = some b := ⟨_, List.getElem?_eq_getElem (by omega)⟩
        have hbT := hT b (List.mem_of_getElem? hb)
        have atb : ∀ {Q : D → Prop}, Q (depD b) → ∃ d, atI (deps.map depD) ((m : Int) - 1) = some d ∧ Q d := fun {Q} hq => at_lst (k := (m : Int) - 1) (by omega) (by rw [show ((m : Int) - 1).toNat = m - 1 by omega]; exact hb) hq
        refine dw_and (dt_cmp (dc_ne (de_ix (fun _ _ => rfl) (de_var 6 rfl (de_int (at_dep0 (de_str ⟨_, ne_jd d, _, rfl, ?_⟩)))))))
        by_cases hdj : d.cl = .jd
        · rw [if_neg (by simp [hdj])]
          exact db_nil ⟨d, _, _, hd, rfl⟩
        · rw [if_pos (by simp [hdj])]
          refine dw_and (dt_cmp (dc_ne (de_ix (fun _ _ => rfl) (de_ixO 4 rfl (fun _ _ => rfl) (de_sub (de_var 5 rfl (de_int ?_)))))))
          obtain ⟨db, hdb, hq⟩ := atb (Q := fun x => x = depD b) rfl
          refine ⟨_, db, rfl, hdb, ?_⟩
          subst hq
          refine de_int (at_dep0 (de_str ⟨_, ne_jd b, _, rfl, ?_⟩))
          by_cases hbj : b.cl = .jd
          · rw [if_neg (by simp [hbj])]
            exact db_nil ⟨d, _, _, hd, rfl⟩
          · rw [if_pos (by simp [hbj])]
            refine dw_and1 (dt_cmp (dc_gt (de_var 7 rfl (de_int ⟨_, rfl, ?_⟩))))
            split
            · refine db_cons (ds_set 8 (de_ixO 4 rfl (fun _ _ => rfl) (de_sub (de_var 5 rfl (de_int ⟨_, _, rfl, hdb, ?_⟩)))) sc_law_told.nd)
              obtain ⟨l, r, hl1, hr1, e1, _⟩ := sides hd hdj
              obtain ⟨l2, r2, hl2, hr2, e2, e3⟩ := sides hbT hbj
              rw [e1, e2]
              have l4 := hl1.in64 hn
              refine db_cons (ds_if (dt_cmp (dc_eq (de_var 7 rfl (de_int ⟨_, rfl, _, rfl, ?_⟩)))))
              split
              · refine db_cons (ds_set 6 ?_ sc_law_told.nd)
                refine de_tup (da_cons (de_str (da_cons ?_)))
                refine de_call F2 (hr.mono (by decide)) (da_cons (de_ix (fun _ _ => rfl) (de_var 6 rfl (de_int ⟨_, rfl, ?_⟩))))
                refine da_cons (de_ix (fun _ _ => rfl) (de_var 8 rfl (de_int ⟨_, rfl, da_nil ⟨l, r2, rfl, by omega, ?_⟩⟩)))
                refine da_cons (de_slTo (de_ix (fun _ _ => rfl) (de_var 8 rfl (de_int ⟨_, rfl, de_int ⟨1, rfl, .inl ⟨_, rfl, da_nil ⟨by simp, ?_⟩⟩⟩⟩))))
                rw [← List.map_take]
                exact db_nil (db_nil ⟨.fd (l.filter fun k => decide (k ∉ r2)) (r2.take 1), _, _, told_fd (hl1.filter _) (hr2.take 1), rfl⟩)
              · obtain ⟨d', hd', ed'⟩ := e3 r2 r hr2 hr1
                refine db_cons (ds_set 6 ?_ sc_law_told.nd)
                refine de_tup (da_cons (de_ix (fun _ _ => rfl) (de_var 8 rfl (de_int ⟨_, rfl, ?_⟩))))
                refine da_cons (de_ix (fun _ _ => rfl) (de_var 8 rfl (de_int ⟨_, rfl, ?_⟩)))
                refine da_cons (de_ix (fun _ _ => rfl) (de_var 6 rfl (de_int ⟨_, rfl, da_nil ⟨by simp, ?_⟩⟩)))
                rw [← ed']
                exact db_nil (db_nil ⟨d', _, _, hd', rfl⟩)
            · exact db_nil ⟨d, _, _, hd, rfl⟩
      · rw [if_neg fun h => hm0 (by have := of_decide_eq_true h; omega)]
        exact db_nil ⟨d, _, _, hd, rfl⟩
    · rintro env' ⟨d', t7, t8, hd', rfl⟩
      exact fin hd' rfl
  · rintro env' ⟨deps, s5, s6, s7, s8, rfl, hl, hT⟩
    exact db_freeze 4 rfl (db_cons (ds_ret (de_var 4 rfl (q deps hl hT))))
end

end DD
namespace DD
open PySem PySem.Spec PyProof.Rows L2
section
variable {P : Program} {w : World} {K : PySem.W.Frag} {cA : Cl → Addr} {mg : Str → Option Value} {base : Heap} {f : Addr} {fd : FuncData}
theorem at_trow {rows : List (List Int)} {i : Int} (h : inR rows i = true) {Q : D → Prop} (q : Q (rowD (rowAt rows i))) : ixD (rowsD rows) (.int i) Q := by
  obtain ⟨h0, h1⟩ := inR_iff.mp h
  refine at_lst (enc := rowD) h0 ?_ q
  show _ = some (rows.getD i.toNat [])
  rw [List.getD_eq_getElem?_getD, List.getElem?_eq_getElem (by omega : i.toNat < rows.length)]
  rfl
theorem rowAt_len {n : Int} {rows : List (List Int)} (hR : RowsN n rows) {i : Int} (h : inR rows i = true) : (rowAt rows i).length = n.toNat := by
  obtain ⟨h0, h1⟩ := inR_iff.mp h
  exact hR.getD (by omega)
/-- row with its cell k changed, cut together -/
theorem cut_set {r : List Int} {k : Int} (h0 : 0 ≤ k) (h : k < r.length) (v : Int) : (r.map D.int).take k.toNat ++ ([D.int v] ++ (r.map D.int).drop (k.toNat + 1)) = (r.set k.toNat v).map D.int := by
  have hl : k.toNat < r.length := by omega
  rw [List.set_eq_take_append_cons_drop, if_pos hl, List.map_append, List.map_cons, List.map_take, List.map_drop]
  rfl
/-! ### _law_same -/
def phSame2 (ds : List D) (q : D → Prop) : Prop := ∃ (n : Int) (d : Dep) (rows : List (List Int)) (ix i j k : Int) (rows' : List (List Int)), ds = [depD d, rowsD rows, stD (.same ix i j k)] ∧ n ≤ 4 ∧ DepN n d ∧ RowsN n rows ∧ rows.length ≤ 1000 ∧ mkR rows i j k d = some rows' ∧ q (rowsD rows')
theorem ok_law_same (M : MF mg) (F : FD K "_law_same" "_law_same" s_law_same f fd) (F1 : FnG P w K cA mg base "_law_agree" 1 phAgree2) : FnOk P w K mg base CX0 2 f fd ["_law_one", "_law_rows", "_law_step_here"] (spD ⟨P, w, K, cA⟩ phSame2) := by
  refine fn_ok F sc_law_same (fun ds q ⟨n, d, rows, ix, i, j, k, rows', h, _⟩ => by rw [h]; rfl) (by decide) (fun cdv A' outer s0 H E ds Qd hr ⟨n, d, rows, ix, i, j, k, rows', e, hn, hd, hR, hz, hmk, q⟩ => ?_)
  subst e
  cases d with
  | mvd l r => cases hmk
  | jd ps => cases hmk
  | fd l r =>
    obtain ⟨⟨hi, hj, hk, hag, hne⟩, hrows⟩ := sameR_some hmk
    have kk := hd.2.2 k hk
    have li := rowAt_len hR hi
    have lj := rowAt_len hR hj
    obtain ⟨i0, i1⟩ := inR_iff.mp hi
    obtain ⟨j0, j1⟩ := inR_iff.mp hj
    have l4 := hd.1.in64 hn
    refine db_cons (ds_if (dt_bool (dw_or (dt_cmp (dc_ne (de_ix (fun _ _ => rfl) (de_var 0 rfl (de_int ⟨_, rfl, de_str ⟨true, rfl, _, rfl, ?_⟩⟩))))))))
    refine dw_or (dt_not (dt_chain (de_int (de_ix (fun _ _ => rfl) (de_var 2 rfl (de_int ⟨_, rfl, 0, i, rfl, rfl, ?_⟩))))))
    rw [if_pos i0]
    refine de_len M.len_ (de_var 1 rfl ⟨_, rfl, _, rfl, ?_⟩)
    rw [decide_eq_true (by rw [List.length_map]; exact i1)]
    refine dw_or1 (dt_not (dt_chain (de_int (de_ix (fun _ _ => rfl) (de_var 2 rfl (de_int ⟨_, rfl, 0, j, rfl, rfl, ?_⟩))))))
    rw [if_pos j0]
    refine de_len M.len_ (de_var 1 rfl ⟨_, rfl, _, rfl, ?_⟩)
    rw [decide_eq_true (by rw [List.length_map]; exact j1)]
    refine db_nil (db_cons (ds_set 3 ?_ sc_law_same.nd))
    refine de_ix (fun _ _ => rfl) (de_var 1 rfl (de_ix (fun _ _ => rfl) (de_var 2 rfl (de_int ⟨_, rfl, at_trow hi ?_⟩))))
    refine db_cons (ds_set 4 ?_ sc_law_same.nd)
    refine de_ix (fun _ _ => rfl) (de_var 1 rfl (de_ix (fun _ _ => rfl) (de_var 2 rfl (de_int ⟨_, rfl, at_trow hj ?_⟩))))
    refine db_cons (ds_set 5 (de_ix (fun _ _ => rfl) (de_var 2 rfl (de_int ⟨_, rfl, ?_⟩))) sc_law_same.nd)
    refine db_cons (ds_if (dt_bool (dw_or (dt_cmp (dc_notin (de_var 5 rfl (de_ix (fun _ _ => rfl) (de_var 0 rfl (de_int ⟨_, rfl, k, r, rfl, .inl rfl, _, rfl, ?_⟩)))))))))
    simp only [hk, decide_true, Bool.not_true]
    refine dw_or (dt_not (dt_val (de_call F1 hr (da_cons (de_var 3 rfl (da_cons (de_var 4 rfl (da_cons ?_))))))))
    refine de_ix (fun _ _ => rfl) (de_var 0 rfl (de_int ⟨_, rfl, da_nil ⟨rowAt rows i, rowAt rows j, l, rfl, by omega, fun z hz' => ?_, _, rfl, ?_⟩⟩))
    · have := hd.1.2 z hz'; omega
    · have hag' : agr (rowAt rows i) (rowAt rows j) l = true := hag
      rw [hag']
      refine dw_or1 (dt_cmp (dc_eq (de_ix (fun _ _ => rfl) (de_var 3 rfl (de_var 5 rfl (ix_in (.inl rfl) kk.1 (by omega) ?_))))))
      refine de_ix (fun _ _ => rfl) (de_var 4 rfl (de_var 5 rfl (ix_in (.inl rfl) kk.1 (by omega) ⟨_, rfl, _, rfl, ?_⟩)))
      have hne' : ¬ cel (rowAt rows i) k = cel (rowAt rows j) k := hne
      rw [if_neg fun h => hne' (of_decide_eq_true h)]
      generalize hx : rowAt rows i = x at *
      generalize hy : rowAt rows j = y at *
      have hrows' : rows' = rows.map (lowR k (min (cel x k) (cel y k)) (max (cel x k) (cel y k))) := by rw [hrows]; show rows.map (lowR k (min (cel (rowAt rows i) k) (cel (rowAt rows j) k)) (max (cel (rowAt rows i) k) (cel (rowAt rows j) k))) = _; rw [hx, hy]
      generalize hg : lowR k (min (cel x k) (cel y k)) (max (cel x k) (cel y k)) = g at *
      refine db_nil (db_cons (ds_newL 6 (fun L => ?_) sc_law_same.nd))
      refine db_cons (ds_forL rfl (pg_name (i := 7) sc_law_same.nd rfl (by first | exact Or.inl rfl | exact Or.inr rfl)) (de_var 1 rfl ?_))
      refine ⟨rows.map rowD, fun m env' => ∃ s7 : Sl, env' = [.dat (depD (.fd l r)), .dat (rowsD rows), .dat (stD (.same ix i j k)), .dat (rowD x), .dat (rowD y), .dat (.int k), .ol L (((rows.take m).map g).map rowD), s7], rfl, ⟨_, rfl⟩, ?_, ?_⟩
      · rintro m d env' hd' ⟨s7, rfl⟩
        rw [List.getElem?_map] at hd'
        obtain ⟨z, hz', rfl⟩ := Option.map_eq_some_iff.mp hd'
        have lz := hR z (List.mem_of_getElem? hz')
        refine db_cut (fun env' => env' = [.dat (depD (.fd l r)), .dat (rowsD rows), .dat (stD (.same ix i j k)), .dat (rowD x), .dat (rowD y), .dat (.int k), .ol L (((rows.take m).map g).map rowD), .dat (rowD (g z))]) ?_ ?_
        · refine ds_if (dt_cmp (dc_eq (de_ix (fun _ _ => rfl) (de_var 7 rfl (de_var 5 rfl (ix_in (.inl rfl) kk.1 (by omega) ?_))))))
          refine de_max2 rfl M.max_ (de_ix (fun _ _ => rfl) (de_var 3 rfl (de_var 5 rfl (ix_in (.inl rfl) kk.1 (by omega) ?_))))
          refine de_ix (fun _ _ => rfl) (de_var 4 rfl (de_var 5 rfl (ix_in (.inl rfl) kk.1 (by omega) ⟨_, _, rfl, rfl, _, rfl, _, rfl, ?_⟩)))
          by_cases hc : cel z k = max (cel x k) (cel y k)
          · rw [if_pos (decide_eq_true hc)]
            refine db_cons (ds_set 7 ?_ sc_law_same.nd)
            refine de_add (de_add (de_slTo (de_var 7 rfl (de_var 5 rfl ⟨k.toNat, by rw [show ((k.toNat : Nat) : Int) = k by omega], .inl ⟨_, rfl, ?_⟩⟩))))
            refine de_tup (da_cons (de_min2 rfl M.min_ (de_ix (fun _ _ => rfl) (de_var 3 rfl (de_var 5 rfl (ix_in (.inl rfl) kk.1 (by omega) ?_))))))
            refine de_ix (fun _ _ => rfl) (de_var 4 rfl (de_var 5 rfl (ix_in (.inl rfl) kk.1 (by omega) ⟨_, _, rfl, rfl, da_nil ⟨by simp, ?_⟩⟩)))
            refine ⟨by simp; omega, ?_⟩
            refine de_slFrom (de_var 7 rfl (de_add (de_var 5 rfl (de_int ⟨k.toNat + 1, by rw [show ((k.toNat + 1 : Nat) : Int) = k + 1 by omega], .inl ⟨_, rfl, by simp; omega, ?_⟩⟩))))
            refine db_nil ?_
            rw [List.append_assoc, cut_set kk.1 (by omega)]
            have : z.set k.toNat (min (cel x k) (cel y k)) = g z := by rw [← hg]; unfold lowR; rw [if_pos hc]
            rw [this]
            rfl
          · rw [if_neg fun h => hc (of_decide_eq_true h)]
            have : g z = z := by rw [← hg]; unfold lowR; rw [if_neg hc]
            rw [this]
            exact db_nil rfl
        · rintro env' rfl
          have hml := (List.getElem?_eq_some_iff.mp hz').1
          refine db_cons (ds_append 6 rfl (by rw [List.length_map, List.length_map, List.length_take]; omega) (de_var 7 rfl (db_nil ⟨.dat (rowD (g z)), ?_⟩)))
          rw [List.take_add_one, hz', List.map_append, List.map_append]
          rfl
      · rintro env' ⟨s7, rfl⟩
        rw [List.length_map, List.take_length, ← hrows']
        exact db_freeze 6 rfl (db_cons (ds_ret (de_var 6 rfl q)))
end

end DD
namespace DD
open PySem PySem.Spec PyProof.Rows L2
section
variable {P : Program} {w : World} {K : PySem.W.Frag} {cA : Cl → Addr} {mg : Str → Option Value} {base : Heap} {f : Addr} {fd : FuncData}
/-! ### _law_fits -/
/-- cells as a function on their keys -/
def CellF (ks vs : List Int) (g : Int → Int) : Prop := vs.length = ks.length ∧ ∀ (j : Nat) k, ks[j]? = some k → vs[j]? = some (g k)
def fitB (ks : List Int) (g : Int → Int) (row part : List Int) : Bool := part.all fun k => !decide (k ∈ ks) || decide (g k = cel row k)
def phFits (ds : List D) (q : D → Prop) : Prop := ∃ (ks vs : List Int) (g : Int → Int) (row part : List Int), ds = [.dic ks (vs.map D.int), rowD row, rowD part] ∧ CellF ks vs g ∧ part.length ≤ 1000 ∧ (∀ k ∈ part, 0 ≤ k ∧ k < row.length) ∧ q (.bl (fitB ks g row part))
theorem ok_law_fits (M : MF mg) (F : FD K "_law_fits" "_law_fits" s_law_fits f fd) : FnOk P w K mg base CX0 1 f fd ["_law_cells", "_law_row", "_law_part"] (spD ⟨P, w, K, cA⟩ phFits) := by
  refine fn_ok F sc_law_fits (fun ds q ⟨ks, vs, g, row, part, h, _⟩ => by rw [h]; rfl) (by decide) (fun cdv A' outer s0 H E ds Qd hr ⟨ks, vs, g, row, part, e, hg, hz, hp, q⟩ => ?_)
  subst e
  refine db_cons (ds_ret (de_cmp (dc_eq (de_len M.len_ (de_lcT (j := 3) rfl sc_law_fits.nd (blkOk_by (N := n_law_fits) (sc := defScope s_law_fits) (by decide +kernel)) (fun _ _ _ _ _ => pg_name (i := 3) sc_law_fits.nd rfl (by first | exact Or.inl rfl | exact Or.inr rfl)) (de_var 2 rfl ?_))))))
  refine ⟨Int, part, D.int, fun k => !(!decide (k ∈ ks) || decide (g k = cel row k)), D.int, rfl, by omega, ⟨fun k hk _ _ _ _ _ => di_one (dt_bool (dw_and (dt_cmp (dc_din (room1 hr) (de_var 3 rfl (de_var 0 rfl ⟨ks, _, k, rfl, rfl, _, rfl, ?_⟩)))))), fun i hi hf _ _ _ _ _ => de_var 3 rfl rfl⟩, _, rfl, de_int ⟨_, rfl, ?_⟩⟩
  · by_cases hm : k ∈ ks
    · rw [if_pos (decide_eq_true hm)]
      obtain ⟨j, hj⟩ := List.getElem?_of_mem hm
      refine dw_and1 (dt_cmp (dc_ne (de_dget (room1 hr) (fun _ _ => rfl) (de_var 0 rfl (de_var 3 rfl ⟨ks, _, k, j, .int (g k), rfl, rfl, hj, by rw [List.getElem?_map, hg.2 j k hj]; rfl, ?_⟩)))))
      refine de_ix (fun _ _ => rfl) (de_var 1 rfl (de_var 3 rfl (ix_in (.inl rfl) (hp k hk).1 (hp k hk).2 ⟨_, rfl, _, rfl, ?_⟩)))
      simp [hm]
    · rw [if_neg fun h => hm (of_decide_eq_true h)]
      simp [hm]
  · rw [List.length_map]
    have := len_none part fun k => !decide (k ∈ ks) || decide (g k = cel row k)
    show Qd (.bl (decide (((part.filter fun k => !(!decide (k ∈ ks) || decide (g k = cel row k))).length : Int) = 0)))
    rw [this]
    exact q
end

end DD
namespace DD
open PySem PySem.Spec PyProof.Rows L2
section
variable {P : Program} {w : World} {K : PySem.W.Frag} {cA : Cl → Addr} {mg : Str → Option Value} {base : Heap} {f : Addr} {fd : FuncData}
/-! ### _law_step -/
theorem putI_cell {g : Int → Int} {k : Int} : ∀ {ks vs : List Int}, CellF ks vs g → ∃ ks' vs', putI ks (vs.map D.int) k (.int (g k)) = (ks', vs'.map D.int) ∧ CellF ks' vs' g ∧ (∀ z, z ∈ ks' ↔ z = k ∨ z ∈ ks) ∧ ks'.length ≤ ks.length + 1
  | [], [], _ => ⟨[k], [g k], rfl, ⟨rfl, fun j z h => by
      cases j with
      | zero => simp at h; subst h; rfl
      | succ j => simp at h⟩, fun z => by simp, by simp⟩
  | [], _ :: _, h => by have := h.1; simp at this
  | _ :: _, [], h => by have := h.1; simp at this
  | k0 :: ks, v0 :: vs, h => by
    have h' : CellF ks vs g := ⟨by have := h.1; simpa using this, fun j z hz => by have := h.2 (j + 1) z (by simpa using hz); simpa using this⟩
    have e0 : v0 = g k0 := by have := h.2 0 k0 rfl; simpa using this
    by_cases e : k0 = k
    · subst e
      refine ⟨k0 :: ks, g k0 :: vs, ?_, ?_, fun z => by simp, by simp⟩
      · show (if k0 = k0 then _ else _) = _
        rw [if_pos rfl]
        rfl
      · rw [← e0]; exact h
    · obtain ⟨ks', vs', a1, a2, a3, a4⟩ := putI_cell (k := k) h'
      refine ⟨k0 :: ks', v0 :: vs', ?_, ⟨by have := a2.1; simp [this], fun j z hz => ?_⟩, fun z => ?_, by simp; omega⟩
      · show (if k0 = k then _ else _) = _
        rw [if_neg e]
        show ((k0 :: (putI ks (vs.map D.int) k (.int (g k))).1), (D.int v0 :: (putI ks (vs.map D.int) k (.int (g k))).2)) = _
        rw [a1]
        rfl
      · cases j with
        | zero => simp at hz; subst hz; simp [e0]
        | succ j => have := a2.2 j z (by simpa using hz); simpa using this
      · simp only [List.mem_cons]
        rw [a3]
        constructor
        · rintro (h | h | h)
          · exact .inr (.inl h)
          · exact .inl h
          · exact .inr (.inr h)
        · rintro (h | h | h)
          · exact .inr (.inl h)
          · exact .inl h
          · exact .inr (.inr h)
def phStep (ds : List D) (q : D → Prop) : Prop := ∃ (n : Int) (told : List Dep) (rows : List (List Int)) (st : Stp) (rows' : List (List Int)), ds = [.int n, .lst (told.map depD), rowsD rows, stD st] ∧ 0 ≤ n ∧ n ≤ 4 ∧ (∀ d ∈ told, ToldN n d) ∧ RowsN n rows ∧ rows.length ≤ 900 ∧ StepR n told rows st rows' ∧ q (rowsD rows')
theorem ok_law_step (M : MF mg) (F : FD K "_law_step" "_law_step" s_law_step f fd) (F1 : FnG P w K cA mg base "_law_same" 2 phSame2) (F2 : FnG P w K cA mg base "_law_parts" 2 phParts2) (F3 : FnG P w K cA mg base "_law_fits" 1 phFits) : FnOk P w K mg base CX0 3 f fd ["_law_count", "_law_told_here", "_law_rows", "_law_step_here"] (spD ⟨P, w, K, cA⟩ phStep) := by
  refine fn_ok F sc_law_step (fun ds q ⟨n, told, rows, st, rows', h, _⟩ => by rw [h]; rfl) (by decide) (fun cdv A' outer s0 H E ds Qd hr ⟨n, told, rows, st, rows', e, h0, hn, hT, hR, hz, hst, q⟩ => ?_)
  subst e
  cases st with
  | same ix i j k =>
    obtain ⟨d, x0, gd, hmk⟩ := hst
    obtain ⟨hl, _⟩ := List.getElem?_eq_some_iff.mp gd
    have dT := hT d (List.mem_of_getElem? gd)
    refine db_cons (ds_if (dt_not (dt_chain (de_int (de_ix (fun _ _ => rfl) (de_var 3 rfl (de_int ⟨_, rfl, 0, ix, rfl, rfl, ?_⟩)))))))
    rw [if_pos x0]
    refine de_len M.len_ (de_var 1 rfl ⟨_, rfl, _, rfl, ?_⟩)
    rw [decide_eq_true (by rw [List.length_map]; omega)]
    refine db_nil (db_cons (ds_set 4 (de_ix (fun _ _ => rfl) (de_var 1 rfl (de_ix (fun _ _ => rfl) (de_var 3 rfl (de_int ⟨_, rfl, at_lst x0 gd ?_⟩))))) sc_law_step.nd))
    refine db_cons (ds_if (dt_cmp (dc_eq (de_ix (fun _ _ => rfl) (de_var 3 rfl (de_int ⟨_, rfl, de_str ⟨true, rfl, true, rfl, ?_⟩⟩))))))
    exact db_cons (ds_ret (de_call F1 hr (da_cons (de_var 4 rfl (da_cons (de_var 2 rfl (da_cons (de_var 3 rfl (da_nil ⟨n, d, rows, ix, i, j, k, rows', rfl, hn, dT.1, hR, by omega, hmk, q⟩)))))))))
  | join ix is =>
    obtain ⟨d, row, x0, gd, hfd, jo, rfl⟩ := hst
    obtain ⟨hl, _⟩ := List.getElem?_eq_some_iff.mp gd
    have dT := hT d (List.mem_of_getElem? gd)
    have po := prt_ok dT.1 hfd
    refine db_cons (ds_if (dt_not (dt_chain (de_int (de_ix (fun _ _ => rfl) (de_var 3 rfl (de_int ⟨_, rfl, 0, ix, rfl, rfl, ?_⟩)))))))
    rw [if_pos x0]
    refine de_len M.len_ (de_var 1 rfl ⟨_, rfl, _, rfl, ?_⟩)
    rw [decide_eq_true (by rw [List.length_map]; omega)]
    refine db_nil (db_cons (ds_set 4 (de_ix (fun _ _ => rfl) (de_var 1 rfl (de_ix (fun _ _ => rfl) (de_var 3 rfl (de_int ⟨_, rfl, at_lst x0 gd ?_⟩))))) sc_law_step.nd))
    refine db_cons (ds_if (dt_cmp (dc_eq (de_ix (fun _ _ => rfl) (de_var 3 rfl (de_int ⟨_, rfl, de_str ⟨false, rfl, false, rfl, ?_⟩⟩))))))
    refine db_nil (db_cons (ds_if (dt_cmp (dc_eq (de_ix (fun _ _ => rfl) (de_var 4 rfl (de_int (at_dep0 (de_str ⟨_, ne_fd d, _, rfl, ?_⟩)))))))))
    rw [if_neg (by simp [hfd])]
    refine db_nil (db_cons (ds_set 5 (de_call F2 hr (da_cons (de_var 0 rfl (da_cons (de_var 4 rfl (da_nil ⟨n, d, rfl, h0, hn, dT.1, hfd, ?_⟩)))))) sc_law_step.nd))
    generalize hps : prt n d = ps at *
    have p4 := po.four
    refine db_cons (ds_if (dt_cmp (dc_ne (de_len M.len_ (de_ix (fun _ _ => rfl) (de_var 3 rfl (de_int ⟨_, rfl, _, rfl, de_len M.len_ (de_var 5 rfl ⟨_, rfl, _, rfl, _, rfl, ?_⟩)⟩)))))))
    rw [if_neg (by rw [List.length_map, List.length_map, jo.ln]; simp)]
    refine db_nil (db_cons (ds_newD 6 (fun dc => ?_) sc_law_step.nd))
    refine db_cons (ds_forR rfl (pg_name (i := 7) sc_law_step.nd rfl (by first | exact Or.inl rfl | exact Or.inr rfl)) M.range_ (de_len M.len_ (de_var 5 rfl ⟨_, rfl, ?_⟩)))
    rw [List.length_map]
    refine ⟨(ps.length : Int), fun m env' => ∃ (ks vs : List Int) (s7 s8 : Sl), env' = [.dat (.int n), .dat (.lst (told.map depD)), .dat (rowsD rows), .dat (stD (.join ix is)), .dat (depD d), .dat (trowsD ps), .od dc ks (vs.map D.int), s7, s8] ∧ CellF ks vs (cel row) ∧ ks.length ≤ 4 * m ∧ ∀ m' p, m' < m → ps[m']? = some p → ∀ k ∈ p, k ∈ ks, rfl, by omega, by omega, ⟨[], [], _, _, rfl, ⟨rfl, fun j k h => by simp at h⟩, Nat.le_refl _, fun m' p h => by omega⟩, ?_, ?_⟩
    · rintro m env' hm ⟨ks, vs, s7, s8, rfl, hC, hkl, hks⟩
      have hml : m < ps.length := by omega
      have hmi : m < is.length := by rw [jo.ln]; exact hml
      have gp : ps[m]? = some ps[m] := List.getElem?_eq_getElem hml
      have gi : is[m]? = some is[m] := List.getElem?_eq_getElem hmi
      have pset := po.st ps[m] (List.getElem_mem hml)
      have pl4 := pset.in64 hn
      have hin := jo.ir is[m] (List.getElem_mem hmi)
      have rl := rowAt_len hR hin
      have at_ := jo.at_ m ps[m] is[m] gp gi
      generalize hp : ps[m] = p at *
      generalize hi : is[m] = i at *
      obtain ⟨i0, i1⟩ := inR_iff.mp hin
      have ixI : ∀ {Q : D → Prop}, Q (.int i) → ixD (rowD is) (.int (m : Int)) Q := fun {Q} hq => at_lst (enc := D.int) (by omega) (by rw [show ((m : Int)).toNat = m by omega]; exact gi) hq
      have ixP : ∀ {Q : D → Prop}, Q (rowD p) → ixD (trowsD ps) (.int (m : Int)) Q := fun {Q} hq => at_lst (enc := rowD) (by omega) (by rw [show ((m : Int)).toNat = m by omega]; exact gp) hq
      refine db_cons (ds_if (dt_bool (dw_or (dt_not (dt_chain (de_int (de_ix (fun _ _ => rfl) (de_ix (fun _ _ => rfl) (de_var 3 rfl (de_int ⟨_, rfl, de_var 7 rfl (ixI ⟨0, i, rfl, rfl, ?_⟩)⟩))))))))))
      rw [if_pos i0]
      refine de_len M.len_ (de_var 2 rfl ⟨_, rfl, _, rfl, ?_⟩)
      rw [decide_eq_true (by rw [List.length_map]; exact i1)]
      refine dw_or1 (dt_not (dt_view 6 rfl (dt_val (de_call F3 (hr.mono (by decide)) (da_cons (de_var 6 rfl (da_cons ?_)))))))
      refine de_ix (fun _ _ => rfl) (de_var 2 rfl (de_ix (fun _ _ => rfl) (de_ix (fun _ _ => rfl) (de_var 3 rfl (de_int ⟨_, rfl, de_var 7 rfl (ixI (at_trow hin ?_))⟩)))))
      refine da_cons (de_ix (fun _ _ => rfl) (de_var 5 rfl (de_var 7 rfl (ixP (da_nil ⟨ks, vs, cel row, rowAt rows i, p, rfl, hC, by omega, fun k hk => ?_, _, rfl, ?_⟩)))))
      · have := pset.2 k hk; omega
      · have hfit : fitB ks (cel row) (rowAt rows i) p = true := by
          unfold fitB
          refine List.all_eq_true.mpr fun k hk => ?_
          rw [at_ k hk]
          simp
        rw [hfit]
        refine db_nil (db_cons (ds_forT rfl (pg_name (i := 8) sc_law_step.nd rfl (by first | exact Or.inl rfl | exact Or.inr rfl)) (de_ix (fun _ _ => rfl) (de_var 5 rfl (de_var 7 rfl (ixP ?_))))))
        refine ⟨p.map D.int, fun z env' => ∃ (ks' vs' : List Int) (s8 : Sl), env' = [.dat (.int n), .dat (.lst (told.map depD)), .dat (rowsD rows), .dat (stD (.join ix is)), .dat (depD d), .dat (trowsD ps), .od dc ks' (vs'.map D.int), .dat (.int (m : Int)), s8] ∧ CellF ks' vs' (cel row) ∧ ks'.length ≤ ks.length + z ∧ (∀ k ∈ ks, k ∈ ks') ∧ ∀ k ∈ p.take z, k ∈ ks', rfl, ⟨ks, vs, _, rfl, hC, Nat.le_refl _, fun k hk => hk, fun k hk => by simp at hk⟩, ?_, ?_⟩
        · rintro z dk env' hzk ⟨ks', vs', s8, rfl, hC', hkl', hks1, hks2⟩
          rw [List.getElem?_map] at hzk
          obtain ⟨k, hk, rfl⟩ := Option.map_eq_some_iff.mp hzk
          have kk := pset.2 k (List.mem_of_getElem? hk)
          have hzl := (List.getElem?_eq_some_iff.mp hk).1
          obtain ⟨ks2, vs2, a1, a2, a3, a4⟩ := putI_cell (k := k) hC'
          refine db_cons (ds_putD 6 (room1 hr) rfl (by omega) ?_)
          refine de_ix (fun _ _ => rfl) (de_ix (fun _ _ => rfl) (de_var 2 rfl (de_ix (fun _ _ => rfl) (de_ix (fun _ _ => rfl) (de_var 3 rfl (de_int ⟨_, rfl, de_var 7 rfl (ixI (at_trow hin ?_))⟩))))))
          refine de_var 8 rfl (ix_in (.inl rfl) kk.1 (by omega) (de_var 8 rfl ⟨k, rfl, ?_⟩))
          rw [← at_ k (List.mem_of_getElem? hk), a1]
          refine db_nil ⟨ks2, vs2, _, rfl, a2, by omega, fun k' hk' => (a3 k').mpr (.inr (hks1 k' hk')), fun k' hk' => ?_⟩
          rw [List.take_add_one, hk] at hk'
          rcases List.mem_append.mp hk' with h | h
          · exact (a3 k').mpr (.inr (hks2 k' h))
          · simp at h; exact (a3 k').mpr (.inl h)
        · rintro env' ⟨ks', vs', s8, rfl, hC', hkl', hks1, hks2⟩
          rw [List.length_map] at hkl' hks2
          rw [List.take_length] at hks2
          refine db_nil ⟨ks', vs', _, _, rfl, hC', by omega, fun m' p' hm' hp' k hk => ?_⟩
          by_cases hmm : m' = m
          · subst hmm
            rw [gp] at hp'
            cases hp'
            exact hks2 k hk
          · exact hks1 k (hks m' p' (by omega) hp' k hk)
    · rintro env' ⟨ks, vs, s7, s8, rfl, hC, hkl, hks⟩
      have all : ∀ k, 0 ≤ k → k < n → k ∈ ks := fun k k0 k1 => by
        obtain ⟨p, hp, hk⟩ := po.cov k k0 k1
        obtain ⟨m, hm, rfl⟩ := List.getElem_of_mem hp
        exact hks m ps[m] (by omega) (List.getElem?_eq_getElem hm) k hk
      refine db_cons (ds_ret (de_add (de_var 2 rfl (de_lst (da_cons (de_tupleOf M.tuple_ (de_lcR (j := 8) rfl sc_law_step.nd (blkOk_by (N := n_law_step) (sc := defScope s_law_step) (by decide +kernel)) (fun _ _ _ _ _ => pg_name (i := 8) sc_law_step.nd rfl (by first | exact Or.inl rfl | exact Or.inr rfl)) M.range_ (de_var 0 rfl ?_))))))))
      refine ⟨n, fun _ => true, fun k => .int (cel row k), rfl, h0, by omega, ⟨fun k hk _ _ _ _ _ => di_nil rfl, fun k hk _ _ _ _ _ _ => de_dgetO 6 (room1 hr) rfl (fun _ _ => rfl) (de_var 8 rfl ?_)⟩, _, rfl, da_nil ⟨by simp, by simp; omega, ?_⟩⟩
      · obtain ⟨j, hj⟩ := List.getElem?_of_mem (all k (rgI_mem.mp hk).1 (rgI_mem.mp hk).2)
        exact ⟨k, j, .int (cel row k), rfl, hj, by rw [List.getElem?_map, hC.2 j k hj]; rfl, rfl⟩
      · rw [filter_true]
        have er : (rgI n).map (cel row) = row := cel_ext len_rg jo.rl fun k k0 k1 => cel_map k0 k1
        have e1 : ((rgI n).map fun k => D.int (cel row k)) = row.map D.int := by
          conv => rhs; rw [← er]
          rw [List.map_map]
          rfl
        rw [e1]
        have e2 : rows.map rowD ++ [rowD row] = (rows ++ [row]).map rowD := by rw [List.map_append]; rfl
        show Qd (.lst (rows.map rowD ++ [rowD row]))
        rw [e2]
        exact q
end

end DD
namespace DD
open PySem PySem.Spec PyProof.Rows L2
section
variable {P : Program} {w : World} {K : PySem.W.Frag} {cA : Cl → Addr} {mg : Str → Option Value} {base : Heap} {f : Addr} {fd : FuncData}
/-! ### _law_drawn_same -/
theorem sameR_of {rows : List (List Int)} {l r : List Int} {i j k : Int} (h : inR rows i = true ∧ inR rows j = true ∧ k ∈ r ∧ agr (rows.getD i.toNat []) (rows.getD j.toNat []) l = true ∧ cel (rows.getD i.toNat []) k ≠ cel (rows.getD j.toNat []) k) :
    ∃ rows', mkR rows i j k (.fd l r) = some rows' := ⟨_, by show sameR rows l r i j k = _; unfold sameR; rw [if_pos h]⟩
def encS (ix : Int) (t : Int × Int × Int) : D := stD (.same ix t.1 t.2.1 t.2.2)
def phDs (ds : List D) (q : D → Prop) : Prop := ∃ (n : Int) (l r : List Int) (ix v : Int) (rows : List (List Int)), ds = [depD (.fd l r), .int ix, rowsD rows, .int v] ∧ n ≤ 4 ∧ SetN n l ∧ SetN n r ∧ RowsN n rows ∧ rows.length ≤ 30 ∧ q .non ∧ ∀ i j k rows', mkR rows i j k (.fd l r) = some rows' → q (stD (.same ix i j k))
theorem ok_law_drawn_same (M : MF mg) (F : FD K "_law_drawn_same" "_law_drawn_same" s_law_drawn_same f fd) (F1 : FnG P w K cA mg base "_law_agree" 1 phAgree2) : FnOk P w K mg base CX0 2 f fd ["_law_one", "_law_index", "_law_rows", "_law_number"] (spD ⟨P, w, K, cA⟩ phDs) := by
  refine fn_ok F sc_law_drawn_same (fun ds q ⟨n, l, r, ix, v, rows, h, _⟩ => by rw [h]; rfl) (by decide) (fun cdv A' outer s0 H E ds Qd hr ⟨n, l, r, ix, v, rows, e, hn, hl, hr2, hR, hz, q0, q⟩ => ?_)
  subst e
  have l4 := hl.in64 hn
  have r4 := hr2.in64 hn
  let Good : List (Int × Int × Int) → Prop := fun fs => ∀ t ∈ fs, ∃ rows', mkR rows t.1 t.2.1 t.2.2 (.fd l r) = some rows'
  refine db_cons (ds_set 4 (de_lst (da_nil ⟨by simp, ?_⟩)) sc_law_drawn_same.nd)
  refine db_cons (ds_forR rfl (pg_name (i := 5) sc_law_drawn_same.nd rfl (by first | exact Or.inl rfl | exact Or.inr rfl)) M.range_ (de_len M.len_ (de_var 2 rfl ⟨_, rfl, ?_⟩)))
  rw [List.length_map]
  refine ⟨(rows.length : Int), fun m env' => ∃ (fs : List (Int × Int × Int)) (s5 s6 s7 : Sl), env' = [.dat (depD (.fd l r)), .dat (.int ix), .dat (rowsD rows), .dat (.int v), .dat (.lst (fs.map (encS ix))), s5, s6, s7] ∧ Good fs ∧ fs.length ≤ 4 * (30 * m), rfl, by omega, by omega, ⟨[], _, _, _, rfl, fun t ht => (by cases ht), Nat.le_refl _⟩, ?_, ?_⟩
  · rintro m env' hm ⟨fs, s5, s6, s7, rfl, hG, hfl⟩
    have hi : inR rows (m : Int) = true := inR_iff.mpr ⟨by omega, by omega⟩
    have li := rowAt_len hR hi
    refine db_cons (ds_forR rfl (pg_name (i := 6) sc_law_drawn_same.nd rfl (by first | exact Or.inl rfl | exact Or.inr rfl)) M.range_ (de_len M.len_ (de_var 2 rfl ⟨_, rfl, ?_⟩)))
    rw [List.length_map]
    refine ⟨(rows.length : Int), fun z env' => ∃ (fs : List (Int × Int × Int)) (s6 s7 : Sl), env' = [.dat (depD (.fd l r)), .dat (.int ix), .dat (rowsD rows), .dat (.int v), .dat (.lst (fs.map (encS ix))), .dat (.int (m : Int)), s6, s7] ∧ Good fs ∧ fs.length ≤ 4 * (30 * m + z), rfl, by omega, by omega, ⟨fs, _, _, rfl, hG, by omega⟩, ?_, ?_⟩
    · rintro z env' hzz ⟨fs, s6, s7, rfl, hG, hfl⟩
      have hj : inR rows (z : Int) = true := inR_iff.mpr ⟨by omega, by omega⟩
      have lj := rowAt_len hR hj
      refine db_cons (ds_if (dt_bool (dw_and (dt_cmp (dc_ne (de_var 5 rfl (de_var 6 rfl ⟨_, rfl, _, rfl, ?_⟩)))))))
      split
      · refine dw_and1 (dt_val (de_call F1 hr (da_cons (de_ix (fun _ _ => rfl) (de_var 2 rfl (de_var 5 rfl (at_trow hi ?_)))))))
        refine da_cons (de_ix (fun _ _ => rfl) (de_var 2 rfl (de_var 6 rfl (at_trow hj ?_))))
        refine da_cons (de_ix (fun _ _ => rfl) (de_var 0 rfl (de_int ⟨_, rfl, da_nil ⟨rowAt rows (m : Int), rowAt rows (z : Int), l, rfl, by omega, fun k hk => ?_, _, rfl, ?_⟩⟩)))
        · have := hl.2 k hk; omega
        · by_cases hag : agr (rowAt rows (m : Int)) (rowAt rows (z : Int)) l = true
          · rw [if_pos hag]
            refine db_cons (ds_set 4 ?_ sc_law_drawn_same.nd)
            refine de_add (de_var 4 rfl (de_lcT (j := 7) rfl sc_law_drawn_same.nd (blkOk_by (N := n_law_drawn_same) (sc := defScope s_law_drawn_same) (by decide +kernel)) (fun _ _ _ _ _ => pg_name (i := 7) sc_law_drawn_same.nd rfl (by first | exact Or.inl rfl | exact Or.inr rfl)) (de_ix (fun _ _ => rfl) (de_var 0 rfl (de_int ⟨_, rfl, ?_⟩)))))
            refine ⟨Int, r, D.int, fun k => !decide (cel (rowAt rows (m : Int)) k = cel (rowAt rows (z : Int)) k), fun k => encS ix ((m : Int), (z : Int), k), rfl, by omega, ⟨fun k hk _ _ _ _ _ => di_one (dt_cmp (dc_ne ?_)), fun k hk hf _ _ _ _ _ => ?_⟩, ?_⟩
            · have kk := hr2.2 k hk
              refine de_ix (fun _ _ => rfl) (de_ix (fun _ _ => rfl) (de_var 2 rfl (de_var 5 rfl (at_trow hi (de_var 7 rfl (ix_in (.inl rfl) kk.1 (by omega) ?_))))))
              exact de_ix (fun _ _ => rfl) (de_ix (fun _ _ => rfl) (de_var 2 rfl (de_var 6 rfl (at_trow hj (de_var 7 rfl (ix_in (.inl rfl) kk.1 (by omega) ⟨_, rfl, _, rfl, rfl⟩))))))
            · exact de_tup (da_cons (de_str (da_cons (de_var 1 rfl (da_cons (de_var 5 rfl (da_cons (de_var 6 rfl (da_cons (de_var 7 rfl (da_nil ⟨by simp, rfl⟩)))))))))))
            · have fl := List.length_filter_le (fun k => !decide (cel (rowAt rows (m : Int)) k = cel (rowAt rows (z : Int)) k)) r
              have ea : fs.map (encS ix) ++ (r.filter fun k => !decide (cel (rowAt rows (m : Int)) k = cel (rowAt rows (z : Int)) k)).map (fun k => encS ix ((m : Int), (z : Int), k)) = (fs ++ (r.filter fun k => !decide (cel (rowAt rows (m : Int)) k = cel (rowAt rows (z : Int)) k)).map fun k => ((m : Int), (z : Int), k)).map (encS ix) := by rw [List.map_append, List.map_map]; rfl
              refine ⟨by rw [List.length_map, List.length_map]; omega, ?_⟩
              rw [ea]
              refine db_nil (db_nil ⟨_, _, _, rfl, fun t ht => ?_, by rw [List.length_append, List.length_map]; omega⟩)
              rcases List.mem_append.mp ht with h | h
              · exact hG t h
              · obtain ⟨k, hk, rfl⟩ := List.mem_map.mp h
                obtain ⟨k1, k2⟩ := List.mem_filter.mp hk
                exact sameR_of ⟨hi, hj, k1, hag, by simpa using k2⟩
          · rw [if_neg hag]
            exact db_nil (db_nil ⟨fs, _, _, rfl, hG, by omega⟩)
      · exact db_nil (db_nil ⟨fs, _, _, rfl, hG, by omega⟩)
    · rintro env' ⟨fs, s6, s7, rfl, hG, hfl⟩
      exact db_nil ⟨fs, _, _, _, rfl, hG, by omega⟩
  · rintro env' ⟨fs, s5, s6, s7, rfl, hG, hfl⟩
    refine db_cons (ds_if (dt_cmp (dc_eq (de_len M.len_ (de_var 4 rfl ⟨_, rfl, de_int ⟨_, rfl, _, rfl, ?_⟩⟩)))))
    by_cases hf : fs.length = 0
    · rw [if_pos (decide_eq_true (by rw [List.length_map]; omega))]
      exact db_cons (ds_ret (de_non q0))
    · rw [if_neg fun h => hf (by have := of_decide_eq_true h; rw [List.length_map] at this; omega)]
      have lp : (0 : Int) < (fs.map (encS ix)).length := by rw [List.length_map]; omega
      have m1 := Int.emod_nonneg v (Int.ne_of_gt lp)
      have m2 := Int.emod_lt_of_pos v lp
      refine db_nil (db_cons (ds_ret (de_ix (fun _ _ => rfl) (de_var 4 rfl (de_mod (de_var 3 rfl (de_len M.len_ (de_var 4 rfl ⟨_, rfl, lp, ?_⟩))))))))
      rw [List.length_map] at m1 m2 ⊢
      obtain ⟨t, ht⟩ : ∃ t, fs[(v % (fs.length : Int)).toNat]? = some t := ⟨_, List.getElem?_eq_getElem (by omega)⟩
      obtain ⟨rows', hmk⟩ := hG t (List.mem_of_getElem? ht)
      exact at_lst (enc := encS ix) m1 ht (q t.1 t.2.1 t.2.2 rows' hmk)
end

end DD
namespace DD
open PySem PySem.Spec PyProof.Rows L2
section
variable {P : Program} {w : World} {K : PySem.W.Frag} {cA : Cl → Addr} {mg : Str → Option Value} {base : Heap} {f : Addr} {fd : FuncData}
/-! ### _law_drawn_join -/
structure JSt (rows ps : List (List Int)) (m : Nat) (is ks vs : List Int) (g : Int → Int) : Prop where
  ln : is.length = m
  ir : ∀ i ∈ is, inR rows i = true
  cf : CellF ks vs g
  kl : ks.length ≤ 4 * m
  ke : ∀ k, k ∈ ks ↔ ∃ m' p, m' < m ∧ ps[m']? = some p ∧ k ∈ p
  at_ : ∀ (m' : Nat) p i, ps[m']? = some p → is[m']? = some i → ∀ k ∈ p, g k = cel (rowAt rows i) k
theorem CellF.congr {ks vs : List Int} {g g' : Int → Int} (h : CellF ks vs g) (e : ∀ k ∈ ks, g k = g' k) : CellF ks vs g' :=
  ⟨h.1, fun j k hj => by rw [h.2 j k hj, e k (List.mem_of_getElem? hj)]⟩
/-- a row fits at each place -/
theorem JSt.fits {rows ps : List (List Int)} {m : Nat} {is ks vs : List Int} {g : Int → Int} (h : JSt rows ps m is ks vs g) (hf : FitP ps) (h1 : 0 < rows.length) {p : List Int} (hp : ps[m]? = some p) : ∃ i : Int, inR rows i = true ∧ fitB ks g (rowAt rows i) p = true := by
  cases m with
  | zero =>
    refine ⟨0, inR_iff.mpr ⟨by omega, by omega⟩, List.all_eq_true.mpr fun k hk => ?_⟩
    have : k ∉ ks := fun hm => by obtain ⟨m', _, hlt, _⟩ := (h.ke k).mp hm; omega
    simp [this]
  | succ m =>
    have hl : m < is.length := by rw [h.ln]; omega
    have gi : is[m]? = some is[m] := List.getElem?_eq_getElem hl
    refine ⟨is[m], h.ir _ (List.getElem_mem hl), List.all_eq_true.mpr fun k hk => ?_⟩
    by_cases hm : k ∈ ks
    · have : ∃ p', ps[m]? = some p' ∧ k ∈ p' := by
        obtain ⟨m', p', hlt, hp', hk'⟩ := (h.ke k).mp hm
        by_cases e : m' = m
        · subst e; exact ⟨p', hp', hk'⟩
        · match ps, hf, hp, hp' with
          | [a, b], _, hp, hp' =>
            have := (List.getElem?_eq_some_iff.mp hp).1
            simp at this
            omega
          | [a, b, c], hf, hp, hp' =>
            have h3 := (List.getElem?_eq_some_iff.mp hp).1
            simp at h3
            have e1 : m = 1 := by omega
            have e0 : m' = 0 := by omega
            subst e1; subst e0
            simp at hp hp'
            subst hp; subst hp'
            exact absurd hk (hf k hk')
      obtain ⟨p', hp', hk'⟩ := this
      have := h.at_ m p' is[m] hp' gi k hk'
      simp [this]
    · simp [hm]
theorem JSt.next {rows ps : List (List Int)} {m : Nat} {is ks vs ks' vs' : List Int} {g : Int → Int} (h : JSt rows ps m is ks vs g) {p : List Int} (hp : ps[m]? = some p) {i : Int} (hi : inR rows i = true) (hfit : fitB ks g (rowAt rows i) p = true)
    (hc : CellF ks' vs' fun k => if k ∈ ks then g k else cel (rowAt rows i) k) (hk : ∀ k, k ∈ ks' ↔ k ∈ ks ∨ k ∈ p) (hl : ks'.length ≤ 4 * (m + 1)) : JSt rows ps (m + 1) (is ++ [i]) ks' vs' fun k => if k ∈ ks then g k else cel (rowAt rows i) k where
  ln := by simp [h.ln]
  ir := fun j hj => by
    rcases List.mem_append.mp hj with q | q
    · exact h.ir j q
    · rw [List.mem_singleton.mp q]; exact hi
  cf := hc
  kl := hl
  ke := fun k => by
    rw [hk, h.ke]
    constructor
    · rintro (⟨m', p', h1, h2, h3⟩ | h1)
      · exact ⟨m', p', by omega, h2, h3⟩
      · exact ⟨m, p, by omega, hp, h1⟩
    · rintro ⟨m', p', h1, h2, h3⟩
      by_cases e : m' = m
      · subst e
        rw [hp] at h2
        cases h2
        exact .inr h3
      · exact .inl ⟨m', p', by omega, h2, h3⟩
  at_ := fun m' p' j h1 h2 k hk' => by
    have hm' : m' < m + 1 := by have := (List.getElem?_eq_some_iff.mp h2).1; simp [h.ln] at this; omega
    by_cases e : m' = m
    · subst e
      rw [hp] at h1
      cases h1
      rw [List.getElem?_append_right (by rw [h.ln]; omega), h.ln, Nat.sub_self] at h2
      simp at h2
      subst h2
      by_cases hm : k ∈ ks
      · have := List.all_eq_true.mp hfit k hk'
        simp only [hm, decide_true, Bool.not_true, Bool.false_or, decide_eq_true_eq] at this
        simp only [hm, if_true]
        exact this
      · simp only [hm, if_false]
    · have hlt : m' < m := by omega
      rw [List.getElem?_append_left (by rw [h.ln]; exact hlt)] at h2
      have hm : k ∈ ks := (h.ke k).mpr ⟨m', p', hlt, h1, hk'⟩
      simp only [hm, if_true]
      exact h.at_ m' p' j h1 h2 k hk'
end

end DD
namespace DD
open PySem PySem.Spec PyProof.Rows L2
section
variable {P : Program} {w : World} {K : PySem.W.Frag} {cA : Cl → Addr} {mg : Str → Option Value} {base : Heap} {f : Addr} {fd : FuncData}
abbrev scA : Scope := { kind := .function, names := [(".0", .local), ("_law_i", .cell), ("len", .globalImplicit), ("_law_part", .cell), ("_law_rows", .cell)], isGenerator := false, isCoroutine := false }
abbrev scB : Scope := { kind := .function, names := [(".0", .local), ("_law_i", .cell), ("len", .globalImplicit), ("_law_most", .cell), ("_law_part", .cell), ("_law_rows", .cell)], isGenerator := false, isCoroutine := false }
def phDj (ds : List D) (q : D → Prop) : Prop := ∃ (n : Int) (ps : List (List Int)) (ix v : Int) (b : Bool) (rows : List (List Int)), ds = [trowsD ps, .int ix, rowsD rows, .int v, .bl b] ∧ 0 ≤ n ∧ n ≤ 4 ∧ PrtOk n ps ∧ FitP ps ∧ RowsN n rows ∧ 0 < rows.length ∧ rows.length ≤ 30 ∧ ∀ is row, JoinOk n rows ps is row → q (stD (.join ix is))
theorem mem_modx {xs : List Int} (h : xs ≠ []) (v : Int) : ∃ x, x ∈ xs ∧ xs[(v % (xs.length : Int)).toNat]? = some x ∧ (0 : Int) < xs.length ∧ 0 ≤ v % (xs.length : Int) := by
  have lp : (0 : Int) < xs.length := by cases xs with | nil => exact absurd rfl h | cons _ _ => simp
  have m1 := Int.emod_nonneg v (Int.ne_of_gt lp)
  have m2 := Int.emod_lt_of_pos v lp
  have hl : (v % (xs.length : Int)).toNat < xs.length := by omega
  exact ⟨xs[(v % (xs.length : Int)).toNat], List.getElem_mem hl, List.getElem?_eq_getElem hl, lp, m1⟩
theorem ok_law_drawn_join (M : MF mg) (F : FD K "_law_drawn_join" "_law_drawn_join" s_law_drawn_join f fd) (F1 : FnG P w K cA mg base "_law_fits" 1 phFits) : FnOk P w K mg base CX0 2 f fd ["_law_parts_here", "_law_index", "_law_rows", "_law_number", "_law_by_zeros"] (spD ⟨P, w, K, cA⟩ phDj) := by
  refine fn_ok F sc_law_drawn_join (fun ds q ⟨n, ps, ix, v, b, rows, h, _⟩ => by rw [h]; rfl) (by decide) (fun cdv A' outer s0 H E ds Qd hr ⟨n, ps, ix, v, b, rows, e, h0, hn, po, hF, hR, hr1, hz, q⟩ => ?_)
  subst e
  have p4 := po.four
  refine db_cons (ds_newL 5 (fun L => ?_) sc_law_drawn_join.nd)
  refine db_cons (ds_newD 6 (fun dc => ?_) sc_law_drawn_join.nd)
  refine db_cons (ds_forT rfl (pg_name (i := 7) sc_law_drawn_join.nd rfl (by first | exact Or.inl rfl | exact Or.inr rfl)) (de_var 0 rfl ?_))
  refine ⟨ps.map rowD, fun m env' => ∃ (is ks vs : List Int) (g : Int → Int) (v : Int) (s7 s8 s9 s10 s11 : Sl), env' = [.dat (trowsD ps), .dat (.int ix), .dat (rowsD rows), .dat (.int v), .dat (.bl b), .ol L (is.map D.int), .od dc ks (vs.map D.int), s7, s8, s9, s10, s11, .no, .no] ∧ JSt rows ps m is ks vs g, rfl,
    ⟨[], [], [], fun _ => 0, v, _, _, _, _, _, rfl, ⟨rfl, fun i hi => (by cases hi), ⟨rfl, fun j k h => (by simp at h)⟩, Nat.le_refl _, fun k => ⟨fun h => (by cases h), fun ⟨m', p, h, _⟩ => (by omega)⟩, fun m' p i _ h => (by simp at h)⟩⟩, ?_, ?_⟩
  · rintro m d env' hd ⟨is, ks, vs, g, v, s7, s8, s9, s10, s11, rfl, J⟩
    rw [List.getElem?_map] at hd
    obtain ⟨p, hp, rfl⟩ := Option.map_eq_some_iff.mp hd
    have hml := (List.getElem?_eq_some_iff.mp hp).1
    have pset := po.st p (List.mem_of_getElem? hp)
    have pl4 := pset.in64 hn
    have jk := J.kl
    obtain ⟨i0, hi0, hf0⟩ := J.fits hF hr1 hp
    obtain ⟨z0, z1⟩ := inR_iff.mp hi0
    have rgR : ∀ i ∈ rgI (rows.length : Int), inR rows i = true := fun i hi => inR_iff.mpr (rgI_mem.mp hi)
    refine db_cons (ds_lcR 8 (j := 12) rfl sc_law_drawn_join.nd (blkOk_by (N := n_law_drawn_join) (sc := defScope s_law_drawn_join) (by decide +kernel)) (fun _ _ _ _ _ => pg_name (i := 12) sc_law_drawn_join.nd rfl (by first | exact Or.inl rfl | exact Or.inr rfl)) M.range_ rfl (de_len M.len_ (de_var 2 rfl ⟨_, rfl, ?_⟩)))
    rw [List.length_map]
    refine ⟨(rows.length : Int), fun i => fitB ks g (rowAt rows i) p, D.int, rfl, by omega, by omega, ⟨fun i hi _ _ _ _ _ => di_one (dt_view 6 rfl (dt_val (de_call F1 hr (da_cons (de_var 6 rfl (da_cons ?_)))))), fun i hi hf _ _ _ _ _ => de_var 12 rfl rfl⟩, ?_⟩
    · have rl := rowAt_len hR (rgR i hi)
      refine de_ix (fun _ _ => rfl) (de_var 2 rfl (de_var 12 rfl (at_trow (rgR i hi) (da_cons (de_var 7 rfl (da_nil ⟨ks, vs, g, rowAt rows i, p, rfl, J.cf, by omega, fun k hk => ?_, _, rfl, rfl⟩))))))
      have := pset.2 k hk
      omega
    · generalize hfit : ((rgI (rows.length : Int)).filter fun i => fitB ks g (rowAt rows i) p) = fit
      have fOk : ∀ i ∈ fit, inR rows i = true ∧ fitB ks g (rowAt rows i) p = true := fun i hi => by rw [← hfit] at hi; obtain ⟨a, b⟩ := List.mem_filter.mp hi; exact ⟨rgR i a, b⟩
      have fne : fit ≠ [] := fun z => by
        have : i0 ∈ fit := by rw [← hfit]; exact List.mem_filter.mpr ⟨rgI_mem.mpr ⟨z0, z1⟩, hf0⟩
        rw [z] at this
        cases this
      have fl : fit.length ≤ 30 := by rw [← hfit]; have := List.length_filter_le (fun i => fitB ks g (rowAt rows i) p) (rgI (rows.length : Int)); rw [rgI_len] at this; omega
      have fpos : 0 < fit.length := by cases fit with | nil => exact absurd rfl fne | cons _ _ => simp
      refine db_cons (ds_if (dt_cmp (dc_eq (de_len M.len_ (de_var 8 rfl ⟨_, rfl, de_int ⟨_, rfl, _, rfl, ?_⟩⟩)))))
      rw [if_neg fun h => by have := of_decide_eq_true h; rw [List.length_map] at this; omega]
      refine db_nil (db_cut (fun env' => ∃ (fit' : List Int) (s9 : Sl), fit' ≠ [] ∧ fit'.length ≤ 30 ∧ (∀ i ∈ fit', inR rows i = true ∧ fitB ks g (rowAt rows i) p = true) ∧ env' = [.dat (trowsD ps), .dat (.int ix), .dat (rowsD rows), .dat (.int v), .dat (.bl b), .ol L (is.map D.int), .od dc ks (vs.map D.int), .dat (rowD p), .dat (lrowD fit'), s9, s10, s11, .no, .no]) ?_ ?_)
      · refine ds_if (dt_val (de_var 4 rfl ⟨b, rfl, ?_⟩))
        cases b with
        | false => exact db_nil ⟨fit, s9, fne, fl, fOk, rfl⟩
        | true =>
          let zs : Int → Int := fun i => ((p.filter fun k => decide (cel (rowAt rows i) k = 0)).length : Int)
          refine db_cons (ds_set 9 (de_maxL rfl M.max_ (de_lcL (j := 12) rfl sc_law_drawn_join.nd (blkOk_by (N := n_law_drawn_join) (sc := defScope s_law_drawn_join) (by decide +kernel)) (fun _ _ _ _ _ => pg_name (i := 12) sc_law_drawn_join.nd rfl (by first | exact Or.inl rfl | exact Or.inr rfl)) (de_var 8 rfl ?_))) sc_law_drawn_join.nd)
          refine ⟨Int, fit, D.int, fun _ => true, fun i => .int (zs i), rfl, by omega, ⟨fun i hi _ _ _ _ _ => di_nil rfl, fun i hi _ _ _ _ _ _ => ?_⟩, fit.map zs, by rw [filter_true, List.map_map]; rfl, by rw [List.length_map]; exact fpos, fun mx hmx _ => ?_⟩
          · have rl := rowAt_len hR (fOk i hi).1
            refine de_len M.len_ (de_lcT (j := 11) rfl sc_law_drawn_join.nd (blkOk_by (N := n_law_drawn_join) (sc := scA) (by decide +kernel)) (fun _ _ _ _ _ => pg_name (i := 11) sc_law_drawn_join.nd rfl (by first | exact Or.inl rfl | exact Or.inr rfl)) (de_var 7 rfl ?_))
            refine ⟨Int, p, D.int, fun k => decide (cel (rowAt rows i) k = 0), D.int, rfl, by omega, ⟨fun k hk _ _ _ _ _ => di_one (dt_cmp (dc_eq ?_)), fun k hk hf _ _ _ _ _ => de_var 11 rfl rfl⟩, _, rfl, by rw [List.length_map]⟩
            have kk := pset.2 k hk
            exact de_ix (fun _ _ => rfl) (de_ix (fun _ _ => rfl) (de_var 2 rfl (de_var 12 rfl (at_trow (fOk i hi).1 (de_var 11 rfl (ix_in (.inl rfl) kk.1 (by omega) (de_int ⟨_, rfl, _, rfl, rfl⟩)))))))
          · refine db_cons (ds_lcL 8 (j := 12) rfl sc_law_drawn_join.nd (blkOk_by (N := n_law_drawn_join) (sc := defScope s_law_drawn_join) (by decide +kernel)) (fun _ _ _ _ _ => pg_name (i := 12) sc_law_drawn_join.nd rfl (by first | exact Or.inl rfl | exact Or.inr rfl)) rfl (de_var 8 rfl ?_))
            refine ⟨Int, fit, D.int, fun i => decide (zs i = mx), D.int, rfl, by omega, ⟨fun i hi _ _ _ _ _ => di_one (dt_cmp (dc_eq ?_)), fun i hi hf _ _ _ _ _ => de_var 12 rfl rfl⟩, ?_⟩
            · have rl := rowAt_len hR (fOk i hi).1
              refine de_len M.len_ (de_lcT (j := 11) rfl sc_law_drawn_join.nd (blkOk_by (N := n_law_drawn_join) (sc := scB) (by decide +kernel)) (fun _ _ _ _ _ => pg_name (i := 11) sc_law_drawn_join.nd rfl (by first | exact Or.inl rfl | exact Or.inr rfl)) (de_var 7 rfl ?_))
              refine ⟨Int, p, D.int, fun k => decide (cel (rowAt rows i) k = 0), D.int, rfl, by omega, ⟨fun k hk _ _ _ _ _ => di_one (dt_cmp (dc_eq ?_)), fun k hk hf _ _ _ _ _ => de_var 11 rfl rfl⟩, _, rfl, de_var 9 rfl ⟨_, rfl, _, rfl, by rw [List.length_map]⟩⟩
              have kk := pset.2 k hk
              exact de_ix (fun _ _ => rfl) (de_ix (fun _ _ => rfl) (de_var 2 rfl (de_var 12 rfl (at_trow (fOk i hi).1 (de_var 11 rfl (ix_in (.inl rfl) kk.1 (by omega) (de_int ⟨_, rfl, _, rfl, rfl⟩)))))))
            · refine db_nil ⟨fit.filter fun i => decide (zs i = mx), _, fun z => ?_, Nat.le_trans (List.length_filter_le _ _) fl, fun i hi => fOk i (List.mem_filter.mp hi).1, rfl⟩
              obtain ⟨i, hi, e⟩ := List.mem_map.mp hmx
              have : i ∈ fit.filter fun i => decide (zs i = mx) := List.mem_filter.mpr ⟨hi, by simpa using e⟩
              rw [z] at this
              cases this
      · rintro env' ⟨fit', s9, fne', fl', fOk', rfl⟩
        obtain ⟨x, hx, gx, lp, m1⟩ := mem_modx fne' v
        obtain ⟨hxi, hxf⟩ := fOk' x hx
        have rl := rowAt_len hR hxi
        refine db_cons (ds_set 10 (de_ix (fun _ _ => rfl) (de_var 8 rfl (de_mod (de_var 3 rfl (de_len M.len_ (de_var 8 rfl ⟨_, rfl, ?_⟩)))))) sc_law_drawn_join.nd)
        rw [List.length_map]
        refine ⟨lp, at_lst (enc := D.int) m1 gx ?_⟩
        refine db_cons (ds_set 3 (de_fdiv (de_var 3 rfl (de_len M.len_ (de_var 8 rfl ⟨_, rfl, ?_⟩)))) sc_law_drawn_join.nd)
        rw [List.length_map]
        refine ⟨⟨lp, by omega⟩, ?_⟩
        refine db_cons (ds_append 5 rfl (by rw [List.length_map, J.ln]; omega) (de_var 10 rfl ?_))
        refine db_cons (ds_forT rfl (pg_name (i := 11) sc_law_drawn_join.nd rfl (by first | exact Or.inl rfl | exact Or.inr rfl)) (de_var 7 rfl ?_))
        let g' : Int → Int := fun k => if k ∈ ks then g k else cel (rowAt rows x) k
        have gx' : ∀ k ∈ p, g' k = cel (rowAt rows x) k := fun k hk => by
          show (if k ∈ ks then g k else _) = _
          by_cases hm : k ∈ ks
          · rw [if_pos hm]
            have := List.all_eq_true.mp hxf k hk
            simpa [hm] using this
          · rw [if_neg hm]
        refine ⟨p.map D.int, fun z env' => ∃ (ks' vs' : List Int) (s11 : Sl), env' = [.dat (trowsD ps), .dat (.int ix), .dat (rowsD rows), .dat (.int (v / (fit'.length : Int))), .dat (.bl b), .ol L ((is ++ [x]).map D.int), .od dc ks' (vs'.map D.int), .dat (rowD p), .dat (lrowD fit'), s9, .dat (.int x), s11, .no, .no] ∧ CellF ks' vs' g' ∧ ks'.length ≤ ks.length + z ∧ ∀ k, k ∈ ks' ↔ k ∈ ks ∨ k ∈ p.take z, rfl, ⟨ks, vs, _, by rw [List.map_append]; rfl, J.cf.congr fun k hk => by show g k = if k ∈ ks then g k else _; rw [if_pos hk], Nat.le_refl _, fun k => by simp⟩, ?_, ?_⟩
        · rintro z dk env' hzk ⟨ks', vs', s11, rfl, hC', hkl', hks⟩
          rw [List.getElem?_map] at hzk
          obtain ⟨k, hk, rfl⟩ := Option.map_eq_some_iff.mp hzk
          have kk := pset.2 k (List.mem_of_getElem? hk)
          have hzl := (List.getElem?_eq_some_iff.mp hk).1
          obtain ⟨ks2, vs2, a1, a2, a3, a4⟩ := putI_cell (k := k) hC'
          refine db_cons (ds_putD 6 (room1 hr) rfl (by omega) ?_)
          refine de_ix (fun _ _ => rfl) (de_ix (fun _ _ => rfl) (de_var 2 rfl (de_var 10 rfl (at_trow hxi ?_))))
          refine de_var 11 rfl (ix_in (.inl rfl) kk.1 (by omega) (de_var 11 rfl ⟨k, rfl, ?_⟩))
          rw [← gx' k (List.mem_of_getElem? hk), a1]
          refine db_nil ⟨ks2, vs2, _, rfl, a2, by omega, fun k' => ?_⟩
          rw [a3, hks, List.take_add_one, hk]
          simp only [Option.toList_some, List.mem_append, List.mem_singleton]
          constructor
          · rintro (h | h | h)
            · exact .inr (.inr h)
            · exact .inl h
            · exact .inr (.inl h)
          · rintro (h | h | h)
            · exact .inr (.inl h)
            · exact .inr (.inr h)
            · exact .inl h
        · rintro env' ⟨ks', vs', s11, rfl, hC', hkl', hks⟩
          rw [List.length_map] at hkl' hks
          rw [List.take_length] at hks
          exact db_nil ⟨is ++ [x], ks', vs', g', _, _, _, _, _, _, rfl, J.next hp hxi hxf hC' hks (by omega)⟩
  · rintro env' ⟨is, ks, vs, g, v, s7, s8, s9, s10, s11, rfl, J⟩
    rw [List.length_map] at J
    have jo : JoinOk n rows ps is ((rgI n).map g) := ⟨J.ln, J.ir, len_rg, fun m p i h1 h2 k hk => by
      have kk := (po.st p (List.mem_of_getElem? h1)).2 k hk
      rw [cel_map kk.1 kk.2]
      exact J.at_ m p i h1 h2 k hk⟩
    refine db_freeze 5 rfl (db_cons (ds_ret (de_tup (da_cons (de_str (da_cons (de_var 1 rfl (da_cons (de_tupleOf M.tuple_ (de_var 5 rfl ⟨_, rfl, da_nil ⟨by simp, q is _ jo⟩⟩))))))))))
end

end DD
namespace DD
open PySem PySem.Spec PyProof.Rows L2
section
variable {P : Program} {w : World} {K : PySem.W.Frag} {cA : Cl → Addr} {mg : Str → Option Value} {base : Heap} {f : Addr} {fd : FuncData}
/-! ### _law_drawn_step, _law_steps -/
def phDstep (ds : List D) (q : D → Prop) : Prop := ∃ (n : Int) (told : List Dep) (rows : List (List Int)) (v : Int) (b : Bool), ds = [.int n, .lst (told.map depD), rowsD rows, .int v, .bl b] ∧ 0 ≤ n ∧ n ≤ 4 ∧ 0 < told.length ∧ told.length ≤ 10 ∧ (∀ d ∈ told, ToldN n d) ∧ RowsN n rows ∧ 0 < rows.length ∧ rows.length ≤ 30 ∧ q .non ∧ ∀ st rows', StepR n told rows st rows' → q (stD st)
theorem ok_law_drawn_step (M : MF mg) (F : FD K "_law_drawn_step" "_law_drawn_step" s_law_drawn_step f fd) (F1 : FnG P w K cA mg base "_law_parts" 2 phParts2) (F2 : FnG P w K cA mg base "_law_drawn_join" 2 phDj) (F3 : FnG P w K cA mg base "_law_drawn_same" 2 phDs) : FnOk P w K mg base CX0 3 f fd ["_law_count", "_law_told_here", "_law_rows", "_law_number", "_law_by_zeros"] (spD ⟨P, w, K, cA⟩ phDstep) := by
  refine fn_ok F sc_law_drawn_step (fun ds q ⟨n, told, rows, v, b, h, _⟩ => by rw [h]; rfl) (by decide) (fun cdv A' outer s0 H E ds Qd hr ⟨n, told, rows, v, b, e, h0, hn, t0, t1, hT, hR, hr1, hz, q0, q⟩ => ?_)
  subst e
  refine db_cons (ds_forR rfl (pg_name (i := 5) sc_law_drawn_step.nd rfl (by first | exact Or.inl rfl | exact Or.inr rfl)) M.range_ (de_len M.len_ (de_var 1 rfl ⟨_, rfl, ?_⟩)))
  rw [List.length_map]
  refine ⟨(told.length : Int), fun m env' => ∃ (s5 s6 s7 s8 : Sl), env' = [.dat (.int n), .dat (.lst (told.map depD)), .dat (rowsD rows), .dat (.int v), .dat (.bl b), s5, s6, s7, s8], rfl, by omega, by omega, ⟨_, _, _, _, rfl⟩, ?_, ?_⟩
  · rintro m env' hm ⟨s5, s6, s7, s8, rfl⟩
    have lp : (0 : Int) < told.length := by omega
    have m1 := Int.emod_nonneg (v + m) (Int.ne_of_gt lp)
    have m2 := Int.emod_lt_of_pos (v + m) lp
    obtain ⟨d, hd⟩ : ∃ d, told[((v + m) % (told.length : Int)).toNat]? = some d := ⟨_, List.getElem?_eq_getElem (by omega)⟩
    have dT := hT d (List.mem_of_getElem? hd)
    refine db_cons (ds_set 6 (de_mod (de_add (de_var 3 rfl (de_var 5 rfl ?_)))) sc_law_drawn_step.nd)
    refine de_len M.len_ (de_var 1 rfl ⟨_, rfl, ?_⟩)
    rw [List.length_map]
    refine ⟨lp, ?_⟩
    generalize hix : (v + (m : Int)) % (told.length : Int) = ix at *
    refine db_cons (ds_if ?_)
    refine dt_cmp (dc_ne ?_)
    refine de_ix (fun _ _ => rfl) ?_
    refine de_ix (fun _ _ => rfl) ?_
    refine de_var 1 rfl ?_
    refine de_var 6 rfl ?_
    refine at_lst (enc := depD) m1 hd ?_
    refine de_int ?_
    refine at_dep0 ?_
    refine de_str ?_
    refine ⟨_, ne_fd d, _, rfl, ?_⟩
    by_cases hc : d.cl = .fd
    · rw [if_neg (by simp [hc])]
      cases d with
      | fd l r =>
        refine db_nil (db_cons (ds_set 8 (de_call F3 hr (da_cons (de_ix (fun _ _ => rfl) (de_var 1 rfl (de_var 6 rfl (at_lst (enc := depD) m1 hd ?_)))))) sc_law_drawn_step.nd))
        refine da_cons (de_var 6 rfl (da_cons (de_var 2 rfl (da_cons (de_fdiv (de_var 3 rfl (de_len M.len_ (de_var 1 rfl ⟨_, rfl, ?_⟩))))))))
        rw [List.length_map]
        refine ⟨⟨lp, by omega⟩, da_nil ⟨n, l, r, _, _, rows, rfl, hn, dT.1.1, dT.1.2, hR, hz, ?_, fun i j k rows' hmk => ?_⟩⟩
        · exact db_cons (ds_if (dt_cmp (dc_notN (de_var 8 rfl ⟨false, rfl, db_nil (db_nil ⟨_, _, _, _, rfl⟩)⟩))))
        · exact db_cons (ds_if (dt_cmp (dc_notN (de_var 8 rfl ⟨true, rfl, db_cons (ds_ret (de_var 8 rfl (q _ rows' ⟨_, m1, hd, hmk⟩)))⟩))))
      | mvd l r => cases hc
      | jd ps => cases hc
    · rw [if_pos (by simp [hc])]
      refine db_cons (ds_set 7 (de_call F1 hr (da_cons (de_var 0 rfl (da_cons (de_ix (fun _ _ => rfl) (de_var 1 rfl (de_var 6 rfl (at_lst (enc := depD) m1 hd (da_nil ⟨n, d, rfl, h0, hn, dT.1, hc, ?_⟩))))))))) sc_law_drawn_step.nd)
      refine db_cons (ds_ret (de_call F2 hr (da_cons (de_var 7 rfl (da_cons (de_var 6 rfl (da_cons (de_var 2 rfl (da_cons (de_fdiv (de_var 3 rfl (de_len M.len_ (de_var 1 rfl ⟨_, rfl, ?_⟩)))))))))))))
      rw [List.length_map]
      exact ⟨⟨lp, by omega⟩, da_cons (de_var 4 rfl (da_nil ⟨n, prt n d, _, _, b, rows, rfl, h0, hn, prt_ok dT.1 hc, dT.2 hc, hR, hr1, hz, fun is row jo => q _ _ ⟨d, row, m1, hd, hc, jo, rfl⟩⟩))⟩
  · rintro env' ⟨s5, s6, s7, s8, rfl⟩
    exact db_cons (ds_ret (de_non q0))
theorem non_st (st : Stp) : isNonD (stD st) = false := by cases st <;> rfl
theorem StepR.ok {n : Int} {deps : List Dep} (hD : ∀ d ∈ deps, DepN n d) {rows r1 : List (List Int)} {st : Stp} (h : StepR n deps rows st r1) : StpOk st := by
  cases st with
  | same ix i j k => trivial
  | join ix is =>
    obtain ⟨d, x, _, e1, ec, jx, rfl⟩ := h
    have := (prt_ok (hD d (List.mem_of_getElem? e1)) ec).four
    have := jx.ln
    show is.length ≤ 1000
    omega
def phSteps (ds : List D) (q : D → Prop) : Prop := ∃ (ns : List Int) (pl n size : Int) (told : List Dep) (rows : List (List Int)) (b : Bool), ds = [lrowD ns, .int pl, .int n, .lst (told.map depD), rowsD rows, .int size, .bl b] ∧ NumOk ns ∧ 0 ≤ pl ∧ 0 ≤ size ∧ size ≤ 7 ∧ pl + size ≤ 21 ∧ 0 ≤ n ∧ n ≤ 4 ∧ 0 < told.length ∧ told.length ≤ 10 ∧ (∀ d ∈ told, ToldN n d) ∧ RowsN n rows ∧ 0 < rows.length ∧ rows.length ≤ 20 ∧
  ∀ sts rows', RunR n told rows sts rows' → (∀ st ∈ sts, StpOk st) → sts.length ≤ 7 → q (.lst (sts.map stD))
theorem ok_law_steps (M : MF mg) (F : FD K "_law_steps" "_law_steps" s_law_steps f fd) (F1 : FnG P w K cA mg base "_law_drawn_step" 3 phDstep) (F2 : FnG P w K cA mg base "_law_step" 3 phStep) : FnOk P w K mg base CX0 4 f fd ["_law_numbers_here", "_law_place", "_law_count", "_law_told_here", "_law_rows", "_law_size", "_law_by_zeros"] (spD ⟨P, w, K, cA⟩ phSteps) := by
  refine fn_ok F sc_law_steps (fun ds q ⟨ns, pl, n, size, told, rows, b, h, _⟩ => by rw [h]; rfl) (by decide) (fun cdv A' outer s0 H E ds Qd hr ⟨ns, pl, n, size, told, rows, b, e, hN, p0, z0, z1, p1, h0, hn, t0, t1, hT, hR, hr1, hz, q⟩ => ?_)
  subst e
  refine db_cons (ds_newL 7 (fun L => ?_) sc_law_steps.nd)
  refine db_cons (ds_forR rfl (pg_name (i := 8) sc_law_steps.nd rfl (by first | exact Or.inl rfl | exact Or.inr rfl)) M.range_ (de_var 5 rfl ?_))
  refine ⟨size, fun m env' => ∃ (sts : List Stp) (rows' : List (List Int)) (s8 s9 : Sl), env' = [.dat (lrowD ns), .dat (.int pl), .dat (.int n), .dat (.lst (told.map depD)), .dat (rowsD rows'), .dat (.int size), .dat (.bl b), .ol L (sts.map stD), s8, s9] ∧ RunR n told rows sts rows' ∧ (∀ st ∈ sts, StpOk st) ∧ sts.length ≤ m, rfl, by omega, by omega, ⟨[], rows, _, _, rfl, rfl, fun st h => (by cases h), Nat.le_refl _⟩, ?_, ?_⟩
  · rintro m env' hm ⟨sts, rows', s8, s9, rfl, hrun, hok, hl⟩
    obtain ⟨g1, g2, g3⟩ := hrun.rows hR
    refine db_cons (ds_set 9 (de_call F1 hr (da_cons (de_var 2 rfl (da_cons (de_var 3 rfl (da_cons (de_var 4 rfl (da_cons ?_))))))) ) sc_law_steps.nd)
    refine de_ix (fun _ _ => rfl) (de_var 0 rfl (de_add (de_var 1 rfl (de_var 8 rfl ?_))))
    refine hN.at_ (k := pl + m) (by omega) (by omega) fun y y0 y1 => ?_
    refine da_cons (de_var 6 rfl (da_nil ⟨n, told, rows', y, b, rfl, h0, hn, t0, t1, hT, g1, by omega, by omega, ?_, fun st rows2 hst => ?_⟩))
    · exact db_cons (ds_if (dt_cmp (dc_notN (de_var 9 rfl ⟨false, rfl, db_nil (db_nil ⟨sts, rows', _, _, rfl, hrun, hok, by omega⟩)⟩))))
    · refine db_cons (ds_if (dt_cmp (dc_notN (de_var 9 rfl ⟨_, rfl, ?_⟩))))
      rw [if_pos (by rw [non_st]; rfl)]
      refine db_cons (ds_append 7 rfl (by rw [List.length_map]; omega) (de_var 9 rfl ?_))
      refine db_cons (ds_set 4 (de_call F2 hr (da_cons (de_var 2 rfl (da_cons (de_var 3 rfl (da_cons (de_var 4 rfl (da_cons (de_var 9 rfl (da_nil ?_)))))))))) sc_law_steps.nd)
      refine ⟨n, told, rows', st, rows2, rfl, h0, hn, hT, g1, by omega, hst, ?_⟩
      refine db_nil (db_nil ⟨sts ++ [st], rows2, _, _, by rw [List.map_append]; rfl, hrun.snoc hst, fun z hz => ?_, by simp; omega⟩)
      rcases List.mem_append.mp hz with h | h
      · exact hok z h
      · rw [List.mem_singleton.mp h]; exact hst.ok fun d hd => (hT d hd).1
  · rintro env' ⟨sts, rows', s8, s9, rfl, hrun, hok, hl⟩
    exact db_freeze 7 rfl (db_cons (ds_ret (de_var 7 rfl (q sts rows' hrun hok (by omega)))))
end

end DD
namespace DD
open PySem PySem.Spec PyProof.Rows L2
section
variable {P : Program} {w : World} {K : PySem.W.Frag} {cA : Cl → Addr} {mg : Str → Option Value} {base : Heap} {f : Addr} {fd : FuncData}
/-! ### _law_join_target, _law_parted, _law_planted -/
def Cov3 (n : Int) (ps : List (List Int)) : Prop := ∀ k, 0 ≤ k → k < n → ∃ p ∈ ps.take 3, k ∈ p
def phJtg (ds : List D) (q : D → Prop) : Prop := ∃ (ns : List Int) (pl n : Int), ds = [lrowD ns, .int pl, .int n] ∧ NumOk ns ∧ 0 ≤ pl ∧ pl < 20 ∧ 0 ≤ n ∧ n ≤ 4 ∧ ∀ ps, DepN n (.jd ps) → Cov3 n ps → q (depD (.jd ps))
theorem ok_law_join_target (M : MF mg) (F : FD K "_law_join_target" "_law_join_target" s_law_join_target f fd) (F1 : FnG P w K cA mg base "_law_set" 1 phSet) (F2 : FnG P w K cA mg base "_law_less" 1 phLess2) (F3 : FnG P w K cA mg base "_law_united" 1 phUn2) (F4 : FnG P w K cA mg base "_law_sparse" 1 phSet) : FnOk P w K mg base CX0 2 f fd ["_law_numbers_here", "_law_place", "_law_count"] (spD ⟨P, w, K, cA⟩ phJtg) := by
  refine fn_ok F sc_law_join_target (fun ds q ⟨ns, pl, n, h, _⟩ => by rw [h]; rfl) (by decide) (fun cdv A' outer s0 H E ds Qd hr ⟨ns, pl, n, e, hN, p0, p1, h0, hn, q⟩ => ?_)
  subst e
  have hw : (rgI n).length ≤ 4 := by rw [rgI_len]; omega
  refine db_cons (ds_set 3 (de_tupRange rfl M.tuple_ M.range_ (de_var 2 rfl ⟨n, rfl, h0, by omega, ?_⟩)) sc_law_join_target.nd)
  refine db_cons (ds_set 4 (de_call F1 hr (da_cons (de_ix (fun _ _ => rfl) (de_var 0 rfl (de_var 1 rfl (hN.at_ p0 (by omega) fun x x0 x1 => da_cons (de_var 2 rfl (da_nil ⟨_, n, rfl, h0, hn, fun a ha => ?_⟩)))))))) sc_law_join_target.nd)
  refine db_cons (ds_set 5 (de_call F1 hr (da_cons (de_fdiv (de_ix (fun _ _ => rfl) (de_var 0 rfl (de_var 1 rfl (hN.at_ p0 (by omega) fun x x0 x1 => de_int ⟨⟨by decide, by decide⟩, da_cons (de_var 2 rfl (da_nil ⟨_, n, rfl, h0, hn, fun b hb => ?_⟩))⟩))))))) sc_law_join_target.nd)
  have a4 := ha.in64 hn
  have b4 := hb.in64 hn
  have hwa : SetN n ((rgI n).filter fun k => decide (k ∉ a)) := (SetN.rg n).filter _
  have hwb : SetN n (((rgI n).filter fun k => decide (k ∉ a)).filter fun k => decide (k ∉ b)) := hwa.filter _
  have wa4 := hwa.in64 hn
  have wb4 := hwb.in64 hn
  refine db_cons (ds_set 6 ?_ sc_law_join_target.nd)
  refine de_call F3 hr (da_cons (de_call F2 hr (da_cons (de_call F2 hr (da_cons (de_var 3 rfl (da_cons (de_var 4 rfl (da_nil ⟨rgI n, a, rfl, by omega, ?_⟩)))))))))
  refine da_cons (de_var 5 rfl (da_nil ⟨_, b, rfl, by omega, ?_⟩))
  refine da_cons (de_call F4 hr (da_cons (de_fdiv (de_ix (fun _ _ => rfl) (de_var 0 rfl (de_var 1 rfl (hN.at_ p0 (by omega) fun x x0 x1 => de_int ⟨⟨by decide, by decide⟩, da_cons (de_var 2 rfl (da_nil ⟨_, n, rfl, h0, hn, fun s hs => ?_⟩))⟩)))))))
  have s4 := hs.in64 hn
  refine da_nil ⟨_, s, rfl, by omega, ?_⟩
  have hc : SetN n (sdI ((((rgI n).filter fun k => decide (k ∉ a)).filter fun k => decide (k ∉ b)) ++ s)) := SetN.sd fun k hk => (List.mem_append.mp hk).elim (hwb.2 k) (hs.2 k)
  have cov : ∀ k, 0 ≤ k → k < n → k ∈ a ∨ k ∈ b ∨ k ∈ sdI ((((rgI n).filter fun k => decide (k ∉ a)).filter fun k => decide (k ∉ b)) ++ s) := fun k k0 k1 => by
    by_cases ka : k ∈ a
    · exact .inl ka
    · by_cases kb : k ∈ b
      · exact .inr (.inl kb)
      · exact .inr (.inr (sdI_mem.mpr (List.mem_append_left _ (List.mem_filter.mpr ⟨List.mem_filter.mpr ⟨rgI_mem.mpr ⟨k0, k1⟩, by simp [ka]⟩, by simp [kb]⟩))))
  generalize sdI ((((rgI n).filter fun k => decide (k ∉ a)).filter fun k => decide (k ∉ b)) ++ s) = cc at *
  refine db_cons (ds_set 7 (de_mod (de_ix (fun _ _ => rfl) (de_var 0 rfl (de_add (de_var 1 rfl (de_int ?_)))))) sc_law_join_target.nd)
  refine hN.at_ (k := pl + 1) (by omega) (by omega) fun y y0 y1 => ?_
  refine de_int ⟨by decide, ?_⟩
  refine db_cons (ds_if (dt_cmp (dc_eq (de_var 7 rfl (de_int ⟨_, rfl, _, rfl, ?_⟩)))))
  split
  · have hu : SetN n (sdI (b ++ (rgI n).filter fun k => decide (k ∉ a))) := SetN.sd fun k hk => (List.mem_append.mp hk).elim (hb.2 k) (hwa.2 k)
    have c2 : ∀ k, 0 ≤ k → k < n → ∃ p ∈ [a, sdI (b ++ (rgI n).filter fun k => decide (k ∉ a))], k ∈ p := fun k k0 k1 => by
      by_cases ka : k ∈ a
      · exact ⟨a, by simp, ka⟩
      · exact ⟨_, List.mem_cons_of_mem _ List.mem_cons_self, sdI_mem.mpr (List.mem_append_right _ (List.mem_filter.mpr ⟨rgI_mem.mpr ⟨k0, k1⟩, by simp [ka]⟩))⟩
    refine db_cons (ds_ret (de_tup (da_cons (de_str (da_cons (de_tup (da_cons (de_var 4 rfl (da_cons ?_)))))))))
    refine de_call F3 hr (da_cons (de_var 5 rfl (da_cons (de_call F2 hr (da_cons (de_var 3 rfl (da_cons (de_var 4 rfl (da_nil ⟨rgI n, a, rfl, by omega, ?_⟩)))))))))
    refine da_nil ⟨b, _, rfl, by omega, da_nil ⟨by simp, da_nil ⟨by simp, q [a, sdI (b ++ (rgI n).filter fun k => decide (k ∉ a))] ⟨fun p hp => ?_, Nat.le_refl 2, by show 2 ≤ 4; decide, c2⟩ c2⟩⟩⟩
    simp at hp
    rcases hp with e | e
    · rw [e]; exact ha
    · rw [e]; simpa using hu
  · refine db_nil (db_cons (ds_if (dt_cmp (dc_eq (de_var 7 rfl (de_int ⟨_, rfl, _, rfl, ?_⟩))))))
    split
    · refine db_cons (ds_ret (de_tup (da_cons (de_str (da_cons (de_tup (da_cons (de_var 6 rfl (da_cons (de_var 4 rfl (da_cons (de_var 5 rfl (da_cons ?_)))))))))))))
      refine de_call F4 hr (da_cons (de_fdiv (de_ix (fun _ _ => rfl) (de_var 0 rfl (de_add (de_var 1 rfl (de_int ?_)))))))
      refine hN.at_ (k := pl + 1) (by omega) (by omega) fun y y0 y1 => ?_
      refine de_int ⟨⟨by decide, by decide⟩, da_cons (de_var 2 rfl (da_nil ⟨_, n, rfl, h0, hn, fun t ht => ?_⟩))⟩
      have c3 : ∀ k, 0 ≤ k → k < n → ∃ p ∈ [cc, a, b], k ∈ p := fun k k0 k1 => by
        rcases cov k k0 k1 with h | h | h
        · exact ⟨a, by simp, h⟩
        · exact ⟨b, by simp, h⟩
        · exact ⟨cc, by simp, h⟩
      refine da_nil ⟨by simp, da_nil ⟨by simp, q [cc, a, b, t] ⟨fun p hp => ?_, by show 2 ≤ 4; decide, Nat.le_refl 4, fun k k0 k1 => ?_⟩ c3⟩⟩
      · simp at hp
        rcases hp with e | e | e | e <;> (rw [e]; assumption)
      · obtain ⟨p, hp, hk⟩ := c3 k k0 k1
        exact ⟨p, by simp at hp ⊢; rcases hp with e | e | e <;> simp [e], hk⟩
    · have c3 : ∀ k, 0 ≤ k → k < n → ∃ p ∈ [a, b, cc], k ∈ p := fun k k0 k1 => by
        rcases cov k k0 k1 with h | h | h
        · exact ⟨a, by simp, h⟩
        · exact ⟨b, by simp, h⟩
        · exact ⟨cc, by simp, h⟩
      refine db_nil (db_cons (ds_ret (de_tup (da_cons (de_str (da_cons (de_tup (da_cons (de_var 4 rfl (da_cons (de_var 5 rfl (da_cons (de_var 6 rfl (da_nil ⟨by simp, da_nil ⟨by simp, q [a, b, cc] ⟨fun p hp => ?_, by show 2 ≤ 3; decide, by show 3 ≤ 4; decide, c3⟩ c3⟩⟩))))))))))))))
      simp at hp
      rcases hp with e | e | e <;> (rw [e]; assumption)
end

end DD
namespace DD
open PySem PySem.Spec PyProof.Rows L2
section
variable {P : Program} {w : World} {K : PySem.W.Frag} {cA : Cl → Addr} {mg : Str → Option Value} {base : Heap} {f : Addr} {fd : FuncData}
def phPted (ds : List D) (q : D → Prop) : Prop := ∃ (n : Int) (ps : List (List Int)), ds = [trowsD ps] ∧ 0 ≤ n ∧ n ≤ 4 ∧ DepN n (.jd ps) ∧ Cov3 n ps ∧ ∀ ps', ToldN n (.jd ps') → q (depD (.jd ps'))
theorem ok_law_parted (M : MF mg) (F : FD K "_law_parted" "_law_parted" s_law_parted f fd) (F1 : FnG P w K cA mg base "_law_less" 1 phLess2) : FnOk P w K mg base CX0 2 f fd ["_law_parts_here"] (spD ⟨P, w, K, cA⟩ phPted) := by
  refine fn_ok F sc_law_parted (fun ds q ⟨n, ps, h, _⟩ => by rw [h]; rfl) (by decide) (fun cdv A' outer s0 H E ds Qd hr ⟨n, ps, e, h0, hn, hps, hcv, q⟩ => ?_)
  subst e
  have p4 := hps.2.2.1
  have p2 := hps.2.1
  refine db_cons (ds_newL 1 (fun L => ?_) sc_law_parted.nd)
  refine db_cons (ds_forT rfl (pg_name (i := 2) sc_law_parted.nd rfl (by first | exact Or.inl rfl | exact Or.inr rfl)) (de_slTo (de_var 0 rfl (de_int ⟨3, rfl, .inl ⟨_, rfl, ?_⟩⟩))))
  rw [← List.map_take]
  have tl : (ps.take 3).length ≤ 3 ∧ 2 ≤ (ps.take 3).length := by rw [List.length_take]; omega
  have tm : ∀ p ∈ ps.take 3, SetN n p := fun p hp => hps.1 p (List.mem_of_mem_take hp)
  have hcv' : ∀ k, 0 ≤ k → k < n → ∃ p ∈ ps.take 3, k ∈ p := hcv
  generalize ps.take 3 = ts at *
  refine ⟨ts.map rowD, fun m env' => ∃ (fs : List (List Int)) (s2 s3 : Sl), env' = [.dat (trowsD ps), .ol L (fs.map rowD), s2, s3] ∧ fs.length = m ∧ (∀ p ∈ fs, SetN n p) ∧ fs.Pairwise (fun a c => ∀ k ∈ a, k ∉ c) ∧ ∀ p ∈ ts.take m, ∀ k ∈ p, ∃ g ∈ fs, k ∈ g, rfl, ⟨[], _, _, rfl, rfl, fun p hp => (by cases hp), .nil, fun p hp => (by simp at hp)⟩, ?_, ?_⟩
  · rintro m d env' hd ⟨fs, s2, s3, rfl, hl, hS, hP, hC⟩
    rw [List.getElem?_map] at hd
    obtain ⟨p, hp, rfl⟩ := Option.map_eq_some_iff.mp hd
    have hml := (List.getElem?_eq_some_iff.mp hp).1
    have pset := tm p (List.mem_of_getElem? hp)
    refine db_cons (ds_forO 1 rfl (pg_name (i := 3) sc_law_parted.nd rfl (by first | exact Or.inl rfl | exact Or.inr rfl)) rfl (fun z env' => ∃ (p' : List Int) (s3 : Sl), env' = [.dat (trowsD ps), .ol L (fs.map rowD), .dat (rowD p'), s3] ∧ SetN n p' ∧ ∀ k, k ∈ p' ↔ k ∈ p ∧ ∀ g ∈ fs.take z, k ∉ g) (by decide) ⟨p, s3, rfl, pset, fun k => (by simp)⟩ (fun z env' h => (by obtain ⟨p', s3, rfl, _⟩ := h; rfl)) ?_ ?_)
    · rintro z dk env' hzk ⟨p', s3, rfl, hp', hk'⟩
      rw [List.getElem?_map] at hzk
      obtain ⟨g, hg, rfl⟩ := Option.map_eq_some_iff.mp hzk
      have p'4 := hp'.in64 hn
      refine db_cons (ds_set 2 (de_call F1 hr (da_cons (de_var 2 rfl (da_cons (de_var 3 rfl (da_nil ⟨p', g, rfl, by omega, ?_⟩)))))) sc_law_parted.nd)
      refine db_nil ⟨_, _, rfl, hp'.filter _, fun k => ?_⟩
      rw [List.mem_filter, hk', List.take_add_one, hg]
      simp only [Option.toList_some, List.mem_append, List.mem_singleton, decide_eq_true_eq]
      constructor
      · rintro ⟨⟨a1, a2⟩, a3⟩
        refine ⟨a1, fun g' hg' => ?_⟩
        rcases hg' with h | h
        · exact a2 g' h
        · rw [h]; exact a3
      · rintro ⟨a1, a2⟩
        exact ⟨⟨a1, fun g' h => a2 g' (.inl h)⟩, a2 g (.inr rfl)⟩
    · rintro env' ⟨p', s3, rfl, hp', hk'⟩
      rw [List.length_map, List.take_length] at hk'
      refine db_cons (ds_append 1 rfl (by rw [List.length_map]; omega) (de_var 2 rfl ?_))
      refine db_nil ⟨fs ++ [p'], _, _, by rw [List.map_append]; rfl, by simp [hl], fun x hx => ?_, ?_, fun x hx k hk => ?_⟩
      · rcases List.mem_append.mp hx with h | h
        · exact hS x h
        · rw [List.mem_singleton.mp h]; exact hp'
      · refine List.pairwise_append.mpr ⟨hP, List.pairwise_singleton _ _, fun a ha c hc k hka hkc => ?_⟩
        rw [List.mem_singleton.mp hc] at hkc
        exact ((hk' k).mp hkc).2 a ha hka
      · rw [List.take_add_one, hp] at hx
        rcases List.mem_append.mp hx with h | h
        · obtain ⟨g, hg, hkg⟩ := hC x h k hk
          exact ⟨g, List.mem_append_left _ hg, hkg⟩
        · simp at h
          subst h
          by_cases hin : ∃ g ∈ fs, k ∈ g
          · obtain ⟨g, hg, hkg⟩ := hin
            exact ⟨g, List.mem_append_left _ hg, hkg⟩
          · exact ⟨p', by simp, (hk' k).mpr ⟨hk, fun g hg hkg => hin ⟨g, hg, hkg⟩⟩⟩
  · rintro env' ⟨fs, s2, s3, rfl, hl, hS, hP, hC⟩
    rw [List.length_map] at hl hC
    rw [List.take_length] at hC
    refine db_freeze 1 rfl (db_cons (ds_ret (de_tup (da_cons (de_str (da_cons (de_tupleOf M.tuple_ (de_var 1 rfl ⟨_, rfl, da_nil ⟨by simp, q fs ⟨⟨hS, by omega, by omega, fun k k0 k1 => ?_⟩, fun _ => ?_⟩⟩⟩))))))))
    · obtain ⟨p, hp, hk⟩ := hcv' k k0 k1
      exact hC p hp k hk
    · show FitP fs
      match fs, hl, hP with
      | [a, b], _, _ => exact trivial
      | [a, b, c], _, hP =>
        have := List.pairwise_cons.mp hP
        exact this.1 c (by simp)
      | [], hl, _ => simp at hl; omega
      | [a], hl, _ => simp at hl; omega
      | _ :: _ :: _ :: _ :: _, hl, _ => simp at hl; omega
/-- the targets that _law_planted draws -/
def PlT (n : Int) (l : List Int) (rows : List (List Int)) (t : Dep) : Prop :=
  ∃ s, SetN n s ∧ (∀ k ∈ s, cel (rowAt rows 0) k = cel (rowAt rows 1) k) ∧ (t = .fd l s ∨ ∃ i, inR rows i = true ∧ t = .mvd l (((rgI n).filter fun k => decide (cel (rowAt rows i) k = cel (rowAt rows 0) k)).filter fun k => decide (k ∉ s)))
def phPlt (ds : List D) (q : D → Prop) : Prop := ∃ (v n : Int) (l : List Int) (rows : List (List Int)), ds = [.int v, rowD l, rowsD rows, .int n] ∧ 0 ≤ n ∧ n ≤ 4 ∧ RowsN n rows ∧ 2 ≤ rows.length ∧ rows.length ≤ 100 ∧ ∀ t, PlT n l rows t → q (depD t)
theorem ok_law_planted (M : MF mg) (F : FD K "_law_planted" "_law_planted" s_law_planted f fd) (F1 : FnG P w K cA mg base "_law_met" 1 phMet2) (F2 : FnG P w K cA mg base "_law_set" 1 phSet) (F3 : FnG P w K cA mg base "_law_less" 1 phLess2) : FnOk P w K mg base CX0 2 f fd ["_law_number", "_law_left", "_law_rows", "_law_count"] (spD ⟨P, w, K, cA⟩ phPlt) := by
  refine fn_ok F sc_law_planted (fun ds q ⟨v, n, l, rows, h, _⟩ => by rw [h]; rfl) (by decide) (fun cdv A' outer s0 H E ds Qd hr ⟨v, n, l, rows, e, h0, hn, hR, hr1, hz, q⟩ => ?_)
  subst e
  have i0 : inR rows 0 = true := inR_iff.mpr ⟨by omega, by omega⟩
  have i1 : inR rows 1 = true := inR_iff.mpr ⟨by omega, by omega⟩
  have l0 := rowAt_len hR i0
  have l1 := rowAt_len hR i1
  refine db_cons (ds_set 4 (de_tupleOf M.tuple_ (de_lcR (j := 8) rfl sc_law_planted.nd (blkOk_by (N := n_law_planted) (sc := defScope s_law_planted) (by decide +kernel)) (fun _ _ _ _ _ => pg_name (i := 8) sc_law_planted.nd rfl (by first | exact Or.inl rfl | exact Or.inr rfl)) M.range_ (de_var 3 rfl ?_))) sc_law_planted.nd)
  refine ⟨n, fun k => decide (cel (rowAt rows 0) k = cel (rowAt rows 1) k), D.int, rfl, h0, by omega, ⟨fun k hk _ _ _ _ _ => di_one (dt_cmp (dc_eq ?_)), fun k hk hf _ _ _ _ _ => de_var 8 rfl rfl⟩, _, rfl, ?_⟩
  · obtain ⟨k0, k1⟩ := rgI_mem.mp hk
    refine de_ix (fun _ _ => rfl) (de_ix (fun _ _ => rfl) (de_var 2 rfl (de_int (at_trow i0 (de_var 8 rfl (ix_in (.inl rfl) k0 (by omega) ?_))))))
    exact de_ix (fun _ _ => rfl) (de_ix (fun _ _ => rfl) (de_var 2 rfl (de_int (at_trow i1 (de_var 8 rfl (ix_in (.inl rfl) k0 (by omega) ⟨_, rfl, _, rfl, rfl⟩))))))
  have hal : SetN n ((rgI n).filter fun k => decide (cel (rowAt rows 0) k = cel (rowAt rows 1) k)) := (SetN.rg n).filter _
  have al4 := hal.in64 hn
  refine db_cons (ds_set 5 ?_ sc_law_planted.nd)
  refine de_call F1 (hr.mono (by decide)) ?_
  refine da_cons ?_
  refine de_var 4 rfl ?_
  refine da_cons ?_
  refine de_call F2 (hr.mono (by decide)) ?_
  refine da_cons ?_
  refine de_fdiv ?_
  refine de_var 0 rfl ?_
  refine de_int ?_
  refine ⟨⟨by decide, by decide⟩, ?_⟩
  refine da_cons ?_
  refine de_var 3 rfl ?_
  refine da_nil ?_
  refine ⟨_, n, rfl, h0, hn, fun s hs => ?_⟩
  refine da_nil ?_
  refine ⟨_, s, rfl, by omega, ?_⟩
  have hs' := hal.filter fun k => decide (k ∈ s)
  have hsa : ∀ k ∈ ((rgI n).filter fun k => decide (cel (rowAt rows 0) k = cel (rowAt rows 1) k)).filter (fun k => decide (k ∈ s)), cel (rowAt rows 0) k = cel (rowAt rows 1) k := fun k hk => by
    have := (List.mem_filter.mp (List.mem_filter.mp hk).1).2
    simpa using this
  generalize ((rgI n).filter fun k => decide (cel (rowAt rows 0) k = cel (rowAt rows 1) k)).filter (fun k => decide (k ∈ s)) = so at *
  refine db_cons (ds_if ?_)
  refine dt_cmp (dc_eq ?_)
  refine de_mod ?_
  refine de_var 0 rfl ?_
  refine de_int ?_
  refine ⟨by decide, ?_⟩
  refine de_int ?_
  refine ⟨_, rfl, _, rfl, ?_⟩
  split
  · exact db_cons (ds_ret (de_tup (da_cons (de_str (da_cons (de_var 1 rfl (da_cons (de_var 5 rfl (da_nil ⟨by simp, q (.fd l so) ⟨so, hs', hsa, .inl rfl⟩⟩)))))))))
  · have lp : (0 : Int) < rows.length := by omega
    have m1 := Int.emod_nonneg (v / 2) (Int.ne_of_gt lp)
    have m2 := Int.emod_lt_of_pos (v / 2) lp
    refine db_nil ?_
    refine db_cons (ds_set 6 ?_ sc_law_planted.nd)
    refine de_ix (fun _ _ => rfl) ?_
    refine de_var 2 rfl ?_
    refine de_mod ?_
    refine de_fdiv ?_
    refine de_var 0 rfl ?_
    refine de_int ?_
    refine ⟨⟨by decide, by decide⟩, ?_⟩
    refine de_len M.len_ (de_var 2 rfl ⟨_, rfl, ?_⟩)
    rw [List.length_map]
    refine ⟨lp, ?_⟩
    generalize v / 2 % (rows.length : Int) = ix at *
    have hix : inR rows ix = true := inR_iff.mpr ⟨m1, by omega⟩
    have lx := rowAt_len hR hix
    refine at_trow hix ?_
    refine db_cons (ds_set 7 (de_tupleOf M.tuple_ (de_lcR (j := 8) rfl sc_law_planted.nd (blkOk_by (N := n_law_planted) (sc := defScope s_law_planted) (by decide +kernel)) (fun _ _ _ _ _ => pg_name (i := 8) sc_law_planted.nd rfl (by first | exact Or.inl rfl | exact Or.inr rfl)) M.range_ (de_var 3 rfl ?_))) sc_law_planted.nd)
    refine ⟨n, fun k => decide (cel (rowAt rows ix) k = cel (rowAt rows 0) k), D.int, rfl, h0, by omega, ⟨fun k hk _ _ _ _ _ => di_one (dt_cmp (dc_eq ?_)), fun k hk hf _ _ _ _ _ => de_var 8 rfl rfl⟩, _, rfl, ?_⟩
    · obtain ⟨k0, k1⟩ := rgI_mem.mp hk
      refine de_ix (fun _ _ => rfl) (de_var 6 rfl (de_var 8 rfl (ix_in (.inl rfl) k0 (by omega) ?_)))
      exact de_ix (fun _ _ => rfl) (de_ix (fun _ _ => rfl) (de_var 2 rfl (de_int (at_trow i0 (de_var 8 rfl (ix_in (.inl rfl) k0 (by omega) ⟨_, rfl, _, rfl, rfl⟩))))))
    · have hrr : SetN n ((rgI n).filter fun k => decide (cel (rowAt rows ix) k = cel (rowAt rows 0) k)) := (SetN.rg n).filter _
      have rr4 := hrr.in64 hn
      refine db_cons (ds_ret (de_tup (da_cons (de_str (da_cons (de_var 1 rfl (da_cons (de_call F3 hr (da_cons (de_var 7 rfl (da_cons (de_var 5 rfl (da_nil ⟨_, so, rfl, by omega, ?_⟩)))))))))))))
      exact da_nil ⟨by simp, q _ ⟨so, hs', hsa, .inr ⟨ix, hix, rfl⟩⟩⟩
end

end DD
namespace DD
open PySem PySem.Spec PyProof.Rows L2
section
variable {P : Program} {w : World} {K : PySem.W.Frag} {cA : Cl → Addr} {mg : Str → Option Value} {base : Heap} {f : Addr} {fd : FuncData}
/-! ### _law_case -/
structure CaseR (n : Int) (told : List Dep) (t : Dep) (sts : List Stp) (rows' : List (List Int)) : Prop where
  told_ : ∀ d ∈ told, ToldN n d
  t1 : 0 < told.length
  t3 : told.length ≤ 3
  dep : DepN n t
  run : RunR n told (firstR n t) sts rows'
  ok : ∀ st ∈ sts, StpOk st
  few : sts.length ≤ 7
  jd : t.cl = .jd → n ≤ 3
  pl : t.cl ≠ .jd → ∃ l, SetN n l ∧ PlT n l rows' t
theorem PlT.dep {n : Int} {l : List Int} {rows : List (List Int)} {t : Dep} (h : PlT n l rows t) (hl : SetN n l) : DepN n t ∧ t.cl ≠ .jd ∧ firstR n t = [zeroR n, markR n l] := by
  obtain ⟨s, hs, _, rfl | ⟨i, _, rfl⟩⟩ := h
  · exact ⟨⟨hl, hs⟩, (by intro z; cases z), rfl⟩
  · exact ⟨⟨hl, ((SetN.rg n).filter _).filter _⟩, (by intro z; cases z), rfl⟩
def phCase (ds : List D) (q : D → Prop) : Prop := ∃ (ns : List Int) (pl n : Int) (told : List Dep), ds = [lrowD ns, .int pl, .int n, .lst (told.map depD)] ∧ NumOk ns ∧ 0 ≤ pl ∧ pl + 10 ≤ 21 ∧ 0 ≤ n ∧ n ≤ 4 ∧ (cel ns pl % 3 = 0 → n ≤ 3) ∧ 0 < told.length ∧ told.length ≤ 3 ∧ (∀ d ∈ told, ToldN n d) ∧
  ∀ told' t sts rows', CaseR n told' t sts rows' → q (.lst [.lst (told'.map depD), depD t, .lst (sts.map stD)])
theorem ok_law_case (M : MF mg) (F : FD K "_law_case" "_law_case" s_law_case f fd) (F1 : FnG P w K cA mg base "_law_join_target" 2 phJtg) (F2 : FnG P w K cA mg base "_law_parted" 2 phPted) (F3 : FnG P w K cA mg base "_law_first" 1 phFirst2) (F4 : FnG P w K cA mg base "_law_steps" 4 phSteps) (F5 : FnG P w K cA mg base "_law_sparse" 1 phSet) (F6 : FnG P w K cA mg base "_law_step" 3 phStep) (F7 : FnG P w K cA mg base "_law_planted" 2 phPlt) :
    FnOk P w K mg base CX0 5 f fd ["_law_numbers_here", "_law_place", "_law_count", "_law_told_here"] (spD ⟨P, w, K, cA⟩ phCase) := by
  refine fn_ok F sc_law_case (fun ds q ⟨ns, pl, n, told, h, _⟩ => by rw [h]; rfl) (by decide) (fun cdv A' outer s0 H E ds Qd hr ⟨ns, pl, n, told, e, hN, p0, p1, h0, hn, h3, t0, t1, hT, q⟩ => ?_)
  subst e
  have pl1 : pl < ns.length := by have := hN.1; omega
  refine db_cons (ds_if (dt_cmp (dc_eq (de_mod (de_ix (fun _ _ => rfl) (de_var 0 rfl (de_var 1 rfl (ix_in (.inr rfl) p0 pl1 (de_int ⟨by decide, de_int ⟨_, rfl, _, rfl, ?_⟩⟩)))))))))
  by_cases hm : cel ns pl % 3 = 0
  · rw [if_pos (decide_eq_true hm)]
    refine db_cons (ds_set 4 (de_call F1 (hr.mono (by decide)) (da_cons (de_var 0 rfl (da_cons ?_)))) sc_law_case.nd)
    refine de_add (de_var 1 rfl (de_int ?_))
    refine da_cons (de_var 2 rfl (da_nil ⟨ns, pl + 1, n, rfl, hN, by omega, by omega, h0, hn, fun ps hps hcv => ?_⟩))
    refine db_cut (fun env' => ∃ told' : List Dep, (∀ d ∈ told', ToldN n d) ∧ 0 < told'.length ∧ told'.length ≤ 3 ∧ env' = [.dat (lrowD ns), .dat (.int pl), .dat (.int n), .dat (.lst (told'.map depD)), .dat (depD (.jd ps)), .no, .no, .no, .no]) ?_ ?_
    · refine ds_if (dt_cmp (dc_eq (de_mod (de_fdiv (de_ix (fun _ _ => rfl) (de_var 0 rfl (de_var 1 rfl (hN.at_ p0 (by omega) fun x x0 x1 => de_int ⟨⟨by decide, by decide⟩, de_int ⟨by decide, de_int ⟨_, rfl, _, rfl, ?_⟩⟩⟩))))))))
      split
      · refine db_cons (ds_set 3 ?_ sc_law_case.nd)
        refine de_add (de_lst (da_cons (de_call F2 (hr.mono (by decide)) (da_cons (de_ix (fun _ _ => rfl) (de_var 4 rfl (de_int ⟨_, rfl, da_nil ⟨n, ps, rfl, h0, hn, hps, hcv, fun ps' hps' => ?_⟩⟩)))))))
        refine da_nil ⟨by simp, ?_⟩
        refine de_slFrom (de_var 3 rfl (de_int ⟨1, rfl, .inr ⟨_, rfl, ?_⟩⟩))
        rw [← List.map_drop]
        refine ⟨by simp; omega, ?_⟩
        refine db_nil ⟨.jd ps' :: told.drop 1, fun d hd => ?_, by simp, by simp; omega, rfl⟩
        rcases List.mem_cons.mp hd with e | e
        · rw [e]; exact hps'
        · exact hT d (List.mem_of_mem_drop e)
      · exact db_nil ⟨told, hT, t0, t1, rfl⟩
    · rintro env' ⟨told', hT', t0', t1', rfl⟩
      obtain ⟨f1, f2, f3⟩ := first_rows_ok (t := .jd ps) h0 hps
      refine db_cons (ds_set 5 (de_call F3 (hr.mono (by decide)) (da_cons (de_var 2 rfl (da_cons (de_var 4 rfl (da_nil ⟨n, .jd ps, rfl, h0, hn, hps, ?_⟩)))))) sc_law_case.nd)
      refine db_cons (ds_ret (de_lst (da_cons (de_var 3 rfl (da_cons (de_var 4 rfl (da_cons ?_)))))))
      refine de_call F4 hr (da_cons (de_var 0 rfl (da_cons ?_)))
      refine de_add (de_var 1 rfl (de_int ?_))
      refine da_cons (de_var 2 rfl (da_cons (de_var 3 rfl (da_cons (de_var 5 rfl (da_cons ?_))))))
      refine de_mod (de_fdiv (de_ix (fun _ _ => rfl) (de_var 0 rfl (de_var 1 rfl (hN.at_ p0 (by omega) fun x x0 x1 => de_int ⟨⟨by decide, by decide⟩, de_int ⟨by decide, da_cons (de_bl (da_nil ?_))⟩⟩)))))
      have x1 := Int.emod_nonneg (x / 6) (b := 8) (by decide)
      have x2 := Int.emod_lt_of_pos (x / 6) (b := 8) (by decide)
      refine ⟨ns, pl + 3, n, _, told', firstR n (.jd ps), true, rfl, hN, by omega, x1, by omega, by omega, h0, hn, t0', by omega, hT', f1, by omega, by omega, fun sts rows' hrun hok hl => da_nil ⟨by simp, ?_⟩⟩
      exact q told' (.jd ps) sts rows' ⟨hT', t0', t1', hps, hrun, hok, hl, fun _ => h3 hm, fun h => absurd rfl h⟩
  · rw [if_neg fun h => hm (of_decide_eq_true h)]
    refine db_nil (db_cons (ds_set 6 (de_call F5 (hr.mono (by decide)) (da_cons (de_ix (fun _ _ => rfl) (de_var 0 rfl (de_add (de_var 1 rfl (de_int ?_))))))) sc_law_case.nd))
    refine hN.at_ (k := pl + 1) (by omega) (by omega) fun y y0 y1 => ?_
    refine da_cons (de_var 2 rfl (da_nil ⟨_, n, rfl, h0, hn, fun l hl => ?_⟩))
    have dl : DepN n (.fd l []) := ⟨hl, SetN.nil n⟩
    obtain ⟨f1, f2, f3⟩ := first_rows_ok (t := .fd l []) h0 dl
    refine db_cons (ds_set 5 (de_call F3 (hr.mono (by decide)) (da_cons (de_var 2 rfl (da_cons ?_)))) sc_law_case.nd)
    refine de_tup (da_cons (de_str (da_cons (de_var 6 rfl (da_cons (de_tup (da_nil ⟨by simp, da_nil ⟨by simp, ?_⟩⟩)))))))
    refine da_nil ⟨n, .fd l [], rfl, h0, hn, dl, ?_⟩
    refine db_cons (ds_set 7 (de_call F4 hr (da_cons (de_var 0 rfl (da_cons ?_)))) sc_law_case.nd)
    refine de_add (de_var 1 rfl (de_int ?_))
    refine da_cons (de_var 2 rfl (da_cons (de_var 3 rfl (da_cons (de_var 5 rfl (da_cons ?_))))))
    refine de_mod (de_fdiv (de_ix (fun _ _ => rfl) (de_var 0 rfl (de_var 1 rfl (hN.at_ p0 (by omega) fun x x0 x1 => de_int ⟨⟨by decide, by decide⟩, de_int ⟨by decide, da_cons (de_bl (da_nil ?_))⟩⟩)))))
    have x1 := Int.emod_nonneg (x / 6) (b := 8) (by decide)
    have x2 := Int.emod_lt_of_pos (x / 6) (b := 8) (by decide)
    refine ⟨ns, pl + 3, n, _, told, firstR n (.fd l []), false, rfl, hN, by omega, x1, by omega, by omega, h0, hn, t0, by omega, hT, f1, by omega, by omega, fun sts rows' hrun hok hsl => ?_⟩
    refine db_cons (ds_forL rfl (pg_name (i := 8) sc_law_case.nd rfl (by first | exact Or.inl rfl | exact Or.inr rfl)) (de_var 7 rfl ?_))
    refine ⟨sts.map stD, fun m env' => ∃ (r : List (List Int)) (s8 : Sl), env' = [.dat (lrowD ns), .dat (.int pl), .dat (.int n), .dat (.lst (told.map depD)), .no, .dat (rowsD r), .dat (rowD l), .dat (.lst (sts.map stD)), s8] ∧ RunR n told r (sts.drop m) rows' ∧ RowsN n r ∧ 2 ≤ r.length ∧ r.length ≤ 4 + m, rfl, ⟨firstR n (.fd l []), _, rfl, hrun, f1, f2, f3⟩, ?_, ?_⟩
    · rintro m d env' hd ⟨r, s8, rfl, hrun', g1, g2, g3⟩
      rw [List.getElem?_map] at hd
      obtain ⟨st, hst, rfl⟩ := Option.map_eq_some_iff.mp hd
      obtain ⟨hml, hme⟩ := List.getElem?_eq_some_iff.mp hst
      rw [List.drop_eq_getElem_cons hml, hme] at hrun'
      obtain ⟨r1, a1, a2⟩ := hrun'
      obtain ⟨b1, b2, b3⟩ := a1.rows g1
      refine db_cons (ds_set 5 (de_call F6 (hr.mono (by decide)) (da_cons (de_var 2 rfl (da_cons (de_var 3 rfl (da_cons (de_var 5 rfl (da_cons (de_var 8 rfl (da_nil ?_)))))))))) sc_law_case.nd)
      exact ⟨n, told, r, st, r1, rfl, h0, hn, hT, g1, by omega, a1, db_nil ⟨r1, _, rfl, a2, b1, by omega, by omega⟩⟩
    · rintro env' ⟨r, s8, rfl, hrun', g1, g2, g3⟩
      rw [List.length_map] at hrun' g3
      rw [List.drop_length] at hrun'
      have er : rows' = r := hrun'
      subst er
      refine db_cons (ds_ret (de_lst (da_cons (de_var 3 rfl (da_cons ?_)))))
      refine de_call F7 (hr.mono (by decide)) (da_cons (de_ix (fun _ _ => rfl) (de_var 0 rfl (de_add (de_var 1 rfl (de_int ?_))))))
      refine hN.at_ (k := pl + 2) (by omega) (by omega) fun y y0 y1 => ?_
      refine da_cons (de_var 6 rfl (da_cons (de_var 5 rfl (da_cons (de_var 2 rfl (da_nil ?_))))))
      refine ⟨y, n, l, rows', rfl, h0, hn, g1, g2, by omega, fun t ht => ?_⟩
      obtain ⟨d1, d2, d3⟩ := ht.dep hl
      refine da_cons (de_var 7 rfl (da_nil ⟨by simp, ?_⟩))
      exact q told t sts rows' ⟨hT, t0, t1, d1, by rw [d3]; exact hrun, hok, hsl, fun h => absurd h d2, fun _ => ⟨l, hl, ht⟩⟩
end

end DD
namespace DD
open PySem PySem.Spec PyProof.Rows L2
/-! ### the plain law: rows that are kept, maps of cells -/
def Jn (n : Int) (R ps : List (List Int)) (row : List Int) : Prop := row.length = n.toNat ∧ ∀ p ∈ ps, ∃ y ∈ R, ∀ k ∈ p, cel row k = cel y k
def Kp (n : Int) (R : List (List Int)) : Dep → Prop
  | .fd l r => ∀ x ∈ R, ∀ y ∈ R, agr x y l = true → agr x y r = true
  | .mvd l r => ∀ row, Jn n R (prt n (.mvd l r)) row → row ∈ R
  | .jd ps => ∀ row, Jn n R ps row → row ∈ R
theorem kp_join {n : Int} {R : List (List Int)} {d : Dep} (h : d.cl ≠ .fd) : Kp n R d ↔ ∀ row, Jn n R (prt n d) row → row ∈ R := by
  cases d with
  | fd l r => exact absurd rfl h
  | mvd l r => exact Iff.rfl
  | jd ps => exact Iff.rfl
theorem rowAt_mem {rows : List (List Int)} {i : Int} (h : inR rows i = true) : rowAt rows i ∈ rows := by
  obtain ⟨h0, h1⟩ := inR_iff.mp h
  show rows.getD i.toNat [] ∈ rows
  have hl : i.toNat < rows.length := by omega
  rw [List.getD_eq_getElem?_getD, List.getElem?_eq_getElem hl]
  exact List.getElem_mem hl
theorem mem_rowAt {rows : List (List Int)} {x : List Int} (h : x ∈ rows) : ∃ i, inR rows i = true ∧ rowAt rows i = x := by
  obtain ⟨m, hm, e⟩ := List.getElem_of_mem h
  refine ⟨(m : Int), inR_iff.mpr ⟨by omega, by omega⟩, ?_⟩
  show rows.getD ((m : Int)).toNat [] = x
  rw [show ((m : Int)).toNat = m by omega, List.getD_eq_getElem?_getD, List.getElem?_eq_getElem hm]
  exact e
theorem JoinOk.jn {n : Int} {R ps : List (List Int)} {is row : List Int} (h : JoinOk n R ps is row) : Jn n R ps row := by
  refine ⟨h.rl, fun p hp => ?_⟩
  obtain ⟨m, hm, rfl⟩ := List.getElem_of_mem hp
  have hm2 : m < is.length := by rw [h.ln]; exact hm
  exact ⟨rowAt R is[m], rowAt_mem (h.ir _ (List.getElem_mem hm2)), h.at_ m ps[m] is[m] (List.getElem?_eq_getElem hm) (List.getElem?_eq_getElem hm2)⟩
def hm (n : Int) (h : Int → Int → Int) (y : List Int) : List Int := (rgI n).map fun k => h k (cel y k)
theorem hm_len {n : Int} {h : Int → Int → Int} {y : List Int} : (hm n h y).length = n.toNat := len_rg
theorem hm_cel {n k : Int} {h : Int → Int → Int} {y : List Int} (h0 : 0 ≤ k) (h1 : k < n) : cel (hm n h y) k = h k (cel y k) := cel_map h0 h1
theorem agr_iff {x y s : List Int} : agr x y s = true ↔ ∀ k ∈ s, cel x k = cel y k := by
  unfold agr
  rw [List.all_eq_true]
  exact ⟨fun h k hk => by simpa using h k hk, fun h k hk => by simpa using h k hk⟩
theorem lowR_cel {n k lo hi k' : Int} {z : List Int} (hz : z.length = n.toNat) (h0 : 0 ≤ k) (h1 : k < n) (g0 : 0 ≤ k') : cel (lowR k lo hi z) k' = if k' = k ∧ cel z k = hi then lo else cel z k' := by
  unfold lowR
  by_cases hc : cel z k = hi
  · rw [if_pos hc]
    by_cases e : k' = k
    · subst e
      rw [if_pos ⟨rfl, hc⟩]
      unfold cel
      rw [List.getD_eq_getElem?_getD, List.getElem?_set_self (by omega)]
      rfl
    · rw [if_neg fun z => e z.1]
      unfold cel
      rw [List.getD_eq_getElem?_getD, List.getD_eq_getElem?_getD, List.getElem?_set_ne (by omega)]
  · rw [if_neg hc, if_neg fun z => hc z.2]
/-- the use of a functional dependency is not seen behind h -/
theorem hom_low {n lo hi k : Int} {h : Int → Int → Int} {z : List Int} (hz : z.length = n.toNat) (h0 : 0 ≤ k) (h1 : k < n) (e : h k lo = h k hi) : hm n h (lowR k lo hi z) = hm n h z := by
  refine cel_ext hm_len hm_len fun k' g0 g1 => ?_
  rw [hm_cel g0 g1, hm_cel g0 g1, lowR_cel hz h0 h1 g0]
  by_cases c : k' = k ∧ cel z k = hi
  · rw [if_pos c, c.1, e, c.2]
  · rw [if_neg c]
theorem hom_same {n k : Int} {h : Int → Int → Int} {U R : List (List Int)} {l r x y : List Int} (hl : SetN n l) (hr : SetN n r) (hU : Kp n U (.fd l r)) (hh : ∀ z ∈ R, hm n h z ∈ U) (hx : x ∈ R) (hy : y ∈ R) (ha : agr x y l = true) (hk : k ∈ r) :
    h k (min (cel x k) (cel y k)) = h k (max (cel x k) (cel y k)) := by
  have kk := hr.2 k hk
  have := hU _ (hh x hx) _ (hh y hy) (agr_iff.mpr fun j hj => by
    have jj := hl.2 j hj
    rw [hm_cel jj.1 jj.2, hm_cel jj.1 jj.2, agr_iff.mp ha j hj])
  have := agr_iff.mp this k hk
  rw [hm_cel kk.1 kk.2, hm_cel kk.1 kk.2] at this
  by_cases c : cel x k ≤ cel y k
  · rw [Int.min_eq_left c, Int.max_eq_right c]; exact this
  · rw [Int.min_eq_right (by omega), Int.max_eq_left (by omega)]; exact this.symm
theorem hom_join {n : Int} {h : Int → Int → Int} {U R : List (List Int)} {d : Dep} {row : List Int} (hd : DepN n d) (hc : d.cl ≠ .fd) (hU : Kp n U d) (hh : ∀ z ∈ R, hm n h z ∈ U) (hj : Jn n R (prt n d) row) : hm n h row ∈ U := by
  refine (kp_join hc).mp hU _ ⟨hm_len, fun p hp => ?_⟩
  obtain ⟨y, hy, e⟩ := hj.2 p hp
  refine ⟨hm n h y, hh y hy, fun k hk => ?_⟩
  have kk := (prt_ok hd hc).st p hp |>.2 k hk
  rw [hm_cel kk.1 kk.2, hm_cel kk.1 kk.2, e k hk]
/-- a step of the program -/
theorem hom_step {n : Int} {told : List Dep} {h : Int → Int → Int} {U rows rows' : List (List Int)} {st : Stp} (hD : ∀ d ∈ told, DepN n d) (hR : RowsN n rows) (hK : ∀ d ∈ told, Kp n U d) (hst : StepR n told rows st rows') (hh : ∀ z ∈ rows, hm n h z ∈ U) :
    (∀ z ∈ rows', hm n h z ∈ U) ∧ ∀ (i : Nat) y, rows[i]? = some y → ∃ y', rows'[i]? = some y' ∧ hm n h y' = hm n h y := by
  cases st with
  | same ix i j k =>
    obtain ⟨d, _, gd, e⟩ := hst
    have hd := List.mem_of_getElem? gd
    cases d with
    | fd l r =>
      obtain ⟨⟨hi, hj, hk, ha, hne⟩, rfl⟩ := sameR_some (show sameR rows l r i j k = some rows' from e)
      obtain ⟨dl, dr⟩ : SetN n l ∧ SetN n r := hD _ hd
      have kk := dr.2 k hk
      have eq := hom_same dl dr (hK _ hd) hh (rowAt_mem hi) (rowAt_mem hj) ha hk
      refine ⟨fun z hz => ?_, fun m y hy => ?_⟩
      · obtain ⟨z0, hz0, rfl⟩ := List.mem_map.mp hz
        rw [hom_low (hR z0 hz0) kk.1 kk.2 eq]
        exact hh z0 hz0
      · exact ⟨_, by rw [List.getElem?_map, hy]; rfl, hom_low (hR y (List.mem_of_getElem? hy)) kk.1 kk.2 eq⟩
    | mvd l r => cases e
    | jd ps => cases e
  | join ix is =>
    obtain ⟨d, row, _, gd, hc, jo, rfl⟩ := hst
    have hd := List.mem_of_getElem? gd
    refine ⟨fun z hz => ?_, fun m y hy => ⟨y, ?_, rfl⟩⟩
    · rcases List.mem_append.mp hz with q | q
      · exact hh z q
      · rw [List.mem_singleton.mp q]
        exact hom_join (hD _ hd) hc (hK _ hd) hh jo.jn
    · rw [List.getElem?_append_left (List.getElem?_eq_some_iff.mp hy).1]
      exact hy
theorem hom_run {n : Int} {told : List Dep} {h : Int → Int → Int} {U : List (List Int)} (hD : ∀ d ∈ told, DepN n d) (hK : ∀ d ∈ told, Kp n U d) : ∀ {sts : List Stp} {rows rows' : List (List Int)}, RowsN n rows → RunR n told rows sts rows' → (∀ z ∈ rows, hm n h z ∈ U) →
    (∀ z ∈ rows', hm n h z ∈ U) ∧ ∀ (i : Nat) y, rows[i]? = some y → ∃ y', rows'[i]? = some y' ∧ hm n h y' = hm n h y
  | [], rows, rows', hR, hrun, hh => by
    have e : rows' = rows := hrun
    subst e
    exact ⟨hh, fun i y hy => ⟨y, hy, rfl⟩⟩
  | st :: sts, rows, rows', hR, ⟨r1, a1, a2⟩, hh => by
    obtain ⟨b1, b2⟩ := hom_step hD hR hK a1 hh
    obtain ⟨c1, c2⟩ := hom_run hD hK (a1.rows hR).1 a2 b1
    refine ⟨c1, fun i y hy => ?_⟩
    obtain ⟨y1, e1, e2⟩ := b2 i y hy
    obtain ⟨y2, e3, e4⟩ := c2 i y1 e1
    exact ⟨y2, e3, e4.trans e2⟩
/-! ### the law's chase -/
/-- one use of a dependency by the law -/
inductive OnceR (n : Int) (d : Dep) (R R' : List (List Int)) : Prop
  | keep : Kp n R d → R' = R → OnceR n d R R'
  | low (l r x y : List Int) (k : Int) : d = .fd l r → x ∈ R → y ∈ R → agr x y l = true → k ∈ r → cel x k ≠ cel y k → R'.Nodup → (∀ z, z ∈ R' ↔ ∃ z0 ∈ R, z = lowR k (min (cel x k) (cel y k)) (max (cel x k) (cel y k)) z0) → OnceR n d R R'
  | join : d.cl ≠ .fd → R'.Nodup → R.length < R'.length → (∀ z, z ∈ R' ↔ Jn n R (prt n d) z) → OnceR n d R R'
/-- few values in each column -/
structure Bx (n : Int) (b : Nat) (vals : Int → List Int) : Prop where
  nd : ∀ k, (vals k).Nodup
  few : ∀ k, (vals k).length ≤ b
  bd : ∀ k, ∀ v ∈ vals k, 0 ≤ v ∧ v < 16
  n0 : 0 ≤ n
  n4 : n ≤ 4
  pw : b ^ n.toNat ≤ 64
  pw1 : (b + 1) ^ n.toNat ≤ 1000
  sm : n.toNat * b ≤ 20
def InBx (n : Int) (vals : Int → List Int) (R : List (List Int)) : Prop := ∀ x ∈ R, ∀ k, 0 ≤ k → k < n → cel x k ∈ vals k
structure ClI (n : Int) (told : List Dep) (b : Nat) (vals : Int → List Int) (R0 R : List (List Int)) (g : Int → Int → Int) : Prop where
  nd : R.Nodup
  rn : RowsN n R
  bx : InBx n vals R
  g0 : ∀ k, g k 0 = 0
  gin : ∀ y ∈ R0, hm n g y ∈ R
  cl : ∀ x ∈ R, ∀ k, 0 ≤ k → k < n → ∃ y ∈ R0, cel x k = g k (cel y k)
  uni : ∀ U, RowsN n U → (∀ d ∈ told, Kp n U d) → ∀ h, (∀ y ∈ R0, hm n h y ∈ U) → (∀ x ∈ R, hm n h x ∈ U) ∧ ∀ y ∈ R0, ∀ k, 0 ≤ k → k < n → h k (g k (cel y k)) = h k (cel y k)
theorem hm_id {n : Int} {y : List Int} (h : y.length = n.toNat) : hm n (fun _ v => v) y = y := cel_ext hm_len h fun k h0 h1 => hm_cel h0 h1
theorem jn_self {n : Int} {R ps : List (List Int)} (hR : RowsN n R) {x : List Int} (hx : x ∈ R) : Jn n R ps x := ⟨hR x hx, fun p _ => ⟨x, hx, fun _ _ => rfl⟩⟩
theorem ClI.start {n : Int} {told : List Dep} {b : Nat} {vals : Int → List Int} {R0 R : List (List Int)} (hR : RowsN n R0) (hb : InBx n vals R0) (nd : R.Nodup) (hm_ : ∀ x, x ∈ R ↔ x ∈ R0) : ClI n told b vals R0 R fun _ v => v where
  nd := nd
  rn := fun x hx => hR x ((hm_ x).mp hx)
  bx := fun x hx => hb x ((hm_ x).mp hx)
  g0 := fun _ => rfl
  gin := fun y hy => by rw [hm_id (hR y hy)]; exact (hm_ y).mpr hy
  cl := fun x hx k _ _ => ⟨x, (hm_ x).mp hx, rfl⟩
  uni := fun U _ _ h hh => ⟨fun x hx => hh x ((hm_ x).mp hx), fun _ _ _ _ _ => rfl⟩
theorem ClI.once {n : Int} {told : List Dep} {b : Nat} {vals : Int → List Int} {R0 R R' : List (List Int)} {g : Int → Int → Int} {d : Dep} (B : Bx n b vals) (C : ClI n told b vals R0 R g) (hd : d ∈ told) (hD : DepN n d) (o : OnceR n d R R') : ∃ g', ClI n told b vals R0 R' g' := by
  cases o with
  | keep _ e => subst e; exact ⟨g, C⟩
  | low l r x y k e hx hy ha hk hne hnd hmem =>
    subst e
    have kk := hD.2.2 k hk
    have bx0 := (B.bd k _ (C.bx x hx k kk.1 kk.2)).1
    have by0 := (B.bd k _ (C.bx y hy k kk.1 kk.2)).1
    have hlo : min (cel x k) (cel y k) ∈ vals k := by
      by_cases c : cel x k ≤ cel y k
      · rw [Int.min_eq_left c]; exact C.bx x hx k kk.1 kk.2
      · rw [Int.min_eq_right (by omega)]; exact C.bx y hy k kk.1 kk.2
    have hhi : 0 < max (cel x k) (cel y k) := by omega
    have huni : ∀ U, RowsN n U → (∀ d ∈ told, Kp n U d) → ∀ h, (∀ y ∈ R0, hm n h y ∈ U) → h k (min (cel x k) (cel y k)) = h k (max (cel x k) (cel y k)) := fun U hU hK h hh => hom_same hD.1 hD.2 (hK _ hd) (C.uni U hU hK h hh).1 hx hy ha hk
    generalize min (cel x k) (cel y k) = lo at *
    generalize max (cel x k) (cel y k) = hi at *
    refine ⟨fun k' v => if k' = k ∧ g k v = hi then lo else g k' v, hnd, fun z hz => ?_, fun z hz k' g0 g1 => ?_, fun k' => ?_, fun y0 hy0 => ?_, fun z hz k' g0 g1 => ?_, fun U hU hK h hh => ?_⟩
    · obtain ⟨z0, hz0, rfl⟩ := (hmem z).mp hz
      rw [lowR_len]
      exact C.rn z0 hz0
    · obtain ⟨z0, hz0, rfl⟩ := (hmem z).mp hz
      rw [lowR_cel (C.rn z0 hz0) kk.1 kk.2 g0]
      by_cases c : k' = k ∧ cel z0 k = hi
      · rw [if_pos c, c.1]; exact hlo
      · rw [if_neg c]; exact C.bx z0 hz0 k' g0 g1
    · rw [if_neg, C.g0]
      rintro ⟨_, c⟩
      rw [C.g0] at c
      omega
    · refine (hmem _).mpr ⟨_, C.gin y0 hy0, ?_⟩
      refine cel_ext hm_len (by rw [lowR_len]; exact hm_len) fun k' g0 g1 => ?_
      rw [lowR_cel hm_len kk.1 kk.2 g0, hm_cel g0 g1, hm_cel g0 g1, hm_cel kk.1 kk.2]
      by_cases c : k' = k
      · subst c; rfl
      · rw [if_neg fun z => c z.1, if_neg fun z => c z.1]
    · obtain ⟨z0, hz0, rfl⟩ := (hmem z).mp hz
      obtain ⟨y0, hy0, e⟩ := C.cl z0 hz0 k' g0 g1
      refine ⟨y0, hy0, ?_⟩
      rw [lowR_cel (C.rn z0 hz0) kk.1 kk.2 g0]
      by_cases c : k' = k
      · subst c
        rw [e]
      · rw [if_neg fun z => c z.1, if_neg fun z => c z.1, e]
    · have eq := huni U hU hK h hh
      obtain ⟨u1, u2⟩ := C.uni U hU hK h hh
      refine ⟨fun z hz => ?_, fun y0 hy0 k' g0 g1 => ?_⟩
      · obtain ⟨z0, hz0, rfl⟩ := (hmem z).mp hz
        rw [hom_low (C.rn z0 hz0) kk.1 kk.2 eq]
        exact u1 z0 hz0
      · by_cases c : k' = k ∧ g k (cel y0 k') = hi
        · show h k' (if k' = k ∧ g k (cel y0 k') = hi then lo else g k' (cel y0 k')) = _
          rw [if_pos c, ← u2 y0 hy0 k' g0 g1]
          obtain ⟨c1, c2⟩ := c
          subst c1
          rw [c2, eq]
        · show h k' (if k' = k ∧ g k (cel y0 k') = hi then lo else g k' (cel y0 k')) = _
          rw [if_neg c]
          exact u2 y0 hy0 k' g0 g1
  | join hc hnd hlt hmem =>
    have po := prt_ok hD hc
    have cell : ∀ z, Jn n R (prt n d) z → ∀ k, 0 ≤ k → k < n → ∃ x ∈ R, cel z k = cel x k := fun z hz k g0 g1 => by
      obtain ⟨p, hp, hk⟩ := po.cov k g0 g1
      obtain ⟨x, hx, e⟩ := hz.2 p hp
      exact ⟨x, hx, e k hk⟩
    refine ⟨g, hnd, fun z hz => ((hmem z).mp hz).1, fun z hz k g0 g1 => ?_, C.g0, fun y hy => (hmem _).mpr (jn_self C.rn (C.gin y hy)), fun z hz k g0 g1 => ?_, fun U hU hK h hh => ⟨fun z hz => hom_join hD hc (hK d hd) (C.uni U hU hK h hh).1 ((hmem z).mp hz), (C.uni U hU hK h hh).2⟩⟩
    · obtain ⟨x, hx, e⟩ := cell z ((hmem z).mp hz) k g0 g1
      rw [e]
      exact C.bx x hx k g0 g1
    · obtain ⟨x, hx, e⟩ := cell z ((hmem z).mp hz) k g0 g1
      obtain ⟨y, hy, e2⟩ := C.cl x hx k g0 g1
      exact ⟨y, hy, e.trans e2⟩

end DD
namespace DD
open PySem PySem.Spec PyProof.Rows L2
/-! ### how many rows there are, the measure -/
theorem nd_len {α : Type} [DecidableEq α] : ∀ {xs ys : List α}, xs.Nodup → (∀ x ∈ xs, x ∈ ys) → xs.length ≤ ys.length
  | [], ys, _, _ => Nat.zero_le _
  | x :: xs, ys, h, hs => by
    obtain ⟨h1, h2⟩ := List.nodup_cons.mp h
    have hx := hs x List.mem_cons_self
    have := nd_len (ys := ys.erase x) h2 fun z hz => (List.mem_erase_of_ne fun e => h1 (by rw [← e]; exact hz)).mpr (hs z (List.mem_cons_of_mem _ hz))
    rw [List.length_erase_of_mem hx] at this
    have pos : 0 < ys.length := List.length_pos_of_mem hx
    simp only [List.length_cons]
    omega
theorem nd_back {α : Type} [DecidableEq α] {xs ys : List α} (h : xs.Nodup) (hs : ∀ x ∈ xs, x ∈ ys) (hl : ys.length ≤ xs.length) : ∀ y ∈ ys, y ∈ xs := fun y hy => by
  by_cases c : y ∈ xs
  · exact c
  · have := nd_len (xs := y :: xs) (ys := ys) (List.nodup_cons.mpr ⟨c, h⟩) fun z hz => (List.mem_cons.mp hz).elim (fun e => by rw [e]; exact hy) (hs z)
    simp only [List.length_cons] at this
    omega
def prodL {α : Type} : Nat → (Nat → List α) → List (List α)
  | 0, _ => [[]]
  | m + 1, vs => (vs 0).flatMap fun a => (prodL m fun j => vs (j + 1)).map (a :: ·)
theorem prodL_len {α : Type} {b : Nat} : ∀ (m : Nat) (vs : Nat → List α), (∀ j, (vs j).length ≤ b) → (prodL m vs).length ≤ b ^ m
  | 0, _, _ => Nat.le_refl _
  | m + 1, vs, h => by
    have ih := prodL_len m (fun j => vs (j + 1)) fun j => h (j + 1)
    have gen : ∀ l : List α, (l.flatMap fun a => (prodL m fun j => vs (j + 1)).map (a :: ·)).length = l.length * (prodL m fun j => vs (j + 1)).length := fun l => by
      induction l with
      | nil => simp
      | cons a l ihl => rw [List.flatMap_cons, List.length_append, List.length_map, ihl, List.length_cons, Nat.succ_mul, Nat.add_comm]
    show (((vs 0).flatMap fun a => (prodL m fun j => vs (j + 1)).map (a :: ·))).length ≤ _
    rw [gen, Nat.pow_succ, Nat.mul_comm]
    exact Nat.mul_le_mul ih (h 0)
theorem prodL_mem {α : Type} : ∀ (m : Nat) (vs : Nat → List α) (x : List α), x.length = m → (∀ (j : Nat) a, x[j]? = some a → a ∈ vs j) → x ∈ prodL m vs
  | 0, _, x, h, _ => by rw [List.length_eq_zero_iff.mp h]; exact List.mem_singleton.mpr rfl
  | m + 1, vs, [], h, _ => by simp at h
  | m + 1, vs, a :: x, h, hv => by
    refine List.mem_flatMap.mpr ⟨a, hv 0 a rfl, List.mem_map.mpr ⟨x, prodL_mem m _ x (by simpa using h) fun j c hj => hv (j + 1) c (by simpa using hj), rfl⟩⟩
theorem box_len {α : Type} [DecidableEq α] {b m : Nat} {vs : Nat → List α} {xs : List (List α)} (hb : ∀ j, (vs j).length ≤ b) (nd : xs.Nodup) (h : ∀ x ∈ xs, x.length = m ∧ ∀ (j : Nat) a, x[j]? = some a → a ∈ vs j) : xs.length ≤ b ^ m :=
  Nat.le_trans (nd_len nd fun x hx => prodL_mem m vs x (h x hx).1 (h x hx).2) (prodL_len m vs hb)
theorem bx_len {n : Int} {b : Nat} {vals : Int → List Int} {R : List (List Int)} (B : Bx n b vals) (nd : R.Nodup) (hR : RowsN n R) (hb : InBx n vals R) : R.length ≤ 64 := by
  refine Nat.le_trans (box_len (vs := fun j => vals (j : Int)) (fun j => B.few _) nd fun x hx => ⟨hR x hx, fun j a hj => ?_⟩) B.pw
  have hl := (List.getElem?_eq_some_iff.mp hj).1
  have := hb x hx (j : Int) (by omega) (by have := hR x hx; omega)
  unfold cel at this
  rw [show ((j : Int)).toNat = j by omega, List.getD_eq_getElem?_getD, hj] at this
  exact this
def cnt (vals : Int → List Int) (R : List (List Int)) (k : Int) : Nat := ((vals k).filter fun v => R.any fun x => decide (cel x k = v)).length
def ms (n : Int) (vals : Int → List Int) (R : List (List Int)) : Nat := ((rgI n).map (cnt vals R)).sum * 65 + (64 - R.length)
theorem filter_le {α : Type} {f g : α → Bool} (h : ∀ x, f x = true → g x = true) : ∀ l : List α, (l.filter f).length ≤ (l.filter g).length
  | [] => Nat.le_refl _
  | x :: l => by
    have ih := filter_le h l
    rw [List.filter_cons, List.filter_cons]
    by_cases c : f x = true
    · rw [if_pos c, if_pos (h x c)]
      simp only [List.length_cons]
      omega
    · rw [if_neg c]
      split
      · simp only [List.length_cons]; omega
      · exact ih
theorem filter_lt {α : Type} {f g : α → Bool} (h : ∀ x, f x = true → g x = true) : ∀ {l : List α} {a : α}, a ∈ l → f a = false → g a = true → (l.filter f).length < (l.filter g).length
  | [], _, h, _, _ => by cases h
  | x :: l, a, hm, h1, h2 => by
    have le := filter_le h l
    rw [List.filter_cons, List.filter_cons]
    rcases List.mem_cons.mp hm with e | hm
    · subst e
      rw [if_neg (by rw [h1]; decide), if_pos h2]
      simp only [List.length_cons]
      omega
    · have ih := filter_lt h hm h1 h2
      by_cases c : f x = true
      · rw [if_pos c, if_pos (h x c)]
        simp only [List.length_cons]
        omega
      · rw [if_neg c]
        split
        · simp only [List.length_cons]; omega
        · exact ih
theorem sum_le {f g : Int → Nat} : ∀ {l : List Int}, (∀ k ∈ l, f k ≤ g k) → (l.map f).sum ≤ (l.map g).sum
  | [], _ => Nat.le_refl _
  | x :: l, h => by
    have ih := sum_le (l := l) fun k hk => h k (List.mem_cons_of_mem _ hk)
    have := h x List.mem_cons_self
    simp only [List.map_cons, List.sum_cons]
    omega
theorem sum_lt {f g : Int → Nat} : ∀ {l : List Int} {a : Int}, (∀ k ∈ l, f k ≤ g k) → a ∈ l → f a < g a → (l.map f).sum < (l.map g).sum
  | [], _, _, h, _ => by cases h
  | x :: l, a, h, hm, hlt => by
    have le := sum_le (f := f) (g := g) (l := l) fun k hk => h k (List.mem_cons_of_mem _ hk)
    have h0 := h x List.mem_cons_self
    simp only [List.map_cons, List.sum_cons]
    rcases List.mem_cons.mp hm with e | hm
    · subst e; omega
    · have ih := sum_lt (fun k hk => h k (List.mem_cons_of_mem _ hk)) hm hlt
      omega
theorem any_cel {R : List (List Int)} {k v : Int} : (R.any fun x => decide (cel x k = v)) = true ↔ ∃ x ∈ R, cel x k = v := by
  rw [List.any_eq_true]
  exact ⟨fun ⟨x, hx, h⟩ => ⟨x, hx, by simpa using h⟩, fun ⟨x, hx, h⟩ => ⟨x, hx, by simpa using h⟩⟩
theorem cnt_le {vals : Int → List Int} {R R' : List (List Int)} {k : Int} (h : ∀ x ∈ R', ∃ y ∈ R, cel x k = cel y k) : cnt vals R' k ≤ cnt vals R k := by
  refine filter_le (fun v hv => ?_) _
  obtain ⟨x, hx, e⟩ := any_cel.mp hv
  obtain ⟨y, hy, e2⟩ := h x hx
  exact any_cel.mpr ⟨y, hy, e2.symm.trans e⟩
theorem ms_once {n : Int} {told : List Dep} {b : Nat} {vals : Int → List Int} {R0 R R' : List (List Int)} {g : Int → Int → Int} {d : Dep} (B : Bx n b vals) (C : ClI n told b vals R0 R g) (hd : d ∈ told) (hD : DepN n d) (o : OnceR n d R R') : (R' = R ∧ Kp n R d) ∨ ms n vals R' < ms n vals R := by
  obtain ⟨g', C'⟩ := C.once B hd hD o
  have l1 := bx_len B C.nd C.rn C.bx
  have l2 := bx_len B C'.nd C'.rn C'.bx
  cases o with
  | keep hk e => exact .inl ⟨e, hk⟩
  | low l r x y k e hx hy ha hk hne hnd hmem =>
    right
    subst e
    have kk := hD.2.2 k hk
    have hmn : min (cel x k) (cel y k) < max (cel x k) (cel y k) := by omega
    have xlo : ∃ w ∈ R, cel w k = min (cel x k) (cel y k) := by
      by_cases c : cel x k ≤ cel y k
      · exact ⟨x, hx, by rw [Int.min_eq_left c]⟩
      · exact ⟨y, hy, by rw [Int.min_eq_right (by omega)]⟩
    have xhi : ∃ w ∈ R, cel w k = max (cel x k) (cel y k) := by
      by_cases c : cel x k ≤ cel y k
      · exact ⟨y, hy, by rw [Int.max_eq_right c]⟩
      · exact ⟨x, hx, by rw [Int.max_eq_left (by omega)]⟩
    generalize min (cel x k) (cel y k) = lo at *
    generalize max (cel x k) (cel y k) = hi at *
    have sub : ∀ k', 0 ≤ k' → k' < n → ∀ z ∈ R', ∃ w ∈ R, cel z k' = cel w k' := fun k' g0 g1 z hz => by
      obtain ⟨z0, hz0, rfl⟩ := (hmem z).mp hz
      rw [lowR_cel (C.rn z0 hz0) kk.1 kk.2 g0]
      by_cases c : k' = k ∧ cel z0 k = hi
      · rw [if_pos c]
        obtain ⟨w, hw, e⟩ := xlo
        exact ⟨w, hw, by rw [c.1, e]⟩
      · rw [if_neg c]; exact ⟨z0, hz0, rfl⟩
    have lt : ((rgI n).map (cnt vals R')).sum < ((rgI n).map (cnt vals R)).sum := by
      refine sum_lt (a := k) (fun k' hk' => cnt_le (sub k' (rgI_mem.mp hk').1 (rgI_mem.mp hk').2)) (rgI_mem.mpr kk) ?_
      obtain ⟨w, hw, e⟩ := xhi
      refine filter_lt (a := hi) (fun v hv => ?_) (by rw [← e]; exact C.bx w hw k kk.1 kk.2) ?_ (any_cel.mpr ⟨w, hw, e⟩)
      · obtain ⟨x2, hx2, e⟩ := any_cel.mp hv
        obtain ⟨y2, hy2, e2⟩ := sub k kk.1 kk.2 x2 hx2
        exact any_cel.mpr ⟨y2, hy2, e2.symm.trans e⟩
      · rw [Bool.eq_false_iff]
        intro hh
        obtain ⟨z, hz, e⟩ := any_cel.mp hh
        obtain ⟨z0, hz0, rfl⟩ := (hmem z).mp hz
        rw [lowR_cel (C.rn z0 hz0) kk.1 kk.2 kk.1] at e
        by_cases c : cel z0 k = hi
        · rw [if_pos ⟨rfl, c⟩] at e; omega
        · rw [if_neg fun z => c z.2] at e; exact c e
    unfold ms
    omega
  | join hc hnd hlt hmem =>
    right
    have po := prt_ok hD hc
    have le : ((rgI n).map (cnt vals R')).sum ≤ ((rgI n).map (cnt vals R)).sum := sum_le fun k hk => cnt_le fun z hz => by
      obtain ⟨p, hp, hk2⟩ := po.cov k (rgI_mem.mp hk).1 (rgI_mem.mp hk).2
      obtain ⟨x, hx, e⟩ := ((hmem z).mp hz).2 p hp
      exact ⟨x, hx, e k hk2⟩
    unfold ms
    omega
theorem ms_bound {n : Int} {b : Nat} {vals : Int → List Int} {R : List (List Int)} (B : Bx n b vals) : ms n vals R < 2000 := by
  have h : ((rgI n).map (cnt vals R)).sum ≤ n.toNat * b := by
    have gen : ∀ l : List Int, (l.map (cnt vals R)).sum ≤ l.length * b := fun l => by
      induction l with
      | nil => simp
      | cons x l ih =>
        have : cnt vals R x ≤ b := Nat.le_trans (List.length_filter_le _ _) (B.few x)
        rw [List.map_cons, List.sum_cons, List.length_cons, Nat.succ_mul]
        omega
    have := gen (rgI n)
    rw [rgI_len] at this
    exact this
  have := B.sm
  unfold ms
  omega

end DD
namespace DD
open PySem PySem.Spec PyProof.Rows L2
/-! ### due, follows -/
structure ClsR (n : Int) (told : List Dep) (R0 : List (List Int)) (z : Bool) (R : List (List Int)) : Prop where
  g : ∃ b vals g, Bx n b vals ∧ ClI n told b vals R0 R g
  fx : (∀ d ∈ told, Kp n R d) ∨ (z = true ∧ zeroR n ∈ R)
def Fol (n : Int) (told : List Dep) (t : Dep) : Prop := ∀ U, RowsN n U → (∀ d ∈ told, Kp n U d) → Kp n U t
def Due (n : Int) (R : List (List Int)) : Dep → Prop
  | .jd _ => zeroR n ∈ R
  | .fd l r => Kp n R (.fd l r)
  | .mvd l r => Kp n R (.mvd l r)
theorem due_kp {n : Int} {R : List (List Int)} {t : Dep} (h : t.cl ≠ .jd) : Due n R t ↔ Kp n R t := by
  cases t with
  | fd l r => exact Iff.rfl
  | mvd l r => exact Iff.rfl
  | jd ps => exact absurd rfl h
theorem zero_cel {n k : Int} (h0 : 0 ≤ k) (h1 : k < n) : cel (zeroR n) k = 0 := by
  rw [← map_zero, cel_map h0 h1]
theorem mark_cel {n k : Int} {l : List Int} (h0 : 0 ≤ k) (h1 : k < n) : cel (markR n l) k = if k ∈ l then 0 else 1 := cel_map h0 h1
theorem rowJ_cel {n k : Int} {i : Nat} {p : List Int} (h0 : 0 ≤ k) (h1 : k < n) : cel (rowJ n i p) k = ((i : Int) + 1) * (if k ∈ p then 0 else 1) := cel_map h0 h1
theorem zero_len {n : Int} : (zeroR n).length = n.toNat := List.length_replicate
def hxy (x y : List Int) : Int → Int → Int := fun k v => if v = 0 then cel x k else cel y k
theorem hxy_zero {n : Int} {x y : List Int} (hx : x.length = n.toNat) : hm n (hxy x y) (zeroR n) = x := cel_ext hm_len hx fun k h0 h1 => by
  rw [hm_cel h0 h1, zero_cel h0 h1]
  exact if_pos rfl
theorem hxy_mark {n : Int} {x y l : List Int} (hy : y.length = n.toNat) (ha : ∀ k ∈ l, cel x k = cel y k) : hm n (hxy x y) (markR n l) = y := cel_ext hm_len hy fun k h0 h1 => by
  rw [hm_cel h0 h1, mark_cel h0 h1]
  unfold hxy
  by_cases c : k ∈ l
  · rw [if_pos c, if_pos rfl]; exact ha k c
  · rw [if_neg c, if_neg (by decide)]
theorem mvd_parts {n : Int} {U : List (List Int)} {l r row : List Int} (h : Jn n U (prt n (.mvd l r)) row) : ∃ x ∈ U, ∃ y ∈ U, (∀ k, k ∈ l ∨ k ∈ r → cel row k = cel x k) ∧ ∀ k, k ∈ l ∨ (0 ≤ k ∧ k < n ∧ k ∉ r) → cel row k = cel y k := by
  obtain ⟨x, hx, e1⟩ := h.2 _ List.mem_cons_self
  obtain ⟨y, hy, e2⟩ := h.2 _ (List.mem_cons_of_mem _ List.mem_cons_self)
  refine ⟨x, hx, y, hy, fun k hk => e1 k (un_mem.mpr hk), fun k hk => e2 k (un_mem.mpr (hk.imp_right fun q => List.mem_filter.mpr ⟨rgI_mem.mpr ⟨q.1, q.2.1⟩, by simp [q.2.2]⟩))⟩
theorem parts_mvd {n : Int} {U : List (List Int)} {l r row x y : List Int} (hl : row.length = n.toNat) (hx : x ∈ U) (hy : y ∈ U) (e1 : ∀ k, k ∈ l ∨ k ∈ r → cel row k = cel x k) (e2 : ∀ k, k ∈ l ∨ (0 ≤ k ∧ k < n ∧ k ∉ r) → cel row k = cel y k) : Jn n U (prt n (.mvd l r)) row := by
  refine ⟨hl, fun p hp => ?_⟩
  have hp' : p = sdI (l ++ r) ∨ p = sdI (l ++ (rgI n).filter fun k => decide (k ∉ r)) := by
    rcases List.mem_cons.mp hp with e | e
    · exact .inl e
    · exact .inr (List.mem_singleton.mp e)
  rcases hp' with e | e
  · subst e
    exact ⟨x, hx, fun k hk => e1 k (un_mem.mp hk)⟩
  · subst e
    refine ⟨y, hy, fun k hk => e2 k ((un_mem.mp hk).imp_right fun q => ?_)⟩
    obtain ⟨q1, q2⟩ := List.mem_filter.mp q
    have := rgI_mem.mp q1
    exact ⟨this.1, this.2, by simpa using q2⟩
/-- the rows of a join, the first rows sent to them -/
theorem jd_hom {n : Int} {U ps : List (List Int)} {row : List Int} (hU : RowsN n U) (hj : Jn n U ps row) : ∃ h : Int → Int → Int, (∀ k, h k 0 = cel row k) ∧ ∀ y ∈ firstR n (.jd ps), hm n h y ∈ U := by
  have ch : ∀ i : Nat, ∃ y, ∀ p, ps[i]? = some p → y ∈ U ∧ ∀ k ∈ p, cel row k = cel y k := fun i => by
    cases hp : ps[i]? with
    | none => exact ⟨[], fun p h => by cases h⟩
    | some p =>
      obtain ⟨y, hy, e⟩ := hj.2 p (List.mem_of_getElem? hp)
      exact ⟨y, fun p' h => by cases h; exact ⟨hy, e⟩⟩
  obtain ⟨us, hus⟩ := Classical.skolem.mp ch
  refine ⟨fun k v => if v = 0 then cel row k else cel (us (v - 1).toNat) k, fun k => if_pos rfl, fun y hy => ?_⟩
  obtain ⟨i, hi, rfl⟩ := List.mem_map.mp hy
  have hil := List.mem_range.mp hi
  have gp : ps[i]? = some ps[i] := List.getElem?_eq_getElem hil
  have gd : ps.getD i [] = ps[i] := by rw [List.getD_eq_getElem?_getD, gp]; rfl
  obtain ⟨u1, u2⟩ := hus i _ gp
  have : hm n (fun k v => if v = 0 then cel row k else cel (us (v - 1).toNat) k) (rowJ n i (ps.getD i [])) = us i := cel_ext hm_len (hU _ u1) fun k h0 h1 => by
    rw [hm_cel h0 h1, rowJ_cel h0 h1, gd]
    by_cases c : k ∈ ps[i]
    · rw [if_pos c]
      show (if ((i : Int) + 1) * 0 = 0 then _ else _) = _
      rw [if_pos (by omega)]
      exact u2 k c
    · rw [if_neg c]
      show (if ((i : Int) + 1) * 1 = 0 then _ else _) = _
      rw [if_neg (by omega), show (((i : Int) + 1) * 1 - 1).toNat = i by omega]
  rw [this]
  exact u1
theorem ff (l r : List Int) (n : Int) : firstR n (.fd l r) = [zeroR n, markR n l] := rfl
theorem two_hom {n : Int} {U : List (List Int)} {x y l : List Int} (hU : RowsN n U) (hx : x ∈ U) (hy : y ∈ U) (ha : ∀ k ∈ l, cel x k = cel y k) : ∀ z ∈ [zeroR n, markR n l], hm n (hxy x y) z ∈ U := fun z hz => by
  have hz' : z = zeroR n ∨ z = markR n l := by
    rcases List.mem_cons.mp hz with e | e
    · exact .inl e
    · exact .inr (List.mem_singleton.mp e)
  rcases hz' with e | e
  · rw [e, hxy_zero (hU x hx)]; exact hx
  · rw [e, hxy_mark (hU y hy) ha]; exact hy
/-- what is due follows -/
theorem due_fol {n : Int} {told : List Dep} {t : Dep} {z : Bool} {R : List (List Int)} (ht : DepN n t) (C : ClsR n told (firstR n t) z R) (hd : Due n R t) : Fol n told t := by
  obtain ⟨b, vals, g, B, C'⟩ := C.g
  intro U hU hK
  cases t with
  | jd ps =>
    intro row hj
    obtain ⟨h, h0, hh⟩ := jd_hom hU hj
    have := (C'.uni U hU hK h hh).1 _ hd
    have e : hm n h (zeroR n) = row := cel_ext hm_len hj.1 fun k g0 g1 => by rw [hm_cel g0 g1, zero_cel g0 g1, h0]
    rw [e] at this
    exact this
  | fd l r =>
    intro x hx y hy ha
    have ha' := agr_iff.mp ha
    obtain ⟨u1, u2⟩ := C'.uni U hU hK (hxy x y) (two_hom hU hx hy ha')
    have z0 : zeroR n ∈ firstR n (.fd l r) := List.mem_cons_self
    have m0 : markR n l ∈ firstR n (.fd l r) := List.mem_cons_of_mem _ List.mem_cons_self
    have hr := hd _ (C'.gin _ z0) _ (C'.gin _ m0) (agr_iff.mpr fun k hk => by
      have kk := ht.1.2 k hk
      rw [hm_cel kk.1 kk.2, hm_cel kk.1 kk.2, zero_cel kk.1 kk.2, mark_cel kk.1 kk.2, if_pos hk])
    refine agr_iff.mpr fun k hk => ?_
    have kk := ht.2.2 k hk
    have e := agr_iff.mp hr k hk
    rw [hm_cel kk.1 kk.2, hm_cel kk.1 kk.2] at e
    have e1 := u2 _ z0 k kk.1 kk.2
    have e2 := u2 _ m0 k kk.1 kk.2
    rw [e, e2] at e1
    have f1 : hxy x y k (cel (zeroR n) k) = cel x k := by rw [← hm_cel (n := n) (h := hxy x y) (y := zeroR n) kk.1 kk.2, hxy_zero (hU x hx)]
    have f2 : hxy x y k (cel (markR n l) k) = cel y k := by rw [← hm_cel (n := n) (h := hxy x y) (y := markR n l) kk.1 kk.2, hxy_mark (hU y hy) ha']
    rw [f1, f2] at e1
    exact e1.symm
  | mvd l r =>
    intro row hj
    obtain ⟨x, hx, y, hy, e1, e2⟩ := mvd_parts hj
    have ha' : ∀ k ∈ l, cel x k = cel y k := fun k hk => (e1 k (.inl hk)).symm.trans (e2 k (.inl hk))
    obtain ⟨u1, u2⟩ := C'.uni U hU hK (hxy x y) (two_hom hU hx hy ha')
    have z0 : zeroR n ∈ firstR n (.mvd l r) := List.mem_cons_self
    have m0 : markR n l ∈ firstR n (.mvd l r) := List.mem_cons_of_mem _ List.mem_cons_self
    have hM := hd ((rgI n).map fun k => if k ∈ l ∨ k ∈ r then g k 0 else g k 1) (parts_mvd len_rg (C'.gin _ z0) (C'.gin _ m0) (fun k hk => by
      have kk := hk.elim (ht.1.2 k) (ht.2.2 k)
      rw [cel_map kk.1 kk.2, hm_cel kk.1 kk.2, zero_cel kk.1 kk.2, if_pos hk]) (fun k hk => by
      have kk : 0 ≤ k ∧ k < n := hk.elim (ht.1.2 k) fun q => ⟨q.1, q.2.1⟩
      rw [cel_map kk.1 kk.2, hm_cel kk.1 kk.2, mark_cel kk.1 kk.2]
      by_cases c : k ∈ l
      · rw [if_pos (.inl c), if_pos c]
      · have c2 : k ∉ r := (hk.resolve_left c).2.2
        rw [if_neg fun q => q.elim c c2, if_neg c]))
    have := u1 _ hM
    have e : hm n (hxy x y) ((rgI n).map fun k => if k ∈ l ∨ k ∈ r then g k 0 else g k 1) = row := cel_ext hm_len hj.1 fun k g0 g1 => by
      rw [hm_cel g0 g1, cel_map g0 g1]
      by_cases c : k ∈ l ∨ k ∈ r
      · have q := u2 _ z0 k g0 g1
        rw [zero_cel g0 g1] at q
        rw [if_pos c, q, e1 k c]
        exact if_pos rfl
      · have cl : k ∉ l := fun z => c (.inl z)
        have q := u2 _ m0 k g0 g1
        rw [mark_cel g0 g1, if_neg cl] at q
        rw [if_neg c, q, e2 k (.inr ⟨g0, g1, fun z => c (.inr z)⟩)]
        exact if_neg (by decide)
    rw [e] at this
    exact this
/-- what is chased follows -/
theorem run_fol {n : Int} {told : List Dep} {t : Dep} {sts : List Stp} {rows' : List (List Int)} (h0 : 0 ≤ n) (hD : ∀ d ∈ told, DepN n d) (ht : DepN n t) (hrun : RunR n told (firstR n t) sts rows') (hr : reachB n rows' t = true) : Fol n told t := by
  intro U hU hK
  have hF := (first_rows_ok h0 ht).1
  have hR' := (hrun.rows hF).1
  have two : ∀ {l x y : List Int}, firstR n t = [zeroR n, markR n l] → x ∈ U → y ∈ U → (∀ k ∈ l, cel x k = cel y k) → (∀ z ∈ rows', hm n (hxy x y) z ∈ U) ∧ hm n (hxy x y) (rows'.getD 0 []) = x ∧ hm n (hxy x y) (rows'.getD 1 []) = y := fun {l x y} hf hx hy ha => by
    rw [hf] at hF hrun
    obtain ⟨a1, a2⟩ := hom_run hD hK hF hrun (two_hom hU hx hy ha)
    obtain ⟨y0, b1, b2⟩ := a2 0 _ rfl
    obtain ⟨y1, c1, c2⟩ := a2 1 _ rfl
    refine ⟨a1, ?_, ?_⟩
    · rw [List.getD_eq_getElem?_getD, b1]
      exact b2.trans (hxy_zero (hU x hx))
    · rw [List.getD_eq_getElem?_getD, c1]
      exact c2.trans (hxy_mark (hU y hy) ha)
  cases t with
  | jd ps =>
    intro row hj
    obtain ⟨h, e0, hh⟩ := jd_hom hU hj
    have hz : zeroR n ∈ rows' := of_decide_eq_true hr
    have := (hom_run hD hK hF hrun hh).1 _ hz
    have e : hm n h (zeroR n) = row := cel_ext hm_len hj.1 fun k g0 g1 => by rw [hm_cel g0 g1, zero_cel g0 g1, e0]
    rw [e] at this
    exact this
  | fd l r =>
    intro x hx y hy ha
    obtain ⟨_, b, c⟩ := two rfl hx hy (agr_iff.mp ha)
    refine agr_iff.mpr fun k hk => ?_
    have kk := ht.2.2 k hk
    have e := agr_iff.mp (show agr (rows'.getD 0 []) (rows'.getD 1 []) r = true from hr) k hk
    have f0 := hm_cel (n := n) (h := hxy x y) (y := rows'.getD 0 []) kk.1 kk.2
    have f1 := hm_cel (n := n) (h := hxy x y) (y := rows'.getD 1 []) kk.1 kk.2
    rw [b] at f0
    rw [c] at f1
    rw [f0, f1, e]
  | mvd l r =>
    intro row hj
    obtain ⟨x, hx, y, hy, e1, e2⟩ := mvd_parts hj
    obtain ⟨a, b, c⟩ := two rfl hx hy fun k hk => (e1 k (.inl hk)).symm.trans (e2 k (.inl hk))
    obtain ⟨z, hz, hz2⟩ := List.any_eq_true.mp (show (rows'.any fun x => agr x (rows'.getD 0 []) (sdI (l ++ r)) && agr x (rows'.getD 1 []) (othersR n l r)) = true from hr)
    rw [Bool.and_eq_true] at hz2
    have := a z hz
    have e : hm n (hxy x y) z = row := cel_ext hm_len hj.1 fun k g0 g1 => by
      by_cases q : k ∈ l ∨ k ∈ r
      · have f0 := hm_cel (n := n) (h := hxy x y) (y := rows'.getD 0 []) g0 g1
        rw [b] at f0
        rw [hm_cel g0 g1, agr_iff.mp hz2.1 k (un_mem.mpr q), ← f0, e1 k q]
      · have f1 := hm_cel (n := n) (h := hxy x y) (y := rows'.getD 1 []) g0 g1
        rw [c] at f1
        rw [hm_cel g0 g1, agr_iff.mp hz2.2 k (List.mem_filter.mpr ⟨rgI_mem.mpr ⟨g0, g1⟩, by simp only [decide_eq_true_eq]; exact fun z => q (un_mem.mp z)⟩), ← f1, e2 k (.inr ⟨g0, g1, fun z => q (.inr z)⟩)]
    rw [e] at this
    exact this
/-- the zeros are a join of the first rows -/
theorem zero_jn {n : Int} {told : List Dep} {b : Nat} {vals : Int → List Int} {ps R : List (List Int)} {g : Int → Int → Int} (ht : DepN n (.jd ps)) (C : ClI n told b vals (firstR n (.jd ps)) R g) : Jn n R ps (zeroR n) := by
  refine ⟨zero_len, fun p hp => ?_⟩
  obtain ⟨i, hi, rfl⟩ := List.getElem_of_mem hp
  have gd : ps.getD i [] = ps[i] := by rw [List.getD_eq_getElem?_getD, List.getElem?_eq_getElem hi]; rfl
  refine ⟨_, C.gin (rowJ n i (ps.getD i [])) (List.mem_map.mpr ⟨i, List.mem_range.mpr hi, rfl⟩), fun k hk => ?_⟩
  have kk := (ht.1 ps[i] (List.getElem_mem hi)).2 k hk
  rw [zero_cel kk.1 kk.2, hm_cel kk.1 kk.2, rowJ_cel kk.1 kk.2, gd, if_pos hk, show ((i : Int) + 1) * 0 = 0 by omega, C.g0]
/-- what follows is due -/
theorem fol_due {n : Int} {told : List Dep} {t : Dep} {R : List (List Int)} (ht : DepN n t) (C : ClsR n told (firstR n t) (decide (t.cl = .jd)) R) (hf : Fol n told t) : Due n R t := by
  obtain ⟨b, vals, g, B, C'⟩ := C.g
  rcases C.fx with hk | ⟨hz, hz2⟩
  · have := hf R C'.rn hk
    cases t with
    | fd l r => exact this
    | mvd l r => exact this
    | jd ps => exact this _ (zero_jn ht C')
  · cases t with
    | fd l r => cases hz
    | mvd l r => cases hz
    | jd ps => exact hz2
theorem due_iff {n : Int} {told : List Dep} {t : Dep} {R : List (List Int)} (ht : DepN n t) (C : ClsR n told (firstR n t) (decide (t.cl = .jd)) R) : Due n R t ↔ Fol n told t := ⟨due_fol ht C, fol_due ht C⟩
/-- a table of the chase is against the target exactly if it does not follow -/
theorem table_against {n : Int} {told : List Dep} {t : Dep} {R : List (List Int)} (ht : DepN n t) (C : ClsR n told (firstR n t) (decide (t.cl = .jd)) R) : ((∀ d ∈ told, Kp n R d) ∧ ¬ Kp n R t) ↔ ¬ Fol n told t := by
  obtain ⟨b, vals, g, B, C'⟩ := C.g
  constructor
  · rintro ⟨h1, h2⟩ hf
    exact h2 (hf R C'.rn h1)
  · intro hf
    rcases C.fx with hk | ⟨hz, hz2⟩
    · refine ⟨hk, fun h => hf (due_fol ht C ?_)⟩
      cases t with
      | fd l r => exact h
      | mvd l r => exact h
      | jd ps => exact h _ (zero_jn ht C')
    · cases t with
      | fd l r => cases hz
      | mvd l r => cases hz
      | jd ps => exact absurd (due_fol ht C hz2) hf

end DD
namespace DD
open PySem PySem.Spec PyProof.Rows L2
/-! ### tuple keys, ways to join -/
def insK (ls : List TKey) (k : TKey) : List TKey := if k ∈ ls then ls else ls ++ [k]
theorem insK_mem {ls : List TKey} {k x : TKey} : x ∈ insK ls k ↔ x = k ∨ x ∈ ls := by
  unfold insK
  split
  · rename_i h
    exact ⟨.inr, fun q => q.elim (fun e => by rw [e]; exact h) id⟩
  · rw [List.mem_append, List.mem_singleton]
    exact Or.comm
theorem insK_nd {ls : List TKey} {k : TKey} (h : ls.Nodup) : (insK ls k).Nodup := by
  unfold insK
  split
  · exact h
  · rename_i hk
    refine List.nodup_append.mpr ⟨h, List.nodup_cons.mpr ⟨List.not_mem_nil, .nil⟩, fun a ha b hb e => ?_⟩
    rw [List.mem_singleton.mp hb] at e
    exact hk (by rw [← e]; exact ha)
theorem insK_len {ls : List TKey} {k : TKey} : (insK ls k).length ≤ ls.length + 1 := by
  unfold insK
  split
  · omega
  · simp
abbrev trues (ls : List TKey) : List D := ls.map fun _ => .bl true
theorem kd_fst (ls : List TKey) : (ls.map fun t => (t, D.bl true)).map (·.1) = ls := by
  rw [List.map_map]
  exact List.map_id _
theorem kd_snd (ls : List TKey) : (ls.map fun t => (t, D.bl true)).map (·.2) = trues ls := by
  rw [List.map_map]
  rfl
theorem putKD_true (ls : List TKey) (k : TKey) : putKD (ls.map fun t => (t, D.bl true)) k (.bl true) = (insK ls k).map fun t => (t, D.bl true) := by
  unfold putKD insK
  rw [kd_fst]
  split
  · rw [List.map_map]
    refine List.map_congr_left fun t _ => ?_
    show (if t = k then (t, D.bl true) else (t, D.bl true)) = _
    split <;> rfl
  · rw [List.map_append]
    rfl
/-- the cell of a key -/
def tc (t : TKey) (k : Int) : Option Int := t.getD k.toNat none
def Cn (p : List Int) (t : TKey) (y : List Int) : Prop := ∀ k ∈ p, tc t k = none ∨ tc t k = some (cel y k)
def Mg (n : Int) (p : List Int) (t : TKey) (y : List Int) : TKey := (rgI n).map fun k => if k ∈ p then some (cel y k) else tc t k
theorem Cn.congr {p : List Int} {t : TKey} {y y' : List Int} (e : ∀ k ∈ p, cel y k = cel y' k) : Cn p t y ↔ Cn p t y' :=
  ⟨fun h k hk => by rw [← e k hk]; exact h k hk, fun h k hk => by rw [e k hk]; exact h k hk⟩
theorem Mg_congr {n : Int} {p : List Int} {t : TKey} {y y' : List Int} (e : ∀ k ∈ p, cel y k = cel y' k) : Mg n p t y = Mg n p t y' := by
  unfold Mg
  refine List.map_congr_left fun k _ => ?_
  by_cases c : k ∈ p
  · rw [if_pos c, if_pos c, e k c]
  · rw [if_neg c, if_neg c]
theorem kI_eq {p : List Int} {y y' : List Int} (h : kI (p.map (cel y)) = kI (p.map (cel y'))) : ∀ k ∈ p, cel y k = cel y' k := List.map_inj_left.mp (kI_inj h)
theorem tc_map {n k : Int} {τ : Int → Option Int} (h0 : 0 ≤ k) (h1 : k < n) : tc ((rgI n).map τ) k = τ k := by
  unfold tc
  rw [List.getD_eq_getElem?_getD, List.getElem?_map, rgI_get (by omega)]
  show τ ((k.toNat : Nat) : Int) = τ k
  rw [show ((k.toNat : Nat) : Int) = k by omega]
theorem tc_ext {n : Int} {x y : TKey} (hx : x.length = n.toNat) (hy : y.length = n.toNat) (h : ∀ k, 0 ≤ k → k < n → tc x k = tc y k) : x = y := by
  apply List.ext_getElem (by omega)
  intro i h1 h2
  have := h (i : Int) (by omega) (by omega)
  unfold tc at this
  rw [show ((i : Int)).toNat = i by omega, List.getD_eq_getElem?_getD, List.getD_eq_getElem?_getD, List.getElem?_eq_getElem h1, List.getElem?_eq_getElem h2] at this
  exact this
theorem tlen {n : Int} {τ : Int → Option Int} : ((rgI n).map τ).length = n.toNat := by rw [List.length_map, rgI_len]
theorem set_rg {n k0 : Int} {τ : Int → Option Int} {d : Option Int} (h0 : 0 ≤ k0) (h1 : k0 < n) : ((rgI n).map τ).set k0.toNat d = (rgI n).map fun k => if k = k0 then d else τ k := by
  refine tc_ext (n := n) (by rw [List.length_set]; exact tlen) tlen fun k g0 g1 => ?_
  rw [tc_map g0 g1]
  unfold tc
  by_cases e : k = k0
  · subst e
    rw [if_pos rfl, List.getD_eq_getElem?_getD, List.getElem?_set_self (by rw [tlen]; omega)]
    rfl
  · rw [if_neg e, List.getD_eq_getElem?_getD, List.getElem?_set_ne (by omega), ← List.getD_eq_getElem?_getD]
    exact tc_map g0 g1
theorem at_key {n k : Int} {t : TKey} (hl : t.length = n.toNat) (h0 : 0 ≤ k) (h1 : k < n) : atI (t.map lfD) k = some (lfD (tc t k)) := by
  have hk : k.toNat < t.length := by omega
  rw [at_of h0 rfl (by rw [List.length_map]; exact hk)]
  unfold tc
  rw [List.getElem_map, List.getD_eq_getElem?_getD, List.getElem?_eq_getElem hk]
  rfl
/-- keys with few values in each column -/
def KB (n : Int) (vals : Int → List Int) (x : TKey) : Prop := x.length = n.toNat ∧ ∀ k, 0 ≤ k → k < n → tc x k ∈ none :: (vals k).map some
theorem kb_len {n : Int} {b : Nat} {vals : Int → List Int} {ls : List TKey} (B : Bx n b vals) (nd : ls.Nodup) (h : ∀ x ∈ ls, KB n vals x) : ls.length ≤ 1000 := by
  refine Nat.le_trans (box_len (b := b + 1) (m := n.toNat) (vs := fun j => none :: (vals (j : Int)).map some) (fun j => ?_) nd fun x hx => ⟨(h x hx).1, fun j a hj => ?_⟩) B.pw1
  · have := B.few (j : Int)
    simp only [List.length_cons, List.length_map]
    omega
  · have hl := (List.getElem?_eq_some_iff.mp hj).1
    have hx' := h x hx
    have := hx'.2 (j : Int) (by omega) (by have := hx'.1; omega)
    unfold tc at this
    rw [show ((j : Int)).toNat = j by omega, List.getD_eq_getElem?_getD, hj] at this
    exact this
/-- the ways to join the first m parts -/
def Wy (n : Int) (rows : List (List Int)) (ps : List (List Int)) (t : TKey) : Prop := t.length = n.toNat ∧ (∀ p ∈ ps, ∃ y ∈ rows, ∀ k ∈ p, tc t k = some (cel y k)) ∧ ∀ k, 0 ≤ k → k < n → (∀ p ∈ ps, k ∉ p) → tc t k = none
theorem wy_kb {n : Int} {vals : Int → List Int} {rows ps : List (List Int)} {t : TKey} (hb : InBx n vals rows) (h : Wy n rows ps t) : KB n vals t := by
  refine ⟨h.1, fun k g0 g1 => ?_⟩
  by_cases c : ∃ p ∈ ps, k ∈ p
  · obtain ⟨p, hp, hk⟩ := c
    obtain ⟨y, hy, e⟩ := h.2.1 p hp
    rw [e k hk]
    exact List.mem_cons_of_mem _ (List.mem_map.mpr ⟨_, hb y hy k g0 g1, rfl⟩)
  · rw [h.2.2 k g0 g1 fun p hp hk => c ⟨p, hp, hk⟩]
    exact List.mem_cons_self
theorem mg_kb {n : Int} {vals : Int → List Int} {rows : List (List Int)} {p y : List Int} {t : TKey} (hb : InBx n vals rows) (hy : y ∈ rows) (ht : KB n vals t) : KB n vals (Mg n p t y) := by
  refine ⟨tlen, fun k g0 g1 => ?_⟩
  unfold Mg
  rw [tc_map g0 g1]
  by_cases c : k ∈ p
  · rw [if_pos c]
    exact List.mem_cons_of_mem _ (List.mem_map.mpr ⟨_, hb y hy k g0 g1, rfl⟩)
  · rw [if_neg c]
    exact ht.2 k g0 g1
theorem wy_zero {n : Int} {rows : List (List Int)} {t : TKey} : Wy n rows [] t ↔ t = (rgI n).map fun _ => none := by
  constructor
  · intro h
    exact tc_ext h.1 tlen fun k g0 g1 => by rw [tc_map g0 g1]; exact h.2.2 k g0 g1 fun p hp => by cases hp
  · intro e
    subst e
    exact ⟨tlen, fun p hp => (by cases hp), fun k g0 g1 _ => tc_map g0 g1⟩
theorem wy_next {n : Int} {rows ps : List (List Int)} {p : List Int} {x : TKey} (hp : ∀ k ∈ p, 0 ≤ k ∧ k < n) (hps : ∀ p ∈ ps, ∀ k ∈ p, 0 ≤ k ∧ k < n) : Wy n rows (ps ++ [p]) x ↔ ∃ t, Wy n rows ps t ∧ ∃ y ∈ rows, Cn p t y ∧ x = Mg n p t y := by
  constructor
  · rintro ⟨h1, h2, h3⟩
    obtain ⟨y, hy, ey⟩ := h2 p (by simp)
    refine ⟨(rgI n).map fun k => if ∃ q ∈ ps, k ∈ q then tc x k else none, ⟨tlen, fun q hq => ?_, fun k g0 g1 hk => ?_⟩, y, hy, fun k hk => ?_, ?_⟩
    · obtain ⟨z, hz, ez⟩ := h2 q (List.mem_append_left _ hq)
      refine ⟨z, hz, fun k hk => ?_⟩
      have kk := hps q hq k hk
      rw [tc_map kk.1 kk.2, if_pos ⟨q, hq, hk⟩, ez k hk]
    · rw [tc_map g0 g1, if_neg]
      rintro ⟨q, hq, hk'⟩
      exact hk q hq hk'
    · have kk := hp k hk
      rw [tc_map kk.1 kk.2]
      split
      · exact .inr (ey k hk)
      · exact .inl rfl
    · refine tc_ext h1 tlen fun k g0 g1 => ?_
      unfold Mg
      rw [tc_map g0 g1]
      by_cases c : k ∈ p
      · rw [if_pos c, ey k c]
      · rw [if_neg c, tc_map g0 g1]
        by_cases c2 : ∃ q ∈ ps, k ∈ q
        · rw [if_pos c2]
        · rw [if_neg c2]
          refine h3 k g0 g1 fun q hq hk => ?_
          rcases List.mem_append.mp hq with e | e
          · exact c2 ⟨q, e, hk⟩
          · rw [List.mem_singleton.mp e] at hk
            exact c hk
  · rintro ⟨t, ⟨h1, h2, h3⟩, y, hy, hc, rfl⟩
    refine ⟨tlen, fun q hq => ?_, fun k g0 g1 hk => ?_⟩
    · rcases List.mem_append.mp hq with e | e
      · obtain ⟨z, hz, ez⟩ := h2 q e
        refine ⟨z, hz, fun k hk => ?_⟩
        have kk := hps q e k hk
        unfold Mg
        rw [tc_map kk.1 kk.2]
        by_cases c : k ∈ p
        · rw [if_pos c]
          rcases hc k c with e2 | e2
          · rw [ez k hk] at e2; cases e2
          · rw [← e2]; exact ez k hk
        · rw [if_neg c]; exact ez k hk
      · rw [List.mem_singleton.mp e]
        refine ⟨y, hy, fun k hk => ?_⟩
        have kk := hp k hk
        unfold Mg
        rw [tc_map kk.1 kk.2, if_pos hk]
    · unfold Mg
      rw [tc_map g0 g1, if_neg (hk p (by simp))]
      exact h3 k g0 g1 fun q hq => hk q (List.mem_append_left _ hq)
theorem tc_kI {x : List Int} {k : Int} (h0 : 0 ≤ k) (h1 : k.toNat < x.length) : tc (kI x) k = some (cel x k) := by
  unfold tc cel kI
  rw [List.getD_eq_getElem?_getD, List.getD_eq_getElem?_getD, List.getElem?_map, List.getElem?_eq_getElem h1]
  rfl
/-- all parts joined -/
theorem wy_jn {n : Int} {rows ps : List (List Int)} (po : PrtOk n ps) {x : List Int} : Wy n rows ps (kI x) ↔ Jn n rows ps x := by
  have hl : (kI x).length = x.length := by unfold kI; rw [List.length_map]
  constructor
  · rintro ⟨h1, h2, _⟩
    refine ⟨by omega, fun p hp => ?_⟩
    obtain ⟨y, hy, e⟩ := h2 p hp
    refine ⟨y, hy, fun k hk => ?_⟩
    have kk := (po.st p hp).2 k hk
    have := e k hk
    rw [tc_kI kk.1 (by omega)] at this
    exact Option.some.inj this
  · rintro ⟨h1, h2⟩
    refine ⟨by omega, fun p hp => ?_, fun k g0 g1 hk => ?_⟩
    · obtain ⟨y, hy, e⟩ := h2 p hp
      refine ⟨y, hy, fun k hk => ?_⟩
      have kk := (po.st p hp).2 k hk
      rw [tc_kI kk.1 (by omega), e k hk]
    · obtain ⟨p, hp, hk2⟩ := po.cov k g0 g1
      exact absurd hk2 (hk p hp)
theorem wy_full {n : Int} {rows ps : List (List Int)} (po : PrtOk n ps) {t : TKey} (h : Wy n rows ps t) : t = kI (t.map fun o => o.getD 0) := by
  have hl : (kI (t.map fun o => o.getD 0)).length = t.length := by unfold kI; rw [List.length_map, List.length_map]
  refine tc_ext h.1 (hl.trans h.1) fun k g0 g1 => ?_
  obtain ⟨p, hp, hk⟩ := po.cov k g0 g1
  obtain ⟨y, hy, e⟩ := h.2.1 p hp
  have hk := e k hk
  have hkl : k.toNat < t.length := by have := h.1; omega
  rw [tc_kI g0 (by rw [List.length_map]; exact hkl)]
  unfold tc at hk ⊢
  unfold cel
  rw [List.getD_eq_getElem?_getD, List.getElem?_eq_getElem hkl] at hk ⊢
  rw [List.getD_eq_getElem?_getD, List.getElem?_map, List.getElem?_eq_getElem hkl]
  have hk' : t[k.toNat] = some (cel y k) := hk
  show t[k.toNat] = some ((t[k.toNat]).getD 0)
  rw [hk']
  rfl
section
variable {X : Cx} {c : Cl → Addr} {env : SEnv} {e ix : Expr} {P : DEnd} {pos : Pos}
/-- d[t] = True -/
theorem ds_putTrue (i : Nat) {y : Str} {p p2 pb : Pos} {j : Nat} {ad : Addr} {ls : List TKey} (hu : X.A.units + 1 < cLine) (hs : env[i]? = some (.ot ad ls (trues ls))) (hz : ls.length < 100000)
    (h : DE X c env ix fun z => ∃ k : TKey, z = keyD k ∧ P.nx (env.set i (.ot ad (insK ls k) (trues (insK ls k)))))
    (hN : X.N[i]? = some y := by rfl) (hv : Vis X.env.scope y := by first | exact Or.inl rfl | exact Or.inr (Or.inl rfl) | exact Or.inr (Or.inr rfl))
    (hd : (y == ("__debug__" : Str)) = false := by decide) (hcd : (y == ("__classdict__" : Str)) = false := by decide)
    (hsw : swapsWith (.Constant (.bool true) j pb) (some (.Subscript (.Name y p) ix p2)) pos.line X.env = pure false := by rfl) : DS X c env (.Assign [.Subscript (.Name y p) ix p2] (.Constant (.bool true) j pb) pos) P := by
  refine ds_putT (kds := ls.map fun t => (t, D.bl true)) i hu (by rw [kd_fst, kd_snd]; exact hs) (by rw [List.length_map]; exact hz) (de_bl (h.mono fun z ⟨k, e, q⟩ => ⟨k, e, ?_⟩)) hN hv hd hcd hsw
  rw [putKD_true, kd_fst, kd_snd]
  exact q
end

end DD
namespace DD
open PySem PySem.Spec PyProof.Rows L2
section
variable {P : Program} {w : World} {K : PySem.W.Frag} {cA : Cl → Addr} {mg : Str → Option Value} {base : Heap} {f : Addr} {fd : FuncData}
/-! ### _law_joined -/
def phJoined (ds : List D) (q : D → Prop) : Prop := ∃ (n : Int) (b : Nat) (vals : Int → List Int) (rows ps : List (List Int)), ds = [rowsD rows, trowsD ps, .int n] ∧ 1 ≤ n ∧ Bx n b vals ∧ PrtOk n ps ∧ RowsN n rows ∧ InBx n vals rows ∧ rows.length ≤ 64 ∧ ∀ js : List (List Int), js.Nodup → (∀ x, x ∈ js ↔ Jn n rows ps x) → q (rowsD js)
theorem nd_of_map {α β : Type} {f : α → β} : ∀ {l : List α}, (l.map f).Nodup → l.Nodup
  | [], _ => .nil
  | a :: l, h => by
    rw [List.map_cons] at h
    obtain ⟨h1, h2⟩ := List.nodup_cons.mp h
    exact List.nodup_cons.mpr ⟨fun m => h1 (List.mem_map.mpr ⟨a, m, rfl⟩), nd_of_map h2⟩
theorem isN_lf (o : Option Int) : isNonD (lfD o) = decide (o = none) := by cases o <;> rfl
theorem ok_law_joined (M : MF mg) (F : FD K "_law_joined" "_law_joined" s_law_joined f fd) : FnOk P w K mg base CX0 1 f fd ["_law_rows", "_law_parts_here", "_law_count"] (spD ⟨P, w, K, cA⟩ phJoined) := by
  refine fn_ok F sc_law_joined (fun ds q ⟨n, b, vals, rows, ps, h, _⟩ => by rw [h]; rfl) (by decide) (fun cdv A' outer s0 H E ds Qd hr ⟨n, b, vals, rows, ps, e, n1, B, po, hR, hb, hz, q⟩ => ?_)
  subst e
  have h0 := B.n0
  have hn := B.n4
  have p4 := po.four
  refine db_cons (ds_set 3 ?_ sc_law_joined.nd)
  refine de_lst ?_
  refine da_cons ?_
  refine de_tupleOf M.tuple_ ?_
  refine de_lcR (j := 11) rfl sc_law_joined.nd (blkOk_by (N := n_law_joined) (sc := defScope s_law_joined) (by decide +kernel)) (fun _ _ _ _ _ => pg_name (i := 11) sc_law_joined.nd rfl (by first | exact Or.inl rfl | exact Or.inr rfl)) M.range_ ?_
  refine de_var 2 rfl ?_
  refine ⟨n, fun _ => true, fun _ => .non, rfl, h0, by omega, ⟨fun k hk _ _ _ _ _ => di_nil rfl, fun k hk _ _ _ _ _ _ => de_non rfl⟩, ?_⟩
  rw [filter_true]
  refine ⟨_, rfl, ?_⟩
  refine da_nil ?_
  refine ⟨by simp, ?_⟩
  have e0 : D.tup ((rgI n).map fun _ => D.non) = keyD ((rgI n).map fun _ => none) := by unfold keyD; rw [List.map_map]; rfl
  rw [e0]
  refine db_cons (ds_forT rfl (pg_name (i := 4) sc_law_joined.nd rfl (by first | exact Or.inl rfl | exact Or.inr rfl)) ?_)
  refine de_var 1 rfl ?_
  refine ⟨ps.map rowD, fun m env' => ∃ (ws : List TKey) (s4 s5 s6 s7 s8 s9 s10 s11 : Sl), env' = [.dat (rowsD rows), .dat (trowsD ps), .dat (.int n), .dat (.lst (ws.map keyD)), s4, s5, s6, s7, s8, s9, s10, s11] ∧ ws.Nodup ∧ ∀ t, t ∈ ws ↔ Wy n rows (ps.take m) t, rfl, ⟨[(rgI n).map fun _ => none], _, _, _, _, _, _, _, _, rfl, by simp, fun t => by rw [List.take_zero, wy_zero, List.mem_singleton]⟩, ?_, ?_⟩
  · rintro m d env' hd ⟨ws, s4, s5, s6, s7, s8, s9, s10, s11, rfl, wnd, wy⟩
    rw [List.getElem?_map] at hd
    obtain ⟨p, hp, rfl⟩ := Option.map_eq_some_iff.mp hd
    have hpm := List.mem_of_getElem? hp
    have pset := po.st p hpm
    have pl4 := pset.in64 hn
    refine db_cons (ds_newT 5 (fun dp => ?_) sc_law_joined.nd)
    refine db_cons (ds_forL rfl (pg_name (i := 6) sc_law_joined.nd rfl (by first | exact Or.inl rfl | exact Or.inr rfl)) ?_)
    refine de_var 0 rfl ?_
    refine ⟨rows.map rowD, fun z env' => ∃ (pc : List TKey) (s6 s11 : Sl), env' = [.dat (rowsD rows), .dat (trowsD ps), .dat (.int n), .dat (.lst (ws.map keyD)), .dat (rowD p), .ot dp pc (trues pc), s6, s7, s8, s9, s10, s11] ∧ pc.length ≤ z ∧ (∀ t ∈ pc, ∃ y ∈ rows, t = kI (p.map (cel y))) ∧ ∀ y ∈ rows.take z, kI (p.map (cel y)) ∈ pc, rfl, ⟨[], s6, s11, rfl, Nat.le_refl _, fun t ht => (by cases ht), fun y hy => (by simp at hy)⟩, ?_, ?_⟩
    · rintro z d env' hd2 ⟨pc, s6, s11, rfl, pl, pa, pb⟩
      rw [List.getElem?_map] at hd2
      obtain ⟨y, hy, rfl⟩ := Option.map_eq_some_iff.mp hd2
      have hym := List.mem_of_getElem? hy
      have hzl := (List.getElem?_eq_some_iff.mp hy).1
      have yl := hR y hym
      refine db_cons (ds_putTrue 5 (room1 hr) rfl (by omega) ?_)
      refine de_tupleOf M.tuple_ ?_
      refine de_lcT (j := 11) rfl sc_law_joined.nd (blkOk_by (N := n_law_joined) (sc := defScope s_law_joined) (by decide +kernel)) (fun _ _ _ _ _ => pg_name (i := 11) sc_law_joined.nd rfl (by first | exact Or.inl rfl | exact Or.inr rfl)) ?_
      refine de_var 4 rfl ?_
      refine ⟨Int, p, D.int, fun _ => true, fun k => .int (cel y k), rfl, by omega, ⟨fun k hk _ _ _ _ _ => di_nil rfl, fun k hk _ _ _ _ _ _ => de_ix (fun _ _ => rfl) (de_var 6 rfl (de_var 11 rfl (ix_in (.inl rfl) (pset.2 k hk).1 (by have := pset.2 k hk; omega) rfl)))⟩, ?_⟩
      rw [filter_true]
      refine ⟨_, rfl, kI (p.map (cel y)), ?_, ?_⟩
      · rw [keyD_kI]; unfold rowD; rw [List.map_map]; rfl
      · refine db_nil ⟨insK pc (kI (p.map (cel y))), _, _, rfl, Nat.le_trans insK_len (by omega), fun t ht => ?_, fun y' hy' => ?_⟩
        · rcases insK_mem.mp ht with e | e
          · exact ⟨y, hym, e⟩
          · exact pa t e
        · rw [List.take_add_one, hy] at hy'
          rcases List.mem_append.mp hy' with e | e
          · exact insK_mem.mpr (.inr (pb y' e))
          · simp at e
            rw [e]
            exact insK_mem.mpr (.inl rfl)
    · rintro env' ⟨pc, s6, s11, rfl, pl, pa, pb⟩
      rw [List.length_map] at pl pb
      rw [List.take_length] at pb
      refine db_freeze 5 rfl (db_cons (ds_newT 7 (fun dl => ?_) sc_law_joined.nd))
      refine db_cons (ds_forL rfl (pg_name (i := 8) sc_law_joined.nd rfl (by first | exact Or.inl rfl | exact Or.inr rfl)) ?_)
      refine de_var 3 rfl ?_
      refine ⟨ws.map keyD, fun a env' => ∃ (ls : List TKey) (s8 s9 s10 s11 : Sl), env' = [.dat (rowsD rows), .dat (trowsD ps), .dat (.int n), .dat (.lst (ws.map keyD)), .dat (rowD p), .dat (.tdic pc (trues pc)), s6, .ot dl ls (trues ls), s8, s9, s10, s11] ∧ ls.Nodup ∧ (∀ x ∈ ls, KB n vals x) ∧ ∀ x, x ∈ ls ↔ ∃ t ∈ ws.take a, ∃ y ∈ rows, Cn p t y ∧ x = Mg n p t y, rfl, ⟨[], _, _, _, _, rfl, .nil, fun x hx => (by cases hx), fun x => ⟨fun hx => (by cases hx), fun ⟨t, ht, _⟩ => (by simp at ht)⟩⟩, ?_, ?_⟩
      · rintro a d env' hd2 ⟨ls, s8, s9, s10, s11, rfl, lnd, lkb, lm⟩
        rw [List.getElem?_map] at hd2
        obtain ⟨t, ht, rfl⟩ := Option.map_eq_some_iff.mp hd2
        have wyt := (wy t).mp (List.mem_of_getElem? ht)
        have tkb := wy_kb hb wyt
        refine db_cons (ds_forL rfl (pg_name (i := 9) sc_law_joined.nd rfl (by first | exact Or.inl rfl | exact Or.inr rfl)) ?_)
        refine de_listT rfl M.list_ ?_
        refine de_var 5 rfl ?_
        refine ⟨pc, trues pc, rfl, ?_⟩
        refine ⟨pc.map keyD, fun c env' => ∃ (ls : List TKey) (s9 s10 s11 : Sl), env' = [.dat (rowsD rows), .dat (trowsD ps), .dat (.int n), .dat (.lst (ws.map keyD)), .dat (rowD p), .dat (.tdic pc (trues pc)), s6, .ot dl ls (trues ls), .dat (keyD t), s9, s10, s11] ∧ ls.Nodup ∧ (∀ x ∈ ls, KB n vals x) ∧ ∀ x, x ∈ ls ↔ (∃ t ∈ ws.take a, ∃ y ∈ rows, Cn p t y ∧ x = Mg n p t y) ∨ ∃ v ∈ pc.take c, ∃ y ∈ rows, v = kI (p.map (cel y)) ∧ Cn p t y ∧ x = Mg n p t y, rfl, ⟨ls, _, _, _, rfl, lnd, lkb, fun x => (lm x).trans ⟨.inl, fun h => h.elim id fun ⟨v, hv, _⟩ => (by simp at hv)⟩⟩, ?_, ?_⟩
        · rintro c d env' hd3 ⟨ls, s9, s10, s11, rfl, lnd, lkb, lm⟩
          rw [List.getElem?_map] at hd3
          obtain ⟨v, hv, rfl⟩ := Option.map_eq_some_iff.mp hd3
          obtain ⟨y, hy, rfl⟩ := pa v (List.mem_of_getElem? hv)
          have yl := hR y hy
          have evk : keyD (kI (p.map (cel y))) = rowD (p.map (cel y)) := keyD_kI _
          rw [evk]
          refine db_cons (ds_listOf 10 M.list_ (de_var 8 rfl ⟨t.map lfD, rfl, fun L => ?_⟩) sc_law_joined.nd)
          refine db_cut (fun env' => ∃ (L' : Addr) (fs : List D) (s11 : Sl), env' = [.dat (rowsD rows), .dat (trowsD ps), .dat (.int n), .dat (.lst (ws.map keyD)), .dat (rowD p), .dat (.tdic pc (trues pc)), s6, .ot dl ls (trues ls), .dat (keyD t), .dat (rowD (p.map (cel y))), .ol L' fs, s11] ∧ ((Cn p t y ∧ fs = (Mg n p t y).map lfD) ∨ (¬ Cn p t y ∧ fs = []))) ?_ ?_
          · refine ds_forR rfl (pg_name (i := 11) sc_law_joined.nd rfl (by first | exact Or.inl rfl | exact Or.inr rfl)) M.range_ ?_
            refine de_len M.len_ ?_
            refine de_var 4 rfl ?_
            refine ⟨_, rfl, ?_⟩
            rw [List.length_map]
            have et : t = (rgI n).map fun k => if k ∈ p.take 0 then some (cel y k) else tc t k := tc_ext wyt.1 tlen fun k g0 g1 => by rw [tc_map g0 g1]; simp
            refine ⟨(p.length : Int), fun z env' => ∃ s11 : Sl, env' = [.dat (rowsD rows), .dat (trowsD ps), .dat (.int n), .dat (.lst (ws.map keyD)), .dat (rowD p), .dat (.tdic pc (trues pc)), s6, .ot dl ls (trues ls), .dat (keyD t), .dat (rowD (p.map (cel y))), .ol L (((rgI n).map fun k => if k ∈ p.take z then some (cel y k) else tc t k).map lfD), s11] ∧ ∀ k ∈ p.take z, tc t k = none ∨ tc t k = some (cel y k), rfl, by omega, by omega, ⟨s11, by rw [← et]; rfl, fun k hk => (by simp at hk)⟩, ?_, ?_⟩
            · rintro z env' hzl ⟨s11, rfl, hok⟩
              have hzl' : z < p.length := by omega
              have hk : p[((z : Int)).toNat]? = some p[z] := by rw [show ((z : Int)).toNat = z by omega]; exact List.getElem?_eq_getElem hzl'
              have hkz : p[z]? = some p[z] := List.getElem?_eq_getElem hzl'
              have kk := pset.2 p[z] (List.getElem_mem hzl')
              have hkm : p[z] ∈ p := List.getElem_mem hzl'
              generalize p[z] = k at *
              have atv : ∀ {Q : D → Prop}, Q (.int (cel y k)) → ixD (rowD (p.map (cel y))) (.int (z : Int)) Q := fun {Q} hq => at_lst (enc := D.int) (xs := p.map (cel y)) (x := cel y k) (by omega) (by rw [List.getElem?_map, hk]; rfl) hq
              have tk1 : ∀ k', k' ∈ p.take (z + 1) ↔ k' ∈ p.take z ∨ k' = k := fun k' => by rw [List.take_add_one, hkz]; simp
              generalize hcur : (if k ∈ p.take z then some (cel y k) else tc t k) = cur
              have hcc : (cur = none ∨ cur = some (cel y k)) ↔ (tc t k = none ∨ tc t k = some (cel y k)) := by
                rw [← hcur]
                by_cases c1 : k ∈ p.take z
                · rw [if_pos c1]
                  exact ⟨fun _ => hok k c1, fun _ => .inr rfl⟩
                · rw [if_neg c1]
              refine db_cons (ds_if (DT.mono (Qb := fun kb => kb = decide (cur = none ∨ cur = some (cel y k))) ?_ ?_))
              · refine dt_bool (dw_or (dt_cmp (dc_isN ?_)))
                refine de_ixO 10 rfl (fun _ _ => rfl) ?_
                refine de_ix (fun _ _ => rfl) ?_
                refine de_var 4 rfl ?_
                refine de_var 11 rfl ?_
                refine at_lst (enc := D.int) (by omega) hk ?_
                refine ⟨k, _, rfl, at_key tlen kk.1 kk.2, ?_⟩
                rw [tc_map kk.1 kk.2, hcur]
                refine ⟨_, rfl, ?_⟩
                rw [isN_lf]
                by_cases cn : cur = none
                · rw [if_pos (decide_eq_true cn)]
                  exact (decide_eq_true (Or.inl cn)).symm
                · rw [if_neg fun h => cn (of_decide_eq_true h)]
                  refine dw_or1 (dt_cmp (dc_eq ?_))
                  refine de_ixO 10 rfl (fun _ _ => rfl) ?_
                  refine de_ix (fun _ _ => rfl) ?_
                  refine de_var 4 rfl ?_
                  refine de_var 11 rfl ?_
                  refine at_lst (enc := D.int) (by omega) hk ?_
                  refine ⟨k, _, rfl, at_key tlen kk.1 kk.2, ?_⟩
                  rw [tc_map kk.1 kk.2, hcur]
                  refine de_ix (fun _ _ => rfl) ?_
                  refine de_var 9 rfl ?_
                  refine de_var 11 rfl ?_
                  refine atv ?_
                  cases cur with
                  | none => exact absurd rfl cn
                  | some u =>
                    refine ⟨_, rfl, _, rfl, ?_⟩
                    simp
              · intro kb hkb
                subst hkb
                by_cases cc : cur = none ∨ cur = some (cel y k)
                · rw [if_pos (decide_eq_true cc)]
                  refine db_cons (ds_putL 10 rfl ?_)
                  refine de_ix (fun _ _ => rfl) ?_
                  refine de_var 9 rfl ?_
                  refine de_var 11 rfl ?_
                  refine atv ?_
                  refine de_ix (fun _ _ => rfl) ?_
                  refine de_var 4 rfl ?_
                  refine de_var 11 rfl ?_
                  refine at_lst (enc := D.int) (by omega) hk ?_
                  refine ⟨k.toNat, by rw [Int.toNat_of_nonneg kk.1], by rw [List.length_map, tlen]; omega, ?_⟩
                  refine db_nil (db_nil ⟨.dat (.int (z : Int)), ?_, fun k' hk' => ?_⟩)
                  · have es : (((rgI n).map fun k => if k ∈ p.take z then some (cel y k) else tc t k).map lfD).set k.toNat (.int (cel y k)) = ((rgI n).map fun k => if k ∈ p.take (z + 1) then some (cel y k) else tc t k).map lfD := by
                      have := congrArg (List.map lfD) (set_rg (n := n) (τ := fun k => if k ∈ p.take z then some (cel y k) else tc t k) (d := some (cel y k)) kk.1 kk.2)
                      rw [List.map_set] at this
                      refine this.trans (congrArg (List.map lfD) (List.map_congr_left fun k' _ => ?_))
                      by_cases e : k' = k
                      · subst e
                        rw [if_pos rfl, if_pos ((tk1 _).mpr (.inr rfl))]
                      · rw [if_neg e]
                        by_cases c1 : k' ∈ p.take z
                        · rw [if_pos c1, if_pos ((tk1 _).mpr (.inl c1))]
                        · rw [if_neg c1, if_neg fun q => ((tk1 _).mp q).elim c1 e]
                    rw [← es]
                    rfl
                  · rcases (tk1 k').mp hk' with e | e
                    · exact hok k' e
                    · rw [e]; exact hcc.mp cc
                · rw [if_neg fun h => cc (of_decide_eq_true h)]
                  refine db_cons (ds_newL 10 (fun L' => ?_) sc_law_joined.nd)
                  exact db_cons (ds_break ⟨L', [], _, rfl, .inr ⟨fun h => cc (hcc.mpr (h k hkm)), rfl⟩⟩)
            · rintro env' ⟨s11, rfl, hok⟩
              rw [Int.toNat_natCast, List.take_length] at hok ⊢
              exact ⟨L, _, s11, rfl, .inl ⟨hok, rfl⟩⟩
          · rintro env' ⟨L', fs, s11, rfl, hcase⟩
            refine db_freeze 10 rfl ?_
            refine db_cons (ds_if ?_)
            refine dt_cmp (dc_eq ?_)
            refine de_len M.len_ ?_
            refine de_var 10 rfl ?_
            refine ⟨_, rfl, ?_⟩
            refine de_var 2 rfl ?_
            refine ⟨_, rfl, _, rfl, ?_⟩
            have spl : ∀ x, (∃ v ∈ pc.take (c + 1), ∃ y ∈ rows, v = kI (p.map (cel y)) ∧ Cn p t y ∧ x = Mg n p t y) ↔ (∃ v ∈ pc.take c, ∃ y ∈ rows, v = kI (p.map (cel y)) ∧ Cn p t y ∧ x = Mg n p t y) ∨ (Cn p t y ∧ x = Mg n p t y) := fun x => by
              rw [List.take_add_one, hv]
              constructor
              · rintro ⟨v, hv2, y', hy', rfl, c1, c2⟩
                rcases List.mem_append.mp hv2 with e | e
                · exact .inl ⟨_, e, y', hy', rfl, c1, c2⟩
                · have e2 := kI_eq (List.mem_singleton.mp e)
                  exact .inr ⟨(Cn.congr e2).mp c1, c2.trans (Mg_congr e2)⟩
              · rintro (⟨v, hv2, r⟩ | ⟨c1, c2⟩)
                · exact ⟨v, List.mem_append_left _ hv2, r⟩
                · exact ⟨_, List.mem_append_right _ (by simp), y, hy, rfl, c1, c2⟩
            rcases hcase with ⟨hc, rfl⟩ | ⟨hc, rfl⟩
            · rw [if_pos (decide_eq_true (by rw [List.length_map]; unfold Mg; rw [tlen]; omega))]
              have := kb_len B lnd lkb
              refine db_cons (ds_putTrue 7 (room1 hr) rfl (by omega) ?_)
              refine de_tupleOf M.tuple_ ?_
              refine de_var 10 rfl ?_
              refine ⟨_, rfl, Mg n p t y, rfl, ?_⟩
              refine db_nil (db_nil ⟨insK ls (Mg n p t y), _, _, _, rfl, insK_nd lnd, fun x hx => ?_, fun x => ?_⟩)
              · rcases insK_mem.mp hx with e | e
                · rw [e]; exact mg_kb hb hy tkb
                · exact lkb x e
              · rw [insK_mem, lm, spl]
                constructor
                · rintro (e | e | e)
                  · exact .inr (.inr ⟨hc, e⟩)
                  · exact .inl e
                  · exact .inr (.inl e)
                · rintro (e | e | e)
                  · exact .inr (.inl e)
                  · exact .inr (.inr e)
                  · exact .inl e.2
            · rw [if_neg fun h => by have := of_decide_eq_true h; simp at this; omega]
              refine db_nil (db_nil ⟨ls, _, _, _, rfl, lnd, lkb, fun x => ?_⟩)
              rw [lm, spl]
              constructor
              · rintro (e | e)
                · exact .inl e
                · exact .inr (.inl e)
              · rintro (e | e | e)
                · exact .inl e
                · exact .inr e
                · exact absurd e.1 hc
        · rintro env' ⟨ls, s9, s10, s11, rfl, lnd, lkb, lm⟩
          rw [List.length_map, List.take_length] at lm
          refine db_nil ⟨ls, _, _, _, _, rfl, lnd, lkb, fun x => ?_⟩
          rw [lm, List.take_add_one, ht]
          constructor
          · rintro (⟨t', ht', r⟩ | ⟨v, hv, y, hy, _, r⟩)
            · exact ⟨t', List.mem_append_left _ ht', r⟩
            · exact ⟨t, by simp, y, hy, r⟩
          · rintro ⟨t', ht', y, hy, r⟩
            rcases List.mem_append.mp ht' with e | e
            · exact .inl ⟨t', e, y, hy, r⟩
            · simp at e
              subst e
              exact .inr ⟨_, pb y hy, y, hy, rfl, r⟩
      · rintro env' ⟨ls, s8, s9, s10, s11, rfl, lnd, lkb, lm⟩
        rw [List.length_map, List.take_length] at lm
        refine db_freeze 7 rfl ?_
        refine db_cons (ds_set 3 ?_ sc_law_joined.nd)
        refine de_listT rfl M.list_ ?_
        refine de_var 7 rfl ?_
        refine ⟨ls, _, rfl, ?_⟩
        refine db_nil ⟨ls, _, _, _, _, _, _, _, _, rfl, lnd, fun x => ?_⟩
        rw [lm, List.take_add_one, hp]
        rw [show ps.take m ++ (some p).toList = ps.take m ++ [p] from rfl, wy_next pset.2 fun p' hp' => (po.st p' (List.mem_of_mem_take hp')).2]
        exact ⟨fun ⟨t, ht, r⟩ => ⟨t, (wy t).mp ht, r⟩, fun ⟨t, ht, r⟩ => ⟨t, (wy t).mpr ht, r⟩⟩
  · rintro env' ⟨ws, s4, s5, s6, s7, s8, s9, s10, s11, rfl, wnd, wy⟩
    rw [List.length_map, List.take_length] at wy
    have ew : ws = (ws.map fun t => t.map fun o => o.getD 0).map kI := by
      rw [List.map_map]
      conv => lhs; rw [← List.map_id ws]
      exact List.map_congr_left fun t ht => wy_full po ((wy t).mp ht)
    generalize hjs : (ws.map fun t => t.map fun o => o.getD 0) = js at ew
    have ed : D.lst (ws.map keyD) = rowsD js := by
      rw [ew, List.map_map]
      unfold rowsD
      exact congrArg D.lst (List.map_congr_left fun x _ => keyD_kI x)
    rw [ed]
    refine db_cons (ds_ret (de_var 3 rfl (q js ?_ fun x => ?_)))
    · rw [ew] at wnd
      exact nd_of_map wnd
    · rw [← wy_jn po, ← wy, ew]
      exact ⟨fun h => List.mem_map.mpr ⟨x, h, rfl⟩, fun h => by
        obtain ⟨x', hx', e⟩ := List.mem_map.mp h
        rw [← kI_inj e]
        exact hx'⟩
end

end DD
namespace DD
open PySem PySem.Spec PyProof.Rows L2
theorem jn_bx {n : Int} {b : Nat} {vals : Int → List Int} {R ps js : List (List Int)} (B : Bx n b vals) (po : PrtOk n ps) (hb : InBx n vals R) (nd : js.Nodup) (h : ∀ x, x ∈ js ↔ Jn n R ps x) : RowsN n js ∧ InBx n vals js ∧ js.length ≤ 64 := by
  have h1 : RowsN n js := fun x hx => ((h x).mp hx).1
  have h2 : InBx n vals js := fun x hx k g0 g1 => by
    obtain ⟨p, hp, hk⟩ := po.cov k g0 g1
    obtain ⟨y, hy, e⟩ := ((h x).mp hx).2 p hp
    rw [e k hk]
    exact hb y hy k g0 g1
  exact ⟨h1, h2, bx_len B nd h1 h2⟩
section
variable {X : Cx} {c : Cl → Addr} {env : SEnv} {ek ev : Expr} {P : DEnd} {pos : Pos}
/-- y = d.setdefault(k, v), the values rows -/
theorem ds_setSdR (i j : Nat) {x y : Str} {p p2 apos : Pos} {spos : Pos} {ad : Addr} {kvs : List (TKey × List Int)} (hu : X.A.units + 1 < cLine) (hs : env[i]? = some (.ot ad (kvs.map (·.1)) (kvs.map fun q => rowD q.2))) (hz : kvs.length < 100000)
    (h : DE X c env ek fun dk => DE X c env ev fun dv => ∃ (k : TKey) (v : List Int), dk = keyD k ∧ dv = rowD v ∧ (∀ u, (kvs.find? fun e => decide (e.1 = k)).map (·.2) = some u → P.nx (env.set j (.dat (rowD u)))) ∧
      (k ∉ kvs.map (·.1) → P.nx ((env.set i (.ot ad ((kvs ++ [(k, v)]).map (·.1)) ((kvs ++ [(k, v)]).map fun q => rowD q.2))).set j (.dat (rowD v)))))
    (hn : X.N.Nodup) (hN : X.N[i]? = some x := by rfl) (hv : Vis X.env.scope x := by first | exact Or.inl rfl | exact Or.inr (Or.inl rfl) | exact Or.inr (Or.inr rfl))
    (hd : (x == ("__debug__" : Str)) = false := by decide) (hcd : (x == ("__classdict__" : Str)) = false := by decide) (m : M2 X (.Name x p) "setdefault" apos ek ev pos := by exact ⟨rfl, rfl, rfl, rfl⟩)
    (hj : X.N[j]? = some y := by rfl) (hy : Loc X.env.scope y := by first | exact Or.inl rfl | exact Or.inr rfl)
    (hsw : swapsWith (.Call (.Attribute (.Name x p) "setdefault" apos) [ek, ev] [] pos) (some (.Name y p2)) spos.line X.env = pure false := by rfl)
    (hf : X.fn y = true ∨ X.env.scope.names.lookup y = some .local := by first | exact .inl rfl | exact .inr rfl) : DS X c env (.Assign [.Name y p2] (.Call (.Attribute (.Name x p) "setdefault" apos) [ek, ev] [] pos) spos) P := by
  have ek1 : (kvs.map fun q => (q.1, rowD q.2)).map (·.1) = kvs.map (·.1) := by rw [List.map_map]; rfl
  have ek2 : (kvs.map fun q => (q.1, rowD q.2)).map (·.2) = kvs.map fun q => rowD q.2 := by rw [List.map_map]; rfl
  have look : ∀ k, lookKD (kvs.map fun q => (q.1, rowD q.2)) k = ((kvs.find? fun e => decide (e.1 = k)).map (·.2)).map rowD := fun k => by
    unfold lookKD
    rw [List.find?_map]
    show Option.map (·.2) (Option.map (fun q : TKey × List Int => (q.1, rowD q.2)) (kvs.find? fun e => decide (e.1 = k))) = _
    rw [Option.map_map, Option.map_map]
    rfl
  refine ds_setSd (kds := kvs.map fun q => (q.1, rowD q.2)) i j hu (by rw [ek1, ek2]; exact hs) (by rw [List.length_map]; exact hz) (h.mono fun dk hk => hk.mono fun dv ⟨k, v, e1, e2, c1, c2⟩ => ⟨k, e1, fun d hd2 => ?_, fun hn2 => ?_⟩) hn hN hv hd hcd m hj hy hsw hf
  · rw [look] at hd2
    obtain ⟨u, hu2, rfl⟩ := Option.map_eq_some_iff.mp hd2
    exact c1 u hu2
  · subst e2
    have hm : k ∉ kvs.map (·.1) := by rw [← ek1]; exact lookKD_none.mp hn2
    have q1 : ((kvs.map fun q => (q.1, rowD q.2)) ++ [(k, rowD v)]) = (kvs ++ [(k, v)]).map fun q => (q.1, rowD q.2) := by rw [List.map_append]; rfl
    rw [q1, List.map_map, List.map_map]
    exact c2 hm
end
section
variable {P : Program} {w : World} {K : PySem.W.Frag} {cA : Cl → Addr} {mg : Str → Option Value} {base : Heap} {f : Addr} {fd : FuncData}
/-! ### _law_keeps -/
def phLkeeps (ds : List D) (q : D → Prop) : Prop := ∃ (n : Int) (b : Nat) (vals : Int → List Int) (rows : List (List Int)) (d : Dep), ds = [rowsD rows, depD d, .int n] ∧ 1 ≤ n ∧ Bx n b vals ∧ DepN n d ∧ RowsN n rows ∧ InBx n vals rows ∧ rows.length ≤ 64 ∧ ∀ bb : Bool, (bb = true ↔ Kp n rows d) → q (.bl bb)
theorem ok_law_keeps (M : MF mg) (F : FD K "_law_keeps" "_law_keeps" s_law_keeps f fd) (F1 : FnG P w K cA mg base "_law_joined" 1 phJoined) (F2 : FnG P w K cA mg base "_law_parts" 2 phParts2) : FnOk P w K mg base CX0 3 f fd ["_law_rows", "_law_one", "_law_count"] (spD ⟨P, w, K, cA⟩ phLkeeps) := by
  refine fn_ok F sc_law_keeps (fun ds q ⟨n, b, vals, rows, d, h, _⟩ => by rw [h]; rfl) (by decide) (fun cdv A' outer s0 H E ds Qd hr ⟨n, b, vals, rows, d, e, n1, B, hD, hR, hb, hz, q⟩ => ?_)
  subst e
  have h0 := B.n0
  have hn := B.n4
  refine db_cons (ds_newT 3 (fun td => ?_) sc_law_keeps.nd)
  refine db_cons (ds_if ?_)
  refine dt_cmp (dc_eq ?_)
  refine de_ix (fun _ _ => rfl) ?_
  refine de_var 1 rfl ?_
  refine de_int ?_
  refine at_dep0 ?_
  refine de_str ?_
  refine ⟨_, ne_fd d, _, rfl, ?_⟩
  by_cases hc : d.cl = .fd
  · rw [if_pos (by simp [hc])]
    cases d with
    | mvd l r => cases hc
    | jd ps => cases hc
    | fd l r =>
      obtain ⟨hl, hr'⟩ : SetN n l ∧ SetN n r := hD
      have l4 := hl.in64 hn
      have r4 := hr'.in64 hn
      refine db_cons (ds_forL rfl (pg_name (i := 4) sc_law_keeps.nd rfl (by first | exact Or.inl rfl | exact Or.inr rfl)) ?_)
      refine de_var 0 rfl ?_
      refine ⟨rows.map rowD, fun m env' => ∃ (kvs : List (TKey × List Int)) (s4 s5 s6 s7 : Sl), env' = [.dat (rowsD rows), .dat (depD (.fd l r)), .dat (.int n), .ot td (kvs.map (·.1)) (kvs.map fun z => rowD z.2), s4, s5, s6, s7] ∧ kvs.length ≤ m ∧
          (∀ e ∈ kvs, ∃ x ∈ rows, e = (kI (l.map (cel x)), r.map (cel x))) ∧ ∀ x ∈ rows.take m, (kvs.find? fun e => decide (e.1 = kI (l.map (cel x)))).map (·.2) = some (r.map (cel x)), rfl, ⟨[], _, _, _, _, rfl, Nat.le_refl _, fun e he => (by cases he), fun x hx => (by simp at hx)⟩, ?_, ?_⟩
      · rintro m d env' hd ⟨kvs, s4, s5, s6, s7, rfl, hkl, hk1, hk2⟩
        rw [List.getElem?_map] at hd
        obtain ⟨x, hx, rfl⟩ := Option.map_eq_some_iff.mp hd
        have hm := (List.getElem?_eq_some_iff.mp hx).1
        have xm := List.mem_of_getElem? hx
        have xl := hR x xm
        have tk : rows.take (m + 1) = rows.take m ++ [x] := by rw [List.take_add_one, hx]; rfl
        refine db_cons (ds_set 5 ?_ sc_law_keeps.nd)
        refine de_tupleOf M.tuple_ ?_
        refine de_lcT (j := 7) rfl sc_law_keeps.nd (blkOk_by (N := n_law_keeps) (sc := defScope s_law_keeps) (by decide +kernel)) (fun _ _ _ _ _ => pg_name (i := 7) sc_law_keeps.nd rfl (by first | exact Or.inl rfl | exact Or.inr rfl)) ?_
        refine de_ix (fun _ _ => rfl) ?_
        refine de_var 1 rfl ?_
        refine de_int ?_
        refine ⟨_, rfl, ?_⟩
        refine ⟨Int, l, D.int, fun _ => true, fun k => .int (cel x k), rfl, by omega, ⟨fun k hk _ _ _ _ _ => di_nil rfl, fun k hk _ _ _ _ _ _ => de_ix (fun _ _ => rfl) (de_var 4 rfl (de_var 7 rfl (ix_in (.inl rfl) (hl.2 k hk).1 (by have := hl.2 k hk; omega) rfl)))⟩, _, rfl, ?_⟩
        rw [filter_true]
        refine db_cons (ds_set 6 ?_ sc_law_keeps.nd)
        refine de_tupleOf M.tuple_ ?_
        refine de_lcT (j := 7) rfl sc_law_keeps.nd (blkOk_by (N := n_law_keeps) (sc := defScope s_law_keeps) (by decide +kernel)) (fun _ _ _ _ _ => pg_name (i := 7) sc_law_keeps.nd rfl (by first | exact Or.inl rfl | exact Or.inr rfl)) ?_
        refine de_ix (fun _ _ => rfl) ?_
        refine de_var 1 rfl ?_
        refine de_int ?_
        refine ⟨_, rfl, ?_⟩
        refine ⟨Int, r, D.int, fun _ => true, fun k => .int (cel x k), rfl, by omega, ⟨fun k hk _ _ _ _ _ => di_nil rfl, fun k hk _ _ _ _ _ _ => de_ix (fun _ _ => rfl) (de_var 4 rfl (de_var 7 rfl (ix_in (.inl rfl) (hr'.2 k hk).1 (by have := hr'.2 k hk; omega) rfl)))⟩, _, rfl, ?_⟩
        rw [filter_true]
        have el : ∀ s : List Int, D.tup (s.map fun k => D.int (cel x k)) = rowD (s.map (cel x)) := fun s => by unfold rowD; rw [List.map_map]; rfl
        rw [el, el]
        refine db_cons (ds_ifSd 3 Pe.row (by decide) hr.units rfl (by omega) (de_var 5 rfl (de_var 6 rfl ⟨kI (l.map (cel x)), r.map (cel x), (keyD_kI _).symm, rfl, ?_, ?_⟩)))
        · intro u hu
          refine de_var 6 rfl ⟨_, rfl, ?_⟩
          obtain ⟨e0, he0, hu'⟩ := Option.map_eq_some_iff.mp hu
          have hmem := List.mem_of_find?_eq_some he0
          have hkey : e0.1 = kI (l.map (cel x)) := by simpa using List.find?_some he0
          obtain ⟨y, hy, ey⟩ := hk1 e0 hmem
          have yk : l.map (cel y) = l.map (cel x) := kI_inj (by rw [← hkey, ey])
          have yu : u = r.map (cel y) := by rw [← hu', ey]
          by_cases hux : u = r.map (cel x)
          · rw [if_neg (by simp [hux])]
            refine db_nil (db_nil ⟨kvs, _, _, _, _, rfl, by omega, hk1, fun z hz => ?_⟩)
            rw [tk] at hz
            rcases List.mem_append.mp hz with h | h
            · exact hk2 z h
            · rw [List.mem_singleton.mp h, hu, hux]
          · rw [if_pos hux]
            refine db_cons (ds_ret (de_bl (q false ⟨fun z => (by cases z), fun hK => absurd ?_ hux⟩)))
            rw [yu]
            exact agr_map.mp (hK y hy x xm (agr_map.mpr yk))
        · intro hno
          refine de_var 6 rfl ⟨_, rfl, ?_⟩
          rw [if_neg (by simp)]
          refine db_nil (db_nil ⟨kvs ++ [(kI (l.map (cel x)), r.map (cel x))], _, _, _, _, rfl, by simp; omega, fun e he => ?_, fun z hz => ?_⟩)
          · rcases List.mem_append.mp he with h | h
            · exact hk1 e h
            · exact ⟨x, xm, List.mem_singleton.mp h⟩
          · rw [tk] at hz
            rw [List.find?_append]
            rcases List.mem_append.mp hz with h | h
            · obtain ⟨e0, he0, hu'⟩ := Option.map_eq_some_iff.mp (hk2 z h)
              rw [he0]
              simpa using hu'
            · rw [List.mem_singleton.mp h]
              have : kvs.find? (fun e => decide (e.1 = kI (l.map (cel x)))) = none := by
                rw [List.find?_eq_none]
                intro e he hc
                exact hno (List.mem_map.mpr ⟨e, he, by simpa using hc⟩)
              rw [this]
              simp
      · rintro env' ⟨kvs, s4, s5, s6, s7, rfl, hkl, hk1, hk2⟩
        rw [List.length_map, List.take_length] at hk2
        refine db_cons (ds_ret (de_bl (q true ⟨fun _ x hx y hy ha => ?_, fun _ => rfl⟩)))
        have e1 := hk2 x hx
        rw [agr_map.mp ha, hk2 y hy] at e1
        exact agr_map.mpr (Option.some.inj e1).symm
  · rw [if_neg (by simp [hc])]
    have po := prt_ok hD hc
    refine db_nil ?_
    refine db_cons (ds_forL rfl (pg_name (i := 4) sc_law_keeps.nd rfl (by first | exact Or.inl rfl | exact Or.inr rfl)) ?_)
    refine de_var 0 rfl ?_
    refine ⟨rows.map rowD, fun z env' => ∃ (pc : List TKey) (s4 : Sl), env' = [.dat (rowsD rows), .dat (depD d), .dat (.int n), .ot td pc (trues pc), s4, .no, .no, .no] ∧ pc.length ≤ z ∧ (∀ t ∈ pc, ∃ y ∈ rows, t = kI y) ∧ ∀ y ∈ rows.take z, kI y ∈ pc, rfl, ⟨[], _, rfl, Nat.le_refl _, fun t ht => (by cases ht), fun y hy => (by simp at hy)⟩, ?_, ?_⟩
    · rintro z dd env' hd2 ⟨pc, s4, rfl, pl, pa, pb⟩
      rw [List.getElem?_map] at hd2
      obtain ⟨y, hy, rfl⟩ := Option.map_eq_some_iff.mp hd2
      have hym := List.mem_of_getElem? hy
      have hzl := (List.getElem?_eq_some_iff.mp hy).1
      refine db_cons (ds_putTrue 3 (room1 hr) rfl (by omega) (de_var 4 rfl ⟨kI y, (keyD_kI _).symm, ?_⟩))
      refine db_nil ⟨insK pc (kI y), _, rfl, Nat.le_trans insK_len (by omega), fun t ht => ?_, fun y' hy' => ?_⟩
      · rcases insK_mem.mp ht with e | e
        · exact ⟨y, hym, e⟩
        · exact pa t e
      · rw [List.take_add_one, hy] at hy'
        rcases List.mem_append.mp hy' with e | e
        · exact insK_mem.mpr (.inr (pb y' e))
        · rw [List.mem_singleton.mp e]
          exact insK_mem.mpr (.inl rfl)
    · rintro env' ⟨pc, s4, rfl, pl, pa, pb⟩
      rw [List.length_map] at pl pb
      rw [List.take_length] at pb
      refine db_freeze 3 rfl ?_
      refine db_cons (ds_ret ?_)
      refine de_cmp (dc_eq ?_)
      refine de_len M.len_ ?_
      refine de_lcL (j := 4) rfl sc_law_keeps.nd (blkOk_by (N := n_law_keeps) (sc := defScope s_law_keeps) (by decide +kernel)) (fun _ _ _ _ _ => pg_name (i := 4) sc_law_keeps.nd rfl (by first | exact Or.inl rfl | exact Or.inr rfl)) ?_
      refine de_call F1 (hr.mono (by decide)) ?_
      refine da_cons ?_
      refine de_var 0 rfl ?_
      refine da_cons ?_
      refine de_call F2 (hr.mono (by decide)) ?_
      refine da_cons ?_
      refine de_var 2 rfl ?_
      refine da_cons ?_
      refine de_var 1 rfl ?_
      refine da_nil ?_
      refine ⟨n, d, rfl, h0, hn, hD, hc, ?_⟩
      refine da_cons ?_
      refine de_var 2 rfl ?_
      refine da_nil ?_
      refine ⟨n, b, vals, rows, prt n d, rfl, n1, B, po, hR, hb, hz, fun js jnd jm => ?_⟩
      obtain ⟨j1, j2, j3⟩ := jn_bx B po hb jnd jm
      refine ⟨_, js, rowD, fun x => !decide (kI x ∈ pc), rowD, rfl, by omega, ⟨fun x hx _ _ _ _ _ => di_one (dt_cmp (dc_notinT (room1 hr) (de_var 4 rfl (de_var 3 rfl ⟨kI x, pc, trues pc, (keyD_kI _).symm, rfl, ⟨_, rfl, rfl⟩⟩)))), fun x hx hf _ _ _ _ _ => de_var 4 rfl rfl⟩, ?_⟩
      refine ⟨_, rfl, de_int ⟨_, rfl, q _ ?_⟩⟩
      rw [kp_join hc]
      have hin : ∀ x, kI x ∈ pc ↔ x ∈ rows := fun x => ⟨fun h => by
        obtain ⟨y, hy, e⟩ := pa _ h
        rw [kI_inj e]
        exact hy, fun h => pb x h⟩
      rw [List.length_map, decide_eq_true_iff]
      constructor
      · intro h row hj
        have hnil : (js.filter fun x => !decide (kI x ∈ pc)) = [] := List.length_eq_zero_iff.mp (by omega)
        have := List.filter_eq_nil_iff.mp hnil row ((jm row).mpr hj)
        exact (hin row).mp (by simpa using this)
      · intro h
        have hnil : (js.filter fun x => !decide (kI x ∈ pc)) = [] := List.filter_eq_nil_iff.mpr fun x hx => by
          have := (hin x).mpr (h x ((jm x).mp hx))
          simp [this]
        rw [hnil]
        rfl
end

end DD
namespace DD
open PySem PySem.Spec PyProof.Rows L2
section
variable {P : Program} {w : World} {K : PySem.W.Frag} {cA : Cl → Addr} {mg : Str → Option Value} {base : Heap} {f : Addr} {fd : FuncData}
/-! ### _law_once -/
def phOnce (ds : List D) (q : D → Prop) : Prop := ∃ (n : Int) (b : Nat) (vals : Int → List Int) (rows : List (List Int)) (d : Dep), ds = [.int n, depD d, rowsD rows] ∧ 1 ≤ n ∧ Bx n b vals ∧ DepN n d ∧ RowsN n rows ∧ InBx n vals rows ∧ rows.Nodup ∧ rows.length ≤ 64 ∧ ∀ R', OnceR n d rows R' → q (rowsD R')
theorem ok_law_once (M : MF mg) (F : FD K "_law_once" "_law_once" s_law_once f fd) (F1 : FnG P w K cA mg base "_law_joined" 1 phJoined) (F2 : FnG P w K cA mg base "_law_parts" 2 phParts2) : FnOk P w K mg base CX0 3 f fd ["_law_count", "_law_one", "_law_rows"] (spD ⟨P, w, K, cA⟩ phOnce) := by
  refine fn_ok F sc_law_once (fun ds q ⟨n, b, vals, rows, d, h, _⟩ => by rw [h]; rfl) (by decide) (fun cdv A' outer s0 H E ds Qd hr ⟨n, b, vals, rows, d, e, n1, B, hD, hR, hb, rnd, hz, q⟩ => ?_)
  subst e
  have h0 := B.n0
  have hn := B.n4
  refine db_cons (ds_if ?_)
  refine dt_cmp (dc_ne ?_)
  refine de_ix (fun _ _ => rfl) ?_
  refine de_var 1 rfl ?_
  refine de_int ?_
  refine at_dep0 ?_
  refine de_str ?_
  refine ⟨_, ne_fd d, _, rfl, ?_⟩
  by_cases hc : d.cl = .fd
  · rw [if_neg (by simp [hc])]
    cases d with
    | mvd l r => cases hc
    | jd ps => cases hc
    | fd l r =>
      obtain ⟨hl, hr'⟩ : SetN n l ∧ SetN n r := hD
      have l4 := hl.in64 hn
      have r4 := hr'.in64 hn
      refine db_nil (db_cons (ds_newT 4 (fun td => ?_) sc_law_once.nd))
      refine db_cons (ds_forL rfl (pg_name (i := 5) sc_law_once.nd rfl (by first | exact Or.inl rfl | exact Or.inr rfl)) ?_)
      refine de_var 2 rfl ?_
      refine ⟨rows.map rowD, fun m env' => ∃ (kvs : List (TKey × List Int)) (s5 s6 s7 s8 s9 : Sl), env' = [.dat (.int n), .dat (depD (.fd l r)), .dat (rowsD rows), .no, .ot td (kvs.map (·.1)) (kvs.map fun z => rowD z.2), s5, s6, s7, s8, s9] ∧ kvs.length ≤ m ∧
          (∀ e ∈ kvs, e.2 ∈ rows ∧ e.1 = kI (l.map (cel e.2))) ∧ ∀ x ∈ rows.take m, ∃ y, (kvs.find? fun e => decide (e.1 = kI (l.map (cel x)))).map (·.2) = some y ∧ ∀ k ∈ r, cel y k = cel x k, rfl, ⟨[], _, _, _, _, _, rfl, Nat.le_refl _, fun e he => (by cases he), fun x hx => (by simp at hx)⟩, ?_, ?_⟩
      · rintro m d env' hd ⟨kvs, s5, s6, s7, s8, s9, rfl, hkl, hk1, hk2⟩
        rw [List.getElem?_map] at hd
        obtain ⟨x, hx, rfl⟩ := Option.map_eq_some_iff.mp hd
        have hm := (List.getElem?_eq_some_iff.mp hx).1
        have xm := List.mem_of_getElem? hx
        have xl := hR x xm
        have tk : rows.take (m + 1) = rows.take m ++ [x] := by rw [List.take_add_one, hx]; rfl
        have el : ∀ s : List Int, D.tup (s.map fun k => D.int (cel x k)) = rowD (s.map (cel x)) := fun s => by unfold rowD; rw [List.map_map]; rfl
        refine db_cut (fun env' => ∃ (kvs : List (TKey × List Int)) (y : List Int) (s7 s8 s9 : Sl), env' = [.dat (.int n), .dat (depD (.fd l r)), .dat (rowsD rows), .no, .ot td (kvs.map (·.1)) (kvs.map fun z => rowD z.2), .dat (rowD x), .dat (rowD y), s7, s8, s9] ∧ kvs.length ≤ m + 1 ∧
          (∀ e ∈ kvs, e.2 ∈ rows ∧ e.1 = kI (l.map (cel e.2))) ∧ (∀ x ∈ rows.take m, ∃ y, (kvs.find? fun e => decide (e.1 = kI (l.map (cel x)))).map (·.2) = some y ∧ ∀ k ∈ r, cel y k = cel x k) ∧ (kvs.find? fun e => decide (e.1 = kI (l.map (cel x)))).map (·.2) = some y ∧ y ∈ rows ∧ l.map (cel y) = l.map (cel x)) ?_ ?_
        · refine ds_setSdR 4 6 (room1 hr) rfl (by omega) ?_ sc_law_once.nd
          refine de_tupleOf M.tuple_ ?_
          refine de_lcT (j := 7) rfl sc_law_once.nd (blkOk_by (N := n_law_once) (sc := defScope s_law_once) (by decide +kernel)) (fun _ _ _ _ _ => pg_name (i := 7) sc_law_once.nd rfl (by first | exact Or.inl rfl | exact Or.inr rfl)) ?_
          refine de_ix (fun _ _ => rfl) ?_
          refine de_var 1 rfl ?_
          refine de_int ?_
          refine ⟨_, rfl, ?_⟩
          refine ⟨Int, l, D.int, fun _ => true, fun k => .int (cel x k), rfl, by omega, ⟨fun k hk _ _ _ _ _ => di_nil rfl, fun k hk _ _ _ _ _ _ => de_ix (fun _ _ => rfl) (de_var 5 rfl (de_var 7 rfl (ix_in (.inl rfl) (hl.2 k hk).1 (by have := hl.2 k hk; omega) rfl)))⟩, _, rfl, ?_⟩
          rw [filter_true, el]
          refine de_var 5 rfl ⟨kI (l.map (cel x)), x, (keyD_kI _).symm, rfl, fun u hu => ?_, fun hno => ?_⟩
          · obtain ⟨e0, he0, hu'⟩ := Option.map_eq_some_iff.mp hu
            have hmem := List.mem_of_find?_eq_some he0
            have hkey : e0.1 = kI (l.map (cel x)) := by simpa using List.find?_some he0
            obtain ⟨e1, e2⟩ := hk1 e0 hmem
            have hu'' : e0.2 = u := hu'
            rw [hu''] at e1 e2
            exact ⟨kvs, u, _, _, _, rfl, by omega, hk1, hk2, hu, e1, kI_inj (e2.symm.trans hkey)⟩
          · have hnone : kvs.find? (fun e => decide (e.1 = kI (l.map (cel x)))) = none := by
              rw [List.find?_eq_none]
              intro e he hc
              exact hno (List.mem_map.mpr ⟨e, he, by simpa using hc⟩)
            refine ⟨kvs ++ [(kI (l.map (cel x)), x)], x, _, _, _, rfl, by simp; omega, fun e he => ?_, fun z hz => ?_, ?_, xm, rfl⟩
            · rcases List.mem_append.mp he with h | h
              · exact hk1 e h
              · rw [List.mem_singleton.mp h]
                exact ⟨xm, rfl⟩
            · obtain ⟨y, hy, hy2⟩ := hk2 z hz
              obtain ⟨e0, he0, hu'⟩ := Option.map_eq_some_iff.mp hy
              refine ⟨y, ?_, hy2⟩
              rw [List.find?_append, he0]
              simpa using hu'
            · rw [List.find?_append, hnone]
              simp
        · rintro env' ⟨kvs, y, s7, s8, s9, rfl, hkl, hk1, hk2, hfy, ym, hyx⟩
          have yl := hR y ym
          have hag : agr x y l = true := agr_map.mpr hyx.symm
          have hag' : agr y x l = true := agr_map.mpr hyx
          refine db_cons (ds_forT rfl (pg_name (i := 7) sc_law_once.nd rfl (by first | exact Or.inl rfl | exact Or.inr rfl)) ?_)
          refine de_ix (fun _ _ => rfl) ?_
          refine de_var 1 rfl ?_
          refine de_int ?_
          refine ⟨_, rfl, ?_⟩
          refine ⟨r.map D.int, fun z env' => ∃ (s7 s8 s9 : Sl), env' = [.dat (.int n), .dat (depD (.fd l r)), .dat (rowsD rows), .no, .ot td (kvs.map (·.1)) (kvs.map fun z => rowD z.2), .dat (rowD x), .dat (rowD y), s7, s8, s9] ∧ ∀ k ∈ r.take z, cel y k = cel x k, rfl, ⟨_, _, _, rfl, fun k hk => (by simp at hk)⟩, ?_, ?_⟩
          · rintro z dk env' hzk ⟨s7, s8, s9, rfl, hok⟩
            rw [List.getElem?_map] at hzk
            obtain ⟨k, hk, rfl⟩ := Option.map_eq_some_iff.mp hzk
            have hkr := List.mem_of_getElem? hk
            have kk := hr'.2 k hkr
            refine db_cons (ds_if ?_)
            refine dt_cmp (dc_ne ?_)
            refine de_ix (fun _ _ => rfl) ?_
            refine de_var 6 rfl ?_
            refine de_var 7 rfl ?_
            refine ix_in (.inl rfl) kk.1 (by omega) ?_
            refine de_ix (fun _ _ => rfl) ?_
            refine de_var 5 rfl ?_
            refine de_var 7 rfl ?_
            refine ix_in (.inl rfl) kk.1 (by omega) ?_
            refine ⟨_, rfl, _, rfl, ?_⟩
            by_cases hxy_ : cel y k = cel x k
            · rw [if_neg (by simp [hxy_])]
              refine db_nil (db_nil ⟨_, _, _, rfl, fun k' hk' => ?_⟩)
              rw [List.take_add_one, hk] at hk'
              rcases List.mem_append.mp hk' with e | e
              · exact hok k' e
              · rw [List.mem_singleton.mp e]; exact hxy_
            · rw [if_pos (by simp [hxy_])]
              refine db_cons (ds_newT 8 (fun dm => ?_) sc_law_once.nd)
              generalize hg : lowR k (min (cel y k) (cel x k)) (max (cel y k) (cel x k)) = g at *
              refine db_cons (ds_forL rfl (pg_name (i := 9) sc_law_once.nd rfl (by first | exact Or.inl rfl | exact Or.inr rfl)) ?_)
              refine de_var 2 rfl ?_
              refine ⟨rows.map rowD, fun z env' => ∃ (pc : List TKey) (s9 : Sl), env' = [.dat (.int n), .dat (depD (.fd l r)), .dat (rowsD rows), .no, .ot td (kvs.map (·.1)) (kvs.map fun z => rowD z.2), .dat (rowD x), .dat (rowD y), .dat (.int k), .ot dm pc (trues pc), s9] ∧ pc.length ≤ z ∧ pc.Nodup ∧ (∀ t ∈ pc, ∃ y ∈ rows, t = kI (g y)) ∧ ∀ y ∈ rows.take z, kI (g y) ∈ pc, rfl, ⟨[], _, rfl, Nat.le_refl _, .nil, fun t ht => (by cases ht), fun y hy => (by simp at hy)⟩, ?_, ?_⟩
              · rintro z2 dd env' hd2 ⟨pc, s9, rfl, pl, pnd, pa, pb⟩
                rw [List.getElem?_map] at hd2
                obtain ⟨z, hz', rfl⟩ := Option.map_eq_some_iff.mp hd2
                have zm := List.mem_of_getElem? hz'
                have hzl := (List.getElem?_eq_some_iff.mp hz').1
                have lz := hR z zm
                refine db_cut (fun env' => env' = [.dat (.int n), .dat (depD (.fd l r)), .dat (rowsD rows), .no, .ot td (kvs.map (·.1)) (kvs.map fun z => rowD z.2), .dat (rowD x), .dat (rowD y), .dat (.int k), .ot dm pc (trues pc), .dat (rowD (g z))]) ?_ ?_
                · refine ds_if (dt_cmp (dc_eq ?_))
                  refine de_ix (fun _ _ => rfl) ?_
                  refine de_var 9 rfl ?_
                  refine de_var 7 rfl ?_
                  refine ix_in (.inl rfl) kk.1 (by omega) ?_
                  refine de_max2 rfl M.max_ ?_
                  refine de_ix (fun _ _ => rfl) ?_
                  refine de_var 6 rfl ?_
                  refine de_var 7 rfl ?_
                  refine ix_in (.inl rfl) kk.1 (by omega) ?_
                  refine de_ix (fun _ _ => rfl) ?_
                  refine de_var 5 rfl ?_
                  refine de_var 7 rfl ?_
                  refine ix_in (.inl rfl) kk.1 (by omega) ?_
                  refine ⟨_, _, rfl, rfl, _, rfl, _, rfl, ?_⟩
                  by_cases hcz : cel z k = max (cel y k) (cel x k)
                  · rw [if_pos (decide_eq_true hcz)]
                    refine db_cons (ds_set 9 ?_ sc_law_once.nd)
                    refine de_add (de_add (de_slTo (de_var 9 rfl (de_var 7 rfl ⟨k.toNat, by rw [show ((k.toNat : Nat) : Int) = k by omega], .inl ⟨_, rfl, ?_⟩⟩))))
                    refine de_tup ?_
                    refine da_cons ?_
                    refine de_min2 rfl M.min_ ?_
                    refine de_ix (fun _ _ => rfl) ?_
                    refine de_var 6 rfl ?_
                    refine de_var 7 rfl ?_
                    refine ix_in (.inl rfl) kk.1 (by omega) ?_
                    refine de_ix (fun _ _ => rfl) ?_
                    refine de_var 5 rfl ?_
                    refine de_var 7 rfl ?_
                    refine ix_in (.inl rfl) kk.1 (by omega) ?_
                    refine ⟨_, _, rfl, rfl, ?_⟩
                    refine da_nil ?_
                    refine ⟨by simp, ?_⟩
                    refine ⟨by simp; omega, ?_⟩
                    refine de_slFrom (de_var 9 rfl (de_add (de_var 7 rfl (de_int ⟨k.toNat + 1, by rw [show ((k.toNat + 1 : Nat) : Int) = k + 1 by omega], .inl ⟨_, rfl, by simp; omega, ?_⟩⟩))))
                    refine db_nil ?_
                    rw [List.append_assoc, cut_set kk.1 (by omega)]
                    have : z.set k.toNat (min (cel y k) (cel x k)) = g z := by rw [← hg]; unfold lowR; rw [if_pos hcz]
                    rw [this]
                    rfl
                  · rw [if_neg fun h => hcz (of_decide_eq_true h)]
                    have : g z = z := by rw [← hg]; unfold lowR; rw [if_neg hcz]
                    rw [this]
                    exact db_nil rfl
                · rintro env' rfl
                  refine db_cons (ds_putTrue 8 (room1 hr) rfl (by omega) (de_var 9 rfl ⟨kI (g z), (keyD_kI _).symm, ?_⟩))
                  refine db_nil ⟨insK pc (kI (g z)), _, rfl, Nat.le_trans insK_len (by omega), insK_nd pnd, fun t ht => ?_, fun y' hy' => ?_⟩
                  · rcases insK_mem.mp ht with e | e
                    · exact ⟨z, zm, e⟩
                    · exact pa t e
                  · rw [List.take_add_one, hz'] at hy'
                    rcases List.mem_append.mp hy' with e | e
                    · exact insK_mem.mpr (.inr (pb y' e))
                    · rw [List.mem_singleton.mp e]
                      exact insK_mem.mpr (.inl rfl)
              · rintro env' ⟨pc, s9, rfl, pl, pnd, pa, pb⟩
                rw [List.length_map] at pl pb
                rw [List.take_length] at pb
                refine db_freeze 8 rfl ?_
                refine db_cons (ds_ret ?_)
                refine de_listT rfl M.list_ ?_
                refine de_var 8 rfl ?_
                refine ⟨pc, _, rfl, ?_⟩
                obtain ⟨js, ejs⟩ : ∃ js : List (List Int), pc = js.map kI := by
                  refine ⟨pc.map fun t => t.map fun o => o.getD 0, ?_⟩
                  rw [List.map_map]
                  conv => lhs; rw [← List.map_id pc]
                  refine List.map_congr_left fun t ht => ?_
                  obtain ⟨y', _, e⟩ := pa t ht
                  rw [e]
                  show kI (g y') = kI ((kI (g y')).map fun o => o.getD 0)
                  unfold kI
                  simp
                have ed : D.lst (pc.map keyD) = rowsD js := by
                  rw [ejs, List.map_map]
                  unfold rowsD
                  exact congrArg D.lst (List.map_congr_left fun x _ => keyD_kI x)
                show Qd (D.lst (pc.map keyD))
                rw [ed]
                rw [ejs] at pnd pa pb
                refine q js (.low l r y x k rfl ym xm hag' hkr hxy_ (nd_of_map pnd) fun w => ⟨fun hw => ?_, fun ⟨z0, hz0, e⟩ => ?_⟩)
                · obtain ⟨z0, hz0, e⟩ := pa (kI w) (List.mem_map.mpr ⟨w, hw, rfl⟩)
                  exact ⟨z0, hz0, by rw [hg]; exact kI_inj e⟩
                · rw [hg] at e
                  obtain ⟨w', hw', e2⟩ := List.mem_map.mp (pb z0 hz0)
                  rw [e, ← kI_inj e2]
                  exact hw'
          · rintro env' ⟨s7, s8, s9, rfl, hok⟩
            rw [List.length_map, List.take_length] at hok
            refine db_nil ⟨kvs, _, _, _, _, _, rfl, hkl, hk1, fun w hw => ?_⟩
            rw [tk] at hw
            rcases List.mem_append.mp hw with h | h
            · exact hk2 w h
            · rw [List.mem_singleton.mp h]
              exact ⟨y, hfy, hok⟩
      · rintro env' ⟨kvs, s5, s6, s7, s8, s9, rfl, hkl, hk1, hk2⟩
        rw [List.length_map, List.take_length] at hk2
        refine db_cons (ds_ret (de_var 2 rfl (q rows (.keep (fun x hx y hy ha => ?_) rfl))))
        obtain ⟨u, hu, eu⟩ := hk2 x hx
        obtain ⟨v, hv, ev⟩ := hk2 y hy
        rw [agr_map.mp ha, hv] at hu
        cases hu
        exact agr_iff.mpr fun k hk => (eu k hk).symm.trans (ev k hk)
  · rw [if_pos (by simp [hc])]
    have po := prt_ok hD hc
    refine db_cons (ds_set 3 ?_ sc_law_once.nd)
    refine de_call F1 (hr.mono (by decide)) ?_
    refine da_cons ?_
    refine de_var 2 rfl ?_
    refine da_cons ?_
    refine de_call F2 (hr.mono (by decide)) ?_
    refine da_cons ?_
    refine de_var 0 rfl ?_
    refine da_cons ?_
    refine de_var 1 rfl ?_
    refine da_nil ?_
    refine ⟨n, d, rfl, h0, hn, hD, hc, ?_⟩
    refine da_cons ?_
    refine de_var 0 rfl ?_
    refine da_nil ?_
    refine ⟨n, b, vals, rows, prt n d, rfl, n1, B, po, hR, hb, hz, fun js jnd jm => ?_⟩
    refine db_cons (ds_if ?_)
    refine dt_cmp (dc_gt ?_)
    refine de_len M.len_ ?_
    refine de_var 3 rfl ?_
    refine ⟨_, rfl, ?_⟩
    refine de_len M.len_ ?_
    refine de_var 2 rfl ?_
    refine ⟨_, rfl, _, rfl, ?_⟩
    by_cases hlt : rows.length < js.length
    · rw [if_pos (decide_eq_true (by rw [List.length_map, List.length_map]; omega))]
      exact db_cons (ds_ret (de_var 3 rfl (q js (.join hc jnd hlt jm))))
    · rw [if_neg fun h => hlt (by have := of_decide_eq_true h; rw [List.length_map, List.length_map] at this; omega)]
      refine db_nil (db_cons (ds_ret (de_var 2 rfl (q rows (.keep ((kp_join hc).mpr fun row hj => ?_) rfl)))))
      exact nd_back rnd (fun x hx => (jm x).mpr (jn_self hR hx)) (by omega) row ((jm row).mpr hj)
end

end DD
namespace DD
open PySem PySem.Spec PyProof.Rows L2
theorem dec_of {p : Prop} {i : Decidable p} (h : @decide p i = true) : p := @of_decide_eq_true p i h
theorem dec_mk {p : Prop} {i : Decidable p} (h : p) : @decide p i = true := @decide_eq_true p i h
section
variable {P : Program} {w : World} {K : PySem.W.Frag} {cA : Cl → Addr} {mg : Str → Option Value} {base : Heap} {f : Addr} {fd : FuncData}
/-! ### _law_closed, _law_due -/
def phClosed (ds : List D) (q : D → Prop) : Prop := ∃ (n : Int) (b : Nat) (vals : Int → List Int) (told : List Dep) (rows : List (List Int)) (z : Bool), ds = [.int n, .lst (told.map depD), rowsD rows, .bl z] ∧ 1 ≤ n ∧ Bx n b vals ∧ (∀ d ∈ told, DepN n d) ∧ RowsN n rows ∧ InBx n vals rows ∧ rows.length ≤ 64 ∧
  ∀ R, ClsR n told rows z R → RowsN n R → InBx n vals R → R.Nodup → R.length ≤ 64 → q (rowsD R)
theorem ok_law_closed (M : MF mg) (F : FD K "_law_closed" "_law_closed" s_law_closed f fd) (F1 : FnG P w K cA mg base "_law_once" 3 phOnce) : FnOk P w K mg base CX0 4 f fd ["_law_count", "_law_told_here", "_law_rows", "_law_to_zeros"] (spD ⟨P, w, K, cA⟩ phClosed) := by
  refine fn_ok F sc_law_closed (fun ds q ⟨n, b, vals, told, rows, z, h, _⟩ => by rw [h]; rfl) (by decide) (fun cdv A' outer s0 H E ds Qd hr ⟨n, b, vals, told, rows, zb, e, n1, B, hD, hR, hb, hz, q⟩ => ?_)
  subst e
  have h0 := B.n0
  have hn := B.n4
  refine db_cons (ds_newT 4 (fun td => ?_) sc_law_closed.nd)
  refine db_cons (ds_forL rfl (pg_name (i := 5) sc_law_closed.nd rfl (by first | exact Or.inl rfl | exact Or.inr rfl)) ?_)
  refine de_var 2 rfl ?_
  refine ⟨rows.map rowD, fun z env' => ∃ (pc : List TKey) (s5 : Sl), env' = [.dat (.int n), .dat (.lst (told.map depD)), .dat (rowsD rows), .dat (.bl zb), .ot td pc (trues pc), s5, .no, .no, .no, .no] ∧ pc.length ≤ z ∧ pc.Nodup ∧ (∀ t ∈ pc, ∃ y ∈ rows, t = kI y) ∧ ∀ y ∈ rows.take z, kI y ∈ pc, rfl, ⟨[], _, rfl, Nat.le_refl _, .nil, fun t ht => (by cases ht), fun y hy => (by simp at hy)⟩, ?_, ?_⟩
  · rintro z dd env' hd2 ⟨pc, s5, rfl, pl, pnd, pa, pb⟩
    rw [List.getElem?_map] at hd2
    obtain ⟨y, hy, rfl⟩ := Option.map_eq_some_iff.mp hd2
    have hym := List.mem_of_getElem? hy
    have hzl := (List.getElem?_eq_some_iff.mp hy).1
    refine db_cons (ds_putTrue 4 (room1 hr) rfl (by omega) (de_var 5 rfl ⟨kI y, (keyD_kI _).symm, ?_⟩))
    refine db_nil ⟨insK pc (kI y), _, rfl, Nat.le_trans insK_len (by omega), insK_nd pnd, fun t ht => ?_, fun y' hy' => ?_⟩
    · rcases insK_mem.mp ht with e | e
      · exact ⟨y, hym, e⟩
      · exact pa t e
    · rw [List.take_add_one, hy] at hy'
      rcases List.mem_append.mp hy' with e | e
      · exact insK_mem.mpr (.inr (pb y' e))
      · rw [List.mem_singleton.mp e]
        exact insK_mem.mpr (.inl rfl)
  · rintro env' ⟨pc, s5, rfl, pl, pnd, pa, pb⟩
    rw [List.length_map] at pl pb
    rw [List.take_length] at pb
    obtain ⟨js, ejs⟩ : ∃ js : List (List Int), pc = js.map kI := by
      refine ⟨pc.map fun t => t.map fun o => o.getD 0, ?_⟩
      rw [List.map_map]
      conv => lhs; rw [← List.map_id pc]
      refine List.map_congr_left fun t ht => ?_
      obtain ⟨y', _, e⟩ := pa t ht
      rw [e]
      show kI y' = kI ((kI y').map fun o => o.getD 0)
      unfold kI
      simp
    have ed : D.lst (pc.map keyD) = rowsD js := by
      rw [ejs, List.map_map]
      unfold rowsD
      exact congrArg D.lst (List.map_congr_left fun x _ => keyD_kI x)
    have C0 : ClI n told b vals rows js fun _ v => v := ClI.start hR hb (by rw [ejs] at pnd; exact nd_of_map pnd) fun x => ⟨fun hx => by
      obtain ⟨y, hy, e⟩ := pa (kI x) (by rw [ejs]; exact List.mem_map.mpr ⟨x, hx, rfl⟩)
      rw [kI_inj e]
      exact hy, fun hx => by
      have := pb x hx
      rw [ejs] at this
      obtain ⟨x', hx', e⟩ := List.mem_map.mp this
      rw [← kI_inj e]
      exact hx'⟩
    refine db_freeze 4 rfl ?_
    refine db_cons (ds_set 2 ?_ sc_law_closed.nd)
    refine de_listT rfl M.list_ ?_
    refine de_var 4 rfl ?_
    refine ⟨pc, _, rfl, ?_⟩
    rw [ed]
    refine db_cons (ds_set 6 ?_ sc_law_closed.nd)
    refine de_tupleOf M.tuple_ ?_
    refine de_lcR (j := 7) rfl sc_law_closed.nd (blkOk_by (N := n_law_closed) (sc := defScope s_law_closed) (by decide +kernel)) (fun _ _ _ _ _ => pg_name (i := 7) sc_law_closed.nd rfl (by first | exact Or.inl rfl | exact Or.inr rfl)) M.range_ ?_
    refine de_var 0 rfl ?_
    refine ⟨n, fun _ => true, fun _ => .int 0, rfl, h0, by omega, ⟨fun k hk _ _ _ _ _ => di_nil rfl, fun k hk _ _ _ _ _ _ => de_int rfl⟩, _, rfl, ?_⟩
    have ez : D.tup (((rgI n).filter fun _ => true).map fun _ => D.int 0) = rowD (zeroR n) := by
      rw [filter_true, ← map_zero]
      unfold rowD
      rw [List.map_map]
      rfl
    rw [ez]
    refine db_cons (ds_forR rfl (pg_name (i := 7) sc_law_closed.nd rfl (by first | exact Or.inl rfl | exact Or.inr rfl)) M.range_ ?_)
    refine de_int ?_
    refine ⟨_, fun m env' => ∃ (R : List (List Int)) (g : Int → Int → Int) (s7 s8 s9 : Sl), env' = [.dat (.int n), .dat (.lst (told.map depD)), .dat (rowsD R), .dat (.bl zb), .dat (.tdic pc (trues pc)), s5, .dat (rowD (zeroR n)), s7, s8, s9] ∧ ClI n told b vals rows R g ∧ ms n vals R + m < 2000, rfl, by decide, by decide, ⟨js, _, _, _, _, rfl, C0, by have := ms_bound (R := js) B; omega⟩, ?_, ?_⟩
    · rintro m env' hm ⟨R, g, s7, s8, s9, rfl, C, hms⟩
      refine db_cons (ds_set 8 ?_ sc_law_closed.nd)
      refine de_var 2 rfl ?_
      refine db_cons (ds_forL rfl (pg_name (i := 9) sc_law_closed.nd rfl (by first | exact Or.inl rfl | exact Or.inr rfl)) ?_)
      refine de_var 1 rfl ?_
      refine ⟨told.map depD, fun z env' => ∃ (R' : List (List Int)) (g' : Int → Int → Int) (s9 : Sl), env' = [.dat (.int n), .dat (.lst (told.map depD)), .dat (rowsD R'), .dat (.bl zb), .dat (.tdic pc (trues pc)), s5, .dat (rowD (zeroR n)), .dat (.int (m : Int)), .dat (rowsD R), s9] ∧ ClI n told b vals rows R' g' ∧ ((R' = R ∧ ∀ d ∈ told.take z, Kp n R d) ∨ ms n vals R' < ms n vals R), rfl, ⟨R, g, _, rfl, C, .inl ⟨rfl, fun d hd => (by simp at hd)⟩⟩, ?_, ?_⟩
      · rintro z dd env' hd2 ⟨R', g', s9, rfl, C', hcase⟩
        rw [List.getElem?_map] at hd2
        obtain ⟨d, hd, rfl⟩ := Option.map_eq_some_iff.mp hd2
        have hdm := List.mem_of_getElem? hd
        refine db_cons (ds_set 2 ?_ sc_law_closed.nd)
        refine de_call F1 (hr.mono (by decide)) ?_
        refine da_cons ?_
        refine de_var 0 rfl ?_
        refine da_cons ?_
        refine de_var 9 rfl ?_
        refine da_cons ?_
        refine de_var 2 rfl ?_
        refine da_nil ?_
        refine ⟨n, b, vals, R', d, rfl, n1, B, hD d hdm, C'.rn, C'.bx, C'.nd, bx_len B C'.nd C'.rn C'.bx, fun R2 o => ?_⟩
        obtain ⟨g2, C2⟩ := C'.once B hdm (hD d hdm) o
        refine db_nil ⟨R2, g2, _, rfl, C2, ?_⟩
        rcases ms_once B C' hdm (hD d hdm) o with ⟨e, hk⟩ | hlt
        · subst e
          rcases hcase with ⟨e, hk2⟩ | hlt
          · subst e
            refine .inl ⟨rfl, fun d' hd' => ?_⟩
            rw [List.take_add_one, hd] at hd'
            rcases List.mem_append.mp hd' with h | h
            · exact hk2 d' h
            · rw [List.mem_singleton.mp h]; exact hk
          · exact .inr hlt
        · rcases hcase with ⟨e, hk2⟩ | hlt2
          · subst e
            exact .inr hlt
          · exact .inr (Nat.lt_trans hlt hlt2)
      · rintro env' ⟨R', g', s9, rfl, C', hcase⟩
        rw [List.length_map, List.take_length] at hcase
        have l64 := bx_len B C'.nd C'.rn C'.bx
        refine db_cons (ds_if (dt_bool (dw_or (dt_cmp (dc_eqd Pe.rows (by decide) hr.units (de_var 2 rfl (de_var 8 rfl ⟨R', R, rfl, rfl, _, rfl, ?_⟩)))))))
        by_cases hRR : R' = R
        · rw [if_pos (decide_eq_true hRR)]
          refine db_cons (ds_ret (de_var 2 rfl (q R' ⟨⟨b, vals, g', B, C'⟩, .inl ?_⟩ C'.rn C'.bx C'.nd l64)))
          rcases hcase with ⟨_, hk⟩ | hlt
          · rw [hRR]; exact hk
          · rw [hRR] at hlt; omega
        · rw [if_neg fun h => hRR (of_decide_eq_true h)]
          have hlt : ms n vals R' < ms n vals R := hcase.elim (fun h => absurd h.1 hRR) id
          refine dw_or1 (dt_bool (dw_and (dt_val (de_var 3 rfl ⟨zb, rfl, ?_⟩))))
          cases zb with
          | false => exact db_nil (db_nil ⟨R', g', _, _, _, rfl, C', by omega⟩)
          | true =>
            refine dw_and1 (dt_cmp (dc_ind Pe.row (by decide) (room65 hr) (de_var 6 rfl (de_var 2 rfl ⟨zeroR n, R', rfl, rfl, _, rfl, ?_⟩))))
            split
            · rename_i hzm0
              have hzm : zeroR n ∈ R' := dec_of hzm0
              exact db_cons (ds_ret (de_var 2 rfl (q R' ⟨⟨b, vals, g', B, C'⟩, .inr ⟨rfl, hzm⟩⟩ C'.rn C'.bx C'.nd l64)))
            · exact db_nil (db_nil ⟨R', g', _, _, _, rfl, C', by omega⟩)
    · rintro env' ⟨R, g, s7, s8, s9, rfl, C, hms⟩
      exact absurd hms (by omega)
def phDue (ds : List D) (q : D → Prop) : Prop := ∃ (n : Int) (b : Nat) (vals : Int → List Int) (told : List Dep) (t : Dep), ds = [.int n, .lst (told.map depD), depD t] ∧ 1 ≤ n ∧ Bx n b vals ∧ (∀ d ∈ told, DepN n d) ∧ DepN n t ∧ InBx n vals (firstR n t) ∧ ∀ bb : Bool, (bb = true ↔ Fol n told t) → q (.bl bb)
theorem ok_law_due (M : MF mg) (F : FD K "_law_due" "_law_due" s_law_due f fd) (F1 : FnG P w K cA mg base "_law_closed" 4 phClosed) (F2 : FnG P w K cA mg base "_law_first" 1 phFirst2) (F3 : FnG P w K cA mg base "_law_keeps" 3 phLkeeps) : FnOk P w K mg base CX0 5 f fd ["_law_count", "_law_told_here", "_law_target"] (spD ⟨P, w, K, cA⟩ phDue) := by
  refine fn_ok F sc_law_due (fun ds q ⟨n, b, vals, told, t, h, _⟩ => by rw [h]; rfl) (by decide) (fun cdv A' outer s0 H E ds Qd hr ⟨n, b, vals, told, t, e, n1, B, hD, ht, hb, q⟩ => ?_)
  subst e
  have h0 := B.n0
  have hn := B.n4
  obtain ⟨f1, f2, f3⟩ := first_rows_ok h0 ht
  refine db_cons (ds_set 3 ?_ sc_law_due.nd)
  refine de_call F1 (hr.mono (by decide)) ?_
  refine da_cons ?_
  refine de_var 0 rfl ?_
  refine da_cons ?_
  refine de_var 1 rfl ?_
  refine da_cons ?_
  refine de_call F2 (hr.mono (by decide)) ?_
  refine da_cons ?_
  refine de_var 0 rfl ?_
  refine da_cons ?_
  refine de_var 2 rfl ?_
  refine da_nil ?_
  refine ⟨n, t, rfl, h0, hn, ht, ?_⟩
  refine da_cons ?_
  refine de_cmp (dc_eq ?_)
  refine de_ix (fun _ _ => rfl) ?_
  refine de_var 2 rfl ?_
  refine de_int ?_
  refine at_dep0 ?_
  refine de_str ?_
  refine ⟨_, ne_jd t, ?_⟩
  refine da_nil ?_
  refine ⟨n, b, vals, told, firstR n t, decide (t.cl = .jd), rfl, n1, B, hD, f1, hb, by omega, fun R C g1 g2 g3 g4 => ?_⟩
  have di := due_iff ht C
  refine db_cons (ds_if ?_)
  refine dt_cmp (dc_eq ?_)
  refine de_ix (fun _ _ => rfl) ?_
  refine de_var 2 rfl ?_
  refine de_int ?_
  refine at_dep0 ?_
  refine de_str ?_
  refine ⟨_, ne_jd t, _, rfl, ?_⟩
  by_cases hc : t.cl = .jd
  · rw [if_pos (by simp [hc])]
    cases t with
    | fd l r => cases hc
    | mvd l r => cases hc
    | jd ps =>
      refine db_cons (ds_ret ?_)
      refine de_cmp (dc_ind Pe.row (by decide) (room65 hr) ?_)
      refine de_tupleOf M.tuple_ ?_
      refine de_lcR (j := 4) rfl sc_law_due.nd (blkOk_by (N := n_law_due) (sc := defScope s_law_due) (by decide +kernel)) (fun _ _ _ _ _ => pg_name (i := 4) sc_law_due.nd rfl (by first | exact Or.inl rfl | exact Or.inr rfl)) M.range_ ?_
      refine de_var 0 rfl ?_
      refine ⟨n, fun _ => true, fun _ => .int 0, rfl, h0, by omega, ⟨fun k hk _ _ _ _ _ => di_nil rfl, fun k hk _ _ _ _ _ _ => de_int rfl⟩, _, rfl, ?_⟩
      have ez : D.tup (((rgI n).filter fun _ => true).map fun _ => D.int 0) = rowD (zeroR n) := by
        rw [filter_true, ← map_zero]
        unfold rowD
        rw [List.map_map]
        rfl
      rw [ez]
      exact de_var 3 rfl ⟨zeroR n, R, rfl, rfl, q _ ⟨fun h => di.mp (dec_of h), fun h => dec_mk (di.mpr h)⟩⟩
  · rw [if_neg (by simp [hc])]
    refine db_nil ?_
    refine db_cons (ds_ret ?_)
    refine de_call F3 (hr.mono (by decide)) ?_
    refine da_cons ?_
    refine de_var 3 rfl ?_
    refine da_cons ?_
    refine de_var 2 rfl ?_
    refine da_cons ?_
    refine de_var 0 rfl ?_
    refine da_nil ?_
    exact ⟨n, b, vals, R, t, rfl, n1, B, ht, g1, g2, g4, fun bb hbb => q bb (hbb.trans ((due_kp hc).symm.trans di))⟩
end

end DD
namespace DD
open PySem PySem.Spec PyProof.Rows L2
section
variable {P : Program} {w : World} {K : PySem.W.Frag} {cA : Cl → Addr} {mg : Str → Option Value} {base : Heap} {f : Addr} {fd : FuncData}
/-! ### _law_free, _law_loose -/
def LsOk (n : Int) (told : List Dep) : Stp → Prop
  | .same _ _ _ k => 0 ≤ k ∧ k < n
  | .join ix is => ∃ d, 0 ≤ ix ∧ told[ix.toNat]? = some d ∧ d.cl ≠ .fd ∧ is.length = (prt n d).length
def phFree (ds : List D) (q : D → Prop) : Prop := ∃ (v n size : Int) (told : List Dep), ds = [.int v, .int n, .lst (told.map depD), .int size] ∧ 1 ≤ n ∧ n ≤ 4 ∧ 0 < told.length ∧ told.length ≤ 10 ∧ (∀ d ∈ told, ToldN n d) ∧ 0 < size ∧ ∀ st, LsOk n told st → StpOk st → q (stD st)
theorem fit_three : ∀ {ps : List (List Int)}, FitP ps → ps.length ≤ 3
  | [_, _], _ => by simp
  | [_, _, _], _ => by simp
  | [], h => by cases h
  | [_], h => by cases h
  | _ :: _ :: _ :: _ :: _, h => by cases h
theorem ok_law_free (M : MF mg) (F : FD K "_law_free" "_law_free" s_law_free f fd) (F1 : FnG P w K cA mg base "_law_parts" 2 phParts2) : FnOk P w K mg base CX0 3 f fd ["_law_number", "_law_count", "_law_told_here", "_law_size"] (spD ⟨P, w, K, cA⟩ phFree) := by
  refine fn_ok F sc_law_free (fun ds q ⟨v, n, size, told, h, _⟩ => by rw [h]; rfl) (by decide) (fun cdv A' outer s0 H E ds Qd hr ⟨v, n, size, told, e, n1, hn, t0, t1, hT, z0, q⟩ => ?_)
  subst e
  have lp : (0 : Int) < told.length := by omega
  have m1 := Int.emod_nonneg v (Int.ne_of_gt lp)
  have m2 := Int.emod_lt_of_pos v lp
  obtain ⟨d, hd⟩ : ∃ d, told[(v % (told.length : Int)).toNat]? = some d := ⟨_, List.getElem?_eq_getElem (by omega)⟩
  have dT := hT d (List.mem_of_getElem? hd)
  refine db_cons (ds_set 4 ?_ sc_law_free.nd)
  refine de_mod ?_
  refine de_var 0 rfl ?_
  refine de_len M.len_ ?_
  refine de_var 2 rfl ?_
  refine ⟨_, rfl, ?_⟩
  rw [List.length_map]
  refine ⟨lp, ?_⟩
  refine db_cons (ds_set 0 ?_ sc_law_free.nd)
  refine de_fdiv ?_
  refine de_var 0 rfl ?_
  refine de_len M.len_ ?_
  refine de_var 2 rfl ?_
  refine ⟨_, rfl, ?_⟩
  rw [List.length_map]
  refine ⟨⟨lp, by omega⟩, ?_⟩
  generalize v % (told.length : Int) = ix at *
  generalize v / (told.length : Int) = v at *
  refine db_cons (ds_if ?_)
  refine dt_cmp (dc_eq ?_)
  refine de_ix (fun _ _ => rfl) ?_
  refine de_ix (fun _ _ => rfl) ?_
  refine de_var 2 rfl ?_
  refine de_var 4 rfl ?_
  refine at_lst (enc := depD) m1 hd ?_
  refine de_int ?_
  refine at_dep0 ?_
  refine de_str ?_
  refine ⟨_, ne_fd d, _, rfl, ?_⟩
  by_cases hc : d.cl = .fd
  · rw [if_pos (by simp [hc])]
    have np : (0 : Int) < n := by omega
    have k1 := Int.emod_nonneg (v / 1000) (Int.ne_of_gt np)
    have k2 := Int.emod_lt_of_pos (v / 1000) np
    refine db_cons (ds_ret ?_)
    refine de_tup ?_
    refine da_cons ?_
    refine de_str ?_
    refine da_cons ?_
    refine de_var 4 rfl ?_
    refine da_cons ?_
    refine de_mod ?_
    refine de_var 0 rfl ?_
    refine de_var 3 rfl ?_
    refine ⟨z0, ?_⟩
    refine da_cons ?_
    refine de_mod ?_
    refine de_fdiv ?_
    refine de_var 0 rfl ?_
    refine de_int ?_
    refine ⟨⟨by decide, by decide⟩, ?_⟩
    refine de_var 3 rfl ?_
    refine ⟨z0, ?_⟩
    refine da_cons ?_
    refine de_mod ?_
    refine de_fdiv ?_
    refine de_var 0 rfl ?_
    refine de_int ?_
    refine ⟨⟨by decide, by decide⟩, ?_⟩
    refine de_var 1 rfl ?_
    refine ⟨np, ?_⟩
    refine da_nil ?_
    refine ⟨by simp, ?_⟩
    exact q (.same ix (v % size) (v / 10 % size) (v / 1000 % n)) ⟨k1, k2⟩ trivial
  · rw [if_neg (by simp [hc])]
    have l3 := fit_three (dT.2 hc)
    refine db_nil ?_
    refine db_cons (ds_set 5 ?_ sc_law_free.nd)
    refine de_call F1 (hr.mono (by decide)) ?_
    refine da_cons ?_
    refine de_var 1 rfl ?_
    refine da_cons ?_
    refine de_ix (fun _ _ => rfl) ?_
    refine de_var 2 rfl ?_
    refine de_var 4 rfl ?_
    refine at_lst (enc := depD) m1 hd ?_
    refine da_nil ?_
    refine ⟨n, d, rfl, by omega, hn, dT.1, hc, ?_⟩
    let cs : List Int := [1, 10, 100]
    have hcs : ∀ c ∈ cs, 0 < c ∧ c < 1073741824 := by decide
    refine db_cons (ds_ret ?_)
    refine de_tup ?_
    refine da_cons ?_
    refine de_str ?_
    refine da_cons ?_
    refine de_var 4 rfl ?_
    refine da_cons ?_
    refine de_tupleOf M.tuple_ ?_
    refine de_lcR (j := 6) rfl sc_law_free.nd (blkOk_by (N := n_law_free) (sc := defScope s_law_free) (by decide +kernel)) (fun _ _ _ _ _ => pg_name (i := 6) sc_law_free.nd rfl (by first | exact Or.inl rfl | exact Or.inr rfl)) M.range_ ?_
    refine de_len M.len_ ?_
    refine de_var 5 rfl ?_
    refine ⟨_, rfl, ?_⟩
    rw [List.length_map]
    refine ⟨((prt n d).length : Int), fun _ => true, fun k => .int (v / cel cs k % size), rfl, by omega, by omega, ⟨fun k hk _ _ _ _ _ => di_nil rfl, fun k hk _ _ _ _ _ _ => de_mod (de_fdiv (de_var 0 rfl (de_ix (fun _ _ => rfl) (de_lst ?_))))⟩, _, rfl, ?_⟩
    · have kk := rgI_mem.mp hk
      have kl : k < cs.length := by show k < 3; omega
      have hc := hcs _ (cel_mem kk.1 kl)
      refine da_cons ?_
      refine de_int ?_
      refine da_cons ?_
      refine de_int ?_
      refine da_cons ?_
      refine de_int ?_
      refine da_nil ?_
      refine ⟨by simp, ?_⟩
      refine de_var 6 rfl ?_
      refine ⟨_, at_cel (r := cs) kk.1 kl, ?_⟩
      refine ⟨⟨hc.1, hc.2⟩, ?_⟩
      refine de_var 3 rfl ?_
      exact ⟨z0, rfl⟩
    · rw [filter_true]
      refine da_nil ⟨by simp, ?_⟩
      have es : D.tup ((rgI ((prt n d).length : Int)).map fun k => D.int (v / cel cs k % size)) = rowD ((rgI ((prt n d).length : Int)).map fun k => v / cel cs k % size) := by unfold rowD; rw [List.map_map]; rfl
      have es2 : D.tup [.str "join", .int ix, D.tup ((rgI ((prt n d).length : Int)).map fun k => D.int (v / cel cs k % size))] = stD (.join ix ((rgI ((prt n d).length : Int)).map fun k => v / cel cs k % size)) := by rw [es]; rfl
      rw [es2]
      have ll : ((rgI ((prt n d).length : Int)).map fun k => v / cel cs k % size).length = (prt n d).length := by rw [List.length_map, rgI_len]; omega
      exact q _ ⟨d, m1, hd, hc, ll⟩ (by show _ ≤ 1000; omega)
theorem putI_any {k v : Int} : ∀ {ks vs : List Int}, vs.length = ks.length → ∃ ks' vs' : List Int, putI ks (vs.map D.int) k (.int v) = (ks', vs'.map D.int) ∧ vs'.length = ks'.length ∧ (∀ z, z ∈ ks' ↔ z = k ∨ z ∈ ks) ∧ ks'.length ≤ ks.length + 1
  | [], [], _ => ⟨[k], [v], rfl, rfl, fun z => by simp, by simp⟩
  | [], _ :: _, h => by simp at h
  | _ :: _, [], h => by simp at h
  | k0 :: ks, v0 :: vs, h => by
    by_cases e : k0 = k
    · subst e
      refine ⟨k0 :: ks, v :: vs, ?_, by simpa using h, fun z => by simp, by simp⟩
      show (if k0 = k0 then _ else _) = _
      rw [if_pos rfl]
      rfl
    · obtain ⟨ks', vs', a1, a2, a3, a4⟩ := putI_any (k := k) (v := v) (show vs.length = ks.length by simpa using h)
      refine ⟨k0 :: ks', v0 :: vs', ?_, by simp [a2], fun z => ?_, by simp; omega⟩
      · show (if k0 = k then _ else _) = _
        rw [if_neg e]
        show ((k0 :: (putI ks (vs.map D.int) k (.int v)).1), (D.int v0 :: (putI ks (vs.map D.int) k (.int v)).2)) = _
        rw [a1]
        rfl
      · simp only [List.mem_cons]
        rw [a3]
        constructor
        · rintro (h | h | h)
          · exact .inr (.inl h)
          · exact .inl h
          · exact .inr (.inr h)
        · rintro (h | h | h)
          · exact .inr (.inl h)
          · exact .inl h
          · exact .inr (.inr h)
def phLoose (ds : List D) (q : D → Prop) : Prop := ∃ (n : Int) (told : List Dep) (rows : List (List Int)) (st : Stp), ds = [.int n, .lst (told.map depD), rowsD rows, stD st] ∧ 0 ≤ n ∧ n ≤ 4 ∧ (∀ d ∈ told, ToldN n d) ∧ LsOk n told st ∧ RowsN n rows ∧ 0 < rows.length ∧ rows.length ≤ 900 ∧ ∀ rows', RowsN n rows' → rows.length ≤ rows'.length → rows'.length ≤ rows.length + 1 → q (rowsD rows')
theorem ok_law_loose (M : MF mg) (F : FD K "_law_loose" "_law_loose" s_law_loose f fd) (F1 : FnG P w K cA mg base "_law_parts" 2 phParts2) : FnOk P w K mg base CX0 3 f fd ["_law_count", "_law_told_here", "_law_rows", "_law_step_here"] (spD ⟨P, w, K, cA⟩ phLoose) := by
  refine fn_ok F sc_law_loose (fun ds q ⟨n, told, rows, st, h, _⟩ => by rw [h]; rfl) (by decide) (fun cdv A' outer s0 H E ds Qd hr ⟨n, told, rows, st, e, h0, hn, hT, hst, hR, hr1, hz, q⟩ => ?_)
  subst e
  have lp : (0 : Int) < rows.length := by omega
  have rin : ∀ i : Int, inR rows (i % (rows.length : Int)) = true := fun i => inR_iff.mpr ⟨Int.emod_nonneg i (Int.ne_of_gt lp), Int.emod_lt_of_pos i lp⟩
  cases st with
  | same ix i j k =>
    obtain ⟨k0, k1⟩ := hst
    refine db_cons (ds_if ?_)
    refine dt_cmp (dc_eq ?_)
    refine de_ix (fun _ _ => rfl) ?_
    refine de_var 3 rfl ?_
    refine de_int ?_
    refine ⟨_, rfl, ?_⟩
    refine de_str ?_
    refine ⟨true, rfl, true, rfl, ?_⟩
    refine db_cons (ds_set 4 ?_ sc_law_loose.nd)
    refine de_ix (fun _ _ => rfl) ?_
    refine de_var 3 rfl ?_
    refine de_int ?_
    refine ⟨_, rfl, ?_⟩
    refine db_cons (ds_set 5 ?_ sc_law_loose.nd)
    refine de_lcT (j := 7) rfl sc_law_loose.nd (blkOk_by (N := n_law_loose) (sc := defScope s_law_loose) (by decide +kernel)) (fun _ _ _ _ _ => pg_name (i := 7) sc_law_loose.nd rfl (by first | exact Or.inl rfl | exact Or.inr rfl)) ?_
    refine de_slBoth ?_
    refine de_var 3 rfl ?_
    refine de_int ?_
    refine ⟨2, rfl, ?_⟩
    refine de_int ?_
    refine ⟨4, rfl, .inl ⟨_, rfl, ?_⟩⟩
    refine ⟨Int, [i, j], D.int, fun _ => true, fun i => .int (cel (rowAt rows (i % (rows.length : Int))) k), rfl, by simp, ⟨fun k hk _ _ _ _ _ => di_nil rfl, fun i hi _ _ _ _ _ _ => ?_⟩, ?_⟩
    · refine de_ix (fun _ _ => rfl) ?_
      refine de_ix (fun _ _ => rfl) ?_
      refine de_var 2 rfl ?_
      refine de_mod ?_
      refine de_var 7 rfl ?_
      refine de_len M.len_ ?_
      refine de_var 2 rfl ?_
      refine ⟨_, rfl, ?_⟩
      rw [List.length_map]
      refine ⟨lp, at_trow (rin i) ?_⟩
      have := rowAt_len hR (rin i)
      exact de_var 4 rfl (ix_in (.inl rfl) k0 (by omega) rfl)
    · rw [filter_true]
      generalize ea : cel (rowAt rows (i % (rows.length : Int))) k = a
      generalize eb : cel (rowAt rows (j % (rows.length : Int))) k = b
      have e5 : D.lst ([i, j].map fun i => D.int (cel (rowAt rows (i % (rows.length : Int))) k)) = lrowD [a, b] := by
        show D.lst [D.int (cel (rowAt rows (i % (rows.length : Int))) k), D.int (cel (rowAt rows (j % (rows.length : Int))) k)] = _
        rw [ea, eb]
        rfl
      rw [e5]
      let Fx : List Int → List Int := fun x => x.set k.toNat (if cel x k = max a b then min a b else cel x k)
      have fin : RowsN n (rows.map Fx) := fun x hx => by
        obtain ⟨y, hy, rfl⟩ := List.mem_map.mp hx
        show (y.set _ _).length = _
        rw [List.length_set]
        exact hR y hy
      refine db_cons (ds_ret ?_)
      refine de_lcL (j := 8) rfl sc_law_loose.nd (blkOk_by (N := n_law_loose) (sc := defScope s_law_loose) (by decide +kernel)) (fun _ _ _ _ _ => pg_name (i := 8) sc_law_loose.nd rfl (by first | exact Or.inl rfl | exact Or.inr rfl)) ?_
      refine de_var 2 rfl ?_
      refine ⟨_, rows, rowD, fun _ => true, fun x => rowD (Fx x), rfl, by omega, ⟨fun k hk _ _ _ _ _ => di_nil rfl, fun x hx _ _ _ _ _ _ => ?_⟩, ?_⟩
      · have xl := hR x hx
        refine de_add (de_add (de_slTo (de_var 8 rfl (de_var 4 rfl ⟨k.toNat, by rw [show ((k.toNat : Nat) : Int) = k by omega], .inl ⟨_, rfl, ?_⟩⟩))))
        refine de_tup ?_
        refine da_cons ?_
        refine de_ix (fun _ _ => rfl) ?_
        refine de_lst ?_
        refine da_cons ?_
        refine de_ix (fun _ _ => rfl) ?_
        refine de_var 8 rfl ?_
        refine de_var 4 rfl ?_
        refine ix_in (.inl rfl) k0 (by omega) ?_
        refine da_cons ?_
        refine de_minL rfl M.min_ ?_
        refine de_var 5 rfl ?_
        refine ⟨[a, b], rfl, (by simp), fun mn hmn hmn2 => ?_⟩
        refine da_nil ?_
        refine ⟨by simp, ?_⟩
        refine de_intOf M.int_ ?_
        refine de_cmp (dc_eq ?_)
        refine de_ix (fun _ _ => rfl) ?_
        refine de_var 8 rfl ?_
        refine de_var 4 rfl ?_
        refine ix_in (.inl rfl) k0 (by omega) ?_
        refine de_maxL rfl M.max_ ?_
        refine de_var 5 rfl ?_
        refine ⟨[a, b], rfl, (by simp), fun mx hmx hmx2 => ?_⟩
        refine ⟨_, rfl, ?_⟩
        have emx : mx = max a b := by
          have q1 := hmx2 a (by simp)
          have q2 := hmx2 b (by simp)
          rcases List.mem_cons.mp hmx with e | e
          · omega
          · have := List.mem_singleton.mp e; omega
        have emn : mn = min a b := by
          have q1 := hmn2 a (by simp)
          have q2 := hmn2 b (by simp)
          rcases List.mem_cons.mp hmn with e | e
          · omega
          · have := List.mem_singleton.mp e; omega
        subst emx
        subst emn
        have fin3 : ∀ u : Int, u = (if cel x k = max a b then min a b else cel x k) → D.tup (((x.map D.int).take k.toNat ++ [.int u]) ++ (x.map D.int).drop (k.toNat + 1)) = rowD (Fx x) := fun u hu => by
          rw [List.append_assoc, cut_set k0 (by omega), hu]
        by_cases hcx : cel x k = max a b
        · rw [decide_eq_true hcx]
          refine ⟨_, rfl, da_nil ⟨by simp, by simp; omega, ?_⟩⟩
          refine de_slFrom (de_var 8 rfl (de_add (de_var 4 rfl (de_int ⟨k.toNat + 1, by rw [show ((k.toNat + 1 : Nat) : Int) = k + 1 by omega], .inl ⟨_, rfl, by simp; omega, ?_⟩⟩))))
          exact fin3 _ (if_pos hcx).symm
        · rw [decide_eq_false hcx]
          refine ⟨_, rfl, da_nil ⟨by simp, by simp; omega, ?_⟩⟩
          refine de_slFrom (de_var 8 rfl (de_add (de_var 4 rfl (de_int ⟨k.toNat + 1, by rw [show ((k.toNat + 1 : Nat) : Int) = k + 1 by omega], .inl ⟨_, rfl, by simp; omega, ?_⟩⟩))))
          exact fin3 _ (if_neg hcx).symm
      · rw [filter_true]
        have e8 : (rows.map fun x => rowD (Fx x)) = (rows.map Fx).map rowD := by rw [List.map_map]; rfl
        rw [e8]
        exact q _ fin (by rw [List.length_map]; omega) (by rw [List.length_map]; omega)
  | join ix is =>
    obtain ⟨d, x0, hd, hc, hl⟩ := hst
    have dT := hT d (List.mem_of_getElem? hd)
    have po := prt_ok dT.1 hc
    refine db_cons (ds_if ?_)
    refine dt_cmp (dc_eq ?_)
    refine de_ix (fun _ _ => rfl) ?_
    refine de_var 3 rfl ?_
    refine de_int ?_
    refine ⟨_, rfl, ?_⟩
    refine de_str ?_
    refine ⟨false, rfl, false, rfl, ?_⟩
    refine db_nil (db_cons (ds_newD 5 (fun dc => ?_) sc_law_loose.nd))
    refine db_cons (ds_set 6 ?_ sc_law_loose.nd)
    refine de_call F1 (hr.mono (by decide)) ?_
    refine da_cons ?_
    refine de_var 0 rfl ?_
    refine da_cons ?_
    refine de_ix (fun _ _ => rfl) ?_
    refine de_var 1 rfl ?_
    refine de_ix (fun _ _ => rfl) ?_
    refine de_var 3 rfl ?_
    refine de_int ?_
    refine ⟨_, rfl, ?_⟩
    refine at_lst (enc := depD) x0 hd ?_
    refine da_nil ?_
    refine ⟨n, d, rfl, h0, hn, dT.1, hc, ?_⟩
    generalize hps : prt n d = ps at *
    have p4 := po.four
    refine db_cons (ds_forR rfl (pg_name (i := 7) sc_law_loose.nd rfl (by first | exact Or.inl rfl | exact Or.inr rfl)) M.range_ ?_)
    refine de_len M.len_ ?_
    refine de_var 6 rfl ?_
    refine ⟨_, rfl, ?_⟩
    rw [List.length_map]
    refine ⟨(ps.length : Int), fun m env' => ∃ (ks vs : List Int) (s4 s7 : Sl), env' = [.dat (.int n), .dat (.lst (told.map depD)), .dat (rowsD rows), .dat (stD (.join ix is)), s4, .od dc ks (vs.map D.int), .dat (trowsD ps), s7, .no] ∧ vs.length = ks.length ∧ ks.length ≤ 4 * m ∧ ∀ m' p, m' < m → ps[m']? = some p → ∀ k ∈ p, k ∈ ks, rfl, by omega, by omega, ⟨[], [], _, _, rfl, rfl, Nat.le_refl _, fun m' p h => by omega⟩, ?_, ?_⟩
    · rintro m env' hm ⟨ks, vs, s4, s7, rfl, hv, hkl, hks⟩
      have hml : m < ps.length := by omega
      have hmi : m < is.length := by omega
      have gp : ps[m]? = some ps[m] := List.getElem?_eq_getElem hml
      have gi : is[m]? = some is[m] := List.getElem?_eq_getElem hmi
      have pset := po.st ps[m] (List.getElem_mem hml)
      have pl4 := pset.in64 hn
      generalize hp : ps[m] = p at *
      generalize hi : is[m] = i at *
      have ixI : ∀ {Q : D → Prop}, Q (.int i) → ixD (rowD is) (.int (m : Int)) Q := fun {Q} hq => at_lst (enc := D.int) (by omega) (by rw [show ((m : Int)).toNat = m by omega]; exact gi) hq
      have ixP : ∀ {Q : D → Prop}, Q (rowD p) → ixD (trowsD ps) (.int (m : Int)) Q := fun {Q} hq => at_lst (enc := rowD) (by omega) (by rw [show ((m : Int)).toNat = m by omega]; exact gp) hq
      refine db_cons (ds_forT rfl (pg_name (i := 4) sc_law_loose.nd rfl (by first | exact Or.inl rfl | exact Or.inr rfl)) ?_)
      refine de_ix (fun _ _ => rfl) ?_
      refine de_var 6 rfl ?_
      refine de_var 7 rfl ?_
      refine ixP ?_
      refine ⟨p.map D.int, fun z env' => ∃ (ks' vs' : List Int) (s4 : Sl), env' = [.dat (.int n), .dat (.lst (told.map depD)), .dat (rowsD rows), .dat (stD (.join ix is)), s4, .od dc ks' (vs'.map D.int), .dat (trowsD ps), .dat (.int (m : Int)), .no] ∧ vs'.length = ks'.length ∧ ks'.length ≤ ks.length + z ∧ (∀ k ∈ ks, k ∈ ks') ∧ ∀ k ∈ p.take z, k ∈ ks', rfl, ⟨ks, vs, _, rfl, hv, Nat.le_refl _, fun k hk => hk, fun k hk => by simp at hk⟩, ?_, ?_⟩
      · rintro z dk env' hzk ⟨ks', vs', s4, rfl, hv', hkl', hks1, hks2⟩
        rw [List.getElem?_map] at hzk
        obtain ⟨k, hk, rfl⟩ := Option.map_eq_some_iff.mp hzk
        have kk := pset.2 k (List.mem_of_getElem? hk)
        have hzl := (List.getElem?_eq_some_iff.mp hk).1
        have rl := rowAt_len hR (rin i)
        obtain ⟨ks2, vs2, a1, a2, a3, a4⟩ := putI_any (k := k) (v := cel (rowAt rows (i % (rows.length : Int))) k) hv'
        refine db_cons (ds_putD 5 (room1 hr) rfl (by omega) ?_)
        refine de_ix (fun _ _ => rfl) ?_
        refine de_ix (fun _ _ => rfl) ?_
        refine de_var 2 rfl ?_
        refine de_mod ?_
        refine de_ix (fun _ _ => rfl) ?_
        refine de_ix (fun _ _ => rfl) ?_
        refine de_var 3 rfl ?_
        refine de_int ?_
        refine ⟨_, rfl, ?_⟩
        refine de_var 7 rfl ?_
        refine ixI ?_
        refine de_len M.len_ ?_
        refine de_var 2 rfl ?_
        refine ⟨_, rfl, ?_⟩
        rw [List.length_map]
        refine ⟨lp, at_trow (rin i) ?_⟩
        refine de_var 4 rfl ?_
        refine ix_in (.inl rfl) kk.1 (by omega) ?_
        refine de_var 4 rfl ?_
        refine ⟨k, rfl, ?_⟩
        rw [a1]
        refine db_nil ⟨ks2, vs2, _, rfl, a2, by omega, fun k' hk' => (a3 k').mpr (.inr (hks1 k' hk')), fun k' hk' => ?_⟩
        rw [List.take_add_one, hk] at hk'
        rcases List.mem_append.mp hk' with h | h
        · exact (a3 k').mpr (.inr (hks2 k' h))
        · simp at h; exact (a3 k').mpr (.inl h)
      · rintro env' ⟨ks', vs', s4, rfl, hv', hkl', hks1, hks2⟩
        rw [List.length_map] at hkl' hks2
        rw [List.take_length] at hks2
        refine db_nil ⟨ks', vs', _, _, rfl, hv', by omega, fun m' p' hm' hp' k hk => ?_⟩
        by_cases hmm : m' = m
        · subst hmm
          rw [gp] at hp'
          cases hp'
          exact hks2 k hk
        · exact hks1 k (hks m' p' (by omega) hp' k hk)
    · rintro env' ⟨ks, vs, s4, s7, rfl, hv, hkl, hks⟩
      have all : ∀ k, 0 ≤ k → k < n → k ∈ ks := fun k k0 k1 => by
        obtain ⟨p, hp, hk⟩ := po.cov k k0 k1
        obtain ⟨m, hm, rfl⟩ := List.getElem_of_mem hp
        exact hks m ps[m] (by omega) (List.getElem?_eq_getElem hm) k hk
      refine db_cons (ds_ret ?_)
      refine de_add ?_
      refine de_var 2 rfl ?_
      refine de_lst ?_
      refine da_cons ?_
      refine de_tupleOf M.tuple_ ?_
      refine de_lcR (j := 4) rfl sc_law_loose.nd (blkOk_by (N := n_law_loose) (sc := defScope s_law_loose) (by decide +kernel)) (fun _ _ _ _ _ => pg_name (i := 4) sc_law_loose.nd rfl (by first | exact Or.inl rfl | exact Or.inr rfl)) M.range_ ?_
      refine de_var 0 rfl ?_
      refine ⟨n, fun _ => true, fun k => .int (vs.getD (ks.idxOf k) 0), rfl, h0, by omega, ⟨fun k hk _ _ _ _ _ => di_nil rfl, fun k hk _ _ _ _ _ _ => de_dgetO 5 (room1 hr) rfl (fun _ _ => rfl) (de_var 4 rfl ?_)⟩, _, rfl, da_nil ⟨by simp, by simp; omega, ?_⟩⟩
      · have hm := all k (rgI_mem.mp hk).1 (rgI_mem.mp hk).2
        have hil := List.idxOf_lt_length_of_mem hm
        have e1 : ks[ks.idxOf k]? = some k := by rw [List.getElem?_eq_getElem hil, List.getElem_idxOf hil]
        refine ⟨k, ks.idxOf k, .int (vs.getD (ks.idxOf k) 0), rfl, e1, ?_, rfl⟩
        rw [List.getElem?_map, List.getD_eq_getElem?_getD, List.getElem?_eq_getElem (by omega : ks.idxOf k < vs.length)]
        rfl
      · rw [filter_true]
        generalize hg : (fun k => vs.getD (ks.idxOf k) 0) = g
        have e1 : ((rgI n).map fun k => D.int (vs.getD (ks.idxOf k) 0)) = ((rgI n).map g).map D.int := by rw [← hg, List.map_map]; rfl
        rw [e1]
        have e2 : rows.map rowD ++ [rowD ((rgI n).map g)] = (rows ++ [(rgI n).map g]).map rowD := by rw [List.map_append]; rfl
        show Qd (.lst (rows.map rowD ++ [rowD ((rgI n).map g)]))
        rw [e2]
        refine q _ (fun x hx => ?_) (by simp) (by simp)
        rcases List.mem_append.mp hx with h | h
        · exact hR x h
        · rw [List.mem_singleton.mp h]; exact len_rg
end

end DD
namespace DD
open PySem PySem.Spec PyProof.Rows L2
section
variable {P : Program} {w : World} {K : PySem.W.Frag} {cA : Cl → Addr} {mg : Str → Option Value} {base : Heap} {f : Addr} {fd : FuncData}
/-! ### _law_near, _law_is_true -/
theorem cut_setR {ps : List (List Int)} {k : Nat} {p : List Int} (hk : k < ps.length) : (ps.map rowD).take k ++ ([rowD p] ++ (ps.map rowD).drop (k + 1)) = (ps.set k p).map rowD := by
  rw [List.set_eq_take_append_cons_drop, if_pos hk, List.map_append, List.map_cons, List.map_take, List.map_drop]
  rfl
theorem dep_set {n : Int} {ps : List (List Int)} {k : Nat} {p : List Int} (hd : DepN n (.jd ps)) (hk : k < ps.length) (hp : SetN n p) (hs : ∀ z ∈ ps[k], z ∈ p) : DepN n (.jd (ps.set k p)) := by
  refine ⟨fun q hq => ?_, by rw [List.length_set]; exact hd.2.1, by rw [List.length_set]; exact hd.2.2.1, fun z z0 z1 => ?_⟩
  · rcases List.mem_or_eq_of_mem_set hq with h | h
    · exact hd.1 q h
    · rw [h]; exact hp
  · obtain ⟨q, hq, hz⟩ := hd.2.2.2 z z0 z1
    obtain ⟨m, hm, rfl⟩ := List.getElem_of_mem hq
    have hm2 : m < (ps.set k p).length := by rw [List.length_set]; exact hm
    refine ⟨(ps.set k p)[m], List.getElem_mem hm2, ?_⟩
    rw [List.getElem_set]
    by_cases e : k = m
    · subst e
      rw [if_pos rfl]
      exact hs z hz
    · rw [if_neg e]
      exact hz
def phNear (ds : List D) (q : D → Prop) : Prop := ∃ (ns : List Int) (pl n : Int) (told : List Dep) (t : Dep) (sts : List Stp), ds = [lrowD ns, .int pl, .int n, .lst (told.map depD), depD t, .lst (sts.map stD)] ∧ NumOk ns ∧ 0 ≤ pl ∧ pl < 21 ∧ 1 ≤ n ∧ n ≤ 4 ∧ (∀ d ∈ told, ToldN n d) ∧ DepN n t ∧ (∀ st ∈ sts, LsOk n told st) ∧ sts.length ≤ 20 ∧ ∀ t', DepN n t' → (t'.cl = .jd → t.cl = .jd) → q (depD t')
theorem ok_law_near (M : MF mg) (F : FD K "_law_near" "_law_near" s_law_near f fd) (F1 : FnG P w K cA mg base "_law_united" 1 phUn2) (F2 : FnG P w K cA mg base "_law_first" 1 phFirst2) (F3 : FnG P w K cA mg base "_law_loose" 3 phLoose) (F4 : FnG P w K cA mg base "_law_planted" 2 phPlt) :
    FnOk P w K mg base CX0 4 f fd ["_law_numbers_here", "_law_place", "_law_count", "_law_told_here", "_law_target", "_law_steps_here"] (spD ⟨P, w, K, cA⟩ phNear) := by
  refine fn_ok F sc_law_near (fun ds q ⟨ns, pl, n, told, t, sts, h, _⟩ => by rw [h]; rfl) (by decide) (fun cdv A' outer s0 H E ds Qd hr ⟨ns, pl, n, told, t, sts, e, hN, p0, p1, n1, hn, hT, ht, hS, hsl, q⟩ => ?_)
  subst e
  have h0 : 0 ≤ n := by omega
  have np : (0 : Int) < n := by omega
  have rest : ∀ {l : List Int} {P' : DEnd}, SetN n l → t.cl ≠ .jd → firstR n t = [zeroR n, markR n l] → (∀ {Q : D → Prop}, Q (rowD l) → ixD (depD t) (.int 1) Q) → P'.rt = (fun _ => Qd) → DB (bx P w K mg base n_law_near "_law_near" (defScope s_law_near) f cdv A' outer s0 H E) cA (startE n_law_near [lrowD ns, .int pl, .int n, .lst (told.map depD), depD t, .lst (sts.map stD)]) ((defBody s_law_near).drop 1) P' := by
    intro l P' hl hc hf hix hP
    obtain ⟨f1, f2, f3⟩ := first_rows_ok h0 ht
    refine db_cons (ds_set 8 ?_ sc_law_near.nd)
    refine de_call F2 (hr.mono (by decide)) ?_
    refine da_cons ?_
    refine de_var 2 rfl ?_
    refine da_cons ?_
    refine de_var 4 rfl ?_
    refine da_nil ?_
    refine ⟨n, t, rfl, h0, hn, ht, ?_⟩
    refine db_cons (ds_forL rfl (pg_name (i := 9) sc_law_near.nd rfl (by first | exact Or.inl rfl | exact Or.inr rfl)) ?_)
    refine de_var 5 rfl ?_
    refine ⟨sts.map stD, fun m env' => ∃ (r : List (List Int)) (s9 : Sl), env' = [.dat (lrowD ns), .dat (.int pl), .dat (.int n), .dat (.lst (told.map depD)), .dat (depD t), .dat (.lst (sts.map stD)), .no, .no, .dat (rowsD r), s9] ∧ RowsN n r ∧ 2 ≤ r.length ∧ r.length ≤ 4 + m, rfl, ⟨firstR n t, _, rfl, f1, f2, by omega⟩, ?_, ?_⟩
    · rintro m d env' hd ⟨r, s9, rfl, g1, g2, g3⟩
      rw [List.getElem?_map] at hd
      obtain ⟨st, hst, rfl⟩ := Option.map_eq_some_iff.mp hd
      have hml := (List.getElem?_eq_some_iff.mp hst).1
      refine db_cons (ds_set 8 ?_ sc_law_near.nd)
      refine de_call F3 (hr.mono (by decide)) ?_
      refine da_cons ?_
      refine de_var 2 rfl ?_
      refine da_cons ?_
      refine de_var 3 rfl ?_
      refine da_cons ?_
      refine de_var 8 rfl ?_
      refine da_cons ?_
      refine de_var 9 rfl ?_
      refine da_nil ?_
      refine ⟨n, told, r, st, rfl, h0, hn, hT, hS st (List.mem_of_getElem? hst), g1, by omega, by omega, fun r1 b1 b2 b3 => ?_⟩
      exact db_nil ⟨r1, _, rfl, b1, by omega, by omega⟩
    · rintro env' ⟨r, s9, rfl, g1, g2, g3⟩
      rw [List.length_map] at g3
      refine db_cons (ds_ret ?_)
      refine de_call F4 (hr.mono (by decide)) ?_
      refine da_cons ?_
      refine de_ix (fun _ _ => rfl) ?_
      refine de_var 0 rfl ?_
      refine de_var 1 rfl ?_
      refine hN.at_ p0 p1 fun x x0 x1 => ?_
      refine da_cons ?_
      refine de_ix (fun _ _ => rfl) ?_
      refine de_var 4 rfl ?_
      refine de_int ?_
      refine hix ?_
      refine da_cons ?_
      refine de_var 8 rfl ?_
      refine da_cons ?_
      refine de_var 2 rfl ?_
      refine da_nil ?_
      refine ⟨x, n, l, r, rfl, h0, hn, g1, g2, by omega, fun t' ht' => ?_⟩
      obtain ⟨d1, d2, d3⟩ := ht'.dep hl
      rw [hP]
      exact q t' d1 fun h => absurd h d2
  refine db_cons (ds_if ?_)
  refine dt_cmp (dc_eq ?_)
  refine de_ix (fun _ _ => rfl) ?_
  refine de_var 4 rfl ?_
  refine de_int ?_
  refine at_dep0 ?_
  refine de_str ?_
  refine ⟨_, ne_jd t, _, rfl, ?_⟩
  cases t with
  | fd l r => exact db_nil (rest ht.1 (by intro z; cases z) rfl (fun {Q} hq => ⟨_, rfl, hq⟩) rfl)
  | mvd l r => exact db_nil (rest ht.1 (by intro z; cases z) rfl (fun {Q} hq => ⟨_, rfl, hq⟩) rfl)
  | jd ps =>
    have p2 : 2 ≤ ps.length := ht.2.1
    have p4 : ps.length ≤ 4 := ht.2.2.1
    have lp : (0 : Int) < ps.length := by omega
    refine db_cons (ds_set 6 ?_ sc_law_near.nd)
    refine de_mod ?_
    refine de_ix (fun _ _ => rfl) ?_
    refine de_var 0 rfl ?_
    refine de_var 1 rfl ?_
    refine hN.at_ p0 p1 fun x x0 x1 => ?_
    refine de_len M.len_ ?_
    refine de_ix (fun _ _ => rfl) ?_
    refine de_var 4 rfl ?_
    refine de_int ?_
    refine ⟨_, rfl, _, rfl, ?_⟩
    rw [List.length_map]
    refine ⟨lp, ?_⟩
    have m1 := Int.emod_nonneg x (Int.ne_of_gt lp)
    have m2 := Int.emod_lt_of_pos x lp
    generalize x % (ps.length : Int) = k at *
    have hkl : k.toNat < ps.length := by omega
    have gp : ps[k.toNat]? = some ps[k.toNat] := List.getElem?_eq_getElem hkl
    have pset := ht.1 ps[k.toNat] (List.getElem_mem hkl)
    have pl4 := pset.in64 hn
    have ixP : ∀ {Q : D → Prop}, Q (rowD ps[k.toNat]) → ixD (trowsD ps) (.int k) Q := fun {Q} hq => at_lst (enc := rowD) m1 gp hq
    refine db_cons (ds_set 7 ?_ sc_law_near.nd)
    refine de_call F1 (hr.mono (by decide)) ?_
    refine da_cons ?_
    refine de_ix (fun _ _ => rfl) ?_
    refine de_ix (fun _ _ => rfl) ?_
    refine de_var 4 rfl ?_
    refine de_int ?_
    refine ⟨trowsD ps, rfl, ?_⟩
    refine de_var 6 rfl ?_
    refine ixP ?_
    refine da_cons ?_
    refine de_tup ?_
    refine da_cons ?_
    refine de_mod ?_
    refine de_fdiv ?_
    refine de_ix (fun _ _ => rfl) ?_
    refine de_var 0 rfl ?_
    refine de_var 1 rfl ?_
    refine hN.at_ p0 p1 fun y y0 y1 => ?_
    refine de_int ?_
    refine ⟨⟨by decide, by decide⟩, ?_⟩
    refine de_var 2 rfl ?_
    refine ⟨np, ?_⟩
    refine da_nil ?_
    refine ⟨by simp, ?_⟩
    refine da_nil ?_
    have c1 := Int.emod_nonneg (y / 4) (Int.ne_of_gt np)
    have c2 := Int.emod_lt_of_pos (y / 4) np
    generalize y / 4 % n = cc at *
    refine ⟨ps[k.toNat], [cc], rfl, by simp; omega, ?_⟩
    have hnew : SetN n (sdI (ps[k.toNat] ++ [cc])) := SetN.sd fun z hz => (List.mem_append.mp hz).elim (pset.2 z) fun h => by rw [List.mem_singleton.mp h]; exact ⟨c1, c2⟩
    refine db_cons (ds_ret ?_)
    refine de_tup ?_
    refine da_cons ?_
    refine de_str ?_
    refine da_cons ?_
    refine de_add ?_
    refine de_add ?_
    refine de_slTo ?_
    refine de_ix (fun _ _ => rfl) ?_
    refine de_var 4 rfl ?_
    refine de_int ?_
    refine ⟨trowsD ps, rfl, ?_⟩
    refine de_var 6 rfl ?_
    refine ⟨k.toNat, by rw [show ((k.toNat : Nat) : Int) = k by omega], .inl ⟨_, rfl, ?_⟩⟩
    refine de_tup ?_
    refine da_cons ?_
    refine de_var 7 rfl ?_
    refine da_nil ?_
    refine ⟨by simp, ?_⟩
    refine ⟨by simp; omega, ?_⟩
    refine de_slFrom ?_
    refine de_ix (fun _ _ => rfl) ?_
    refine de_var 4 rfl ?_
    refine de_int ?_
    refine ⟨trowsD ps, rfl, ?_⟩
    refine de_add ?_
    refine de_var 6 rfl ?_
    refine de_int ?_
    refine ⟨k.toNat + 1, by rw [show ((k.toNat + 1 : Nat) : Int) = k + 1 by omega], .inl ⟨_, rfl, by simp; omega, ?_⟩⟩
    refine da_nil ?_
    refine ⟨by simp, ?_⟩
    rw [List.append_assoc, cut_setR hkl]
    exact q (.jd (ps.set k.toNat (sdI (ps[k.toNat] ++ [cc])))) (dep_set ht hkl hnew fun z hz => sdI_mem.mpr (List.mem_append_left _ hz)) fun _ => rfl
def phIst (ds : List D) (q : D → Prop) : Prop := ∃ (n : Int) (told : List Dep) (t : Dep) (due : Bool) (sts : List Stp), ds = [.int n, .lst (told.map depO), depD t, .bl due, .lst (sts.map stD)] ∧ 0 ≤ n ∧ n ≤ 4 ∧ (∀ d ∈ told, DepN n d) ∧ DepN n t ∧ (∀ st ∈ sts, StpOk st) ∧ sts.length ≤ 100 ∧ (∀ rows', RunR n told (firstR n t) sts rows' → reachB n rows' t = true → due = true) ∧ q (.bl true)
theorem ok_law_is_true (M : MF mg) (F : FD K "_law_is_true" "_law_is_true" s_law_is_true f fd) (F1 : FnG P w K cA mg base "takes" 7 phTakes) (F2 : FnG P w K cA mg base "_law_object" 4 phObj) : FnOk P w K mg base CX0 8 f fd ["_law_count", "_law_objects", "_law_target", "_law_due_here", "_law_steps_here"] (spD ⟨P, w, K, cA⟩ phIst) := by
  refine fn_ok F sc_law_is_true (fun ds q ⟨n, told, t, due, sts, h, _⟩ => by rw [h]; rfl) (by decide) (fun cdv A' outer s0 H E ds Qd hr ⟨n, told, t, due, sts, e, h0, hn, hD, ht, hS, hsl, hdue, q⟩ => ?_)
  subst e
  have fin : ∀ b : Bool, (b = true → due = true) → ∀ {P' : DEnd}, P'.rt = (fun _ => Qd) → DB (bx P w K mg base n_law_is_true "_law_is_true" (defScope s_law_is_true) f cdv A' outer s0 H E) cA [.dat (.int n), .dat (.lst (told.map depO)), .dat (depD t), .dat (.bl due), .dat (.lst (sts.map stD)), .dat (.bl b)] ((defBody s_law_is_true).drop 1) P' := by
    intro b hb P' hP
    refine db_cons (ds_ret (de_and (de_isiB M.isinstance_ M.bool_ (de_var 5 rfl ⟨b, rfl, true, rfl, ?_⟩))))
    rw [if_pos rfl]
    refine de_one (de_or (de_var 3 rfl ⟨due, rfl, ?_⟩))
    cases due with
    | true => rw [if_pos rfl, hP]; exact q
    | false =>
      rw [if_neg (by decide)]
      refine de_one (de_not (de_var 5 rfl ⟨b, rfl, ?_⟩))
      cases b with
      | true => exact absurd (hb rfl) (by decide)
      | false => rw [hP]; exact q
  refine db_cons (ds_set 5 ?_ sc_law_is_true.nd)
  refine de_call F1 (hr.mono (by decide)) ?_
  refine da_cons ?_
  refine de_var 0 rfl ?_
  refine da_cons ?_
  refine de_var 1 rfl ?_
  refine da_cons ?_
  refine de_call F2 (hr.mono (by decide)) ?_
  refine da_cons ?_
  refine de_var 2 rfl ?_
  refine da_nil ?_
  refine ⟨n, t, rfl, hn, ht, ?_⟩
  refine da_cons ?_
  refine de_bl ?_
  refine da_cons ?_
  refine de_tup ?_
  refine da_cons ?_
  refine de_str ?_
  refine da_cons ?_
  refine de_tupleOf M.tuple_ ?_
  refine de_var 4 rfl ?_
  refine ⟨_, rfl, ?_⟩
  refine da_nil ?_
  refine ⟨by simp, ?_⟩
  refine da_nil ?_
  refine .inl ⟨n, told, t, sts, rfl, n, told, t, sts, rfl, h0, hn, hD, ht, hS, hsl, fun _ => fin false (fun z => by cases z) rfl, fun rows' hrun => fin _ (fun hr => hdue rows' hrun hr) rfl⟩
end

end DD
namespace DD
open PySem PySem.Spec PyProof.Rows L2
/-! ### tables: joined parts, row by row -/
def cv (c t : List Int) (k : Int) : Int := t.getD (c.idxOf k) 0
theorem cv_map {c : List Int} {f : Int → Int} {k : Int} (hk : k ∈ c) : cv c (c.map f) k = f k := by
  unfold cv
  have hl := List.idxOf_lt_length_of_mem hk
  rw [List.getD_eq_getElem?_getD, List.getElem?_map, List.getElem?_eq_getElem hl, List.getElem_idxOf hl]
  rfl
theorem idx_inc {c : List Int} (h : Inc c) {i : Nat} (hi : i < c.length) : c.idxOf c[i] = i := by
  have hl := List.idxOf_lt_length_of_mem (List.getElem_mem hi)
  have he := List.getElem_idxOf hl
  have hp := List.pairwise_iff_getElem.mp h
  rcases Nat.lt_trichotomy (c.idxOf c[i]) i with z | z | z
  · have := hp _ _ hl hi z
    omega
  · exact z
  · have := hp _ _ hi hl z
    omega
theorem cv_at {c t : List Int} (h : Inc c) (hl : t.length = c.length) {i : Nat} (hi : i < c.length) : cv c t c[i] = t[i]'(by omega) := by
  unfold cv
  rw [idx_inc h hi, List.getD_eq_getElem?_getD, List.getElem?_eq_getElem (by omega : i < t.length)]
  rfl
theorem cv_ext {c x y : List Int} (h : Inc c) (hx : x.length = c.length) (hy : y.length = c.length) (e : ∀ k ∈ c, cv c x k = cv c y k) : x = y := by
  refine List.ext_getElem (by omega) fun i h1 h2 => ?_
  have := e c[i] (List.getElem_mem (by omega))
  rw [cv_at h hx, cv_at h hy] at this
  exact this
theorem cv_self {c x : List Int} (h : Inc c) (hx : x.length = c.length) : c.map (cv c x) = x := cv_ext h (by rw [List.length_map]) hx fun k hk => cv_map hk
def Pm (R : List (List Int)) (c : List Int) (ps : List (List Int)) (t : List Int) : Prop := t.length = c.length ∧ ∀ p ∈ ps, ∃ y ∈ R, ∀ k ∈ p, cv c t k = cel y k
structure RpA (R ps : List (List Int)) (A : List Int × List (List Int)) : Prop where
  inc : Inc A.1
  cols : ∀ k, k ∈ A.1 ↔ ∃ p ∈ ps, k ∈ p
  st : StrictBy (TS.code 16) A.2
  mem : ∀ t, t ∈ A.2 ↔ Pm R A.1 ps t
theorem strict_nd {α : Type} {key : α → Int} {l : List α} (h : StrictBy key l) : l.Nodup := List.Pairwise.imp (fun {a b} (hab : key a < key b) (e : a = b) => by rw [e] at hab; omega) h
section
variable {n : Int} {b : Nat} {vals : Int → List Int} {R ps : List (List Int)}
theorem pm_val {c t : List Int} (hb : InBx n vals R) (hc : Inc c) (hcol : ∀ k, k ∈ c ↔ ∃ p ∈ ps, k ∈ p) (hcn : ∀ k ∈ c, 0 ≤ k ∧ k < n) (h : Pm R c ps t) : ∀ (j : Nat) a, t[j]? = some a → a ∈ vals (c.getD j 0) := fun j a hj => by
  obtain ⟨hl, e⟩ := List.getElem?_eq_some_iff.mp hj
  have hjc : j < c.length := by have := h.1; omega
  have gd : c.getD j 0 = c[j] := by rw [List.getD_eq_getElem?_getD, List.getElem?_eq_getElem hjc]; rfl
  have hm := List.getElem_mem hjc
  obtain ⟨p, hp, hk⟩ := (hcol _).mp hm
  obtain ⟨y, hy, ey⟩ := h.2 p hp
  have kk := hcn _ hm
  have := ey _ hk
  rw [cv_at hc h.1 hjc, e] at this
  rw [gd, this]
  exact hb y hy _ kk.1 kk.2
theorem pm_ok {c : List Int} {T : List (List Int)} (B : Bx n b vals) (hb : InBx n vals R) (hc : Inc c) (hcol : ∀ k, k ∈ c ↔ ∃ p ∈ ps, k ∈ p) (hcn : ∀ k ∈ c, 0 ≤ k ∧ k < n) (h : ∀ t ∈ T, Pm R c ps t) : RowsOk c.length T := fun t ht => by
  refine ⟨(h t ht).1, fun m hm => ?_⟩
  obtain ⟨j, hj⟩ := List.getElem?_of_mem hm
  exact B.bd _ m (pm_val hb hc hcol hcn (h t ht) j m hj)
theorem inc_len {c : List Int} (hc : Inc c) (hcn : ∀ k ∈ c, 0 ≤ k ∧ k < n) : c.length ≤ n.toNat := SetN.len (n := n) ⟨hc, hcn⟩
theorem pm_len {c : List Int} {T : List (List Int)} (B : Bx n b vals) (hb0 : 0 < b) (hb : InBx n vals R) (hc : Inc c) (hcol : ∀ k, k ∈ c ↔ ∃ p ∈ ps, k ∈ p) (hcn : ∀ k ∈ c, 0 ≤ k ∧ k < n) (nd : T.Nodup) (h : ∀ t ∈ T, Pm R c ps t) : T.length ≤ 64 := by
  refine Nat.le_trans (box_len (b := b) (m := c.length) (vs := fun j => vals (c.getD j 0)) (fun j => B.few _) nd fun t ht => ⟨(h t ht).1, pm_val hb hc hcol hcn (h t ht)⟩) ?_
  exact Nat.le_trans (Nat.pow_le_pow_right hb0 (inc_len hc hcn)) B.pw
theorem jt1_rp {p : List Int} (B : Bx n b vals) (hb : InBx n vals R) (hR : RowsN n R) (hp : SetN n p) : RpA R [p] (jt1 (rgI n) (sdR R) p) := by
  have hok : RowsOk n.toNat R := fun r hr => ⟨hR r hr, fun m hm => by
    obtain ⟨j, hj⟩ := List.getElem?_of_mem hm
    have hl := (List.getElem?_eq_some_iff.mp hj).1
    have := hb r hr (j : Int) (by omega) (by have := hR r hr; omega)
    unfold cel at this
    rw [show ((j : Int)).toNat = j by omega, List.getD_eq_getElem?_getD, hj] at this
    exact B.bd _ m this⟩
  have mem0 : ∀ t, (t ∈ (sdR R).map fun r => pk (rgI n) r p) ↔ Pm R p [p] t := fun t => by
    constructor
    · intro h
      obtain ⟨y, hy, rfl⟩ := List.mem_map.mp h
      rw [pk_rg hp.2]
      refine ⟨by rw [List.length_map], fun q hq => ?_⟩
      rw [List.mem_singleton.mp hq]
      exact ⟨y, (sdR_mem hok).mp hy, fun k hk => cv_map hk⟩
    · rintro ⟨hl, h⟩
      obtain ⟨y, hy, e⟩ := h p (List.mem_singleton.mpr rfl)
      refine List.mem_map.mpr ⟨y, (sdR_mem hok).mpr hy, ?_⟩
      rw [pk_rg hp.2]
      refine cv_ext hp.1 (by rw [List.length_map]) hl fun k hk => ?_
      rw [cv_map hk, e k hk]
  have hcol : ∀ k, k ∈ p ↔ ∃ q ∈ [p], k ∈ q := fun k => by simp
  have ok1 := pm_ok (T := (sdR R).map fun r => pk (rgI n) r p) B hb hp.1 hcol hp.2 fun t ht => (mem0 t).mp ht
  exact ⟨hp.1, hcol, sdR_strict _, fun t => (sdR_mem ok1).trans (mem0 t)⟩
theorem join_rp {p : List Int} {A Bt : List Int × List (List Int)} (B : Bx n b vals) (hb0 : 0 < b) (hb : InBx n vals R) (hps : ∀ q ∈ ps, ∀ k ∈ q, 0 ≤ k ∧ k < n) (hp : SetN n p) (hA : RpA R ps A) (hB : RpA R [p] Bt) (hBp : Bt.1 = p) :
    RpA R (ps ++ [p]) (jtJ A Bt) ∧ (sdI (A.1 ++ p)).length ≤ 10 ∧ (joinL A Bt).length ≤ 64 := by
  obtain ⟨pB, TB⟩ := Bt
  simp only at hBp
  subst hBp
  have hcI : Inc (sdI (A.1 ++ pB)) := sdI_strict _
  have hcol : ∀ k, k ∈ sdI (A.1 ++ pB) ↔ ∃ q ∈ ps ++ [pB], k ∈ q := fun k => by
    rw [un_mem, hA.cols]
    constructor
    · rintro (⟨q, hq, hk⟩ | hk)
      · exact ⟨q, List.mem_append_left _ hq, hk⟩
      · exact ⟨pB, by simp, hk⟩
    · rintro ⟨q, hq, hk⟩
      rcases List.mem_append.mp hq with h | h
      · exact .inl ⟨q, h, hk⟩
      · rw [List.mem_singleton.mp h] at hk; exact .inr hk
  have hcn : ∀ k ∈ sdI (A.1 ++ pB), 0 ≤ k ∧ k < n := fun k hk => by
    rcases un_mem.mp hk with h | h
    · obtain ⟨q, hq, hk⟩ := (hA.cols k).mp h
      exact hps q hq k hk
    · exact hp.2 k h
  have eqA : ∀ {x y z k}, k ∈ sdI (A.1 ++ pB) → z = mixR A.1 pB (sdI (A.1 ++ pB)) x y → cv (sdI (A.1 ++ pB)) z k = if k ∈ A.1 then cv A.1 x k else cv pB y k := fun {x y z k} hk e => by
    rw [e]
    exact cv_map (f := fun k => if k ∈ A.1 then cv A.1 x k else cv pB y k) hk
  have mem0 : ∀ z, z ∈ joinL A (pB, TB) ↔ ∃ x ∈ A.2, ∃ y ∈ TB, (∀ k ∈ A.1, k ∈ pB → cv pB y k = cv A.1 x k) ∧ z = mixR A.1 pB (sdI (A.1 ++ pB)) x y := fun z => by
    unfold joinL
    rw [List.mem_flatMap]
    constructor
    · rintro ⟨x, hx, h⟩
      obtain ⟨y, hy, rfl⟩ := List.mem_map.mp h
      obtain ⟨y1, y2⟩ := List.mem_filter.mp hy
      refine ⟨x, hx, y, y1, fun k hk hk2 => ?_, rfl⟩
      exact List.map_inj_left.mp (of_decide_eq_true y2) k (List.mem_filter.mpr ⟨hk, by simpa using hk2⟩)
    · rintro ⟨x, hx, y, hy, h, rfl⟩
      refine ⟨x, hx, List.mem_map.mpr ⟨y, List.mem_filter.mpr ⟨hy, decide_eq_true (List.map_inj_left.mpr fun k hk => ?_)⟩, rfl⟩⟩
      obtain ⟨k1, k2⟩ := List.mem_filter.mp hk
      exact h k k1 (by simpa using k2)
  have memA : ∀ z, z ∈ joinL A (pB, TB) ↔ Pm R (sdI (A.1 ++ pB)) (ps ++ [pB]) z := fun z => by
    rw [mem0]
    constructor
    · rintro ⟨x, hx, y, hy, hag, e⟩
      refine ⟨by rw [e]; unfold mixR; rw [List.length_map], fun q hq => ?_⟩
      rcases List.mem_append.mp hq with h | h
      · obtain ⟨w, hw, ew⟩ := ((hA.mem x).mp hx).2 q h
        refine ⟨w, hw, fun k hk => ?_⟩
        have kA : k ∈ A.1 := (hA.cols k).mpr ⟨q, h, hk⟩
        rw [eqA (un_mem.mpr (.inl kA)) e, if_pos kA, ew k hk]
      · rw [List.mem_singleton.mp h]
        obtain ⟨w, hw, ew⟩ := ((hB.mem y).mp hy).2 pB (by simp)
        refine ⟨w, hw, fun k hk => ?_⟩
        rw [eqA (un_mem.mpr (.inr hk)) e]
        by_cases kA : k ∈ A.1
        · rw [if_pos kA, ← hag k kA hk]; exact ew k hk
        · rw [if_neg kA]; exact ew k hk
    · rintro ⟨hl, h⟩
      have ex : ∀ k ∈ A.1, cv A.1 (A.1.map (cv (sdI (A.1 ++ pB)) z)) k = cv (sdI (A.1 ++ pB)) z k := fun k hk => cv_map hk
      have ey : ∀ k ∈ pB, cv pB (pB.map (cv (sdI (A.1 ++ pB)) z)) k = cv (sdI (A.1 ++ pB)) z k := fun k hk => cv_map hk
      refine ⟨A.1.map (cv (sdI (A.1 ++ pB)) z), (hA.mem _).mpr ⟨by rw [List.length_map], fun q hq => ?_⟩, pB.map (cv (sdI (A.1 ++ pB)) z), (hB.mem _).mpr ⟨by show (pB.map _).length = pB.length; rw [List.length_map], fun q hq => ?_⟩, fun k hk hk2 => (ey k hk2).trans (ex k hk).symm, ?_⟩
      · obtain ⟨w, hw, ew⟩ := h q (List.mem_append_left _ hq)
        exact ⟨w, hw, fun k hk => (ex k ((hA.cols k).mpr ⟨q, hq, hk⟩)).trans (ew k hk)⟩
      · rw [List.mem_singleton.mp hq]
        obtain ⟨w, hw, ew⟩ := h pB (by simp)
        exact ⟨w, hw, fun k hk => (ey k hk).trans (ew k hk)⟩
      · refine cv_ext hcI hl (by unfold mixR; rw [List.length_map]) fun k hk => ?_
        rw [eqA hk rfl]
        by_cases kA : k ∈ A.1
        · rw [if_pos kA, ex k kA]
        · rw [if_neg kA, ey k ((un_mem.mp hk).resolve_left kA)]
  have okJ := pm_ok (T := joinL A (pB, TB)) B hb hcI hcol hcn fun t ht => (memA t).mp ht
  have ndJ : (joinL A (pB, TB)).Nodup := by
    have lenA : ∀ x ∈ A.2, x.length = A.1.length := fun x hx => ((hA.mem x).mp hx).1
    have lenB : ∀ y ∈ TB, y.length = pB.length := fun y hy => ((hB.mem y).mp hy).1
    unfold joinL
    refine List.pairwise_flatMap.mpr ⟨fun x hx => ?_, ?_⟩
    · refine List.pairwise_map.mpr ?_
      have nB : (TB.filter fun s => decide (pk pB s (A.1.filter fun k => decide (k ∈ pB)) = pk A.1 x (A.1.filter fun k => decide (k ∈ pB)))).Nodup := (strict_nd hB.st).filter _
      refine List.Pairwise.imp_of_mem (fun {y y'} hy hy' hne e => hne ?_) nB
      obtain ⟨y1, y2⟩ := List.mem_filter.mp hy
      obtain ⟨z1, z2⟩ := List.mem_filter.mp hy'
      refine cv_ext hp.1 (lenB y y1) (lenB y' z1) fun k hk => ?_
      by_cases kA : k ∈ A.1
      · have e1 := List.map_inj_left.mp (of_decide_eq_true y2) k (List.mem_filter.mpr ⟨kA, by simpa using hk⟩)
        have e2 := List.map_inj_left.mp (of_decide_eq_true z2) k (List.mem_filter.mpr ⟨kA, by simpa using hk⟩)
        exact e1.trans e2.symm
      · have e1 := eqA (x := x) (y := y) (k := k) (un_mem.mpr (.inr hk)) rfl
        have e2 := eqA (x := x) (y := y') (k := k) (un_mem.mpr (.inr hk)) rfl
        rw [if_neg kA] at e1 e2
        have e' : mixR A.1 pB (sdI (A.1 ++ pB)) x y = mixR A.1 pB (sdI (A.1 ++ pB)) x y' := e
        rw [← e1, ← e2, e']
    · refine List.Pairwise.imp_of_mem (fun {x x'} hx hx' hne => fun z hz z' hz' e => hne ?_) (strict_nd hA.st)
      obtain ⟨y, hy, rfl⟩ := List.mem_map.mp hz
      obtain ⟨y', hy', rfl⟩ := List.mem_map.mp hz'
      refine cv_ext hA.inc (lenA x hx) (lenA x' hx') fun k hk => ?_
      have e1 := eqA (x := x) (y := y) (k := k) (un_mem.mpr (.inl hk)) rfl
      have e2 := eqA (x := x') (y := y') (k := k) (un_mem.mpr (.inl hk)) rfl
      rw [if_pos hk] at e1 e2
      have e' : mixR A.1 pB (sdI (A.1 ++ pB)) x y = mixR A.1 pB (sdI (A.1 ++ pB)) x' y' := e
      rw [← e1, ← e2, e']
  refine ⟨⟨hcI, hcol, sdR_strict _, fun t => (sdR_mem okJ).trans (memA t)⟩, ?_, pm_len B hb0 hb hcI hcol hcn ndJ fun t ht => (memA t).mp ht⟩
  have := inc_len hcI hcn
  have := B.n4
  omega
theorem joins_rp (B : Bx n b vals) (hb0 : 0 < b) (hb : InBx n vals R) (hR : RowsN n R) : ∀ (rest ps : List (List Int)) (A : List Int × List (List Int)), (∀ q ∈ ps, ∀ k ∈ q, 0 ≤ k ∧ k < n) → (∀ q ∈ rest, SetN n q) → RpA R ps A → JtOk (rgI n) (sdR R) A rest ∧ RpA R (ps ++ rest) (jtF (rgI n) (sdR R) A rest)
  | [], ps, A, _, _, hA => ⟨trivial, by rw [List.append_nil]; exact hA⟩
  | p :: rest, ps, A, hps, hrest, hA => by
    have hp := hrest p List.mem_cons_self
    obtain ⟨j1, j2, j3⟩ := join_rp B hb0 hb hps hp hA (jt1_rp B hb hR hp) rfl
    have ih := joins_rp B hb0 hb hR rest (ps ++ [p]) (jtJ A (jt1 (rgI n) (sdR R) p)) (fun q hq => (List.mem_append.mp hq).elim (hps q) fun h => by rw [List.mem_singleton.mp h]; exact hp.2) (fun q hq => hrest q (List.mem_cons_of_mem _ hq)) j1
    rw [List.append_assoc] at ih
    exact ⟨⟨j2, j3, ih.1⟩, ih.2⟩
theorem table_keeps {d : Dep} (B : Bx n b vals) (hb0 : 0 < b) (hb : InBx n vals R) (hR : RowsN n R) (hd : DepN n d) : RowsOk n.toNat R ∧ PtJ n (sdR R) d ∧ (KeepsV n (sdR R) d ↔ Kp n R d) := by
  have hok : RowsOk n.toNat R := fun r hr => ⟨hR r hr, fun m hm => by
    obtain ⟨j, hj⟩ := List.getElem?_of_mem hm
    have hl := (List.getElem?_eq_some_iff.mp hj).1
    have := hb r hr (j : Int) (by omega) (by have := hR r hr; omega)
    unfold cel at this
    rw [show ((j : Int)).toNat = j by omega, List.getD_eq_getElem?_getD, hj] at this
    exact B.bd _ m this⟩
  refine ⟨hok, ?_⟩
  by_cases hc : d.cl = .fd
  · cases d with
    | mvd l r => cases hc
    | jd ps => cases hc
    | fd l r =>
      refine ⟨fun h => absurd rfl h, ?_⟩
      exact ⟨fun h x hx y hy => h x ((sdR_mem hok).mpr hx) y ((sdR_mem hok).mpr hy), fun h x hx y hy => h x ((sdR_mem hok).mp hx) y ((sdR_mem hok).mp hy)⟩
  · have po := prt_ok hd hc
    have pc := prt_cons po
    have st0 : SetN n ((prt n d).headD []) := po.st _ (by rw [pc]; exact List.mem_cons_self)
    obtain ⟨h1, h2⟩ := joins_rp B hb0 hb hR (prt n d).tail [(prt n d).headD []] _ (fun q hq => by rw [List.mem_singleton.mp hq]; exact st0.2) (fun q hq => po.st q (List.mem_of_mem_tail hq)) (jt1_rp B hb hR st0)
    rw [show [(prt n d).headD []] ++ (prt n d).tail = prt n d from pc.symm] at h2
    refine ⟨fun _ => h1, ?_⟩
    have kv : KeepsV n (sdR R) d ↔ jtF (rgI n) (sdR R) (jt1 (rgI n) (sdR R) ((prt n d).headD [])) (prt n d).tail = (rgI n, sdR R) := by
      cases d with
      | fd l r => exact absurd rfl hc
      | mvd l r => exact Iff.rfl
      | jd ps => exact Iff.rfl
    rw [kv, kp_join hc]
    generalize jtF (rgI n) (sdR R) (jt1 (rgI n) (sdR R) ((prt n d).headD [])) (prt n d).tail = A at *
    have hA1 : A.1 = rgI n := by
      rw [← sdI_id h2.inc, ← sdI_id (SetN.rg n).1]
      refine sdI_eq (sdI_strict _) fun k => ?_
      rw [sdI_mem, h2.cols]
      constructor
      · rintro ⟨q, hq, hk⟩
        exact rgI_mem.mpr ((po.st q hq).2 k hk)
      · intro hk
        obtain ⟨k0, k1⟩ := rgI_mem.mp hk
        exact po.cov k k0 k1
    obtain ⟨c, T⟩ := A
    have hA1' : c = rgI n := hA1
    subst hA1'
    have mem : ∀ t, t ∈ T ↔ Jn n R (prt n d) t := fun t => by
      refine (h2.mem t).trans ?_
      unfold Pm Jn
      show t.length = (rgI n).length ∧ _ ↔ _
      rw [rgI_len]
      refine and_congr_right fun _ => ?_
      refine forall_congr' fun q => forall_congr' fun hq => exists_congr fun y => and_congr_right fun _ => forall_congr' fun k => forall_congr' fun hk => ?_
      have kk := (po.st q hq).2 k hk
      have e : cv (rgI n) t k = cel t k := by unfold cv cel; rw [idx_rg kk.1 kk.2]
      show cv (rgI n) t k = _ ↔ _
      rw [e]
    constructor
    · intro h row hj
      have hT : T = sdR R := congrArg Prod.snd h
      exact (sdR_mem hok).mp (by rw [← hT]; exact (mem row).mpr hj)
    · intro h
      refine congrArg (Prod.mk (rgI n)) (strict_ext h2.st (sdR_strict _) fun t => ?_)
      rw [sdR_mem hok]
      refine (mem t).trans ⟨h t, fun ht => jn_self hR ht⟩
end

end DD
namespace DD
open PySem PySem.Spec PyProof.Rows L2
/-! ### planted targets are reached; boxes -/
structure PI (n : Int) (l : List Int) (rows : List (List Int)) : Prop where
  rn : RowsN n rows
  two : 2 ≤ rows.length
  z : ∀ x ∈ rows, ∀ k ∈ l, cel x k = 0
  of : ∀ x ∈ rows, ∀ k, 0 ≤ k → k < n → cel x k = cel (rowAt rows 0) k ∨ cel x k = cel (rowAt rows 1) k
theorem rowAt_map {rows : List (List Int)} {f : List Int → List Int} {i : Int} (h : inR rows i = true) : rowAt (rows.map f) i = f (rowAt rows i) := by
  obtain ⟨h0, h1⟩ := inR_iff.mp h
  have hl : i.toNat < rows.length := by omega
  show (rows.map f).getD i.toNat [] = f (rows.getD i.toNat [])
  rw [List.getD_eq_getElem?_getD, List.getD_eq_getElem?_getD, List.getElem?_map, List.getElem?_eq_getElem hl]
  rfl
theorem rowAt_app {rows : List (List Int)} {x : List Int} {i : Int} (h : inR rows i = true) : rowAt (rows ++ [x]) i = rowAt rows i := by
  obtain ⟨h0, h1⟩ := inR_iff.mp h
  show (rows ++ [x]).getD i.toNat [] = rows.getD i.toNat []
  rw [List.getD_eq_getElem?_getD, List.getD_eq_getElem?_getD, List.getElem?_append_left (by omega)]
theorem PI.start {n : Int} {l : List Int} (hl : SetN n l) : PI n l [zeroR n, markR n l] := by
  have mem : ∀ x, x ∈ [zeroR n, markR n l] → x = zeroR n ∨ x = markR n l := fun x hx => by
    rcases List.mem_cons.mp hx with e | e
    · exact .inl e
    · exact .inr (List.mem_singleton.mp e)
  refine ⟨fun x hx => ?_, Nat.le_refl 2, fun x hx k hk => ?_, fun x hx k g0 g1 => ?_⟩
  · rcases mem x hx with e | e
    · rw [e]; exact zero_len
    · rw [e]; exact len_rg
  · have kk := hl.2 k hk
    rcases mem x hx with e | e
    · rw [e]; exact zero_cel kk.1 kk.2
    · rw [e, mark_cel kk.1 kk.2, if_pos hk]
  · rcases mem x hx with e | e
    · rw [e]; exact .inl rfl
    · rw [e]; exact .inr rfl
theorem PI.step {n : Int} {l : List Int} {told : List Dep} {rows rows' : List (List Int)} {st : Stp} (hD : ∀ d ∈ told, DepN n d) (h : PI n l rows) (hst : StepR n told rows st rows') : PI n l rows' := by
  obtain ⟨r1, r2, r3⟩ := hst.rows h.rn
  have two := h.two
  have i0 : inR rows 0 = true := inR_iff.mpr ⟨by omega, by omega⟩
  have i1 : inR rows 1 = true := inR_iff.mpr ⟨by omega, by omega⟩
  cases st with
  | same ix i j k =>
    obtain ⟨d, _, gd, e⟩ := hst
    have hd := List.mem_of_getElem? gd
    cases d with
    | fd l2 r =>
      obtain ⟨⟨hi, hj, hk, ha, hne⟩, rfl⟩ := sameR_some (show sameR rows l2 r i j k = some rows' from e)
      obtain ⟨dl, dr⟩ : SetN n l2 ∧ SetN n r := hD _ hd
      have kk := dr.2 k hk
      have hne' : cel (rowAt rows i) k ≠ cel (rowAt rows j) k := hne
      have kl : k ∉ l := fun c => hne' ((h.z _ (rowAt_mem hi) k c).trans (h.z _ (rowAt_mem hj) k c).symm)
      generalize hlo : min (cel (rows.getD i.toNat []) k) (cel (rows.getD j.toNat []) k) = lo at *
      generalize hhi : max (cel (rows.getD i.toNat []) k) (cel (rows.getD j.toNat []) k) = hi2 at *
      refine ⟨r1, by omega, fun x hx k' hk' => ?_, fun x hx k' g0 g1 => ?_⟩
      · obtain ⟨x0, hx0, rfl⟩ := List.mem_map.mp hx
        have ne : k' ≠ k := fun e => kl (by rw [← e]; exact hk')
        by_cases k0 : 0 ≤ k'
        · rw [lowR_cel (h.rn x0 hx0) kk.1 kk.2 k0, if_neg fun c => ne c.1]
          exact h.z x0 hx0 k' hk'
        · have hz := h.z x0 hx0 k' hk'
          unfold lowR
          split
          · rename_i hc
            unfold cel at hz ⊢
            rw [List.getD_eq_getElem?_getD] at hz ⊢
            have e0 : k'.toNat = 0 := by omega
            by_cases ek : k.toNat = 0
            · exfalso
              rw [e0, ← ek, ← List.getD_eq_getElem?_getD] at hz
              have hz2 : ∀ y ∈ rows, cel y k = 0 := fun y hy => by
                have q := h.z y hy k' hk'
                unfold cel at q ⊢
                rw [e0, ← ek] at q
                exact q
              exact hne' ((hz2 _ (rowAt_mem hi)).trans (hz2 _ (rowAt_mem hj)).symm)
            · rw [List.getElem?_set_ne (by omega)]
              exact hz
          · exact hz
      · obtain ⟨x0, hx0, rfl⟩ := List.mem_map.mp hx
        rw [rowAt_map i0, rowAt_map i1, lowR_cel (h.rn x0 hx0) kk.1 kk.2 g0, lowR_cel (h.rn _ (rowAt_mem i0)) kk.1 kk.2 g0, lowR_cel (h.rn _ (rowAt_mem i1)) kk.1 kk.2 g0]
        by_cases c : k' = k
        · subst c
          rcases h.of x0 hx0 k' g0 g1 with e | e
          · left; rw [e]
          · right; rw [e]
        · rw [if_neg fun z => c z.1, if_neg fun z => c z.1, if_neg fun z => c z.1]
          exact h.of x0 hx0 k' g0 g1
    | mvd l2 r => cases e
    | jd ps => cases e
  | join ix is =>
    obtain ⟨d, row, _, gd, hc, jo, rfl⟩ := hst
    have hd := hD _ (List.mem_of_getElem? gd)
    have cell : ∀ k, 0 ≤ k → k < n → ∃ y ∈ rows, cel row k = cel y k := fun k g0 g1 => by
      obtain ⟨p, hp, hk⟩ := (prt_ok hd hc).cov k g0 g1
      obtain ⟨y, hy, e⟩ := jo.jn.2 p hp
      exact ⟨y, hy, e k hk⟩
    refine ⟨r1, by omega, fun x hx k hk => ?_, fun x hx k g0 g1 => ?_⟩
    · rcases List.mem_append.mp hx with q | q
      · exact h.z x q k hk
      · rw [List.mem_singleton.mp q]
        by_cases g : 0 ≤ k ∧ k < n
        · obtain ⟨y, hy, e⟩ := cell k g.1 g.2
          rw [e]; exact h.z y hy k hk
        · have z0 := h.z _ (rowAt_mem i0) k hk
          by_cases g0 : 0 ≤ k
          · unfold cel
            rw [List.getD_eq_getElem?_getD, List.getElem?_eq_none (by rw [jo.rl]; omega)]
            rfl
          · by_cases gn : 0 < n
            · obtain ⟨y, hy, e⟩ := cell 0 (by omega) gn
              have zy := h.z y hy k hk
              unfold cel at e zy ⊢
              rw [show k.toNat = 0 by omega] at zy ⊢
              exact e.trans zy
            · unfold cel
              rw [List.getD_eq_getElem?_getD, List.getElem?_eq_none (by rw [jo.rl]; omega)]
              rfl
    · rw [rowAt_app i0, rowAt_app i1]
      rcases List.mem_append.mp hx with q | q
      · exact h.of x q k g0 g1
      · rw [List.mem_singleton.mp q]
        obtain ⟨y, hy, e⟩ := cell k g0 g1
        rw [e]
        exact h.of y hy k g0 g1
theorem PI.run {n : Int} {l : List Int} {told : List Dep} (hD : ∀ d ∈ told, DepN n d) : ∀ {sts : List Stp} {rows rows' : List (List Int)}, PI n l rows → RunR n told rows sts rows' → PI n l rows'
  | [], rows, rows', h, hrun => by
    have e : rows' = rows := hrun
    subst e
    exact h
  | st :: sts, rows, rows', h, ⟨r1, a1, a2⟩ => PI.run hD (h.step hD a1) a2
theorem PI.reach {n : Int} {l : List Int} {rows : List (List Int)} {t : Dep} (hl : SetN n l) (h : PI n l rows) (ht : PlT n l rows t) : reachB n rows t = true := by
  have two := h.two
  have i0 : inR rows 0 = true := inR_iff.mpr ⟨by omega, by omega⟩
  have i1 : inR rows 1 = true := inR_iff.mpr ⟨by omega, by omega⟩
  obtain ⟨s, hs, hal, rfl | ⟨i, hi, rfl⟩⟩ := ht
  · show agr (rowAt rows 0) (rowAt rows 1) s = true
    exact agr_iff.mpr hal
  · show (rows.any fun x => agr x (rowAt rows 0) (sdI (l ++ _)) && agr x (rowAt rows 1) (othersR n l _)) = true
    refine List.any_eq_true.mpr ⟨rowAt rows i, rowAt_mem hi, ?_⟩
    rw [Bool.and_eq_true]
    refine ⟨agr_iff.mpr fun k hk => ?_, agr_iff.mpr fun k hk => ?_⟩
    · rcases un_mem.mp hk with q | q
      · rw [h.z _ (rowAt_mem hi) k q, h.z _ (rowAt_mem i0) k q]
      · simpa using (List.mem_filter.mp (List.mem_filter.mp q).1).2
    · obtain ⟨k1, k2⟩ := List.mem_filter.mp hk
      obtain ⟨g0, g1⟩ := rgI_mem.mp k1
      have k3 : ¬ (k ∈ l ∨ k ∈ ((rgI n).filter fun k => decide (cel (rowAt rows i) k = cel (rowAt rows 0) k)).filter fun k => decide (k ∉ s)) := fun c => by
        have := un_mem.mpr c
        simp only [decide_eq_true_eq] at k2
        exact k2 this
      rcases h.of _ (rowAt_mem hi) k g0 g1 with e | e
      · by_cases ks : k ∈ s
        · rw [e]; exact hal k ks
        · exact absurd (.inr (List.mem_filter.mpr ⟨List.mem_filter.mpr ⟨k1, decide_eq_true e⟩, decide_eq_true ks⟩)) k3
      · exact e
theorem bx01 {n : Int} (h0 : 0 ≤ n) (hn : n ≤ 4) : Bx n 2 fun _ => [0, 1] where
  nd := fun _ => by decide
  few := fun _ => Nat.le_refl 2
  bd := fun _ v hv => by
    rcases List.mem_cons.mp hv with e | e
    · omega
    · have := List.mem_singleton.mp e; omega
  n0 := h0
  n4 := hn
  pw := Nat.le_trans (Nat.pow_le_pow_right (by decide) (by omega : n.toNat ≤ 4)) (by decide)
  pw1 := Nat.le_trans (Nat.pow_le_pow_right (by decide) (by omega : n.toNat ≤ 4)) (by decide)
  sm := by omega
def valsJ (n : Int) (ps : List (List Int)) (k : Int) : List Int := if 0 ≤ k ∧ k < n then 0 :: ((List.range ps.length).filter fun i => decide (k ∉ ps.getD i [])).map (fun i : Nat => (i : Int) + 1) else []
theorem bxJ {n : Int} {ps : List (List Int)} (h0 : 0 ≤ n) (hn : n ≤ 3) (hd : DepN n (.jd ps)) : Bx n 4 (valsJ n ps) where
  nd := fun k => by
    unfold valsJ
    split
    · refine List.nodup_cons.mpr ⟨fun h => ?_, ?_⟩
      · obtain ⟨i, _, e⟩ := List.mem_map.mp h
        omega
      · refine List.pairwise_map.mpr (List.Pairwise.imp (fun {a b} (hab : a < b) e => by omega) ((List.pairwise_lt_range (n := ps.length)).filter _))
    · exact .nil
  few := fun k => by
    unfold valsJ
    split
    · rename_i hk
      obtain ⟨p, hp, hkp⟩ := hd.2.2.2 k hk.1 hk.2
      obtain ⟨i, hi, rfl⟩ := List.getElem_of_mem hp
      have gd : ps.getD i [] = ps[i] := by rw [List.getD_eq_getElem?_getD, List.getElem?_eq_getElem hi]; rfl
      have := filter_lt (f := fun i => decide (k ∉ ps.getD i [])) (g := fun _ => true) (fun _ _ => rfl) (List.mem_range.mpr hi) (by rw [gd]; simp [hkp]) rfl
      have e : ((List.range ps.length).filter fun _ => true).length ≤ ps.length := by
        have := List.length_filter_le (fun _ => true) (List.range ps.length)
        rw [List.length_range] at this
        exact this
      have := hd.2.2.1
      rw [List.length_cons, List.length_map]
      omega
    · exact Nat.zero_le _
  bd := fun k v hv => by
    unfold valsJ at hv
    split at hv
    · rcases List.mem_cons.mp hv with e | e
      · omega
      · obtain ⟨i, hi, e⟩ := List.mem_map.mp e
        have := List.mem_range.mp (List.mem_filter.mp hi).1
        have := hd.2.2.1
        omega
    · cases hv
  n0 := h0
  n4 := by omega
  pw := Nat.le_trans (Nat.pow_le_pow_right (by decide) (by omega : n.toNat ≤ 3)) (by decide)
  pw1 := Nat.le_trans (Nat.pow_le_pow_right (by decide) (by omega : n.toNat ≤ 3)) (by decide)
  sm := by omega
theorem first_box {n : Int} {t : Dep} (h0 : 0 ≤ n) (hn : n ≤ 4) (ht : DepN n t) (h3 : t.cl = .jd → n ≤ 3) : ∃ b vals, 0 < b ∧ Bx n b vals ∧ InBx n vals (firstR n t) := by
  have two : ∀ l, InBx n (fun _ => [0, 1]) [zeroR n, markR n l] := fun l x hx k g0 g1 => by
    rcases List.mem_cons.mp hx with e | e
    · rw [e, zero_cel g0 g1]; exact List.mem_cons_self
    · rw [List.mem_singleton.mp e, mark_cel g0 g1]
      split <;> simp
  cases t with
  | fd l r => exact ⟨2, _, by decide, bx01 h0 hn, two l⟩
  | mvd l r => exact ⟨2, _, by decide, bx01 h0 hn, two l⟩
  | jd ps =>
    refine ⟨4, _, by decide, bxJ h0 (h3 rfl) ht, fun x hx k g0 g1 => ?_⟩
    obtain ⟨i, hi, rfl⟩ := List.mem_map.mp hx
    rw [rowJ_cel g0 g1]
    unfold valsJ
    rw [if_pos ⟨g0, g1⟩]
    by_cases c : k ∈ ps.getD i []
    · rw [if_pos c, show ((i : Int) + 1) * 0 = 0 by omega]; exact List.mem_cons_self
    · rw [if_neg c, show ((i : Int) + 1) * 1 = (i : Int) + 1 by omega]
      exact List.mem_cons_of_mem _ (List.mem_map.mpr ⟨i, List.mem_filter.mpr ⟨hi, decide_eq_true c⟩, rfl⟩)

end DD
namespace DD
open PySem PySem.Spec PyProof.Rows L2
theorem step_ls {n : Int} {told : List Dep} {rows rows' : List (List Int)} {st : Stp} (hD : ∀ d ∈ told, DepN n d) (h : StepR n told rows st rows') : LsOk n told st := by
  cases st with
  | same ix i j k =>
    obtain ⟨d, _, gd, e⟩ := h
    have hd := List.mem_of_getElem? gd
    cases d with
    | fd l r =>
      obtain ⟨⟨_, _, hk, _⟩, _⟩ := sameR_some (show sameR rows l r i j k = some rows' from e)
      exact (hD _ hd).2.2 k hk
    | mvd l r => cases e
    | jd ps => cases e
  | join ix is =>
    obtain ⟨d, row, x0, gd, hc, jo, _⟩ := h
    exact ⟨d, x0, gd, hc, jo.ln⟩
theorem run_ls {n : Int} {told : List Dep} (hD : ∀ d ∈ told, DepN n d) : ∀ {sts : List Stp} {rows rows' : List (List Int)}, RunR n told rows sts rows' → ∀ st ∈ sts, LsOk n told st
  | [], _, _, _, st, h => by cases h
  | s :: sts, rows, rows', ⟨r1, a1, a2⟩, st, h => by
    rcases List.mem_cons.mp h with e | e
    · rw [e]; exact step_ls hD a1
    · exact run_ls hD a2 st e
section
variable {P : Program} {w : World} {K : PySem.W.Frag} {cA : Cl → Addr} {mg : Str → Option Value} {base : Heap} {f : Addr} {fd : FuncData}
def setV (v n : Int) : List Int := (rgI n).filter fun k => decide (v / cel [1, 2, 4, 8, 16, 32, 64, 128, 256, 512] k % 2 = 1)
def phSetV (ds : List D) (q : D → Prop) : Prop := ∃ (v n : Int), ds = [.int v, .int n] ∧ 0 ≤ n ∧ n ≤ 4 ∧ q (rowD (setV v n))
theorem ok_law_setV (M : MF mg) (F : FD K "_law_set" "_law_set" s_law_set f fd) : FnOk P w K mg base CX0 1 f fd ["_law_number", "_law_count"] (spD ⟨P, w, K, cA⟩ phSetV) := by
  refine fn_ok F sc_law_set (fun ds q ⟨v, n, h, _⟩ => by rw [h]; rfl) (by decide) (fun cdv A' outer s0 H E ds Qd hr ⟨v, n, e, h0, hn, q⟩ => ?_)
  subst e
  let cs : List Int := [1, 2, 4, 8, 16, 32, 64, 128, 256, 512]
  have hcs : ∀ c ∈ cs, 0 < c ∧ c < 1073741824 := by decide
  refine db_cons (ds_ret ?_)
  refine de_tupleOf M.tuple_ ?_
  refine de_lcR (j := 2) rfl sc_law_set.nd (blkOk_by (N := n_law_set) (sc := defScope s_law_set) (by decide +kernel)) (fun _ _ _ _ _ => pg_name (i := 2) sc_law_set.nd rfl (by first | exact Or.inl rfl | exact Or.inr rfl)) M.range_ ?_
  refine de_var 1 rfl ?_
  refine ⟨n, fun k => decide (v / cel cs k % 2 = 1), D.int, rfl, h0, by omega, ⟨fun k hk _ _ _ _ _ => di_one (dt_cmp (dc_eq (de_mod (de_fdiv (de_var 0 rfl (de_ix (fun _ _ => rfl) (de_lst ?_))))))), fun k hk _ _ _ _ _ _ => de_var 2 rfl rfl⟩, _, rfl, q⟩
  have kk := rgI_mem.mp hk
  refine da_cons (de_int (da_cons (de_int (da_cons (de_int (da_cons (de_int (da_cons (de_int (da_cons (de_int (da_cons (de_int (da_cons (de_int (da_cons (de_int (da_cons (de_int (da_nil ⟨by simp, de_var 2 rfl ?_⟩))))))))))))))))))))
  have kl : k < cs.length := by show k < 10; omega
  refine ⟨_, at_cel (r := cs) kk.1 kl, ?_⟩
  have hc := hcs _ (cel_mem kk.1 kl)
  exact ⟨⟨hc.1, hc.2⟩, de_int ⟨by decide, de_int ⟨_, rfl, _, rfl, rfl⟩⟩⟩
abbrev scL : Scope := { kind := .function, names := [(".0", .local), ("_law_some", .cell), ("tuple", .globalImplicit), ("range", .globalImplicit), ("_law_count", .cell)], isGenerator := false, isCoroutine := false }
def phLaw (ds : List D) (q : D → Prop) : Prop := ∃ ss : List Int, ds = [.scr (ss.map D.int)] ∧ ss.length ≤ 1000 ∧ q (.bl true)
theorem ok_law (M : MF mg) (F : FD K "law" "law" s_law f fd) (F1 : FnG P w K cA mg base "_law_numbers" 1 phNum) (F2 : FnG P w K cA mg base "_law_case" 5 phCase) (F3 : FnG P w K cA mg base "_law_told" 3 phTold) (F4 : FnG P w K cA mg base "_law_object" 4 phObj) (F5 : FnG P w K cA mg base "_law_due" 5 phDue)
    (F6 : FnG P w K cA mg base "takes" 7 phTakes) (F7 : FnG P w K cA mg base "_law_free" 3 phFree) (F8 : FnG P w K cA mg base "_law_near" 4 phNear) (F9 : FnG P w K cA mg base "_law_is_true" 8 phIst) (F10 : FnG P w K cA mg base "_law_closed" 4 phClosed) (F11 : FnG P w K cA mg base "_law_first" 1 phFirst2)
    (F12 : FnG P w K cA mg base "_law_set" 1 phSetV) (F13 : FnG P w K cA mg base "_law_keeps" 3 phLkeeps) : FnOk P w K mg base CX0 9 f fd ["_law_script"] (spD ⟨P, w, K, cA⟩ phLaw) := by
  refine fn_ok F sc_law (fun ds q ⟨ss, h, _⟩ => by rw [h]; rfl) (by decide) (fun cdv A' outer s0 H E ds Qd hr ⟨ss, e, hss, q⟩ => ?_)
  subst e
  refine db_cons (ds_set 1 ?_ sc_law.nd)
  refine de_call F1 (hr.mono (by decide)) ?_
  refine da_cons ?_
  refine de_var 0 rfl ?_
  refine da_cons ?_
  refine de_int ?_
  refine da_nil ?_
  refine ⟨ss, _, rfl, hss, by decide, by decide, fun ns hl hbd => ?_⟩
  have hN : NumOk ns := ⟨hl, hbd⟩
  have nl : ns.length = 21 := hl
  let cs : List Int := [1, 2, 3, 4, 3, 4]
  have hcs : ∀ c ∈ cs, 1 ≤ c ∧ c ≤ 4 := by decide
  refine db_cons (ds_set 2 ?_ sc_law.nd)
  refine de_ix (fun _ _ => rfl) ?_
  refine de_lst ?_
  refine da_cons ?_
  refine de_int ?_
  refine da_cons ?_
  refine de_int ?_
  refine da_cons ?_
  refine de_int ?_
  refine da_cons ?_
  refine de_int ?_
  refine da_cons ?_
  refine de_int ?_
  refine da_cons ?_
  refine de_int ?_
  refine da_nil ?_
  refine ⟨by simp, ?_⟩
  refine de_mod ?_
  refine de_ix (fun _ _ => rfl) ?_
  refine de_var 1 rfl ?_
  refine de_int ?_
  refine hN.at_ (by decide) (by decide) fun x x0 x1 => ?_
  refine de_int ?_
  refine ⟨by decide, ?_⟩
  have m1 := Int.emod_nonneg x (b := 6) (by decide)
  have m2 := Int.emod_lt_of_pos x (b := 6) (by decide)
  have ml : x % 6 < cs.length := by show x % 6 < 6; omega
  refine ⟨_, at_cel (r := cs) m1 ml, ?_⟩
  have hcn := hcs _ (cel_mem m1 ml)
  generalize cel cs (x % 6) = n0 at *
  refine db_cut (fun env' => ∃ n : Int, 1 ≤ n ∧ n ≤ 4 ∧ (cel ns 7 % 3 = 0 → n ≤ 3) ∧ env' = [.dat (.scr (ss.map D.int)), .dat (lrowD ns), .dat (.int n), .no, .no, .no, .no, .no, .no, .no, .no, .no, .no, .no, .no, .no, .no, .no, .no, .no, .no]) ?_ ?_
  · refine ds_if (dt_cmp (dc_eq ?_))
    refine de_mod ?_
    refine de_ix (fun _ _ => rfl) ?_
    refine de_var 1 rfl ?_
    refine de_int ?_
    refine ix_in (.inr rfl) (by decide) (by rw [nl]; decide) ?_
    refine de_int ?_
    refine ⟨by decide, ?_⟩
    refine de_int ?_
    refine ⟨_, rfl, _, rfl, ?_⟩
    split
    · refine db_cons (ds_set 2 ?_ sc_law.nd)
      refine de_min2 rfl M.min_ ?_
      refine de_var 2 rfl ?_
      refine de_int ?_
      refine ⟨_, _, rfl, rfl, ?_⟩
      exact db_nil ⟨min n0 3, by omega, by omega, fun _ => by omega, rfl⟩
    · rename_i hne
      exact db_nil ⟨n0, hcn.1, hcn.2, fun h => absurd (dec_mk h) hne, rfl⟩
  rintro env' ⟨n, n1, hn, h3, rfl⟩
  have h0 : 0 ≤ n := by omega
  refine db_cons (ds_set 3 ?_ sc_law.nd)
  refine de_call F2 (hr.mono (by decide)) ?_
  refine da_cons ?_
  refine de_var 1 rfl ?_
  refine da_cons ?_
  refine de_int ?_
  refine da_cons ?_
  refine de_var 2 rfl ?_
  refine da_cons ?_
  refine de_call F3 (hr.mono (by decide)) ?_
  refine da_cons ?_
  refine de_var 1 rfl ?_
  refine da_cons ?_
  refine de_int ?_
  refine da_cons ?_
  refine de_var 2 rfl ?_
  refine da_cons ?_
  refine de_add ?_
  refine de_mod ?_
  refine de_fdiv ?_
  refine de_ix (fun _ _ => rfl) ?_
  refine de_var 1 rfl ?_
  refine de_int ?_
  refine hN.at_ (by decide) (by decide) fun y y0 y1 => ?_
  refine de_int ?_
  refine ⟨⟨by decide, by decide⟩, ?_⟩
  refine de_int ?_
  refine ⟨by decide, ?_⟩
  refine de_int ?_
  refine da_nil ?_
  have k1 := Int.emod_nonneg (y / 6) (b := 3) (by decide)
  have k2 := Int.emod_lt_of_pos (y / 6) (b := 3) (by decide)
  refine ⟨ns, 1, n, y / 6 % 3 + 1, rfl, hN, by decide, by omega, by omega, h0, hn, fun deps dl dT => ?_⟩
  refine da_nil ?_
  refine ⟨ns, 7, n, deps, rfl, hN, by decide, by decide, h0, hn, h3, by omega, by omega, dT, fun told t sts rows' hC => ?_⟩
  have hD : ∀ d ∈ told, DepN n d := fun d hd => (hC.told_ d hd).1
  have ht := hC.dep
  have tl3 := hC.t3
  have tl1 := hC.t1
  have sl7 := hC.few
  obtain ⟨f1, f2, f3⟩ := first_rows_ok h0 ht
  obtain ⟨b, vals, hb0, B, hb⟩ := first_box h0 hn ht hC.jd
  refine db_cons (ds_set 4 ?_ sc_law.nd)
  refine de_ix (fun _ _ => rfl) ?_
  refine de_var 3 rfl ?_
  refine de_int ?_
  refine ⟨_, rfl, ?_⟩
  refine db_cons (ds_set 5 ?_ sc_law.nd)
  refine de_ix (fun _ _ => rfl) ?_
  refine de_var 3 rfl ?_
  refine de_int ?_
  refine ⟨_, rfl, ?_⟩
  refine db_cons (ds_set 6 ?_ sc_law.nd)
  refine de_ix (fun _ _ => rfl) ?_
  refine de_var 3 rfl ?_
  refine de_int ?_
  refine ⟨_, rfl, ?_⟩
  refine db_cons (ds_lcL 7 (j := 18) rfl sc_law.nd (blkOk_by (N := n_law) (sc := defScope s_law) (by decide +kernel)) (fun _ _ _ _ _ => pg_name (i := 18) sc_law.nd rfl (by first | exact Or.inl rfl | exact Or.inr rfl)) rfl ?_)
  refine de_var 4 rfl ?_
  refine ⟨Dep, told, depD, fun _ => true, depO, rfl, by omega, ⟨fun d hd _ _ _ _ _ => di_nil rfl, fun d hd _ _ _ _ _ _ => de_call F4 (hr.mono (by decide)) (da_cons (de_var 18 rfl (da_nil ⟨n, d, rfl, hn, hD d hd, rfl⟩)))⟩, ?_⟩
  rw [filter_true]
  refine db_cons (ds_set 8 ?_ sc_law.nd)
  refine de_call F5 (hr.mono (by decide)) ?_
  refine da_cons ?_
  refine de_var 2 rfl ?_
  refine da_cons ?_
  refine de_var 4 rfl ?_
  refine da_cons ?_
  refine de_var 5 rfl ?_
  refine da_nil ?_
  refine ⟨n, b, vals, told, t, rfl, n1, B, hD, ht, hb, fun due hdue => ?_⟩
  generalize hcd : D.lst [.lst (told.map depD), depD t, .lst (sts.map stD)] = cD
  refine db_cut (fun env' => env' = [.dat (.scr (ss.map D.int)), .dat (lrowD ns), .dat (.int n), .dat cD, .dat (.lst (told.map depD)), .dat (depD t), .dat (.lst (sts.map stD)), .dat (.lst (told.map depO)), .dat (.bl due), .no, .no, .no, .no, .no, .no, .no, .no, .no, .no, .no, .no]) ?_ ?_
  · refine ds_if (dt_cmp (dc_ne ?_))
    refine de_ix (fun _ _ => rfl) ?_
    refine de_var 5 rfl ?_
    refine de_int ?_
    refine at_dep0 ?_
    refine de_str ?_
    refine ⟨_, ne_jd t, _, rfl, ?_⟩
    by_cases hc : t.cl = .jd
    · rw [if_neg (by simp [hc])]
      exact db_nil rfl
    · rw [if_pos (by simp [hc])]
      obtain ⟨l, hl, hpl⟩ := hC.pl hc
      have hreach : reachB n rows' t = true := by
        obtain ⟨_, _, d3⟩ := hpl.dep hl
        have hrun := hC.run
        rw [d3] at hrun
        exact (PI.run hD (PI.start hl) hrun).reach hl hpl
      have hdt : due = true := hdue.mpr (run_fol h0 hD ht hC.run hreach)
      refine db_cons (ds_if (dt_bool (dw_or (dt_cmp (dc_notTrue ?_)))))
      refine de_call F6 (hr.mono (by decide)) ?_
      refine da_cons ?_
      refine de_var 2 rfl ?_
      refine da_cons ?_
      refine de_var 7 rfl ?_
      refine da_cons ?_
      refine de_call F4 (hr.mono (by decide)) ?_
      refine da_cons ?_
      refine de_var 5 rfl ?_
      refine da_nil ?_
      refine ⟨n, t, rfl, hn, ht, ?_⟩
      refine da_cons ?_
      refine de_bl ?_
      refine da_cons ?_
      refine de_tup ?_
      refine da_cons ?_
      refine de_str ?_
      refine da_cons ?_
      refine de_tupleOf M.tuple_ ?_
      refine de_var 6 rfl ?_
      refine ⟨_, rfl, ?_⟩
      refine da_nil ?_
      refine ⟨by simp, ?_⟩
      refine da_nil ?_
      refine .inl ⟨n, told, t, sts, rfl, n, told, t, sts, rfl, h0, hn, hD, ht, hC.ok, by omega, fun h => absurd ⟨rows', hC.run⟩ h, fun rows2 hrun2 => ?_⟩
      have e2 := RunR.det hD hrun2 hC.run
      subst e2
      rw [hreach]
      refine ⟨true, rfl, _, rfl, ?_⟩
      refine dw_or1 (dt_not (dt_val (de_var 8 rfl ⟨due, rfl, ?_⟩)))
      subst hdt
      exact db_nil (db_nil rfl)
  rintro env' rfl
  have lp : (0 : Int) < (sts.length : Int) + 1 := by omega
  refine db_cons (ds_set 9 ?_ sc_law.nd)
  refine de_mod ?_
  refine de_ix (fun _ _ => rfl) ?_
  refine de_var 1 rfl ?_
  refine de_int ?_
  refine hN.at_ (by decide) (by decide) fun z z0 z1 => ?_
  refine de_add ?_
  refine de_len M.len_ ?_
  refine de_var 6 rfl ?_
  refine ⟨_, rfl, ?_⟩
  refine de_int ?_
  rw [List.length_map]
  refine ⟨lp, ?_⟩
  have p1 := Int.emod_nonneg z (Int.ne_of_gt lp)
  have p2 := Int.emod_lt_of_pos z lp
  generalize z % ((sts.length : Int) + 1) = pl at *
  have epl : ((pl.toNat : Nat) : Int) = pl := by omega
  refine db_cons (ds_set 10 ?_ sc_law.nd)
  refine de_add ?_
  refine de_add ?_
  refine de_slTo ?_
  refine de_var 6 rfl ?_
  refine de_var 9 rfl ?_
  refine ⟨pl.toNat, by rw [epl], .inr ⟨_, rfl, ?_⟩⟩
  refine de_lst ?_
  refine da_cons ?_
  refine de_call F7 (hr.mono (by decide)) ?_
  refine da_cons ?_
  refine de_fdiv ?_
  refine de_ix (fun _ _ => rfl) ?_
  refine de_var 1 rfl ?_
  refine de_int ?_
  refine hN.at_ (by decide) (by decide) fun y2 y20 y21 => ?_
  refine de_int ?_
  refine ⟨⟨by decide, by decide⟩, ?_⟩
  refine da_cons ?_
  refine de_var 2 rfl ?_
  refine da_cons ?_
  refine de_var 4 rfl ?_
  refine da_cons ?_
  refine de_add ?_
  refine de_var 9 rfl ?_
  refine de_int ?_
  refine da_nil ?_
  refine ⟨_, n, _, told, rfl, n1, hn, tl1, by omega, hC.told_, by omega, fun fs hf1 hf2 => ?_⟩
  refine da_nil ?_
  refine ⟨by simp, ?_⟩
  refine ⟨by simp; omega, ?_⟩
  refine de_slFrom ?_
  refine de_var 6 rfl ?_
  refine de_var 9 rfl ?_
  refine ⟨pl.toNat, by rw [epl], .inr ⟨_, rfl, by simp; omega, ?_⟩⟩
  have elon : D.lst (((sts.map stD).take pl.toNat ++ [stD fs]) ++ (sts.map stD).drop pl.toNat) = .lst ((sts.take pl.toNat ++ [fs] ++ sts.drop pl.toNat).map stD) := by
    rw [List.map_append, List.map_append, List.map_take, List.map_drop]
    rfl
  rw [elon]
  have lonm : ∀ st ∈ sts.take pl.toNat ++ [fs] ++ sts.drop pl.toNat, st ∈ sts ∨ st = fs := fun st h => by
    rcases List.mem_append.mp h with h | h
    · rcases List.mem_append.mp h with h | h
      · exact .inl (List.mem_of_mem_take h)
      · exact .inr (List.mem_singleton.mp h)
    · exact .inl (List.mem_of_mem_drop h)
  have lonl : (sts.take pl.toNat ++ [fs] ++ sts.drop pl.toNat).length ≤ 8 := by
    rw [List.length_append, List.length_append, List.length_take, List.length_drop, List.length_singleton]
    omega
  generalize sts.take pl.toNat ++ [fs] ++ sts.drop pl.toNat = lon at *
  have lonOk : ∀ st ∈ lon, StpOk st := fun st h => (lonm st h).elim (hC.ok st) fun e => by rw [e]; exact hf2
  have lonLs : ∀ st ∈ lon, LsOk n told st := fun st h => (lonm st h).elim (run_ls hD hC.run st) fun e => by rw [e]; exact hf1
  refine db_cons (ds_set 11 ?_ sc_law.nd)
  refine de_call F8 (hr.mono (by decide)) ?_
  refine da_cons ?_
  refine de_var 1 rfl ?_
  refine da_cons ?_
  refine de_int ?_
  refine da_cons ?_
  refine de_var 2 rfl ?_
  refine da_cons ?_
  refine de_var 4 rfl ?_
  refine da_cons ?_
  refine de_var 5 rfl ?_
  refine da_cons ?_
  refine de_var 10 rfl ?_
  refine da_nil ?_
  refine ⟨ns, _, n, told, t, lon, rfl, hN, by decide, by decide, n1, hn, hC.told_, ht, lonLs, by omega, fun nt hnt hnj => ?_⟩
  obtain ⟨g1, g2, g3⟩ := first_rows_ok h0 hnt
  obtain ⟨b2, vals2, hb20, B2, hb2⟩ := first_box h0 hn hnt fun h => hC.jd (hnj h)
  refine db_cons (ds_set 12 ?_ sc_law.nd)
  refine de_call F5 (hr.mono (by decide)) ?_
  refine da_cons ?_
  refine de_var 2 rfl ?_
  refine da_cons ?_
  refine de_var 4 rfl ?_
  refine da_cons ?_
  refine de_var 11 rfl ?_
  refine da_nil ?_
  refine ⟨n, b2, vals2, told, nt, rfl, n1, B2, hD, hnt, hb2, fun nd hnd => ?_⟩
  refine db_cons (ds_forL rfl (pg_name (i := 13) sc_law.nd rfl (by first | exact Or.inl rfl | exact Or.inr rfl)) ?_)
  refine de_lst ?_
  refine da_cons ?_
  refine de_var 6 rfl ?_
  refine da_cons ?_
  refine de_var 10 rfl ?_
  refine da_nil ?_
  refine ⟨by simp, ?_⟩
  refine ⟨_, fun m env' => ∃ s13 : Sl, env' = [.dat (.scr (ss.map D.int)), .dat (lrowD ns), .dat (.int n), .dat cD, .dat (.lst (told.map depD)), .dat (depD t), .dat (.lst (sts.map stD)), .dat (.lst (told.map depO)), .dat (.bl due), .dat (.int pl), .dat (.lst (lon.map stD)), .dat (depD nt), .dat (.bl nd), s13, .no, .no, .no, .no, .no, .no, .no], rfl, ⟨_, rfl⟩, ?_, ?_⟩
  · rintro m dd env' hdd ⟨s13, rfl⟩
    obtain ⟨sx, rfl, sok, sxl⟩ : ∃ sx : List Stp, dd = .lst (sx.map stD) ∧ (∀ st ∈ sx, StpOk st) ∧ sx.length ≤ 100 := by
      have hm := List.mem_of_getElem? hdd
      rcases List.mem_cons.mp hm with e | e
      · exact ⟨sts, e, hC.ok, by omega⟩
      · exact ⟨lon, List.mem_singleton.mp e, lonOk, by omega⟩
    refine db_cons (ds_if (dt_not (dt_val ?_)))
    refine de_call F9 (hr.mono (by decide)) ?_
    refine da_cons ?_
    refine de_var 2 rfl ?_
    refine da_cons ?_
    refine de_var 7 rfl ?_
    refine da_cons ?_
    refine de_var 5 rfl ?_
    refine da_cons ?_
    refine de_var 8 rfl ?_
    refine da_cons ?_
    refine de_var 13 rfl ?_
    refine da_nil ?_
    refine ⟨n, told, t, due, sx, rfl, h0, hn, hD, ht, sok, sxl, fun r2 hrun hre => hdue.mpr (run_fol h0 hD ht hrun hre), ?_⟩
    refine ⟨true, rfl, ?_⟩
    refine db_nil (db_cons (ds_if (dt_not (dt_val ?_))))
    refine de_call F9 (hr.mono (by decide)) ?_
    refine da_cons ?_
    refine de_var 2 rfl ?_
    refine da_cons ?_
    refine de_var 7 rfl ?_
    refine da_cons ?_
    refine de_var 11 rfl ?_
    refine da_cons ?_
    refine de_var 12 rfl ?_
    refine da_cons ?_
    refine de_var 13 rfl ?_
    refine da_nil ?_
    refine ⟨n, told, nt, nd, sx, rfl, h0, hn, hD, hnt, sok, sxl, fun r2 hrun hre => hnd.mpr (run_fol h0 hD hnt hrun hre), ?_⟩
    refine ⟨true, rfl, ?_⟩
    exact db_nil (db_nil ⟨_, rfl⟩)
  rintro env' ⟨s13, rfl⟩
  refine db_cons (ds_set 14 ?_ sc_law.nd)
  refine de_call F10 (hr.mono (by decide)) ?_
  refine da_cons ?_
  refine de_var 2 rfl ?_
  refine da_cons ?_
  refine de_var 4 rfl ?_
  refine da_cons ?_
  refine de_call F11 (hr.mono (by decide)) ?_
  refine da_cons ?_
  refine de_var 2 rfl ?_
  refine da_cons ?_
  refine de_var 11 rfl ?_
  refine da_nil ?_
  refine ⟨n, nt, rfl, h0, hn, hnt, ?_⟩
  refine da_cons ?_
  refine de_cmp (dc_eq ?_)
  refine de_ix (fun _ _ => rfl) ?_
  refine de_var 11 rfl ?_
  refine de_int ?_
  refine at_dep0 ?_
  refine de_str ?_
  refine ⟨_, ne_jd nt, ?_⟩
  refine da_nil ?_
  refine ⟨n, b2, vals2, told, firstR n nt, decide (nt.cl = .jd), rfl, n1, B2, hD, g1, hb2, by omega, fun R C r1 r2 r3 r4 => ?_⟩
  have rok := (table_keeps B2 hb20 r2 r1 hnt).1
  refine db_cons (ds_set 15 ?_ sc_law.nd)
  refine de_call F6 (hr.mono (by decide)) ?_
  refine da_cons ?_
  refine de_var 2 rfl ?_
  refine da_cons ?_
  refine de_var 7 rfl ?_
  refine da_cons ?_
  refine de_call F4 (hr.mono (by decide)) ?_
  refine da_cons ?_
  refine de_var 11 rfl ?_
  refine da_nil ?_
  refine ⟨n, nt, rfl, hn, hnt, ?_⟩
  refine da_cons ?_
  refine de_bl ?_
  refine da_cons ?_
  refine de_tup ?_
  refine da_cons ?_
  refine de_str ?_
  refine da_cons ?_
  refine de_tupleOf M.tuple_ ?_
  refine de_var 14 rfl ?_
  refine ⟨_, rfl, ?_⟩
  refine da_nil ?_
  refine ⟨by simp, ?_⟩
  refine da_nil ?_
  refine .inr ⟨n, told, nt, R, rfl, n, told, nt, R, rfl, h0, hn, hD, hnt, r4, rok, fun d hd => (table_keeps B2 hb20 r2 r1 (hD d hd)).2.1, (table_keeps B2 hb20 r2 r1 hnt).2.1, fun ac hac => ?_⟩
  have hac2 : ac = true ↔ ¬ Fol n told nt := hac.trans ((and_congr (forall_congr' fun d => forall_congr' fun hd => (table_keeps B2 hb20 r2 r1 (hD d hd)).2.2) (not_congr (table_keeps B2 hb20 r2 r1 hnt).2.2)).trans (table_against hnt C))
  refine db_cons (ds_if (dt_bool (dw_or (dt_not (dt_val (de_isiB M.isinstance_ M.bool_ (de_var 15 rfl ⟨ac, rfl, true, rfl, ?_⟩)))))))
  refine dw_or1 (dt_cmp (dc_eq ?_))
  refine de_var 15 rfl ?_
  refine de_var 12 rfl ?_
  refine ⟨_, rfl, _, rfl, ?_⟩
  have hne : ac ≠ nd := fun e => by
    subst e
    cases ac with
    | true => exact hac2.mp rfl (hnd.mp rfl)
    | false =>
      have : ¬ Fol n told nt := fun h => by have := hnd.mpr h; cases this
      have := hac2.mpr this
      cases this
  rw [if_neg fun h => hne (of_decide_eq_true h)]
  let c3 : List Int := [1, 16, 256]
  have hc3 : ∀ c ∈ c3, 0 < c ∧ c < 1073741824 := by decide
  refine db_nil ?_
  refine db_cons (ds_lcR 16 (j := 19) rfl sc_law.nd (blkOk_by (N := n_law) (sc := defScope s_law) (by decide +kernel)) (fun _ _ _ _ _ => pg_name (i := 19) sc_law.nd rfl (by first | exact Or.inl rfl | exact Or.inr rfl)) M.range_ rfl ?_)
  refine de_mod ?_
  refine de_ix (fun _ _ => rfl) ?_
  refine de_var 1 rfl ?_
  refine de_int ?_
  refine hN.at_ (by decide) (by decide) fun u u0 u1 => ?_
  refine de_int ?_
  refine ⟨by decide, ?_⟩
  have q1 := Int.emod_nonneg u (b := 4) (by decide)
  have q2 := Int.emod_lt_of_pos u (b := 4) (by decide)
  generalize hum : u % 4 = um at *
  refine ⟨um, fun _ => true, fun k => rowD (setV (cel ns 19 / cel c3 k) n), by rw [← hum], q1, by omega, ⟨fun k hk _ _ _ _ _ => di_nil rfl, fun k hk _ _ _ _ _ _ => de_call F12 (hr.mono (by decide)) (da_cons ?_)⟩, ?_⟩
  · have kk := rgI_mem.mp hk
    have kl : k < c3.length := by show k < 3; omega
    have hcc := hc3 _ (cel_mem kk.1 kl)
    refine de_fdiv ?_
    refine de_ix (fun _ _ => rfl) ?_
    refine de_var 1 rfl ?_
    refine de_int ?_
    refine ix_in (.inr rfl) (by decide) (by rw [nl]; decide) ?_
    refine de_ix (fun _ _ => rfl) ?_
    refine de_lst ?_
    refine da_cons ?_
    refine de_int ?_
    refine da_cons ?_
    refine de_int ?_
    refine da_cons ?_
    refine de_int ?_
    refine da_nil ?_
    refine ⟨by simp, ?_⟩
    refine de_var 19 rfl ?_
    refine ⟨_, at_cel (r := c3) kk.1 kl, ?_⟩
    refine ⟨⟨hcc.1, hcc.2⟩, ?_⟩
    refine da_cons ?_
    refine de_var 2 rfl ?_
    refine da_nil ?_
    exact ⟨_, n, rfl, h0, hn, rfl⟩
  rw [filter_true]
  obtain ⟨ses, esl, ees⟩ : ∃ ses : List (List Int), ses.length ≤ 3 ∧ D.lst ((rgI um).map fun k => rowD (setV (cel ns 19 / cel c3 k) n)) = .lst (ses.map rowD) := ⟨(rgI um).map fun k => setV (cel ns 19 / cel c3 k) n, by rw [List.length_map, rgI_len]; omega, by rw [List.map_map]; rfl⟩
  rw [ees]
  refine db_cons (ds_lcL 17 (j := 20) rfl sc_law.nd (blkOk_by (N := n_law) (sc := defScope s_law) (by decide +kernel)) (fun _ _ _ _ _ => pg_name (i := 20) sc_law.nd rfl (by first | exact Or.inl rfl | exact Or.inr rfl)) rfl ?_)
  refine de_var 16 rfl ?_
  let dr : List Int → List Int := fun s => (rgI n).map fun k => if k ∈ s then 1 else 0
  refine ⟨_, ses, rowD, fun _ => true, fun s => rowD (dr s), rfl, by omega, ⟨fun k hk _ _ _ _ _ => di_nil rfl, fun s hs _ _ _ _ _ _ => de_tupleOf M.tuple_ (de_lcR (j := 19) rfl sc_law.nd (blkOk_by (N := n_law) (sc := scL) (by decide +kernel)) (fun _ _ _ _ _ => pg_name (i := 19) sc_law.nd rfl (by first | exact Or.inl rfl | exact Or.inr rfl)) M.range_ (de_var 2 rfl ?_))⟩, ?_⟩
  · refine ⟨n, fun _ => true, fun k => .int (if k ∈ s then 1 else 0), rfl, h0, by omega, ⟨fun k hk _ _ _ _ _ => di_nil rfl, fun k hk _ _ _ _ _ _ => de_intOf M.int_ (de_cmp (dc_in (de_var 19 rfl (de_var 20 rfl ⟨k, s, rfl, .inl rfl, ?_⟩))))⟩, _, rfl, ?_⟩
    · show D.int (if decide (k ∈ s) = true then 1 else 0) = _
      by_cases hks : k ∈ s <;> simp [hks]
    · rw [filter_true]
      show D.tup _ = rowD ((rgI n).map fun k => if k ∈ s then 1 else 0)
      unfold rowD
      rw [List.map_map]
      rfl
  rw [filter_true]
  have edr : D.lst (ses.map fun s => rowD (dr s)) = rowsD (ses.map dr) := by unfold rowsD; rw [List.map_map]; rfl
  rw [edr]
  have drn : RowsN n (ses.map dr) := fun x hx => by
    obtain ⟨s, _, rfl⟩ := List.mem_map.mp hx
    exact len_rg
  have drb : InBx n (fun _ => [0, 1]) (ses.map dr) := fun x hx k e0 e1 => by
    obtain ⟨s, _, rfl⟩ := List.mem_map.mp hx
    rw [show cel (dr s) k = if k ∈ s then 1 else 0 from cel_map e0 e1]
    split <;> simp
  have B3 := bx01 h0 hn
  refine db_cons (ds_set 17 ?_ sc_law.nd)
  refine de_call F10 (hr.mono (by decide)) ?_
  refine da_cons ?_
  refine de_var 2 rfl ?_
  refine da_cons ?_
  refine de_var 4 rfl ?_
  refine da_cons ?_
  refine de_var 17 rfl ?_
  refine da_cons ?_
  refine de_bl ?_
  refine da_nil ?_
  refine ⟨n, 2, fun _ => [0, 1], told, ses.map dr, false, rfl, n1, B3, hD, drn, drb, by rw [List.length_map]; omega, fun Dr C2 s1 s2 s3 s4 => ?_⟩
  have dk : ∀ d ∈ told, Kp n Dr d := C2.fx.elim id fun h => by cases h.1
  have rok2 := (table_keeps B3 (by decide) s2 s1 hnt).1
  refine db_cons (ds_set 15 ?_ sc_law.nd)
  refine de_call F6 (hr.mono (by decide)) ?_
  refine da_cons ?_
  refine de_var 2 rfl ?_
  refine da_cons ?_
  refine de_var 7 rfl ?_
  refine da_cons ?_
  refine de_call F4 (hr.mono (by decide)) ?_
  refine da_cons ?_
  refine de_var 11 rfl ?_
  refine da_nil ?_
  refine ⟨n, nt, rfl, hn, hnt, ?_⟩
  refine da_cons ?_
  refine de_bl ?_
  refine da_cons ?_
  refine de_tup ?_
  refine da_cons ?_
  refine de_str ?_
  refine da_cons ?_
  refine de_tupleOf M.tuple_ ?_
  refine de_var 17 rfl ?_
  refine ⟨_, rfl, ?_⟩
  refine da_nil ?_
  refine ⟨by simp, ?_⟩
  refine da_nil ?_
  refine .inr ⟨n, told, nt, Dr, rfl, n, told, nt, Dr, rfl, h0, hn, hD, hnt, s4, rok2, fun d hd => (table_keeps B3 (by decide) s2 s1 (hD d hd)).2.1, (table_keeps B3 (by decide) s2 s1 hnt).2.1, fun ad had => ?_⟩
  have had2 : ad = true ↔ ¬ Kp n Dr nt := had.trans ⟨fun h => (not_congr (table_keeps B3 (by decide) s2 s1 hnt).2.2).mp h.2, fun h => ⟨fun d hd => (table_keeps B3 (by decide) s2 s1 (hD d hd)).2.2.mpr (dk d hd), (not_congr (table_keeps B3 (by decide) s2 s1 hnt).2.2).mpr h⟩⟩
  refine db_cons (ds_if (dt_not (dt_val (de_isiB M.isinstance_ M.bool_ (de_var 15 rfl ⟨ad, rfl, true, rfl, ?_⟩)))))
  refine db_nil ?_
  refine db_cons (ds_ret ?_)
  refine de_and ?_
  refine de_cmp (dc_ne ?_)
  refine de_var 15 rfl ?_
  refine de_call F13 (hr.mono (by decide)) ?_
  refine da_cons ?_
  refine de_var 17 rfl ?_
  refine da_cons ?_
  refine de_var 11 rfl ?_
  refine da_cons ?_
  refine de_var 2 rfl ?_
  refine da_nil ?_
  refine ⟨n, 2, fun _ => [0, 1], Dr, nt, rfl, n1, B3, hnt, s1, s2, s4, fun kb hkb => ⟨_, rfl, _, rfl, ?_⟩⟩
  have hne2 : ad ≠ kb := fun e => by
    subst e
    cases ad with
    | true => exact had2.mp rfl (hkb.mp rfl)
    | false =>
      have : ¬ Kp n Dr nt := fun h => by have := hkb.mpr h; cases this
      have := had2.mpr this
      cases this
  rw [if_pos (by simp [hne2])]
  refine de_one (de_not (de_and (de_var 15 rfl ⟨ad, rfl, ?_⟩)))
  cases ad with
  | false => exact ⟨false, rfl, q⟩
  | true =>
    rw [if_pos rfl]
    refine de_one (de_var 12 rfl ⟨nd, rfl, ?_⟩)
    cases nd with
    | false => exact q
    | true => exact absurd (hnd.mp rfl Dr s1 dk) (had2.mp rfl)
end

end DD
set_option maxHeartbeats 0
namespace DD
open PySem PySem.Spec PyProof.Rows L2
def clName : Cl → Str
  | .fd => "Fd"
  | .mvd => "Mvd"
  | .jd => "Jd"
  | .tab => "Table"
  | .rp => "Replay"
def clAt (K : PySem.W.Frag) (k : Cl) : Addr := He.ga K (clName k)
theorem cl_mem (k : Cl) : clName k ∈ clNs := by cases k <;> decide
theorem cl_eq (k j : Cl) : decide (clName k = clName j) = decide (k = j) := by cases k <;> cases j <;> decide
section
variable {P : Program} {w : World} {K : PySem.W.Frag} {h : Heap} {mg : Str → Option Value}
abbrev Says (w : World) (h : Heap) (K : PySem.W.Frag) : Prop := He.SaysX hdFa hdFn [] [] hdEx w h K
theorem says_cf (c : Says w h K) : CF K (clAt K) := by
  obtain ⟨e1, e2⟩ := He.ba (show ((getB K && takB K) && (clNs.all (clsB K) && (clNs.all (mroB K) && clNs.all (kitB K)))) = true from c.more)
  obtain ⟨g1, g2⟩ := He.ba e1
  obtain ⟨m1, m2⟩ := He.ba e2
  obtain ⟨n1, n2⟩ := He.ba m2
  refine ⟨fun k => ?_, fun k f hf => ?_, fun k => He.eqO_ok (List.all_eq_true.mp m1 _ (cl_mem k)), He.eqO_ok g1, of_decide_eq_true g2, fun k => of_decide_eq_true (List.all_eq_true.mp n1 _ (cl_mem k)), fun k j => (of_decide_eq_true (List.all_eq_true.mp (List.all_eq_true.mp n2 _ (cl_mem k)) _ (cl_mem j))).trans (congrArg some (cl_eq k j))⟩
  · cases k
    · exact He.cls_ok (c.t.d.fact 52 (f := .cls "Fd") rfl)
    · exact He.cls_ok (c.t.d.fact 55 (f := .cls "Mvd") rfl)
    · exact He.cls_ok (c.t.d.fact 58 (f := .cls "Jd") rfl)
    · exact He.cls_ok (c.t.d.fact 61 (f := .cls "Table") rfl)
    · exact He.cls_ok (c.t.d.fact 64 (f := .cls "Replay") rfl)
  · cases k
    · have hf2 : f = "left" ∨ f = "right" := by
        rcases List.mem_cons.mp hf with e | e
        · exact .inl e
        · exact .inr (List.mem_singleton.mp e)
      rcases hf2 with e | e
      · subst e; exact He.noat_ok (c.t.d.fact 66 (f := .noat "Fd" "left") rfl)
      · subst e; exact He.noat_ok (c.t.d.fact 67 (f := .noat "Fd" "right") rfl)
    · have hf2 : f = "left" ∨ f = "right" := by
        rcases List.mem_cons.mp hf with e | e
        · exact .inl e
        · exact .inr (List.mem_singleton.mp e)
      rcases hf2 with e | e
      · subst e; exact He.noat_ok (c.t.d.fact 68 (f := .noat "Mvd" "left") rfl)
      · subst e; exact He.noat_ok (c.t.d.fact 69 (f := .noat "Mvd" "right") rfl)
    · have e := List.mem_singleton.mp (show f ∈ (["parts"] : List Str) from hf)
      subst e
      exact He.noat_ok (c.t.d.fact 70 (f := .noat "Jd" "parts") rfl)
    · have hf2 : f = "columns" ∨ f = "rows" := by
        rcases List.mem_cons.mp hf with e | e
        · exact .inl e
        · exact .inr (List.mem_singleton.mp e)
      rcases hf2 with e | e
      · subst e; exact He.noat_ok (c.t.d.fact 71 (f := .noat "Table" "columns") rfl)
      · subst e; exact He.noat_ok (c.t.d.fact 72 (f := .noat "Table" "rows") rfl)
    · have hf2 : f = "count" ∨ f = "rows" := by
        rcases List.mem_cons.mp hf with e | e
        · exact .inl e
        · exact .inr (List.mem_singleton.mp e)
      rcases hf2 with e | e
      · subst e; exact He.noat_ok (c.t.d.fact 73 (f := .noat "Replay" "count") rfl)
      · subst e; exact He.noat_ok (c.t.d.fact 74 (f := .noat "Replay" "rows") rfl)
theorem says_cg (X : K.In h) (G : h.Ns mainGlobals mg) (c : Says w h K) : CG mg (clAt K) :=
  ⟨He.glo_ok X G (c.t.d.fact 51 (f := .glo "Fd") rfl), He.glo_ok X G (c.t.d.fact 54 (f := .glo "Mvd") rfl), He.glo_ok X G (c.t.d.fact 57 (f := .glo "Jd") rfl), He.glo_ok X G (c.t.d.fact 60 (f := .glo "Table") rfl), He.glo_ok X G (c.t.d.fact 63 (f := .glo "Replay") rfl)⟩
theorem says_mf (X : K.In h) (G : h.Ns mainGlobals mg) (c : Says w h K) : MF mg :=
  ⟨He.free_ok X G (c.t.d.fact 82 (f := .free "len") rfl), He.free_ok X G (c.t.d.fact 83 (f := .free "tuple") rfl), He.free_ok X G (c.t.d.fact 84 (f := .free "sorted") rfl), He.free_ok X G (c.t.d.fact 85 (f := .free "set") rfl), He.free_ok X G (c.t.d.fact 86 (f := .free "list") rfl), He.free_ok X G (c.t.d.fact 87 (f := .free "range") rfl), He.free_ok X G (c.t.d.fact 88 (f := .free "int") rfl), He.free_ok X G (c.t.d.fact 89 (f := .free "min") rfl), He.free_ok X G (c.t.d.fact 90 (f := .free "max") rfl), He.free_ok X G (c.t.d.fact 91 (f := .free "all") rfl), He.free_ok X G (c.t.d.fact 92 (f := .free "any") rfl), He.free_ok X G (c.t.d.fact 93 (f := .free "isinstance") rfl), He.free_ok X G (c.t.d.fact 94 (f := .free "enumerate") rfl), He.free_ok X G (c.t.d.fact 95 (f := .free "zip") rfl), He.free_ok X G (c.t.d.fact 96 (f := .free "bool") rfl)⟩
theorem says_law {f : Addr} (X : K.In h) (G : h.Ns mainGlobals mg) (hfa : mg ("law" : Str) = some (.ref f)) (c : Says w h K) :
    ∃ fd : FuncData, (∀ (s : Shared) (v : Value), BindsTo s fd ⟨[v], []⟩ [("_law_script", v)]) ∧ ∀ base : Heap, K.In base → base.Ns mainGlobals mg → FnOk P w K mg base CX0 9 f fd ["_law_script"] (spD ⟨P, w, K, clAt K⟩ phLaw) := by
  have C := says_cf c
  have Gc := says_cg X G c
  have M := says_mf X G c
  obtain ⟨fd0, F0⟩ := c.t.d.def_ 0 (d := o_as_set) rfl
  obtain ⟨fd1, F1⟩ := c.t.d.def_ 1 (d := o_united) rfl
  obtain ⟨fd2, F2⟩ := c.t.d.def_ 2 (d := o_met) rfl
  obtain ⟨fd3, F3⟩ := c.t.d.def_ 3 (d := o_less) rfl
  obtain ⟨fd4, F4⟩ := c.t.d.def_ 4 (d := o_whole) rfl
  obtain ⟨fd5, F5⟩ := c.t.d.def_ 5 (d := o_Fd_init) rfl
  obtain ⟨fd6, F6⟩ := c.t.d.def_ 6 (d := o_Mvd_init) rfl
  obtain ⟨fd7, F7⟩ := c.t.d.def_ 7 (d := o_Jd_init) rfl
  obtain ⟨fd8, F8⟩ := c.t.d.def_ 8 (d := o_agree) rfl
  obtain ⟨fd9, F9⟩ := c.t.d.def_ 9 (d := o_joined_parts_judgesteps) rfl
  obtain ⟨fd10, F10⟩ := c.t.d.def_ 10 (d := o_Replay_has_row) rfl
  obtain ⟨fd11, F11⟩ := c.t.d.def_ 11 (d := o_first_rows) rfl
  obtain ⟨fd12, F12⟩ := c.t.d.def_ 12 (d := o_Replay_init) rfl
  obtain ⟨fd13, F13⟩ := c.t.d.def_ 13 (d := o_Replay_reached) rfl
  obtain ⟨fd14, F14⟩ := c.t.d.def_ 14 (d := o_Replay_make_same) rfl
  obtain ⟨fd15, F15⟩ := c.t.d.def_ 15 (d := o_Replay_add_joined) rfl
  obtain ⟨fd16, F16⟩ := c.t.d.def_ 16 (d := o_Replay_take) rfl
  obtain ⟨fd17, F17⟩ := c.t.d.def_ 17 (d := o_chases) rfl
  obtain ⟨fd18, F18⟩ := c.t.d.def_ 18 (d := o_Table_cells) rfl
  obtain ⟨fd19, F19⟩ := c.t.d.def_ 19 (d := o_Table_init) rfl
  obtain ⟨fd20, F20⟩ := c.t.d.def_ 20 (d := o_Table_eq) rfl
  obtain ⟨fd21, F21⟩ := c.t.d.def_ 21 (d := o_project) rfl
  obtain ⟨fd22, F22⟩ := c.t.d.def_ 22 (d := o_mixed) rfl
  obtain ⟨fd23, F23⟩ := c.t.d.def_ 23 (d := o_join) rfl
  obtain ⟨fd24, F24⟩ := c.t.d.def_ 24 (d := o_joined_parts_table) rfl
  obtain ⟨fd25, F25⟩ := c.t.d.def_ 25 (d := o_keeps_fd) rfl
  obtain ⟨fd26, F26⟩ := c.t.d.def_ 26 (d := o_parts_of) rfl
  obtain ⟨fd27, F27⟩ := c.t.d.def_ 27 (d := o_keeps) rfl
  obtain ⟨fd28, F28⟩ := c.t.d.def_ 28 (d := o_is_against) rfl
  obtain ⟨fd29, F29⟩ := c.t.d.def_ 29 (d := o_takes) rfl
  obtain ⟨fd30, F30⟩ := c.t.d.def_ 30 (d := o_law_numbers) rfl
  obtain ⟨fd31, F31⟩ := c.t.d.def_ 31 (d := o_law_set) rfl
  obtain ⟨fd32, F32⟩ := c.t.d.def_ 32 (d := o_law_sparse) rfl
  obtain ⟨fd33, F33⟩ := c.t.d.def_ 33 (d := o_law_united) rfl
  obtain ⟨fd34, F34⟩ := c.t.d.def_ 34 (d := o_law_met) rfl
  obtain ⟨fd35, F35⟩ := c.t.d.def_ 35 (d := o_law_less) rfl
  obtain ⟨fd36, F36⟩ := c.t.d.def_ 36 (d := o_law_agree) rfl
  obtain ⟨fd37, F37⟩ := c.t.d.def_ 37 (d := o_law_parts) rfl
  obtain ⟨fd38, F38⟩ := c.t.d.def_ 38 (d := o_law_object) rfl
  obtain ⟨fd39, F39⟩ := c.t.d.def_ 39 (d := o_law_first) rfl
  obtain ⟨fd40, F40⟩ := c.t.d.def_ 40 (d := o_law_dependency) rfl
  obtain ⟨fd41, F41⟩ := c.t.d.def_ 41 (d := o_law_told) rfl
  obtain ⟨fd42, F42⟩ := c.t.d.def_ 42 (d := o_law_same) rfl
  obtain ⟨fd43, F43⟩ := c.t.d.def_ 43 (d := o_law_fits) rfl
  obtain ⟨fd44, F44⟩ := c.t.d.def_ 44 (d := o_law_step) rfl
  obtain ⟨fd45, F45⟩ := c.t.d.def_ 45 (d := o_law_drawn_same) rfl
  obtain ⟨fd46, F46⟩ := c.t.d.def_ 46 (d := o_law_drawn_join) rfl
  obtain ⟨fd47, F47⟩ := c.t.d.def_ 47 (d := o_law_drawn_step) rfl
  obtain ⟨fd48, F48⟩ := c.t.d.def_ 48 (d := o_law_steps) rfl
  obtain ⟨fd49, F49⟩ := c.t.d.def_ 49 (d := o_law_join_target) rfl
  obtain ⟨fd50, F50⟩ := c.t.d.def_ 50 (d := o_law_parted) rfl
  obtain ⟨fd51, F51⟩ := c.t.d.def_ 51 (d := o_law_planted) rfl
  obtain ⟨fd52, F52⟩ := c.t.d.def_ 52 (d := o_law_case) rfl
  obtain ⟨fd53, F53⟩ := c.t.d.def_ 53 (d := o_law_joined) rfl
  obtain ⟨fd54, F54⟩ := c.t.d.def_ 54 (d := o_law_keeps) rfl
  obtain ⟨fd55, F55⟩ := c.t.d.def_ 55 (d := o_law_once) rfl
  obtain ⟨fd56, F56⟩ := c.t.d.def_ 56 (d := o_law_closed) rfl
  obtain ⟨fd57, F57⟩ := c.t.d.def_ 57 (d := o_law_due) rfl
  obtain ⟨fd58, F58⟩ := c.t.d.def_ 58 (d := o_law_free) rfl
  obtain ⟨fd59, F59⟩ := c.t.d.def_ 59 (d := o_law_loose) rfl
  obtain ⟨fd60, F60⟩ := c.t.d.def_ 60 (d := o_law_near) rfl
  obtain ⟨fd61, F61⟩ := c.t.d.def_ 61 (d := o_law_is_true) rfl
  obtain ⟨fd62, F62⟩ := c.t.d.def_ 62 (d := o_law) rfl
  have e := hfa.symm.trans (He.glo_ok X G (c.t.d.fact 50 (f := .glo "law") rfl))
  cases e
  have b := FunD.bindsA (ps := ["_law_script"]) F62 fun _ _ _ _ _ _ us hl => match us, hl with | [_], _ => rfl
  refine ⟨fd62, fun s v => b s [v] rfl, fun base _ _ => ?_⟩
  have U_as_set : FnG P w K (clAt K) mg base "as_set" 1 phAs := ⟨⟨_, fd0, _, ok_as_set M F0, He.glo_ok X G (c.t.d.fact 0 (f := .glo "as_set") rfl), F0.kp, FunD.bindsN F0 fun _ _ _ _ _ _ us hl => match us, hl with | [_], _ => rfl⟩⟩
  have U_united : FnG P w K (clAt K) mg base "united" 2 phUn := ⟨⟨_, fd1, _, ok_united M F1 U_as_set, He.glo_ok X G (c.t.d.fact 1 (f := .glo "united") rfl), F1.kp, FunD.bindsN F1 fun _ _ _ _ _ _ us hl => match us, hl with | [_, _], _ => rfl⟩⟩
  have U_met : FnG P w K (clAt K) mg base "met" 1 phMet := ⟨⟨_, fd2, _, ok_met M F2, He.glo_ok X G (c.t.d.fact 2 (f := .glo "met") rfl), F2.kp, FunD.bindsN F2 fun _ _ _ _ _ _ us hl => match us, hl with | [_, _], _ => rfl⟩⟩
  have U_less : FnG P w K (clAt K) mg base "less" 1 phLess := ⟨⟨_, fd3, _, ok_less M F3, He.glo_ok X G (c.t.d.fact 3 (f := .glo "less") rfl), F3.kp, FunD.bindsN F3 fun _ _ _ _ _ _ us hl => match us, hl with | [_, _], _ => rfl⟩⟩
  have U_whole : FnG P w K (clAt K) mg base "whole" 1 phWhole := ⟨⟨_, fd4, _, ok_whole M F4, He.glo_ok X G (c.t.d.fact 4 (f := .glo "whole") rfl), F4.kp, FunD.bindsN F4 fun _ _ _ _ _ _ us hl => match us, hl with | [_], _ => rfl⟩⟩
  have U_Fd : MkG P w K (clAt K) mg base "Fd" .fd 2 (phSides .fd) := ⟨⟨_, fd5, _, He.mkr_ok (c.t.d.fact 53 (f := .mkr "Fd") rfl), ok_Sides .fd rfl M C F5 U_as_set, He.glo_ok X G (c.t.d.fact 51 (f := .glo "Fd") rfl), FunD.bindsN F5 fun _ _ _ _ _ _ us hl => match us, hl with | [_, _, _], _ => rfl⟩⟩
  have U_Mvd : MkG P w K (clAt K) mg base "Mvd" .mvd 2 (phSides .mvd) := ⟨⟨_, fd6, _, He.mkr_ok (c.t.d.fact 56 (f := .mkr "Mvd") rfl), ok_Sides .mvd rfl M C F6 U_as_set, He.glo_ok X G (c.t.d.fact 54 (f := .glo "Mvd") rfl), FunD.bindsN F6 fun _ _ _ _ _ _ us hl => match us, hl with | [_, _, _], _ => rfl⟩⟩
  have U_Jd : MkG P w K (clAt K) mg base "Jd" .jd 2 phJd := ⟨⟨_, fd7, _, He.mkr_ok (c.t.d.fact 59 (f := .mkr "Jd") rfl), ok_Jd M C F7 U_as_set, He.glo_ok X G (c.t.d.fact 57 (f := .glo "Jd") rfl), FunD.bindsN F7 fun _ _ _ _ _ _ us hl => match us, hl with | [_, _], _ => rfl⟩⟩
  have U_agree : FnG P w K (clAt K) mg base "agree" 1 phAgree := ⟨⟨_, fd8, _, ok_agree M F8, He.glo_ok X G (c.t.d.fact 5 (f := .glo "agree") rfl), F8.kp, FunD.bindsN F8 fun _ _ _ _ _ _ us hl => match us, hl with | [_, _, _], _ => rfl⟩⟩
  have U_jparts_s : FnG P w K (clAt K) mg base "joined_parts_judgesteps" 3 phJp := ⟨⟨_, fd9, _, ok_jparts_s M C Gc F9 U_united U_less U_whole, He.glo_ok X G (c.t.d.fact 6 (f := .glo "joined_parts_judgesteps") rfl), F9.kp, FunD.bindsN F9 fun _ _ _ _ _ _ us hl => match us, hl with | [_, _], _ => rfl⟩⟩
  have U_has : MtG P w K (clAt K) mg base .rp "has_row" 1 phHas := ⟨⟨_, fd10, _, He.meth_ok (c.t.d.fact 75 (f := .meth "Replay" "has_row") rfl), ok_has M C F10, FunD.bindsN F10 fun _ _ _ _ _ _ us hl => match us, hl with | [_, _], _ => rfl⟩⟩
  have U_first : FoG P w K (clAt K) mg base "first_rows" 1 phFr := ⟨⟨_, fd11, _, ok_first M C Gc F11, He.glo_ok X G (c.t.d.fact 7 (f := .glo "first_rows") rfl), F11.kp, FunD.bindsN F11 fun _ _ _ _ _ _ us hl => match us, hl with | [_, _], _ => rfl⟩⟩
  have U_Replay : MkG P w K (clAt K) mg base "Replay" .rp 2 phRp := ⟨⟨_, fd12, _, He.mkr_ok (c.t.d.fact 65 (f := .mkr "Replay") rfl), ok_Replay M C F12 U_first, He.glo_ok X G (c.t.d.fact 63 (f := .glo "Replay") rfl), FunD.bindsN F12 fun _ _ _ _ _ _ us hl => match us, hl with | [_, _, _], _ => rfl⟩⟩
  have U_reached : MtG P w K (clAt K) mg base .rp "reached" 3 phReach := ⟨⟨_, fd13, _, He.meth_ok (c.t.d.fact 76 (f := .meth "Replay" "reached") rfl), ok_reached M C Gc F13 U_agree U_united U_less U_whole, FunD.bindsN F13 fun _ _ _ _ _ _ us hl => match us, hl with | [_, _], _ => rfl⟩⟩
  have U_make_same : MsG P w K (clAt K) mg base .rp "make_same" 2 phMk := ⟨⟨_, fd14, _, He.meth_ok (c.t.d.fact 77 (f := .meth "Replay" "make_same") rfl), ok_make_same M C Gc F14 U_agree U_has, FunD.bindsN F14 fun _ _ _ _ _ _ us hl => match us, hl with | [_, _, _, _, _], _ => rfl⟩⟩
  have U_add_joined : MsG P w K (clAt K) mg base .rp "add_joined" 4 phAj := ⟨⟨_, fd15, _, He.meth_ok (c.t.d.fact 78 (f := .meth "Replay" "add_joined") rfl), ok_add_joined M C Gc F15 U_jparts_s U_has, FunD.bindsN F15 fun _ _ _ _ _ _ us hl => match us, hl with | [_, _, _], _ => rfl⟩⟩
  have U_take : MsG P w K (clAt K) mg base .rp "take" 5 phTake := ⟨⟨_, fd16, _, He.meth_ok (c.t.d.fact 79 (f := .meth "Replay" "take") rfl), ok_take M C F16 U_make_same U_add_joined, FunD.bindsN F16 fun _ _ _ _ _ _ us hl => match us, hl with | [_, _, _], _ => rfl⟩⟩
  have U_chases : FnG P w K (clAt K) mg base "chases" 6 phCh := ⟨⟨_, fd17, _, ok_chases M C F17 U_Replay U_take U_reached, He.glo_ok X G (c.t.d.fact 8 (f := .glo "chases") rfl), F17.kp, FunD.bindsN F17 fun _ _ _ _ _ _ us hl => match us, hl with | [_, _, _, _], _ => rfl⟩⟩
  have U_cells : MtG P w K (clAt K) mg base .tab "cells" 1 phCells := ⟨⟨_, fd18, _, He.meth_ok (c.t.d.fact 80 (f := .meth "Table" "cells") rfl), ok_cells M C F18, FunD.bindsN F18 fun _ _ _ _ _ _ us hl => match us, hl with | [_, _, _], _ => rfl⟩⟩
  have U_Table : MkG P w K (clAt K) mg base "Table" .tab 1 phTab := ⟨⟨_, fd19, _, He.mkr_ok (c.t.d.fact 62 (f := .mkr "Table") rfl), ok_Table M C F19, He.glo_ok X G (c.t.d.fact 60 (f := .glo "Table") rfl), FunD.bindsN F19 fun _ _ _ _ _ _ us hl => match us, hl with | [_, _, _], _ => rfl⟩⟩
  have U_Table_eq : EqC P w K (clAt K) mg base .tab 1 phTabEq := ⟨⟨_, fd20, _, (He.meth_ok (c.t.d.fact 81 (f := .meth "Table" "__eq__") rfl)).at_, (He.meth_ok (c.t.d.fact 81 (f := .meth "Table" "__eq__") rfl)).fn, ok_Table_eq M C Gc F20, FunD.bindsN F20 fun _ _ _ _ _ _ us hl => match us, hl with | [_, _], _ => rfl⟩⟩
  have U_project : FnG P w K (clAt K) mg base "project" 3 phProj := ⟨⟨_, fd21, _, ok_project M C F21 U_Table U_cells, He.glo_ok X G (c.t.d.fact 9 (f := .glo "project") rfl), F21.kp, FunD.bindsN F21 fun _ _ _ _ _ _ us hl => match us, hl with | [_, _], _ => rfl⟩⟩
  have U_mixed : FnG P w K (clAt K) mg base "mixed" 1 phMixed := ⟨⟨_, fd22, _, ok_mixed M C F22, He.glo_ok X G (c.t.d.fact 10 (f := .glo "mixed") rfl), F22.kp, FunD.bindsN F22 fun _ _ _ _ _ _ us hl => match us, hl with | [_, _, _, _, _], _ => rfl⟩⟩
  have U_join : FnG P w K (clAt K) mg base "join" 3 phJoin := ⟨⟨_, fd23, _, ok_join M C F23 U_Table U_cells U_united U_met U_mixed, He.glo_ok X G (c.t.d.fact 11 (f := .glo "join") rfl), F23.kp, FunD.bindsN F23 fun _ _ _ _ _ _ us hl => match us, hl with | [_, _], _ => rfl⟩⟩
  have U_jparts_t : FnG P w K (clAt K) mg base "joined_parts_table" 4 phJt := ⟨⟨_, fd24, _, ok_jparts_t M C F24 U_project U_join, He.glo_ok X G (c.t.d.fact 12 (f := .glo "joined_parts_table") rfl), F24.kp, FunD.bindsN F24 fun _ _ _ _ _ _ us hl => match us, hl with | [_, _], _ => rfl⟩⟩
  have U_keeps_fd : FnG P w K (clAt K) mg base "keeps_fd" 2 phKfd := ⟨⟨_, fd25, _, ok_keeps_fd M C F25 U_cells, He.glo_ok X G (c.t.d.fact 13 (f := .glo "keeps_fd") rfl), F25.kp, FunD.bindsN F25 fun _ _ _ _ _ _ us hl => match us, hl with | [_, _], _ => rfl⟩⟩
  have U_parts_of : FnG P w K (clAt K) mg base "parts_of" 3 phPo := ⟨⟨_, fd26, _, ok_parts_of M C Gc F26 U_united, He.glo_ok X G (c.t.d.fact 14 (f := .glo "parts_of") rfl), F26.kp, FunD.bindsN F26 fun _ _ _ _ _ _ us hl => match us, hl with | [_, _], _ => rfl⟩⟩
  have U_keeps : FnG P w K (clAt K) mg base "keeps" 5 phKeeps := ⟨⟨_, fd27, _, ok_keeps M C Gc F27 U_keeps_fd U_jparts_t U_parts_of U_Table_eq, He.glo_ok X G (c.t.d.fact 15 (f := .glo "keeps") rfl), F27.kp, FunD.bindsN F27 fun _ _ _ _ _ _ us hl => match us, hl with | [_, _], _ => rfl⟩⟩
  have U_is_against : FnG P w K (clAt K) mg base "is_against" 6 phAg := ⟨⟨_, fd28, _, ok_is_against M C F28 U_Table U_whole U_keeps, He.glo_ok X G (c.t.d.fact 16 (f := .glo "is_against") rfl), F28.kp, FunD.bindsN F28 fun _ _ _ _ _ _ us hl => match us, hl with | [_, _, _, _], _ => rfl⟩⟩
  have U_takes : FnG P w K (clAt K) mg base "takes" 7 phTakes := ⟨⟨_, fd29, _, ok_takes M F29 U_chases U_is_against, He.glo_ok X G (c.t.d.fact 17 (f := .glo "takes") rfl), F29.kp, FunD.bindsN F29 fun _ _ _ _ _ _ us hl => match us, hl with | [_, _, _, _, _], _ => rfl⟩⟩
  have U_law_numbers : FnG P w K (clAt K) mg base "_law_numbers" 1 phNum := ⟨⟨_, fd30, _, ok_law_numbers M F30, He.glo_ok X G (c.t.d.fact 18 (f := .glo "_law_numbers") rfl), F30.kp, FunD.bindsN F30 fun _ _ _ _ _ _ us hl => match us, hl with | [_, _], _ => rfl⟩⟩
  have U_law_set : FnG P w K (clAt K) mg base "_law_set" 1 phSet := ⟨⟨_, fd31, _, ok_law_set M F31, He.glo_ok X G (c.t.d.fact 19 (f := .glo "_law_set") rfl), F31.kp, FunD.bindsN F31 fun _ _ _ _ _ _ us hl => match us, hl with | [_, _], _ => rfl⟩⟩
  have U_law_sparse : FnG P w K (clAt K) mg base "_law_sparse" 1 phSet := ⟨⟨_, fd32, _, ok_law_sparse M F32, He.glo_ok X G (c.t.d.fact 20 (f := .glo "_law_sparse") rfl), F32.kp, FunD.bindsN F32 fun _ _ _ _ _ _ us hl => match us, hl with | [_, _], _ => rfl⟩⟩
  have U_law_united : FnG P w K (clAt K) mg base "_law_united" 1 phUn2 := ⟨⟨_, fd33, _, ok_law_united M F33, He.glo_ok X G (c.t.d.fact 21 (f := .glo "_law_united") rfl), F33.kp, FunD.bindsN F33 fun _ _ _ _ _ _ us hl => match us, hl with | [_, _], _ => rfl⟩⟩
  have U_law_met : FnG P w K (clAt K) mg base "_law_met" 1 phMet2 := ⟨⟨_, fd34, _, ok_law_met M F34, He.glo_ok X G (c.t.d.fact 22 (f := .glo "_law_met") rfl), F34.kp, FunD.bindsN F34 fun _ _ _ _ _ _ us hl => match us, hl with | [_, _], _ => rfl⟩⟩
  have U_law_less : FnG P w K (clAt K) mg base "_law_less" 1 phLess2 := ⟨⟨_, fd35, _, ok_law_less M F35, He.glo_ok X G (c.t.d.fact 23 (f := .glo "_law_less") rfl), F35.kp, FunD.bindsN F35 fun _ _ _ _ _ _ us hl => match us, hl with | [_, _], _ => rfl⟩⟩
  have U_law_agree : FnG P w K (clAt K) mg base "_law_agree" 1 phAgree2 := ⟨⟨_, fd36, _, ok_law_agree M F36, He.glo_ok X G (c.t.d.fact 24 (f := .glo "_law_agree") rfl), F36.kp, FunD.bindsN F36 fun _ _ _ _ _ _ us hl => match us, hl with | [_, _, _], _ => rfl⟩⟩
  have U_law_parts : FnG P w K (clAt K) mg base "_law_parts" 2 phParts2 := ⟨⟨_, fd37, _, ok_law_parts M F37 U_law_less U_law_united, He.glo_ok X G (c.t.d.fact 25 (f := .glo "_law_parts") rfl), F37.kp, FunD.bindsN F37 fun _ _ _ _ _ _ us hl => match us, hl with | [_, _], _ => rfl⟩⟩
  have U_law_object : FnG P w K (clAt K) mg base "_law_object" 4 phObj := ⟨⟨_, fd38, _, ok_law_object M F38 U_Fd U_Mvd U_Jd, He.glo_ok X G (c.t.d.fact 26 (f := .glo "_law_object") rfl), F38.kp, FunD.bindsN F38 fun _ _ _ _ _ _ us hl => match us, hl with | [_], _ => rfl⟩⟩
  have U_law_first : FnG P w K (clAt K) mg base "_law_first" 1 phFirst2 := ⟨⟨_, fd39, _, ok_law_first M F39, He.glo_ok X G (c.t.d.fact 27 (f := .glo "_law_first") rfl), F39.kp, FunD.bindsN F39 fun _ _ _ _ _ _ us hl => match us, hl with | [_, _], _ => rfl⟩⟩
  have U_law_dependency : FnG P w K (clAt K) mg base "_law_dependency" 2 phDepn := ⟨⟨_, fd40, _, ok_law_dependency M F40 U_law_sparse U_law_less U_law_united, He.glo_ok X G (c.t.d.fact 28 (f := .glo "_law_dependency") rfl), F40.kp, FunD.bindsN F40 fun _ _ _ _ _ _ us hl => match us, hl with | [_, _, _], _ => rfl⟩⟩
  have U_law_told : FnG P w K (clAt K) mg base "_law_told" 3 phTold := ⟨⟨_, fd41, _, ok_law_told M F41 U_law_dependency U_law_less, He.glo_ok X G (c.t.d.fact 29 (f := .glo "_law_told") rfl), F41.kp, FunD.bindsN F41 fun _ _ _ _ _ _ us hl => match us, hl with | [_, _, _, _], _ => rfl⟩⟩
  have U_law_same : FnG P w K (clAt K) mg base "_law_same" 2 phSame2 := ⟨⟨_, fd42, _, ok_law_same M F42 U_law_agree, He.glo_ok X G (c.t.d.fact 30 (f := .glo "_law_same") rfl), F42.kp, FunD.bindsN F42 fun _ _ _ _ _ _ us hl => match us, hl with | [_, _, _], _ => rfl⟩⟩
  have U_law_fits : FnG P w K (clAt K) mg base "_law_fits" 1 phFits := ⟨⟨_, fd43, _, ok_law_fits M F43, He.glo_ok X G (c.t.d.fact 31 (f := .glo "_law_fits") rfl), F43.kp, FunD.bindsN F43 fun _ _ _ _ _ _ us hl => match us, hl with | [_, _, _], _ => rfl⟩⟩
  have U_law_step : FnG P w K (clAt K) mg base "_law_step" 3 phStep := ⟨⟨_, fd44, _, ok_law_step M F44 U_law_same U_law_parts U_law_fits, He.glo_ok X G (c.t.d.fact 32 (f := .glo "_law_step") rfl), F44.kp, FunD.bindsN F44 fun _ _ _ _ _ _ us hl => match us, hl with | [_, _, _, _], _ => rfl⟩⟩
  have U_law_drawn_same : FnG P w K (clAt K) mg base "_law_drawn_same" 2 phDs := ⟨⟨_, fd45, _, ok_law_drawn_same M F45 U_law_agree, He.glo_ok X G (c.t.d.fact 33 (f := .glo "_law_drawn_same") rfl), F45.kp, FunD.bindsN F45 fun _ _ _ _ _ _ us hl => match us, hl with | [_, _, _, _], _ => rfl⟩⟩
  have U_law_drawn_join : FnG P w K (clAt K) mg base "_law_drawn_join" 2 phDj := ⟨⟨_, fd46, _, ok_law_drawn_join M F46 U_law_fits, He.glo_ok X G (c.t.d.fact 34 (f := .glo "_law_drawn_join") rfl), F46.kp, FunD.bindsN F46 fun _ _ _ _ _ _ us hl => match us, hl with | [_, _, _, _, _], _ => rfl⟩⟩
  have U_law_drawn_step : FnG P w K (clAt K) mg base "_law_drawn_step" 3 phDstep := ⟨⟨_, fd47, _, ok_law_drawn_step M F47 U_law_parts U_law_drawn_join U_law_drawn_same, He.glo_ok X G (c.t.d.fact 35 (f := .glo "_law_drawn_step") rfl), F47.kp, FunD.bindsN F47 fun _ _ _ _ _ _ us hl => match us, hl with | [_, _, _, _, _], _ => rfl⟩⟩
  have U_law_steps : FnG P w K (clAt K) mg base "_law_steps" 4 phSteps := ⟨⟨_, fd48, _, ok_law_steps M F48 U_law_drawn_step U_law_step, He.glo_ok X G (c.t.d.fact 36 (f := .glo "_law_steps") rfl), F48.kp, FunD.bindsN F48 fun _ _ _ _ _ _ us hl => match us, hl with | [_, _, _, _, _, _, _], _ => rfl⟩⟩
  have U_law_join_target : FnG P w K (clAt K) mg base "_law_join_target" 2 phJtg := ⟨⟨_, fd49, _, ok_law_join_target M F49 U_law_set U_law_less U_law_united U_law_sparse, He.glo_ok X G (c.t.d.fact 37 (f := .glo "_law_join_target") rfl), F49.kp, FunD.bindsN F49 fun _ _ _ _ _ _ us hl => match us, hl with | [_, _, _], _ => rfl⟩⟩
  have U_law_parted : FnG P w K (clAt K) mg base "_law_parted" 2 phPted := ⟨⟨_, fd50, _, ok_law_parted M F50 U_law_less, He.glo_ok X G (c.t.d.fact 38 (f := .glo "_law_parted") rfl), F50.kp, FunD.bindsN F50 fun _ _ _ _ _ _ us hl => match us, hl with | [_], _ => rfl⟩⟩
  have U_law_planted : FnG P w K (clAt K) mg base "_law_planted" 2 phPlt := ⟨⟨_, fd51, _, ok_law_planted M F51 U_law_met U_law_set U_law_less, He.glo_ok X G (c.t.d.fact 39 (f := .glo "_law_planted") rfl), F51.kp, FunD.bindsN F51 fun _ _ _ _ _ _ us hl => match us, hl with | [_, _, _, _], _ => rfl⟩⟩
  have U_law_case : FnG P w K (clAt K) mg base "_law_case" 5 phCase := ⟨⟨_, fd52, _, ok_law_case M F52 U_law_join_target U_law_parted U_law_first U_law_steps U_law_sparse U_law_step U_law_planted, He.glo_ok X G (c.t.d.fact 40 (f := .glo "_law_case") rfl), F52.kp, FunD.bindsN F52 fun _ _ _ _ _ _ us hl => match us, hl with | [_, _, _, _], _ => rfl⟩⟩
  have U_law_joined : FnG P w K (clAt K) mg base "_law_joined" 1 phJoined := ⟨⟨_, fd53, _, ok_law_joined M F53, He.glo_ok X G (c.t.d.fact 41 (f := .glo "_law_joined") rfl), F53.kp, FunD.bindsN F53 fun _ _ _ _ _ _ us hl => match us, hl with | [_, _, _], _ => rfl⟩⟩
  have U_law_keeps : FnG P w K (clAt K) mg base "_law_keeps" 3 phLkeeps := ⟨⟨_, fd54, _, ok_law_keeps M F54 U_law_joined U_law_parts, He.glo_ok X G (c.t.d.fact 42 (f := .glo "_law_keeps") rfl), F54.kp, FunD.bindsN F54 fun _ _ _ _ _ _ us hl => match us, hl with | [_, _, _], _ => rfl⟩⟩
  have U_law_once : FnG P w K (clAt K) mg base "_law_once" 3 phOnce := ⟨⟨_, fd55, _, ok_law_once M F55 U_law_joined U_law_parts, He.glo_ok X G (c.t.d.fact 43 (f := .glo "_law_once") rfl), F55.kp, FunD.bindsN F55 fun _ _ _ _ _ _ us hl => match us, hl with | [_, _, _], _ => rfl⟩⟩
  have U_law_closed : FnG P w K (clAt K) mg base "_law_closed" 4 phClosed := ⟨⟨_, fd56, _, ok_law_closed M F56 U_law_once, He.glo_ok X G (c.t.d.fact 44 (f := .glo "_law_closed") rfl), F56.kp, FunD.bindsN F56 fun _ _ _ _ _ _ us hl => match us, hl with | [_, _, _, _], _ => rfl⟩⟩
  have U_law_due : FnG P w K (clAt K) mg base "_law_due" 5 phDue := ⟨⟨_, fd57, _, ok_law_due M F57 U_law_closed U_law_first U_law_keeps, He.glo_ok X G (c.t.d.fact 45 (f := .glo "_law_due") rfl), F57.kp, FunD.bindsN F57 fun _ _ _ _ _ _ us hl => match us, hl with | [_, _, _], _ => rfl⟩⟩
  have U_law_free : FnG P w K (clAt K) mg base "_law_free" 3 phFree := ⟨⟨_, fd58, _, ok_law_free M F58 U_law_parts, He.glo_ok X G (c.t.d.fact 46 (f := .glo "_law_free") rfl), F58.kp, FunD.bindsN F58 fun _ _ _ _ _ _ us hl => match us, hl with | [_, _, _, _], _ => rfl⟩⟩
  have U_law_loose : FnG P w K (clAt K) mg base "_law_loose" 3 phLoose := ⟨⟨_, fd59, _, ok_law_loose M F59 U_law_parts, He.glo_ok X G (c.t.d.fact 47 (f := .glo "_law_loose") rfl), F59.kp, FunD.bindsN F59 fun _ _ _ _ _ _ us hl => match us, hl with | [_, _, _, _], _ => rfl⟩⟩
  have U_law_near : FnG P w K (clAt K) mg base "_law_near" 4 phNear := ⟨⟨_, fd60, _, ok_law_near M F60 U_law_united U_law_first U_law_loose U_law_planted, He.glo_ok X G (c.t.d.fact 48 (f := .glo "_law_near") rfl), F60.kp, FunD.bindsN F60 fun _ _ _ _ _ _ us hl => match us, hl with | [_, _, _, _, _, _], _ => rfl⟩⟩
  have U_law_is_true : FnG P w K (clAt K) mg base "_law_is_true" 8 phIst := ⟨⟨_, fd61, _, ok_law_is_true M F61 U_takes U_law_object, He.glo_ok X G (c.t.d.fact 49 (f := .glo "_law_is_true") rfl), F61.kp, FunD.bindsN F61 fun _ _ _ _ _ _ us hl => match us, hl with | [_, _, _, _, _], _ => rfl⟩⟩
  have U_law_setV : FnG P w K (clAt K) mg base "_law_set" 1 phSetV := ⟨⟨_, fd31, _, ok_law_setV M F31, He.glo_ok X G (c.t.d.fact 19 (f := .glo "_law_set") rfl), F31.kp, FunD.bindsN F31 fun _ _ _ _ _ _ us hl => match us, hl with | [_, _], _ => rfl⟩⟩
  exact ok_law M F62 U_law_numbers U_law_case U_law_told U_law_object U_law_due U_takes U_law_free U_law_near U_law_is_true U_law_closed U_law_first U_law_setV U_law_keeps
theorem scr_rep {G : Wd} {H : Hp} {a : Addr} {ns : List Int} (h : SqL G.K H a (ns.map V.int)) : RepA G H [V.ref a] [D.scr (ns.map D.int)] := .cons (.scr h (repA_ints ns)) .nil
end
end DD

open PySem PySem.W PyProof.Rows in
theorem PySem.Challenge.cw_followsortable_k60_whole_no_untrue_chase_holds : PySem.Challenge.rw_followsortable_k60_whole_no_untrue_chase.Holds := by
  w_on; o_law
  refine HandSHeadRun.head_any (r := DD.hdRow) (q := view DD.hdRow.prog [84])
    (H := DD.hdHook) (ob := DD.hdOb) (M := 20000) (loose := DD.hdNames)
    (d := HandSHeadRun.topDef DD.hdRow.prog 84) (kwd := []) DD.hdOb_eq
    (by kernel_rfl) (fun s => by kernel_rfl) DD.hdRun
    (by kernel_rfl) (by kernel_rfl) (by kernel_rfl) (by rfl)
    (by first | assumption | decide +kernel) (by decide +kernel)
    ⟨rfl, rfl, rfl, rfl, rfl, by decide +kernel⟩ ?hw ?hc
  case hw => w_witness2
  case hc =>
    refine L2.walk_ofE (l := PySem.Challenge.rw_followsortable_k60_whole_no_untrue_chase) (n := 63) (k := 9)
      (x := "_law_script") (CX := L2.CX0) rfl (by decide) (by kernel_rfl)
      ⟨rfl, by decide, by decide⟩ ?F (fun _ _ _ _ z => z)
    intro w mg fa h Y G hmg0
    obtain ⟨K, KX, c⟩ := Y
    have hmg : mg ("law" : PySem.Str) = some (.ref fa) := by
      have e : (HandSHeadRun.topDef DD.hdRow.prog 84).name = ("law" : PySem.Str) := by
        kernel_rfl
      rw [← e]
      exact hmg0
    obtain ⟨fd, hb, hF⟩ := DD.says_law (P := DD.hdRow.prog) (w := w) KX G hmg c
    refine ⟨K, fd, _, KX, hb, fun H a ns hl _ hS => ?_, hF⟩
    refine ⟨fun _ => false, _, fun d => d = .bl true, fun a h => (by cases h), ?_, ⟨ns, rfl, by omega, rfl⟩, ?_⟩
    · exact (DD.scr_rep (G := ⟨_, w, K, _⟩) hS).mono (show Evl.Ex H (DD.hid (fun _ => false) H) from fun _ _ h => h)
    · intro v H2 d _ r e
      subst e
      exact r.bl_inv
