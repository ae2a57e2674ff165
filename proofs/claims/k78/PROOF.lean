import PyProof.Rows.All
import Wide.All
import OpenK.AllK
import Wide.FinOn
import HandS.ForMost
import HandS.ForExc
import HandS.ExcInit
import HandS.TryMany
import HandS.TryElse
import HandS.CallSlots
import HandS.Wide
import HandS.Walk
import HandS.Defaults
import HandS.HeadHook2
import HandS.IsInst
import HandS.WideBits
import HandS.Deep
import HandS.SetFor
import HandS.Text
import KE.DataFind
import HandS.ClsMeth
import HandS.Style
import KE.KStateDown
import Lean
import HandS.Head0
import HandS.Head1
import HandS.Head2
import HandS.HeadEnd
import HandS.HeadHook1
import PySem.Challenge.RW_rowbreadth_k78_forms_of_one_class
section
set_option Elab.async false
set_option linter.all false
/-! Tb: the tables of the program, printed by gentb.py. -/
namespace DD
open PySem
def nC : Nat := 43
def fpath : Nat → Str × Option Str
  | 0 => ("kept", none)
  | 1 => ("divided", none)
  | 2 => ("by_bits", none)
  | 3 => ("done", none)
  | 4 => ("start_of", none)
  | 5 => ("row_cell", none)
  | 6 => ("words_of", none)
  | 7 => ("sign_word", none)
  | 8 => ("fold_word", none)
  | 9 => ("kept_word", none)
  | 10 => ("name_like", none)
  | 11 => ("number_of", none)
  | 12 => ("take_number", none)
  | 13 => ("take_name", none)
  | 14 => ("take_new", none)
  | 15 => ("take_fold", none)
  | 16 => ("take_form", none)
  | 17 => ("take_inner", none)
  | 18 => ("parts_of", none)
  | 19 => ("size_of", none)
  | 20 => ("depth_of", none)
  | 21 => ("forms_in", none)
  | 22 => ("all_within", none)
  | 23 => ("uneven", none)
  | 24 => ("crossed", none)
  | 25 => ("hold_forms", none)
  | 26 => ("read_row", none)
  | 27 => ("read_def", none)
  | 28 => ("read_till", none)
  | 29 => ("read_end", none)
  | 30 => ("take_test", none)
  | 31 => ("take_let", none)
  | 32 => ("take_put", none)
  | 33 => ("take_folded", none)
  | 34 => ("take_running", none)
  | 35 => ("read_step", none)
  | 36 => ("read_line", none)
  | 37 => ("read", none)
  | 38 => ("count_of", none)
  | 39 => ("part_of", none)
  | 40 => ("begin_strip", none)
  | 41 => ("lane_active", none)
  | 42 => ("active_lanes", none)
  | 43 => ("seat_number", none)
  | 44 => ("read_cell", none)
  | 45 => ("write_cell", none)
  | 46 => ("slot_address", none)
  | 47 => ("read_slot", none)
  | 48 => ("write_slot", none)
  | 49 => ("free", none)
  | 50 => ("joined", none)
  | 51 => ("cut_join", none)
  | 52 => ("doubled", none)
  | 53 => ("lay_mask", none)
  | 54 => ("reach_lanes", none)
  | 55 => ("trim_strip", none)
  | 56 => ("stop_refusal", none)
  | 57 => ("save_lanes", none)
  | 58 => ("store_lanes", none)
  | 59 => ("put_lanes", none)
  | 60 => ("fold_lanes", none)
  | 61 => ("runs_in_order", none)
  | 62 => ("runs_at_once", none)
  | 63 => ("running_lanes", none)
  | 64 => ("any_lanes", none)
  | 65 => ("spread_read", none)
  | 66 => ("shift_got", none)
  | 67 => ("gather_got", none)
  | 68 => ("op_got", none)
  | 69 => ("pick_got", none)
  | 70 => ("lane_got", none)
  | 71 => ("lay_seat", none)
  | 72 => ("begin_round", none)
  | 73 => ("next_strip", none)
  | 74 => ("end_turn", none)
  | 75 => ("play_effect", none)
  | 76 => ("play_step", none)
  | 77 => ("ran", none)
  | 78 => ("ask_form", none)
  | 79 => ("passed_over", none)
  | 80 => ("play_let", none)
  | 81 => ("play_put", none)
  | 82 => ("play_fold", none)
  | 83 => ("play_running", none)
  | 84 => ("play_till", none)
  | 85 => ("play_steps", none)
  | 86 => ("played", none)
  | 87 => ("lays_seat", none)
  | 88 => ("lays_mask", none)
  | 89 => ("may_fault", none)
  | 90 => ("writes_row", none)
  | 91 => ("seat_places", none)
  | 92 => ("mask_places", none)
  | 93 => ("folded_step", none)
  | 94 => ("turned_step", none)
  | 95 => ("key_of", none)
  | 96 => ("note_seat", none)
  | 97 => ("note_mask", none)
  | 98 => ("note_slot", none)
  | 99 => ("note_step", none)
  | 100 => ("known_steps", none)
  | 101 => ("is_wanted", none)
  | 102 => ("want_parts", none)
  | 103 => ("live_steps", none)
  | 104 => ("shorter_once", none)
  | 105 => ("shortened", none)
  | 106 => ("need_of", none)
  | 107 => ("lay_leaf", none)
  | 108 => ("lay_beside", none)
  | 109 => ("lay_choice", none)
  | 110 => ("lay_call", none)
  | 111 => ("lay_form", none)
  | 112 => ("group_for", none)
  | 113 => ("lay_effect", none)
  | 114 => ("step_code", none)
  | 115 => ("till_code", none)
  | 116 => ("steps_code", none)
  | 117 => ("made", none)
  | 118 => ("first_cells", none)
  | 119 => ("told_of", none)
  | 120 => ("plainly", none)
  | 121 => ("answers", none)
  | 122 => ("LineError", some "__init__")
  | 123 => ("Stopped", some "__init__")
  | 124 => ("Spot", some "__init__")
  | 125 => ("Form", some "worth")
  | 126 => ("Number", some "__init__")
  | 127 => ("Number", some "worth")
  | 128 => ("Here", some "worth")
  | 129 => ("Cell", some "__init__")
  | 130 => ("Cell", some "worth")
  | 131 => ("Shifted", some "__init__")
  | 132 => ("Shifted", some "worth")
  | 133 => ("Local", some "__init__")
  | 134 => ("Local", some "worth")
  | 135 => ("At", some "__init__")
  | 136 => ("At", some "worth")
  | 137 => ("Pair", some "__init__")
  | 138 => ("Pair", some "worth")
  | 139 => ("Choice", some "__init__")
  | 140 => ("Choice", some "worth")
  | 141 => ("Call", some "__init__")
  | 142 => ("Call", some "worth")
  | 143 => ("Known", some "__init__")
  | 144 => ("Taker", some "__init__")
  | 145 => ("Taker", some "word")
  | 146 => ("Taker", some "pass_on")
  | 147 => ("Taker", some "meet")
  | 148 => ("Taker", some "go_in")
  | 149 => ("Taker", some "go_out")
  | 150 => ("Taker", some "ended")
  | 151 => ("Taker", some "finish")
  | 152 => ("Step", some "__init__")
  | 153 => ("Step", some "many_of")
  | 154 => ("Let", some "__init__")
  | 155 => ("Put", some "__init__")
  | 156 => ("Put", some "many_of")
  | 157 => ("Fold", some "__init__")
  | 158 => ("Fold", some "many_of")
  | 159 => ("Running", some "__init__")
  | 160 => ("Till", some "__init__")
  | 161 => ("Program", some "__init__")
  | 162 => ("Source", some "__init__")
  | 163 => ("Reading", some "__init__")
  | 164 => ("Boxes", some "__init__")
  | 165 => ("Boxes", some "lay")
  | 166 => ("Boxes", some "number_at")
  | 167 => ("Feed", some "__init__")
  | 168 => ("Feed", some "taken")
  | 169 => ("Strip", some "__init__")
  | 170 => ("Bench", some "__init__")
  | 171 => ("Course", some "__init__")
  | 172 => ("Holdings", some "__init__")
  | 173 => ("Holdings", some "thing_of")
  | 174 => ("Holdings", some "seat_thing")
  | 175 => ("Holdings", some "mask_thing")
  | 176 => ("Holdings", some "slot_thing")
  | 177 => ("Holdings", some "root_at")
  | 178 => ("Holdings", some "best_seat")
  | 179 => ("Holdings", some "best_mask")
  | 180 => ("Wanted", some "__init__")
  | 181 => ("Hand", some "__init__")
  | 182 => ("Hand", some "note")
  | _ => ("", none)
def cname : Nat → Str
  | 0 => "RowError"
  | 1 => "ByNought"
  | 2 => "Outside"
  | 3 => "LineError"
  | 4 => "BadText"
  | 5 => "NoName"
  | 6 => "Twice"
  | 7 => "TooMany"
  | 8 => "TooLong"
  | 9 => "TooDeep"
  | 10 => "Uneven"
  | 11 => "Crossed"
  | 12 => "Stopped"
  | 13 => "Spot"
  | 14 => "Form"
  | 15 => "Number"
  | 16 => "Here"
  | 17 => "Cell"
  | 18 => "Shifted"
  | 19 => "Local"
  | 20 => "At"
  | 21 => "Pair"
  | 22 => "Choice"
  | 23 => "Call"
  | 24 => "Known"
  | 25 => "Taker"
  | 26 => "Step"
  | 27 => "Let"
  | 28 => "Put"
  | 29 => "Fold"
  | 30 => "Running"
  | 31 => "Till"
  | 32 => "Program"
  | 33 => "Source"
  | 34 => "Reading"
  | 35 => "Boxes"
  | 36 => "Feed"
  | 37 => "Strip"
  | 38 => "Bench"
  | 39 => "Course"
  | 40 => "Holdings"
  | 41 => "Wanted"
  | 42 => "Hand"
  | _ => ""
def fname : Nat → Str
  | 0 => "line"
  | 1 => "step"
  | 2 => "place"
  | 3 => "kind"
  | 4 => "lengths"
  | 5 => "functions"
  | 6 => "cells"
  | 7 => "own"
  | 8 => "number"
  | 9 => "row"
  | 10 => "by"
  | 11 => "other"
  | 12 => "at"
  | 13 => "sign"
  | 14 => "left"
  | 15 => "right"
  | 16 => "test"
  | 17 => "handed"
  | 18 => "rows"
  | 19 => "calls"
  | 20 => "parameters"
  | 21 => "words"
  | 22 => "still"
  | 23 => "target"
  | 24 => "value"
  | 25 => "many"
  | 26 => "fold"
  | 27 => "most"
  | 28 => "steps"
  | 29 => "program"
  | 30 => "names"
  | 31 => "lines"
  | 32 => "stack"
  | 33 => "tills"
  | 34 => "lanes"
  | 35 => "boxes"
  | 36 => "stock"
  | 37 => "spent"
  | 38 => "group"
  | 39 => "base"
  | 40 => "began"
  | 41 => "width"
  | 42 => "faults"
  | 43 => "cut"
  | 44 => "masks"
  | 45 => "slots"
  | 46 => "dust"
  | 47 => "picks"
  | 48 => "touches"
  | 49 => "now"
  | 50 => "carried"
  | 51 => "raised"
  | 52 => "ahead"
  | 53 => "opened"
  | 54 => "turns"
  | 55 => "seats"
  | 56 => "things"
  | 57 => "roots"
  | 58 => "written"
  | 59 => "age"
  | 60 => "code"
  | _ => ""
def mname : Nat → Str
  | 0 => "worth"
  | 1 => "word"
  | 2 => "pass_on"
  | 3 => "meet"
  | 4 => "go_in"
  | 5 => "go_out"
  | 6 => "ended"
  | 7 => "finish"
  | 8 => "many_of"
  | 9 => "lay"
  | 10 => "number_at"
  | 11 => "taken"
  | 12 => "thing_of"
  | 13 => "seat_thing"
  | 14 => "mask_thing"
  | 15 => "slot_thing"
  | 16 => "root_at"
  | 17 => "best_seat"
  | 18 => "best_mask"
  | 19 => "note"
  | _ => ""
def flds : Nat → List Nat
  | 3 => [0]
  | 4 => [0]
  | 5 => [0]
  | 6 => [0]
  | 7 => [0]
  | 8 => [0]
  | 9 => [0]
  | 10 => [0]
  | 11 => [0]
  | 12 => [1, 2, 3]
  | 13 => [4, 5, 6, 2, 7]
  | 15 => [8]
  | 17 => [9]
  | 18 => [9, 10, 11]
  | 19 => [12]
  | 20 => [9, 2]
  | 21 => [13, 14, 15]
  | 22 => [16, 14, 15]
  | 23 => [12, 17]
  | 24 => [18, 19, 5, 20]
  | 25 => [0, 21, 12, 22]
  | 26 => [23]
  | 27 => [23, 24, 16]
  | 28 => [23, 24, 2, 25, 16]
  | 29 => [23, 26, 24, 25, 16]
  | 30 => [23, 26, 24, 16]
  | 31 => [23, 27, 28]
  | 32 => [4, 5, 28]
  | 33 => [29, 30, 31]
  | 34 => [30, 4, 19, 5, 31, 32, 33]
  | 35 => [34, 35]
  | 36 => [36, 37]
  | 37 => [25, 38, 39, 40, 41, 42, 43]
  | 38 => [4, 6, 34, 35, 44, 45, 46, 47, 2, 48, 49, 50, 51]
  | 39 => [52, 53, 54]
  | 40 => [55, 44, 45, 56, 57, 58, 59]
  | 41 => [55, 44, 45]
  | 42 => [4, 5, 55, 60]
  | _ => []
@[simp] theorem flds_0 : flds 0 = [] := rfl
@[simp] theorem flds_1 : flds 1 = [] := rfl
@[simp] theorem flds_2 : flds 2 = [] := rfl
@[simp] theorem flds_3 : flds 3 = [0] := rfl
@[simp] theorem flds_4 : flds 4 = [0] := rfl
@[simp] theorem flds_5 : flds 5 = [0] := rfl
@[simp] theorem flds_6 : flds 6 = [0] := rfl
@[simp] theorem flds_7 : flds 7 = [0] := rfl
@[simp] theorem flds_8 : flds 8 = [0] := rfl
@[simp] theorem flds_9 : flds 9 = [0] := rfl
@[simp] theorem flds_10 : flds 10 = [0] := rfl
@[simp] theorem flds_11 : flds 11 = [0] := rfl
@[simp] theorem flds_12 : flds 12 = [1, 2, 3] := rfl
@[simp] theorem flds_13 : flds 13 = [4, 5, 6, 2, 7] := rfl
@[simp] theorem flds_14 : flds 14 = [] := rfl
@[simp] theorem flds_15 : flds 15 = [8] := rfl
@[simp] theorem flds_16 : flds 16 = [] := rfl
@[simp] theorem flds_17 : flds 17 = [9] := rfl
@[simp] theorem flds_18 : flds 18 = [9, 10, 11] := rfl
@[simp] theorem flds_19 : flds 19 = [12] := rfl
@[simp] theorem flds_20 : flds 20 = [9, 2] := rfl
@[simp] theorem flds_21 : flds 21 = [13, 14, 15] := rfl
@[simp] theorem flds_22 : flds 22 = [16, 14, 15] := rfl
@[simp] theorem flds_23 : flds 23 = [12, 17] := rfl
@[simp] theorem flds_24 : flds 24 = [18, 19, 5, 20] := rfl
@[simp] theorem flds_25 : flds 25 = [0, 21, 12, 22] := rfl
@[simp] theorem flds_26 : flds 26 = [23] := rfl
@[simp] theorem flds_27 : flds 27 = [23, 24, 16] := rfl
@[simp] theorem flds_28 : flds 28 = [23, 24, 2, 25, 16] := rfl
@[simp] theorem flds_29 : flds 29 = [23, 26, 24, 25, 16] := rfl
@[simp] theorem flds_30 : flds 30 = [23, 26, 24, 16] := rfl
@[simp] theorem flds_31 : flds 31 = [23, 27, 28] := rfl
@[simp] theorem flds_32 : flds 32 = [4, 5, 28] := rfl
@[simp] theorem flds_33 : flds 33 = [29, 30, 31] := rfl
@[simp] theorem flds_34 : flds 34 = [30, 4, 19, 5, 31, 32, 33] := rfl
@[simp] theorem flds_35 : flds 35 = [34, 35] := rfl
@[simp] theorem flds_36 : flds 36 = [36, 37] := rfl
@[simp] theorem flds_37 : flds 37 = [25, 38, 39, 40, 41, 42, 43] := rfl
@[simp] theorem flds_38 : flds 38 = [4, 6, 34, 35, 44, 45, 46, 47, 2, 48, 49, 50, 51] := rfl
@[simp] theorem flds_39 : flds 39 = [52, 53, 54] := rfl
@[simp] theorem flds_40 : flds 40 = [55, 44, 45, 56, 57, 58, 59] := rfl
@[simp] theorem flds_41 : flds 41 = [55, 44, 45] := rfl
@[simp] theorem flds_42 : flds 42 = [4, 5, 55, 60] := rfl
def mtab : Nat → Nat → Option Nat
  | 14, 0 => some 125
  | 15, 0 => some 127
  | 16, 0 => some 128
  | 17, 0 => some 130
  | 18, 0 => some 132
  | 19, 0 => some 134
  | 20, 0 => some 136
  | 21, 0 => some 138
  | 22, 0 => some 140
  | 23, 0 => some 142
  | 25, 1 => some 145
  | 25, 2 => some 146
  | 25, 3 => some 147
  | 25, 4 => some 148
  | 25, 5 => some 149
  | 25, 6 => some 150
  | 25, 7 => some 151
  | 26, 8 => some 153
  | 27, 8 => some 153
  | 28, 8 => some 156
  | 29, 8 => some 158
  | 30, 8 => some 153
  | 31, 8 => some 153
  | 35, 9 => some 165
  | 35, 10 => some 166
  | 36, 11 => some 168
  | 40, 12 => some 173
  | 40, 13 => some 174
  | 40, 14 => some 175
  | 40, 15 => some 176
  | 40, 16 => some 177
  | 40, 17 => some 178
  | 40, 18 => some 179
  | 42, 19 => some 182
  | _, _ => none
@[simp] theorem mtab_14_0 : mtab 14 0 = some 125 := rfl
@[simp] theorem mtab_15_0 : mtab 15 0 = some 127 := rfl
@[simp] theorem mtab_16_0 : mtab 16 0 = some 128 := rfl
@[simp] theorem mtab_17_0 : mtab 17 0 = some 130 := rfl
@[simp] theorem mtab_18_0 : mtab 18 0 = some 132 := rfl
@[simp] theorem mtab_19_0 : mtab 19 0 = some 134 := rfl
@[simp] theorem mtab_20_0 : mtab 20 0 = some 136 := rfl
@[simp] theorem mtab_21_0 : mtab 21 0 = some 138 := rfl
@[simp] theorem mtab_22_0 : mtab 22 0 = some 140 := rfl
@[simp] theorem mtab_23_0 : mtab 23 0 = some 142 := rfl
@[simp] theorem mtab_25_1 : mtab 25 1 = some 145 := rfl
@[simp] theorem mtab_25_2 : mtab 25 2 = some 146 := rfl
@[simp] theorem mtab_25_3 : mtab 25 3 = some 147 := rfl
@[simp] theorem mtab_25_4 : mtab 25 4 = some 148 := rfl
@[simp] theorem mtab_25_5 : mtab 25 5 = some 149 := rfl
@[simp] theorem mtab_25_6 : mtab 25 6 = some 150 := rfl
@[simp] theorem mtab_25_7 : mtab 25 7 = some 151 := rfl
@[simp] theorem mtab_26_8 : mtab 26 8 = some 153 := rfl
@[simp] theorem mtab_27_8 : mtab 27 8 = some 153 := rfl
@[simp] theorem mtab_28_8 : mtab 28 8 = some 156 := rfl
@[simp] theorem mtab_29_8 : mtab 29 8 = some 158 := rfl
@[simp] theorem mtab_30_8 : mtab 30 8 = some 153 := rfl
@[simp] theorem mtab_31_8 : mtab 31 8 = some 153 := rfl
@[simp] theorem mtab_35_9 : mtab 35 9 = some 165 := rfl
@[simp] theorem mtab_35_10 : mtab 35 10 = some 166 := rfl
@[simp] theorem mtab_36_11 : mtab 36 11 = some 168 := rfl
@[simp] theorem mtab_40_12 : mtab 40 12 = some 173 := rfl
@[simp] theorem mtab_40_13 : mtab 40 13 = some 174 := rfl
@[simp] theorem mtab_40_14 : mtab 40 14 = some 175 := rfl
@[simp] theorem mtab_40_15 : mtab 40 15 = some 176 := rfl
@[simp] theorem mtab_40_16 : mtab 40 16 = some 177 := rfl
@[simp] theorem mtab_40_17 : mtab 40 17 = some 178 := rfl
@[simp] theorem mtab_40_18 : mtab 40 18 = some 179 := rfl
@[simp] theorem mtab_42_19 : mtab 42 19 = some 182 := rfl
def isub (c d : Nat) : Bool := match c with
  | 0 => [0].elem d
  | 1 => [1, 0].elem d
  | 2 => [2, 0].elem d
  | 3 => [3, 0].elem d
  | 4 => [4, 3, 0].elem d
  | 5 => [5, 3, 0].elem d
  | 6 => [6, 3, 0].elem d
  | 7 => [7, 3, 0].elem d
  | 8 => [8, 3, 0].elem d
  | 9 => [9, 3, 0].elem d
  | 10 => [10, 3, 0].elem d
  | 11 => [11, 3, 0].elem d
  | 12 => [12, 0].elem d
  | 13 => [13].elem d
  | 14 => [14].elem d
  | 15 => [15, 14].elem d
  | 16 => [16, 14].elem d
  | 17 => [17, 14].elem d
  | 18 => [18, 14].elem d
  | 19 => [19, 14].elem d
  | 20 => [20, 14].elem d
  | 21 => [21, 14].elem d
  | 22 => [22, 14].elem d
  | 23 => [23, 14].elem d
  | 24 => [24].elem d
  | 25 => [25].elem d
  | 26 => [26].elem d
  | 27 => [27, 26].elem d
  | 28 => [28, 26].elem d
  | 29 => [29, 26].elem d
  | 30 => [30, 26].elem d
  | 31 => [31, 26].elem d
  | 32 => [32].elem d
  | 33 => [33].elem d
  | 34 => [34].elem d
  | 35 => [35].elem d
  | 36 => [36].elem d
  | 37 => [37].elem d
  | 38 => [38].elem d
  | 39 => [39].elem d
  | 40 => [40].elem d
  | 41 => [41].elem d
  | 42 => [42].elem d
  | _ => false
/-- exception classes -/
def isexc (c : Nat) : Bool := Nat.blt c 13
def c_RowError : Nat := 0
def c_ByNought : Nat := 1
def c_Outside : Nat := 2
def c_LineError : Nat := 3
def c_BadText : Nat := 4
def c_NoName : Nat := 5
def c_Twice : Nat := 6
def c_TooMany : Nat := 7
def c_TooLong : Nat := 8
def c_TooDeep : Nat := 9
def c_Uneven : Nat := 10
def c_Crossed : Nat := 11
def c_Stopped : Nat := 12
def c_Spot : Nat := 13
def c_Form : Nat := 14
def c_Number : Nat := 15
def c_Here : Nat := 16
def c_Cell : Nat := 17
def c_Shifted : Nat := 18
def c_Local : Nat := 19
def c_At : Nat := 20
def c_Pair : Nat := 21
def c_Choice : Nat := 22
def c_Call : Nat := 23
def c_Known : Nat := 24
def c_Taker : Nat := 25
def c_Step : Nat := 26
def c_Let : Nat := 27
def c_Put : Nat := 28
def c_Fold : Nat := 29
def c_Running : Nat := 30
def c_Till : Nat := 31
def c_Program : Nat := 32
def c_Source : Nat := 33
def c_Reading : Nat := 34
def c_Boxes : Nat := 35
def c_Feed : Nat := 36
def c_Strip : Nat := 37
def c_Bench : Nat := 38
def c_Course : Nat := 39
def c_Holdings : Nat := 40
def c_Wanted : Nat := 41
def c_Hand : Nat := 42
def f_line : Nat := 0
def f_step : Nat := 1
def f_place : Nat := 2
def f_kind : Nat := 3
def f_lengths : Nat := 4
def f_functions : Nat := 5
def f_cells : Nat := 6
def f_own : Nat := 7
def f_number : Nat := 8
def f_row : Nat := 9
def f_by : Nat := 10
def f_other : Nat := 11
def f_at : Nat := 12
def f_sign : Nat := 13
def f_left : Nat := 14
def f_right : Nat := 15
def f_test : Nat := 16
def f_handed : Nat := 17
def f_rows : Nat := 18
def f_calls : Nat := 19
def f_parameters : Nat := 20
def f_words : Nat := 21
def f_still : Nat := 22
def f_target : Nat := 23
def f_value : Nat := 24
def f_many : Nat := 25
def f_fold : Nat := 26
def f_most : Nat := 27
def f_steps : Nat := 28
def f_program : Nat := 29
def f_names : Nat := 30
def f_lines : Nat := 31
def f_stack : Nat := 32
def f_tills : Nat := 33
def f_lanes : Nat := 34
def f_boxes : Nat := 35
def f_stock : Nat := 36
def f_spent : Nat := 37
def f_group : Nat := 38
def f_base : Nat := 39
def f_began : Nat := 40
def f_width : Nat := 41
def f_faults : Nat := 42
def f_cut : Nat := 43
def f_masks : Nat := 44
def f_slots : Nat := 45
def f_dust : Nat := 46
def f_picks : Nat := 47
def f_touches : Nat := 48
def f_now : Nat := 49
def f_carried : Nat := 50
def f_raised : Nat := 51
def f_ahead : Nat := 52
def f_opened : Nat := 53
def f_turns : Nat := 54
def f_seats : Nat := 55
def f_things : Nat := 56
def f_roots : Nat := 57
def f_written : Nat := 58
def f_age : Nat := 59
def f_code : Nat := 60
-- function 0: kept
-- function 1: divided
-- function 2: by_bits
-- function 3: done
-- function 4: start_of
-- function 5: row_cell
-- function 6: words_of
-- function 7: sign_word
-- function 8: fold_word
-- function 9: kept_word
-- function 10: name_like
-- function 11: number_of
-- function 12: take_number
-- function 13: take_name
-- function 14: take_new
-- function 15: take_fold
-- function 16: take_form
-- function 17: take_inner
-- function 18: parts_of
-- function 19: size_of
-- function 20: depth_of
-- function 21: forms_in
-- function 22: all_within
-- function 23: uneven
-- function 24: crossed
-- function 25: hold_forms
-- function 26: read_row
-- function 27: read_def
-- function 28: read_till
-- function 29: read_end
-- function 30: take_test
-- function 31: take_let
-- function 32: take_put
-- function 33: take_folded
-- function 34: take_running
-- function 35: read_step
-- function 36: read_line
-- function 37: read
-- function 38: count_of
-- function 39: part_of
-- function 40: begin_strip
-- function 41: lane_active
-- function 42: active_lanes
-- function 43: seat_number
-- function 44: read_cell
-- function 45: write_cell
-- function 46: slot_address
-- function 47: read_slot
-- function 48: write_slot
-- function 49: free
-- function 50: joined
-- function 51: cut_join
-- function 52: doubled
-- function 53: lay_mask
-- function 54: reach_lanes
-- function 55: trim_strip
-- function 56: stop_refusal
-- function 57: save_lanes
-- function 58: store_lanes
-- function 59: put_lanes
-- function 60: fold_lanes
-- function 61: runs_in_order
-- function 62: runs_at_once
-- function 63: running_lanes
-- function 64: any_lanes
-- function 65: spread_read
-- function 66: shift_got
-- function 67: gather_got
-- function 68: op_got
-- function 69: pick_got
-- function 70: lane_got
-- function 71: lay_seat
-- function 72: begin_round
-- function 73: next_strip
-- function 74: end_turn
-- function 75: play_effect
-- function 76: play_step
-- function 77: ran
-- function 78: ask_form
-- function 79: passed_over
-- function 80: play_let
-- function 81: play_put
-- function 82: play_fold
-- function 83: play_running
-- function 84: play_till
-- function 85: play_steps
-- function 86: played
-- function 87: lays_seat
-- function 88: lays_mask
-- function 89: may_fault
-- function 90: writes_row
-- function 91: seat_places
-- function 92: mask_places
-- function 93: folded_step
-- function 94: turned_step
-- function 95: key_of
-- function 96: note_seat
-- function 97: note_mask
-- function 98: note_slot
-- function 99: note_step
-- function 100: known_steps
-- function 101: is_wanted
-- function 102: want_parts
-- function 103: live_steps
-- function 104: shorter_once
-- function 105: shortened
-- function 106: need_of
-- function 107: lay_leaf
-- function 108: lay_beside
-- function 109: lay_choice
-- function 110: lay_call
-- function 111: lay_form
-- function 112: group_for
-- function 113: lay_effect
-- function 114: step_code
-- function 115: till_code
-- function 116: steps_code
-- function 117: made
-- function 118: first_cells
-- function 119: told_of
-- function 120: plainly
-- function 121: answers
-- function 122: LineError.__init__
-- function 123: Stopped.__init__
-- function 124: Spot.__init__
-- function 125: Form.worth
-- function 126: Number.__init__
-- function 127: Number.worth
-- function 128: Here.worth
-- function 129: Cell.__init__
-- function 130: Cell.worth
-- function 131: Shifted.__init__
-- function 132: Shifted.worth
-- function 133: Local.__init__
-- function 134: Local.worth
-- function 135: At.__init__
-- function 136: At.worth
-- function 137: Pair.__init__
-- function 138: Pair.worth
-- function 139: Choice.__init__
-- function 140: Choice.worth
-- function 141: Call.__init__
-- function 142: Call.worth
-- function 143: Known.__init__
-- function 144: Taker.__init__
-- function 145: Taker.word
-- function 146: Taker.pass_on
-- function 147: Taker.meet
-- function 148: Taker.go_in
-- function 149: Taker.go_out
-- function 150: Taker.ended
-- function 151: Taker.finish
-- function 152: Step.__init__
-- function 153: Step.many_of
-- function 154: Let.__init__
-- function 155: Put.__init__
-- function 156: Put.many_of
-- function 157: Fold.__init__
-- function 158: Fold.many_of
-- function 159: Running.__init__
-- function 160: Till.__init__
-- function 161: Program.__init__
-- function 162: Source.__init__
-- function 163: Reading.__init__
-- function 164: Boxes.__init__
-- function 165: Boxes.lay
-- function 166: Boxes.number_at
-- function 167: Feed.__init__
-- function 168: Feed.taken
-- function 169: Strip.__init__
-- function 170: Bench.__init__
-- function 171: Course.__init__
-- function 172: Holdings.__init__
-- function 173: Holdings.thing_of
-- function 174: Holdings.seat_thing
-- function 175: Holdings.mask_thing
-- function 176: Holdings.slot_thing
-- function 177: Holdings.root_at
-- function 178: Holdings.best_seat
-- function 179: Holdings.best_mask
-- function 180: Wanted.__init__
-- function 181: Hand.__init__
-- function 182: Hand.note
end DD
end
section
set_option Elab.async false
set_option linter.all false
set_option maxRecDepth 100000
set_option maxHeartbeats 2000000
/-! D1: logical values and heaps, their relation to the tracked heap, judgements, first rules. -/
namespace DD
open PySem PySem.Spec PyProof.Rows L2

/-! ### values and heaps -/
inductive LV where
  | non | bl (b : Bool) | int (i : Int) | str (s : Str)
  | tup (xs : List LV) | lst (xs : List LV) | obj (c : Nat) (fs : List LV) | ptr (n : Nat)
inductive MO where
  | lst (xs : List LV) | ins (c : Nat) (fs : List LV) | dK (kvs : List (Key × LV)) | dT (kvs : List (List Key × LV)) | dead
abbrev LH := List MO
abbrev Rho := List (Option LV)
/-- what an expression comes to -/
inductive Out (A : Type) where
  | ok (a : A) (h : LH) | exc (c : Nat) (fs : List LV) (h : LH) | bad
def bnd {A B : Type} (m : Out A) (k : A → LH → Out B) : Out B := match m with
  | .ok a h => k a h
  | .exc c fs h => .exc c fs h
  | .bad => .bad
@[simp] theorem bnd_ok {A B : Type} (a : A) (h : LH) (k : A → LH → Out B) : bnd (.ok a h) k = k a h := rfl
@[simp] theorem bnd_exc {A B : Type} (c : Nat) (fs : List LV) (h : LH) (k : A → LH → Out B) : bnd (.exc c fs h) k = .exc c fs h := rfl
@[simp] theorem bnd_bad {A B : Type} (k : A → LH → Out B) : bnd .bad k = .bad := rfl
abbrev ME := Rho → LH → Out LV
abbrev MA := Rho → LH → Out (List LV)
/-- what a statement comes to -/
inductive SO where
  | nx (ρ : Rho) (h : LH) | rt (v : LV) (h : LH) | bk (ρ : Rho) (h : LH) | ct (ρ : Rho) (h : LH) | exc (c : Nat) (fs : List LV) (ρ : Rho) (h : LH) | bad
abbrev MS := Rho → LH → SO
def names (c : Nat) : List Str := (flds c).map fname

/-! ### worlds -/
structure Wd where
  α : List Addr
  fz : Hp
  lk : Hp
structure Wd.le (W W' : Wd) : Prop where
  ap : ∃ l, W'.α = W.α ++ l
  fz : ∀ a o, W.fz a = some o → W'.fz a = some o
  lk : W'.lk = W.lk
  fk : ∀ a o, W.lk a = some o → W'.fz a = W.fz a
theorem Wd.le.refl (W : Wd) : W.le W := ⟨⟨[], by simp⟩, fun _ _ h => h, rfl, fun _ _ _ => rfl⟩
theorem Wd.le.trans {W W1 W2 : Wd} (a : W.le W1) (b : W1.le W2) : W.le W2 := by
  obtain ⟨⟨l, e⟩, f, g, k⟩ := a
  obtain ⟨⟨l', e'⟩, f', g', k'⟩ := b
  exact ⟨⟨l ++ l', by rw [e', e, List.append_assoc]⟩, fun x o h => f' x o (f x o h), g'.trans g, fun x o h => (k' x o (by rw [g]; exact h)).trans (k x o h)⟩
theorem Wd.le.at_ {W W' : Wd} (l : W.le W') {n : Nat} {a : Addr} (h : W.α[n]? = some a) : W'.α[n]? = some a := by
  obtain ⟨l, e⟩ := l.ap
  rw [e, List.getElem?_append_left (List.getElem?_eq_some_iff.mp h).1]
  exact h

theorem rd_mono {H H' : Hp} {a : Addr} {u : HO} (e : ∀ a o, H a = some o → H' a = some o) (h : Rd H a u) : Rd H' a u := by
  rcases h with h | ⟨o, h⟩
  · exact .inl (e a _ h)
  · exact .inr ⟨o, e a _ h⟩
theorem sqL_mono {K : PySem.W.Frag} {H H' : Hp} {a : Addr} {xs : List V} (e : ∀ a o, H a = some o → H' a = some o) (h : SqL K H a xs) : SqL K H' a xs := by
  rcases h with h | h
  · exact .inl (rd_mono e h)
  · exact .inr h
theorem sqT_mono {K : PySem.W.Frag} {H H' : Hp} {a : Addr} {xs : List V} (e : ∀ a o, H a = some o → H' a = some o) (h : SqT K H a xs) : SqT K H' a xs := by
  rcases h with h | h
  · exact .inl (rd_mono e h)
  · exact .inr h

section
variable (K : PySem.W.Frag)
/-- the address of a class -/
def ca (c : Nat) : Addr := He.ga K (cname c)
/-- the class stands in this text -/
def hereB (c : Nat) : Bool := match PySem.W.nsIn K mainGlobals (cname c) with
  | some (some (.ref _)) => true
  | _ => false
/-- the types of data, as isinstance asks -/
def dataTys : List String := ["NoneType", "bool", "int", "str", "list", "tuple", "dict"]
/-- what is known of a class whose instances are met (no exception) -/
structure ClsG (c : Nat) : Prop where
  lt : c < nC
  pr : hereB K c = true
  cls : Cls K (ca K c)
  noat : ∀ f ∈ names c, NoAttr K (ca K c) f
  nd : (names c).Nodup
  few : (names c).length ≤ 900
  cla : PySem.W.findIn K (.ref (ca K c)) "__class__" = some (some (.builtin "object.__class__"))
  clg : PySem.W.specialIn K (.builtin "object.__class__") "__get__" = some (some (.builtin "getset_descriptor.__get__"))
  clt : PySem.W.takesIn K (.builtin "object.__class__") = some true
  mro : PySem.W.mroIn K (ca K c) (.type "object") = some true
  isi : ∀ d, d < nC → isexc d = false → hereB K d = true → PySem.W.kitOne K (.ref (ca K c)) (.ref (ca K d)) = some (isub c d)
  meth : ∀ m f, mtab c m = some f → Meth K (ca K c) (mname m) (He.fAd K (fpath f)) ∧ (mname m) ∉ names c
mutual
/-- a logical value as a value -/
def Rep (W : Wd) : LV → V → Prop
  | .non, v => v = .non
  | .bl b, v => v = .bl b
  | .int i, v => v = .int i
  | .str s, v => v = .str s
  | .tup xs, v => ∃ a vs, v = .ref a ∧ W.fz a = some (.tup vs) ∧ RepL W xs vs
  | .lst xs, v => ∃ a vs, v = .ref a ∧ SqL K W.fz a vs ∧ RepL W xs vs
  | .obj c fs, v => ∃ a dx vs, v = .ref a ∧ ClsG K c ∧ W.fz a = some (.ins (ca K c) dx ((names c).zip vs)) ∧ fs.length ≤ (names c).length ∧ RepL W fs vs
  | .ptr n, v => ∃ a, v = .ref a ∧ W.α[n]? = some a
def RepL (W : Wd) : List LV → List V → Prop
  | [], vs => vs = []
  | x :: xs, vs => ∃ v r, vs = v :: r ∧ Rep W x v ∧ RepL W xs r
end
end
section
variable {K : PySem.W.Frag} {W W' : Wd}
theorem Rep.mono (l : W.le W') {x : LV} : ∀ {v : V}, Rep K W x v → Rep K W' x v :=
  LV.rec (motive_1 := fun x => ∀ {v : V}, Rep K W x v → Rep K W' x v) (motive_2 := fun xs => ∀ {vs : List V}, RepL K W xs vs → RepL K W' xs vs)
    (fun h => by unfold Rep at h ⊢; exact h) (fun _ _ h => by unfold Rep at h ⊢; exact h) (fun _ _ h => by unfold Rep at h ⊢; exact h) (fun _ _ h => by unfold Rep at h ⊢; exact h)
    (fun xs ih v h => by unfold Rep at h ⊢; obtain ⟨a, vs, e, q, r⟩ := h; exact ⟨a, vs, e, l.fz _ _ q, ih r⟩)
    (fun xs ih v h => by unfold Rep at h ⊢; obtain ⟨a, vs, e, q, r⟩ := h; exact ⟨a, vs, e, sqL_mono l.fz q, ih r⟩)
    (fun c fs ih v h => by unfold Rep at h ⊢; obtain ⟨a, dx, vs, e, g, q, n, r⟩ := h; exact ⟨a, dx, vs, e, g, l.fz _ _ q, n, ih r⟩)
    (fun n v h => by unfold Rep at h ⊢; obtain ⟨a, e, q⟩ := h; exact ⟨a, e, l.at_ q⟩)
    (fun h => by unfold RepL at h ⊢; exact h)
    (fun x xs ih1 ih2 vs h => by unfold RepL at h ⊢; obtain ⟨v, r, e, q, s⟩ := h; exact ⟨v, r, e, ih1 q, ih2 s⟩) x
theorem RepL.mono (l : W.le W') : ∀ {xs : List LV} {vs : List V}, RepL K W xs vs → RepL K W' xs vs
  | [], _, h => by unfold RepL at h ⊢; exact h
  | x :: xs, _, h => by unfold RepL at h ⊢; obtain ⟨v, r, e, q, s⟩ := h; exact ⟨v, r, e, q.mono l, RepL.mono l s⟩
theorem RepL.nil : RepL K W [] [] := by unfold RepL; rfl
theorem RepL.cons {x : LV} {xs : List LV} {v : V} {vs : List V} (a : Rep K W x v) (b : RepL K W xs vs) : RepL K W (x :: xs) (v :: vs) := by unfold RepL; exact ⟨v, vs, rfl, a, b⟩
theorem RepL.length : ∀ {xs : List LV} {vs : List V}, RepL K W xs vs → xs.length = vs.length
  | [], _, h => by unfold RepL at h; rw [h]; rfl
  | x :: xs, _, h => by unfold RepL at h; obtain ⟨v, r, rfl, q, s⟩ := h; simp [RepL.length s]
theorem RepL.get : ∀ {xs : List LV} {vs : List V} {i : Nat} {x : LV}, RepL K W xs vs → xs[i]? = some x → ∃ v, vs[i]? = some v ∧ Rep K W x v
  | [], _, _, _, _, e => by simp at e
  | y :: xs, _, 0, x, h, e => by
    unfold RepL at h
    obtain ⟨v, r, rfl, q, s⟩ := h
    simp at e
    subst e
    exact ⟨v, rfl, q⟩
  | y :: xs, _, i + 1, x, h, e => by
    unfold RepL at h
    obtain ⟨v, r, rfl, q, s⟩ := h
    obtain ⟨u, h1, h2⟩ := RepL.get (i := i) s (by simpa using e)
    exact ⟨u, by simpa using h1, h2⟩
theorem RepL.getV : ∀ {xs : List LV} {vs : List V} {i : Nat} {v : V}, RepL K W xs vs → vs[i]? = some v → ∃ x, xs[i]? = some x ∧ Rep K W x v := fun {xs vs i v} h e => by
  have hi : i < xs.length := by rw [h.length]; exact (List.getElem?_eq_some_iff.mp e).1
  obtain ⟨u, h1, h2⟩ := h.get (List.getElem?_eq_getElem hi)
  rw [e] at h1
  cases h1
  exact ⟨_, List.getElem?_eq_getElem hi, h2⟩
theorem RepL.append : ∀ {xs ys : List LV} {vs us : List V}, RepL K W xs vs → RepL K W ys us → RepL K W (xs ++ ys) (vs ++ us)
  | [], _, _, _, h, g => by unfold RepL at h; rw [h]; exact g
  | x :: xs, _, _, _, h, g => by
    unfold RepL at h
    obtain ⟨v, r, rfl, q, s⟩ := h
    exact .cons q (RepL.append s g)
theorem RepL.take : ∀ {xs : List LV} {vs : List V} (n : Nat), RepL K W xs vs → RepL K W (xs.take n) (vs.take n)
  | _, _, 0, _ => .nil
  | [], _, n + 1, h => by unfold RepL at h; rw [h]; exact .nil
  | x :: xs, _, n + 1, h => by
    unfold RepL at h
    obtain ⟨v, r, rfl, q, s⟩ := h
    exact .cons q (RepL.take n s)
theorem RepL.drop : ∀ {xs : List LV} {vs : List V} (n : Nat), RepL K W xs vs → RepL K W (xs.drop n) (vs.drop n)
  | _, _, 0, h => h
  | [], _, n + 1, h => by unfold RepL at h; rw [h]; exact .nil
  | x :: xs, _, n + 1, h => by
    unfold RepL at h
    obtain ⟨v, r, rfl, q, s⟩ := h
    exact RepL.drop n s
theorem RepL.set {x : LV} {v : V} (r : Rep K W x v) : ∀ {xs : List LV} {vs : List V} (i : Nat), RepL K W xs vs → RepL K W (xs.set i x) (vs.set i v)
  | [], _, _, h => by unfold RepL at h; rw [h]; exact .nil
  | y :: xs, _, 0, h => by
    unfold RepL at h
    obtain ⟨u, w, rfl, q, s⟩ := h
    exact .cons r s
  | y :: xs, _, i + 1, h => by
    unfold RepL at h
    obtain ⟨u, w, rfl, q, s⟩ := h
    exact .cons q (RepL.set r i s)
theorem RepL.reverse : ∀ {xs : List LV} {vs : List V}, RepL K W xs vs → RepL K W xs.reverse vs.reverse
  | [], _, h => by unfold RepL at h; rw [h]; exact .nil
  | x :: xs, _, h => by
    unfold RepL at h
    obtain ⟨v, r, rfl, q, s⟩ := h
    rw [List.reverse_cons, List.reverse_cons]
    exact (RepL.reverse s).append (.cons q .nil)
end

/-! ### heaps -/
section
variable (K : PySem.W.Frag)
def RepM (W : Wd) (H : Hp) (a : Addr) : MO → Prop
  | .lst xs => ∃ vs, H a = some (.lst vs) ∧ RepL K W xs vs
  | .ins c fs => ∃ dx vs, H a = some (.ins (ca K c) dx ((names c).zip vs)) ∧ fs.length ≤ (names c).length ∧ RepL K W fs vs ∧ ClsG K c
  | .dK kvs => ∃ kus, H a = some (.dK kus) ∧ kus.map (·.1) = kvs.map (·.1) ∧ RepL K W (kvs.map (·.2)) (kus.map (·.2))
  | .dT kvs => ∃ kus, H a = some (.dT kus) ∧ kus.map (·.1) = kvs.map (·.1) ∧ RepL K W (kvs.map (·.2)) (kus.map (·.2))
  | .dead => True
structure RepH (W : Wd) (H : Hp) (h : LH) : Prop where
  sub : ∀ a o, W.fz a = some o → H a = some o
  len : W.α.length = h.length
  nd : W.α.Nodup
  there : ∀ (n : Nat) (a : Addr), W.α[n]? = some a → ∃ o, H a = some o
  lks : ∀ a o, W.lk a = some o → H a = some o
  lkd : ∀ (n : Nat) (a : Addr), W.α[n]? = some a → W.lk a = none
  at_ : ∀ (n : Nat) (a : Addr) (mo : MO), W.α[n]? = some a → h[n]? = some mo → mo ≠ .dead → W.fz a = none ∧ RepM K W H a mo
def RepS (W : Wd) (ρ : Rho) (σ : L2.St) : Prop := ρ.length = σ.length ∧ ∀ (i : Nat) (x : LV), ρ[i]? = some (some x) → ∃ v, σ[i]? = some (some v) ∧ Rep K W x v
/-- an exception of the class at C, d its own dict -/
def RepX (W : Wd) (H : Hp) (c : Nat) (fs : List LV) (cls : Value) (d : Option Addr) : Prop :=
  cls = .ref (ca K c) ∧ ((fs = [] ∧ d = none) ∨ ∃ dx vs, d = some dx ∧ H dx = some (.xd ((names c).zip vs).reverse) ∧ fs.length ≤ (names c).length ∧ RepL K W fs vs)
/-- behind an expression: what follows -/
def PO (o : Out LV) (W : Wd) (Q : VK) (E : XK) : Prop := match o with
  | .ok x h => ∀ W' v H, W.le W' → Rep K W' x v → RepH K W' H h → Q v H
  | .exc c fs h => ∀ W' cls d H, W.le W' → RepX K W' H c fs cls d → RepH K W' H h → E cls d H
  | .bad => False
def POL (o : Out (List LV)) (W : Wd) (Q : List V → Hp → Prop) (E : XK) : Prop := match o with
  | .ok xs h => ∀ W' vs H, W.le W' → RepL K W' xs vs → RepH K W' H h → Q vs H
  | .exc c fs h => ∀ W' cls d H, W.le W' → RepX K W' H c fs cls d → RepH K W' H h → E cls d H
  | .bad => False
def SPo (o : SO) (W : Wd) (D : Ends) (E : WX) : Prop := match o with
  | .nx ρ h => ∀ W' σ H, W.le W' → RepS K W' ρ σ → RepH K W' H h → D.nx σ H
  | .bk ρ h => ∀ W' σ H, W.le W' → RepS K W' ρ σ → RepH K W' H h → D.bk σ H
  | .ct ρ h => ∀ W' σ H, W.le W' → RepS K W' ρ σ → RepH K W' H h → D.ct σ H
  | .rt x h => ∀ W' v H, W.le W' → Rep K W' x v → RepH K W' H h → D.rt v H
  | .exc c fs ρ h => ∀ W' cls d σ H, W.le W' → RepX K W' H c fs cls d → RepS K W' ρ σ → RepH K W' H h → E cls d σ H
  | .bad => False
def tS (m : ME) (E : WX) : TE := fun σ H Q => ∃ W ρ h, RepS K W ρ σ ∧ RepH K W H h ∧ PO K (m ρ h) W Q (fun c d H' => E c d σ H')
def tA (m : MA) (E : WX) : TA := fun σ H Q => ∃ W ρ h, RepS K W ρ σ ∧ RepH K W H h ∧ POL K (m ρ h) W Q (fun c d H' => E c d σ H')
/-- a test's outcome as a bool -/
def tB' (m : ME) (E : WX) : TT := fun σ H Q => tS K m E σ H fun v H' => ∃ b, v = .bl b ∧ Q b H'
def tSS (m : MS) (E : WX) : TS := fun D σ H => ∃ W ρ h, RepS K W ρ σ ∧ RepH K W H h ∧ SPo K (m ρ h) W D E
end

section
variable {K : PySem.W.Frag} {W W' : Wd} {H : Hp} {h : LH} {ρ : Rho} {σ : L2.St}
theorem RepS.mono (l : W.le W') (r : RepS K W ρ σ) : RepS K W' ρ σ := ⟨r.1, fun i x e => let ⟨v, a, b⟩ := r.2 i x e; ⟨v, a, b.mono l⟩⟩
theorem RepS.set {i : Nat} {x : LV} {v : V} (r : RepS K W ρ σ) (q : Rep K W x v) : RepS K W (ρ.set i (some x)) (σ.set i (some v)) := by
  refine ⟨by rw [List.length_set, List.length_set]; exact r.1, fun j y e => ?_⟩
  by_cases hj : i = j
  · subst hj
    by_cases hi : i < ρ.length
    · rw [List.getElem?_set_self hi] at e
      cases e
      exact ⟨v, List.getElem?_set_self (by rw [← r.1]; exact hi), q⟩
    · rw [List.getElem?_eq_none (by simpa using hi)] at e
      cases e
  · rw [List.getElem?_set_ne hj] at e ⊢
    exact r.2 j y e
theorem RepS.unset {i : Nat} (r : RepS K W ρ σ) : RepS K W (ρ.set i none) (σ.set i none) := by
  refine ⟨by rw [List.length_set, List.length_set]; exact r.1, fun j y e => ?_⟩
  by_cases hj : i = j
  · subst hj
    by_cases hi : i < ρ.length
    · rw [List.getElem?_set_self hi] at e
      cases e
    · rw [List.getElem?_eq_none (by simpa using hi)] at e
      cases e
  · rw [List.getElem?_set_ne hj] at e ⊢
    exact r.2 j y e
theorem RepM.mono (l : W.le W') {a : Addr} : ∀ {mo : MO}, RepM K W H a mo → RepM K W' H a mo
  | .lst _, ⟨vs, e, r⟩ => ⟨vs, e, r.mono l⟩
  | .ins _ _, ⟨dx, vs, e, n, r, g⟩ => ⟨dx, vs, e, n, r.mono l, g⟩
  | .dK _, ⟨k, e, n, r⟩ => ⟨k, e, n, r.mono l⟩
  | .dT _, ⟨k, e, n, r⟩ => ⟨k, e, n, r.mono l⟩
  | .dead, _ => trivial
theorem RepM.heap {a : Addr} {H' : Hp} (e : H' a = H a) : ∀ {mo : MO}, RepM K W H a mo → RepM K W H' a mo
  | .lst _, ⟨vs, q, r⟩ => ⟨vs, e.trans q, r⟩
  | .ins _ _, ⟨dx, vs, q, n, r⟩ => ⟨dx, vs, e.trans q, n, r⟩
  | .dK _, ⟨k, q, n, r⟩ => ⟨k, e.trans q, n, r⟩
  | .dT _, ⟨k, q, n, r⟩ => ⟨k, e.trans q, n, r⟩
  | .dead, _ => trivial
theorem PO.mono (l : W.le W') {o : Out LV} {Q : VK} {E : XK} (p : PO K o W Q E) : PO K o W' Q E := by
  cases o with
  | ok x h => exact fun W2 v H a b c => p W2 v H (l.trans a) b c
  | exc c fs h => exact fun W2 cls d H a b c => p W2 cls d H (l.trans a) b c
  | bad => exact p
theorem PO.imp {o : Out LV} {Q Q' : VK} {E E' : XK} (p : PO K o W Q E) (hq : ∀ v H, Q v H → Q' v H) (he : ∀ c d H, E c d H → E' c d H) : PO K o W Q' E' := by
  cases o with
  | ok x h => exact fun W2 v H a b c => hq _ _ (p W2 v H a b c)
  | exc c fs h => exact fun W2 cls d H a b c => he _ _ _ (p W2 cls d H a b c)
  | bad => exact p
theorem SPo.mono (l : W.le W') {o : SO} {D : Ends} {E : WX} (p : SPo K o W D E) : SPo K o W' D E := by
  cases o with
  | nx ρ h => exact fun W2 v H a b c => p W2 v H (l.trans a) b c
  | bk ρ h => exact fun W2 v H a b c => p W2 v H (l.trans a) b c
  | ct ρ h => exact fun W2 v H a b c => p W2 v H (l.trans a) b c
  | rt x h => exact fun W2 v H a b c => p W2 v H (l.trans a) b c
  | exc c fs ρ h => exact fun W2 cls d σ H a b c e => p W2 cls d σ H (l.trans a) b c e
  | bad => exact p

/-- nothing tracked is lost: the heap grew -/
theorem RepH.grow {H' : Hp} (r : RepH K W H h) (e : ∀ a o, H a = some o → H' a = some o) : RepH K W H' h := by
  refine ⟨fun a o q => e a o (r.sub a o q), r.len, r.nd, fun n a q => let ⟨o, z⟩ := r.there n a q; ⟨o, e a o z⟩, fun a o q => e a o (r.lks a o q), r.lkd, fun n a mo q1 q2 q3 => ?_⟩
  obtain ⟨z1, z2⟩ := r.at_ n a mo q1 q2 q3
  obtain ⟨o, z⟩ := r.there n a q1
  exact ⟨z1, z2.heap ((e a o z).trans z.symm)⟩
/-- a new object that is known for good -/
theorem RepH.freshF {p : Addr} {o : HO} (r : RepH K W H h) (hp : H p = none) : W.le ⟨W.α, upd W.fz p o, W.lk⟩ ∧ RepH K ⟨W.α, upd W.fz p o, W.lk⟩ (upd H p o) h := by
  have hfz : W.fz p = none := by
    cases q : W.fz p with
    | none => rfl
    | some u => rw [r.sub p u q] at hp; cases hp
  have le : W.le ⟨W.α, upd W.fz p o, W.lk⟩ := ⟨⟨[], by simp⟩, fun a u e => by
    show upd W.fz p o a = some u
    rw [upd_ne (ne_of_none e hfz)]; exact e, rfl, fun a u e => upd_ne (ne_of_none (r.lks a u e) hp)⟩
  refine ⟨le, ⟨fun a u e => ?_, r.len, r.nd, fun n a q => ?_, fun a u e => by rw [upd_ne (ne_of_none (r.lks a u e) hp)]; exact r.lks a u e, r.lkd, fun n a mo q1 q2 q3 => ?_⟩⟩
  · by_cases ha : a = p
    · subst ha
      rw [show (⟨W.α, upd W.fz a o, W.lk⟩ : Wd).fz a = upd W.fz a o a from rfl, upd_same] at e
      rw [upd_same]; exact e
    · rw [show (⟨W.α, upd W.fz p o, W.lk⟩ : Wd).fz a = upd W.fz p o a from rfl, upd_ne ha] at e
      rw [upd_ne ha]; exact r.sub a u e
  · obtain ⟨u, z⟩ := r.there n a q
    exact ⟨u, by rw [upd_ne (ne_of_none z hp)]; exact z⟩
  · obtain ⟨u, z⟩ := r.there n a q1
    have hne := ne_of_none z hp
    obtain ⟨z1, z2⟩ := r.at_ n a mo q1 q2 q3
    refine ⟨?_, (z2.mono le).heap (upd_ne hne)⟩
    show upd W.fz p o a = none
    rw [upd_ne hne]; exact z1
/-- a new object that may change -/
theorem RepH.freshM {p : Addr} {o : HO} {mo : MO} (r : RepH K W H h) (hp : H p = none) (hm : RepM K W (upd H p o) p mo) :
    W.le ⟨W.α ++ [p], W.fz, W.lk⟩ ∧ RepH K ⟨W.α ++ [p], W.fz, W.lk⟩ (upd H p o) (h ++ [mo]) ∧ (W.α ++ [p])[h.length]? = some p := by
  have hfz : W.fz p = none := by
    cases q : W.fz p with
    | none => rfl
    | some u => rw [r.sub p u q] at hp; cases hp
  have le : W.le ⟨W.α ++ [p], W.fz, W.lk⟩ := ⟨⟨[p], rfl⟩, fun a u e => e, rfl, fun _ _ _ => rfl⟩
  have hnp : ∀ a ∈ W.α, a ≠ p := fun a ha e => by
    obtain ⟨n, q⟩ := List.getElem?_of_mem ha
    obtain ⟨u, z⟩ := r.there n a q
    rw [e, hp] at z; cases z
  refine ⟨le, ⟨fun a u e => ?_, by simp [r.len], ?_, fun n a q => ?_, fun a u e => by rw [upd_ne (ne_of_none (r.lks a u e) hp)]; exact r.lks a u e, fun n a q => ?_, fun n a m q1 q2 q3 => ?_⟩, by rw [← r.len]; simp⟩
  · have q := r.sub a u e
    rw [upd_ne (ne_of_none q hp)]; exact q
  · exact List.nodup_append.mpr ⟨r.nd, by simp, fun a ha b hb => by
      rw [List.mem_singleton] at hb
      subst hb
      exact hnp a ha⟩
  · by_cases hn : n < W.α.length
    · rw [List.getElem?_append_left hn] at q
      obtain ⟨u, z⟩ := r.there n a q
      exact ⟨u, by rw [upd_ne (ne_of_none z hp)]; exact z⟩
    · rw [List.getElem?_append_right (Nat.le_of_not_lt hn)] at q
      have : a = p := by
        have := List.mem_of_getElem? q
        simpa using this
      subst this
      exact ⟨o, upd_same⟩
  · by_cases hn : n < W.α.length
    · rw [List.getElem?_append_left hn] at q
      exact r.lkd n a q
    · rw [List.getElem?_append_right (Nat.le_of_not_lt hn)] at q
      have : a = p := by
        have := List.mem_of_getElem? q
        simpa using this
      subst this
      show W.lk a = none
      cases q2 : W.lk a with
      | none => rfl
      | some u => rw [r.lks a u q2] at hp; cases hp
  · by_cases hn : n < W.α.length
    · rw [List.getElem?_append_left hn] at q1
      rw [List.getElem?_append_left (by rw [← r.len]; exact hn)] at q2
      obtain ⟨u, z⟩ := r.there n a q1
      have hne := ne_of_none z hp
      obtain ⟨z1, z2⟩ := r.at_ n a m q1 q2 q3
      exact ⟨z1, (z2.mono le).heap (upd_ne hne)⟩
    · have hn' := Nat.le_of_not_lt hn
      rw [List.getElem?_append_right hn'] at q1
      rw [List.getElem?_append_right (by rw [← r.len]; exact hn')] at q2
      have ea : a = p := by
        have := List.mem_of_getElem? q1
        simpa using this
      have em : m = mo := by
        have := List.mem_of_getElem? q2
        simpa using this
      subst ea em
      exact ⟨hfz, hm.mono le⟩
/-- an object that may change is written -/
theorem RepH.write {n : Nat} {a : Addr} {o : HO} {mo mo' : MO} (r : RepH K W H h) (ha : W.α[n]? = some a) (hn : h[n]? = some mo) (hd : mo ≠ .dead) (hm : RepM K W (upd H a o) a mo') : RepH K W (upd H a o) (h.set n mo') := by
  obtain ⟨z1, _⟩ := r.at_ n a mo ha hn hd
  have hlt : n < h.length := (List.getElem?_eq_some_iff.mp hn).1
  refine ⟨fun b u e => ?_, by simp [r.len], r.nd, fun m b q => ?_, fun b u e => ?_, r.lkd, fun m b m' q1 q2 q3 => ?_⟩
  · rw [upd_ne (fun e' => by rw [e', z1] at e; cases e)]
    exact r.sub b u e
  · by_cases hb : b = a
    · subst hb; exact ⟨o, upd_same⟩
    · obtain ⟨u, z⟩ := r.there m b q
      exact ⟨u, by rw [upd_ne hb]; exact z⟩
  · rw [upd_ne (fun e' => by rw [e', r.lkd n a ha] at e; cases e)]
    exact r.lks b u e
  · by_cases hmn : n = m
    · subst hmn
      rw [ha] at q1
      cases q1
      rw [List.getElem?_set_self hlt] at q2
      cases q2
      exact ⟨z1, hm⟩
    · have hb : b ≠ a := fun e => hmn (by
        subst e
        have h1 := (List.getElem?_eq_some_iff.mp ha)
        have h2 := (List.getElem?_eq_some_iff.mp q1)
        exact (List.getElem_inj r.nd).mp (h1.2.trans h2.2.symm))
      rw [List.getElem?_set_ne hmn] at q2
      obtain ⟨y1, y2⟩ := r.at_ m b m' q1 q2 q3
      exact ⟨y1, y2.heap (upd_ne hb)⟩
/-- an object that may change is known for good from here on -/
theorem RepH.freeze {n : Nat} {a : Addr} {o : HO} (r : RepH K W H h) (ha : W.α[n]? = some a) (ho : H a = some o) : (W.fz a = none → W.le ⟨W.α, upd W.fz a o, W.lk⟩) ∧ (W.fz a = none → RepH K ⟨W.α, upd W.fz a o, W.lk⟩ H (h.set n .dead)) := by
  have le : W.fz a = none → W.le ⟨W.α, upd W.fz a o, W.lk⟩ := fun z1 => ⟨⟨[], by simp⟩, fun b u e => by
    show upd W.fz a o b = some u
    rw [upd_ne (fun e' => by rw [e', z1] at e; cases e)]; exact e, rfl, fun b u e => upd_ne (fun e' => by rw [e', r.lkd n a ha] at e; cases e)⟩
  refine ⟨le, fun z1 => ⟨fun b u e => ?_, by simp [r.len], r.nd, r.there, r.lks, r.lkd, fun m b m' q1 q2 q3 => ?_⟩⟩
  · by_cases hb : b = a
    · subst hb
      rw [show (⟨W.α, upd W.fz b o, W.lk⟩ : Wd).fz b = upd W.fz b o b from rfl, upd_same] at e
      rw [ho]; exact e
    · rw [show (⟨W.α, upd W.fz a o, W.lk⟩ : Wd).fz b = upd W.fz a o b from rfl, upd_ne hb] at e
      exact r.sub b u e
  · by_cases hmn : n = m
    · subst hmn
      have hlt : n < h.length := by rw [← r.len]; exact (List.getElem?_eq_some_iff.mp ha).1
      rw [List.getElem?_set_self hlt] at q2
      cases q2
      exact absurd rfl q3
    · have hb : b ≠ a := fun e => hmn (by
        subst e
        have h1 := (List.getElem?_eq_some_iff.mp ha)
        have h2 := (List.getElem?_eq_some_iff.mp q1)
        exact (List.getElem_inj r.nd).mp (h1.2.trans h2.2.symm))
      rw [List.getElem?_set_ne hmn] at q2
      obtain ⟨y1, y2⟩ := r.at_ m b m' q1 q2 q3
      refine ⟨?_, y2.mono (le z1)⟩
      show upd W.fz a o b = none
      rw [upd_ne hb]; exact y1
end
end DD
end
section
set_option Elab.async false
set_option linter.all false
set_option maxRecDepth 100000
set_option maxHeartbeats 2000000
/-! D2: judgements; names, constants, operators, comparisons, tests, displays, subscripts. -/
namespace DD
open PySem PySem.Spec PyProof.Rows L2

/-! ### judgements -/
def SE (X : Cx) (m : ME) (e : Expr) : Prop := ∀ E : WX, Takes X E → PE X e (tS X.K m E)
def SB (X : Cx) (m : ME) (e : Expr) : Prop := ∀ E : WX, Takes X E → PT X e (tB' X.K m E)
def SA (X : Cx) (m : MA) (es : List Expr) : Prop := ∀ E : WX, Takes X E → PA X es (tA X.K m E)
def SS (X : Cx) (m : MS) (st : Stmt) : Prop := ∀ E : WX, Takes X E → PassesOwn (model X.prog X.w) X.A X.env X.xe → PS X st (tSS X.K m E)
def SSs (X : Cx) (m : MS) (st : List Stmt) : Prop := ∀ E : WX, Takes X E → PassesOwn (model X.prog X.w) X.A X.env X.xe → PSs X st (tSS X.K m E)

theorem pe_wk {X : Cx} {e : Expr} {t t' : TE} (h : PE X e t) (w : ∀ σ H Q, t' σ H Q → t σ H Q) : PE X e t' := ⟨fun pins s σ H Q I q => h.run pins s σ H Q I (w _ _ _ q)⟩
theorem pt_wk {X : Cx} {e : Expr} {t t' : TT} (h : PT X e t) (w : ∀ σ H Q, t' σ H Q → t σ H Q) : PT X e t' := ⟨fun pins s σ H Q I q => h.run pins s σ H Q I (w _ _ _ q)⟩
theorem pa_wk {X : Cx} {e : List Expr} {t t' : TA} (h : PA X e t) (w : ∀ σ H Q, t' σ H Q → t σ H Q) : PA X e t' := ⟨fun pos pins s σ H Q I q => h.run pos pins s σ H Q I (w _ _ _ q)⟩
theorem ps_wk {X : Cx} {e : Stmt} {t t' : TS} (h : PS X e t) (w : ∀ D σ H, t' D σ H → t D σ H) : PS X e t' := ⟨fun pins s σ H D I q => h.run pins s σ H D I (w _ _ _ q)⟩
theorem pss_wk {X : Cx} {e : List Stmt} {t t' : TS} (h : PSs X e t) (w : ∀ D σ H, t' D σ H → t D σ H) : PSs X e t' := ⟨fun pins s σ H D I q => h.run pins s σ H D I (w _ _ _ q)⟩

section
variable {K : PySem.W.Frag} {W : Wd} {H : Hp} {h : LH} {ρ : Rho} {σ : L2.St} {Q : VK} {E : XK}
/-- what a part comes to, then the rest -/
theorem PO_bnd {o : Out LV} {k : LV → LH → Out LV} (p : PO K (bnd o k) W Q E) :
    PO K o W (fun v H => ∃ W' x h', W.le W' ∧ Rep K W' x v ∧ RepH K W' H h' ∧ PO K (k x h') W' Q E) E := by
  cases o with
  | ok x h => exact fun W' v H l r rh => ⟨W', x, h, l, r, rh, p.mono l⟩
  | exc c fs h => exact p
  | bad => exact p
theorem PO_bndL {o : Out (List LV)} {k : List LV → LH → Out LV} (p : PO K (bnd o k) W Q E) :
    POL K o W (fun v H => ∃ W' x h', W.le W' ∧ RepL K W' x v ∧ RepH K W' H h' ∧ PO K (k x h') W' Q E) E := by
  cases o with
  | ok x h => exact fun W' v H l r rh => ⟨W', x, h, l, r, rh, p.mono l⟩
  | exc c fs h => exact p
  | bad => exact p
theorem POL.mono {W' : Wd} (l : W.le W') {o : Out (List LV)} {Q : List V → Hp → Prop} (p : POL K o W Q E) : POL K o W' Q E := by
  cases o with
  | ok x h => exact fun W2 v H a b c => p W2 v H (l.trans a) b c
  | exc c fs h => exact fun W2 cls d H a b c => p W2 cls d H (l.trans a) b c
  | bad => exact p
theorem POL_bnd {Q : List V → Hp → Prop} {o : Out LV} {k : LV → LH → Out (List LV)} (p : POL K (bnd o k) W Q E) :
    PO K o W (fun v H => ∃ W' x h', W.le W' ∧ Rep K W' x v ∧ RepH K W' H h' ∧ POL K (k x h') W' Q E) E := by
  cases o with
  | ok x h => exact fun W' v H l r rh => ⟨W', x, h, l, r, rh, p.mono l⟩
  | exc c fs h => exact p
  | bad => exact p
theorem POL_bndL {Q : List V → Hp → Prop} {o : Out (List LV)} {k : List LV → LH → Out (List LV)} (p : POL K (bnd o k) W Q E) :
    POL K o W (fun v H => ∃ W' x h', W.le W' ∧ RepL K W' x v ∧ RepH K W' H h' ∧ POL K (k x h') W' Q E) E := by
  cases o with
  | ok x h => exact fun W' v H l r rh => ⟨W', x, h, l, r, rh, p.mono l⟩
  | exc c fs h => exact p
  | bad => exact p
end
/-- pure steps -/
def lft {A : Type} (o : Option (A × LH)) : Out A := match o with
  | some (x, h) => .ok x h
  | none => .bad
@[simp] theorem lft_some {A : Type} (x : A) (h : LH) : lft (some (x, h)) = .ok x h := rfl
@[simp] theorem lft_none {A : Type} : lft (none : Option (A × LH)) = .bad := rfl
def POo (K : PySem.W.Frag) (o : Option (LV × LH)) (W : Wd) (Q : VK) : Prop := match o with
  | some (x, h) => ∀ W' v H, W.le W' → Rep K W' x v → RepH K W' H h → Q v H
  | none => False
theorem PO_lft {K : PySem.W.Frag} {o : Option (LV × LH)} {W : Wd} {Q : VK} {E : XK} (p : PO K (lft o) W Q E) : POo K o W Q := by
  cases o with
  | none => exact p
  | some y => exact p
theorem POo.mono {K : PySem.W.Frag} {o : Option (LV × LH)} {W W' : Wd} {Q : VK} (l : W.le W') (p : POo K o W Q) : POo K o W' Q := by
  cases o with
  | none => exact p
  | some y => exact fun W2 v H a b c => p W2 v H (l.trans a) b c

/-! ### names and constants -/
def eV (i : Nat) : ME := fun ρ h => match ρ[i]? with
  | some (some x) => .ok x h
  | _ => .bad
def eC (x : LV) : ME := fun _ h => .ok x h
def toV : LV → V
  | .non => .non
  | .bl b => .bl b
  | .int i => .int i
  | .str s => .str s
  | _ => .non
def scalL : LV → Bool
  | .non => true
  | .bl _ => true
  | .int _ => true
  | .str _ => true
  | _ => false
theorem rep_toV {K : PySem.W.Frag} {W : Wd} {x : LV} (h : scalL x = true) : Rep K W x (toV x) := by
  cases x <;> first | (unfold Rep; rfl) | cases h
section
variable {X : Cx} {e a b : Expr} {m ma mb : ME} {pos : Pos} {E : WX}
theorem se_v (i : Nat) (hp : PE X e (tVar i)) : SE X (eV i) e := fun E _ => by
  refine pe_wk hp fun σ H Q ⟨W, ρ, h, rs, rh, p⟩ => ?_
  unfold eV at p
  split at p
  · rename_i x q
    obtain ⟨v, e1, r⟩ := rs.2 i x q
    exact ⟨v, e1, p W v H (.refl W) r rh⟩
  · exact p.elim
theorem se_c {x : LV} (hp : PE X e (tC (toV x))) (hs : scalL x = true := by rfl) : SE X (eC x) e := fun E _ =>
  pe_wk hp fun σ H Q ⟨W, ρ, h, rs, rh, p⟩ => p W _ H (.refl W) (rep_toV hs) rh
theorem sb_of (h : SE X m e) (he : ∀ whole, isTrue e X.env whole = (do let v ← whole; standAt e.pos; holding [v] (truthy v)) := by intro _; rfl) : SB X m e := fun E tk =>
  pt_wk (pt_val (h E tk) he) fun _ _ _ q => q

/-! ### two-place operators -/
abbrev F2 := LV → LV → LH → Option (LV × LH)
def eB (f : F2) (a b : ME) : ME := fun ρ h => bnd (a ρ h) fun x h1 => bnd (b ρ h1) fun y h2 => lft (f x y h2)
def rO (K : PySem.W.Frag) (f : F2) : R2 := fun x y H Q => ∃ W h a b, Rep K W a x ∧ Rep K W b y ∧ RepH K W H h ∧ POo K (f a b h) W Q
theorem rd_bin {K : PySem.W.Frag} {f : F2} {σ : L2.St} {H : Hp} {Q : VK} (hh : tS K (eB f ma mb) E σ H Q) : tOp (rO K f) (tS K ma E) (tS K mb E) σ H Q := by
  obtain ⟨W, ρ, h, rs, rh, p⟩ := hh
  refine ⟨W, ρ, h, rs, rh, (PO_bnd p).imp (fun x H1 ⟨W1, lx, h1, l1, r1, rh1, p1⟩ => ?_) fun _ _ _ z => z⟩
  refine ⟨W1, ρ, h1, rs.mono l1, rh1, (PO_bnd p1).imp (fun y H2 ⟨W2, ly, h2, l2, r2, rh2, p2⟩ => ?_) fun _ _ _ z => z⟩
  exact ⟨W2, h2, lx, ly, r1.mono l2, r2, rh2, PO_lft p2⟩
theorem se_op {op : Operator} {f : F2} (ho : OpR X (binaryOp op) (rO X.K f)) (ha : SE X ma a) (hb : SE X mb b) : SE X (eB f ma mb) (.BinOp a op b pos) := fun E tk =>
  pe_wk (pe_op ho (ha E tk) (hb E tk)) fun _ _ _ q => rd_bin q
theorem se_cmp {op : CmpOp} {f : F2} (ho : OpR X (compareOp op) (rO X.K f)) (ha : SE X ma a) (hb : SE X mb b) (hm : behindInMarks op b = false) : SE X (eB f ma mb) (.Compare a [op] [b] pos) := fun E tk =>
  pe_wk (pe_cmpR ho (ha E tk) (hb E tk) hm) fun _ _ _ q => rd_bin q
theorem sb_cmp {op : CmpOp} {f : F2} (ho : OpR X (compareOp op) (rO X.K f)) (ha : SE X ma a) (hb : SE X mb b) (hm : behindInMarks op b = false) : SB X (eB f ma mb) (.Compare a [op] [b] pos) := fun E tk =>
  pt_wk (pt_cmpR ho (ha E tk) (hb E tk) hm) fun _ _ _ q => rd_bin q
/-- one-place -/
abbrev F1 := LV → LH → Option (LV × LH)
def eU (f : F1) (a : ME) : ME := fun ρ h => bnd (a ρ h) fun x h1 => lft (f x h1)
def rO1 (K : PySem.W.Frag) (f : F1) : V → Hp → VK → Prop := fun x H Q => ∃ W h a, Rep K W a x ∧ RepH K W H h ∧ POo K (f a h) W Q
theorem rd_un {K : PySem.W.Frag} {f : F1} {σ : L2.St} {H : Hp} {Q : VK} (hh : tS K (eU f ma) E σ H Q) : tS K ma E σ H fun x H1 => rO1 K f x H1 Q := by
  obtain ⟨W, ρ, h, rs, rh, p⟩ := hh
  refine ⟨W, ρ, h, rs, rh, (PO_bnd p).imp (fun x H1 ⟨W1, lx, h1, l1, r1, rh1, p1⟩ => ?_) fun _ _ _ z => z⟩
  exact ⟨W1, h1, lx, r1, rh1, PO_lft p1⟩
theorem se_un {op : UnaryOp} {f : F1} (ho : UnR X (unaryOp op) (rO1 X.K f)) (ha : SE X ma a) : SE X (eU f ma) (.UnaryOp op a pos) := fun E tk =>
  pe_wk (pe_un ho (ha E tk)) fun _ _ _ q => rd_un q
end

/-! ### what a list or a tuple holds -/
def seqOf (x : LV) (h : LH) : Option (List LV) := match x with
  | .tup xs => some xs
  | .lst xs => some xs
  | .ptr n => (match h[n]? with
    | some (.lst xs) => some xs
    | _ => none)
  | _ => none
def lstOf (x : LV) (h : LH) : Option (List LV) := match x with
  | .lst xs => some xs
  | .ptr n => (match h[n]? with
    | some (.lst xs) => some xs
    | _ => none)
  | _ => none
section
variable {K : PySem.W.Frag} {W : Wd} {H : Hp} {h : LH}
theorem RepH.lst (rh : RepH K W H h) {n : Nat} {xs : List LV} {v : V} (r : Rep K W (.ptr n) v) (hn : h[n]? = some (.lst xs)) : ∃ a vs, v = .ref a ∧ W.α[n]? = some a ∧ H a = some (.lst vs) ∧ RepL K W xs vs := by
  unfold Rep at r
  obtain ⟨a, rfl, ha⟩ := r
  obtain ⟨_, vs, e, q⟩ := rh.at_ n a _ ha hn (by intro z; cases z)
  exact ⟨a, vs, rfl, ha, e, q⟩
theorem lstOf_sq {x : LV} {v : V} {xs : List LV} (rh : RepH K W H h) (r : Rep K W x v) (e : lstOf x h = some xs) : ∃ a vs, v = .ref a ∧ SqL K H a vs ∧ RepL K W xs vs := by
  unfold lstOf at e
  split at e
  · cases e
    unfold Rep at r
    obtain ⟨a, vs, e1, q, s⟩ := r
    exact ⟨a, vs, e1, sqL_mono rh.sub q, s⟩
  · split at e
    · rename_i hn
      cases e
      obtain ⟨a, vs, e1, _, q, s⟩ := rh.lst r hn
      exact ⟨a, vs, e1, SqL.of q, s⟩
    · cases e
  · cases e
theorem seqOf_sq {x : LV} {v : V} {xs : List LV} (rh : RepH K W H h) (r : Rep K W x v) (e : seqOf x h = some xs) : ∃ a vs, v = .ref a ∧ (SqL K H a vs ∨ SqT K H a vs) ∧ RepL K W xs vs := by
  unfold seqOf at e
  split at e
  · cases e
    unfold Rep at r
    obtain ⟨a, vs, e1, q, s⟩ := r
    exact ⟨a, vs, e1, .inr (SqT.of (rh.sub _ _ q)), s⟩
  · cases e
    unfold Rep at r
    obtain ⟨a, vs, e1, q, s⟩ := r
    exact ⟨a, vs, e1, .inl (sqL_mono rh.sub q), s⟩
  · split at e
    · rename_i hn
      cases e
      obtain ⟨a, vs, e1, _, q, s⟩ := rh.lst r hn
      exact ⟨a, vs, e1, .inl (SqL.of q), s⟩
    · cases e
  · cases e
/-- a new list -/
theorem POo_new {xs : List LV} {vs : List V} {Q : VK} (rh : RepH K W H h) (r : RepL K W xs vs) (p : POo K (some (.ptr h.length, h ++ [.lst xs])) W Q) : ∀ a, H a = none → Q (.ref a) (upd H a (.lst vs)) := fun a ha => by
  obtain ⟨l, rh', e⟩ := rh.freshM (mo := .lst xs) (o := .lst vs) ha ⟨vs, upd_same, r⟩
  exact p _ _ _ l (by unfold Rep; exact ⟨a, rfl, e⟩) rh'
theorem POo_newT {xs : List LV} {vs : List V} {Q : VK} (rh : RepH K W H h) (r : RepL K W xs vs) (p : POo K (some (.tup xs, h)) W Q) : ∀ a, H a = none → Q (.ref a) (upd H a (.tup vs)) := fun a ha => by
  obtain ⟨l, rh'⟩ := rh.freshF (o := .tup vs) ha
  exact p _ _ _ l (by unfold Rep; exact ⟨a, vs, rfl, upd_same, r.mono l⟩) rh'
end

/-! ### the operators -/
def fAdd : F2 := fun x y h => match x, y with
  | .int i, .int j => some (.int (i + j), h)
  | .str s, .str t => if s.length + t.length ≤ sizeLine then some (.str (s ++ t), h) else none
  | x, y => (match x, y with
    | .ptr n, .ptr m => (match h[n]?, h[m]? with
      | some (.lst xs), some (.lst ys) => if xs.length + ys.length ≤ sizeLine then some (.ptr h.length, h ++ [.lst (xs ++ ys)]) else none
      | _, _ => none)
    | _, _ => none)
def fSub : F2 := fun x y h => match x, y with
  | .int i, .int j => some (.int (i - j), h)
  | _, _ => none
/-- what a product of two ints may be: bits together below a million -/
def mulOk (i j : Int) : Bool := decide (-(2 ^ 64) < i ∧ i < 2 ^ 64) || decide (-(2 ^ 64) < j ∧ j < 2 ^ 64) || decide (i.natAbs.log2 + j.natAbs.log2 < 1000000)
def repL (k : Int) (xs : List LV) : List LV := (List.replicate k.toNat xs).flatten
def fMul : F2 := fun x y h => match x, y with
  | .int i, .int j => if mulOk i j = true then some (.int (i * j), h) else none
  | .ptr n, .int k => (match h[n]? with
    | some (.lst xs) => if -(2 ^ 63) ≤ k ∧ k < 2 ^ 63 ∧ xs.length * k.toNat ≤ sizeLine then some (.ptr h.length, h ++ [.lst (repL k xs)]) else none
    | _ => none)
  | _, _ => none
theorem RepL.repl {K : PySem.W.Frag} {W : Wd} {xs : List LV} {vs : List V} (r : RepL K W xs vs) : ∀ k : Nat, RepL K W (List.replicate k xs).flatten (List.replicate k vs).flatten
  | 0 => .nil
  | k + 1 => by
    rw [List.replicate_succ, List.replicate_succ, List.flatten_cons, List.flatten_cons]
    exact r.append (RepL.repl r k)
def divOk (j : Int) : Bool := decide (0 < j) && decide (j.natAbs.log2 < 9000)
def fDiv : F2 := fun x y h => match x, y with
  | .int i, .int j => if divOk j = true then some (.int (i / j), h) else none
  | _, _ => none
def fMod : F2 := fun x y h => match x, y with
  | .int i, .int j => if 0 < j then some (.int (i % j), h) else none
  | _, _ => none
def fPow : F2 := fun x y h => match x, y with
  | .int i, .int j => if 0 ≤ j ∧ j ≤ 1000000 ∧ i.natAbs < 2 ^ 64 then some (.int (i ^ j.toNat), h) else none
  | _, _ => none
def fAnd : F2 := fun x y h => match x, y with
  | .int i, .int j => some (.int (Builtin.bitAnd i j), h)
  | _, _ => none
def fOr : F2 := fun x y h => match x, y with
  | .int i, .int j => some (.int (Builtin.bitOr i j), h)
  | _, _ => none
def fXor : F2 := fun x y h => match x, y with
  | .int i, .int j => some (.int (Builtin.bitXor i j), h)
  | _, _ => none
def fNeg : F1 := fun x h => match x with
  | .int i => some (.int (-i), h)
  | _ => none
theorem rep_int {K : PySem.W.Frag} {W : Wd} {i : Int} {v : V} (r : Rep K W (.int i) v) : v = .int i := by unfold Rep at r; exact r
theorem rep_str {K : PySem.W.Frag} {W : Wd} {i : Str} {v : V} (r : Rep K W (.str i) v) : v = .str i := by unfold Rep at r; exact r
theorem rep_bl {K : PySem.W.Frag} {W : Wd} {i : Bool} {v : V} (r : Rep K W (.bl i) v) : v = .bl i := by unfold Rep at r; exact r
theorem rep_non {K : PySem.W.Frag} {W : Wd} {v : V} (r : Rep K W .non v) : v = .non := by unfold Rep at r; exact r
theorem rep_int' {K : PySem.W.Frag} {W : Wd} (i : Int) : Rep K W (.int i) (.int i) := by unfold Rep; rfl
theorem rep_str' {K : PySem.W.Frag} {W : Wd} (i : Str) : Rep K W (.str i) (.str i) := by unfold Rep; rfl
theorem rep_bl' {K : PySem.W.Frag} {W : Wd} (i : Bool) : Rep K W (.bl i) (.bl i) := by unfold Rep; rfl
theorem rep_non' {K : PySem.W.Frag} {W : Wd} : Rep K W .non .non := by unfold Rep; rfl
section
variable {X : Cx}
/-- an operator of two ints whose result is an int -/
theorem opr_int {fv : Value → Value → Sem Value} {f : F2} {C : Int → Int → Prop} {g : Int → Int → Int} (ho : OpR X fv (rI C fun i j => .int (g i j)))
    (hf : ∀ x y h z, f x y h = some z → ∃ i j, x = .int i ∧ y = .int j ∧ C i j ∧ z = (.int (g i j), h)) : OpR X fv (rO X.K f) := by
  intro pins s σ H x y v u Q I rx ry ⟨W, h, a, b, ra, rb, rh, p⟩
  cases e : f a b h with
  | none => rw [e] at p; exact p.elim
  | some z =>
    obtain ⟨i, j, rfl, rfl, hc, rfl⟩ := hf _ _ _ _ e
    rw [e] at p
    obtain rfl := rep_int ra
    obtain rfl := rep_int rb
    exact ho pins s σ H _ _ v u Q I rx ry ⟨i, j, rfl, rfl, hc, p W _ H (.refl W) (rep_int' _) rh⟩
theorem opr_int0 {fv : Value → Value → Sem Value} {f : F2} {g : Int → Int → Int} (ho : OpR X fv (rI0 fun i j => .int (g i j)))
    (hf : ∀ x y h z, f x y h = some z → ∃ i j, x = .int i ∧ y = .int j ∧ z = (.int (g i j), h)) : OpR X fv (rO X.K f) := by
  intro pins s σ H x y v u Q I rx ry ⟨W, h, a, b, ra, rb, rh, p⟩
  cases e : f a b h with
  | none => rw [e] at p; exact p.elim
  | some z =>
    obtain ⟨i, j, rfl, rfl, rfl⟩ := hf _ _ _ _ e
    rw [e] at p
    obtain rfl := rep_int ra
    obtain rfl := rep_int rb
    exact ho pins s σ H _ _ v u Q I rx ry ⟨i, j, rfl, rfl, p W _ H (.refl W) (rep_int' _) rh⟩
theorem o_sub : OpR X (binaryOp .Sub) (rO X.K fSub) := opr_int0 op_sub fun x y h z e => by
  unfold fSub at e; split at e <;> cases e; exact ⟨_, _, rfl, rfl, rfl⟩
theorem o_mul : OpR X (binaryOp .Mult) (rO X.K fMul) := by
  intro pins s σ H x y v u Q I rx ry ⟨W, h, a, b, ra, rb, rh, p⟩
  unfold fMul at p
  split at p
  · rename_i i j
    split at p
    · rename_i hm
      obtain rfl := rep_int ra
      obtain rfl := rep_int rb
      have q := p W _ H (.refl W) (rep_int' _) rh
      unfold mulOk at hm
      rw [Bool.or_eq_true, Bool.or_eq_true] at hm
      rcases hm with (hm | hm) | hm
      · exact op_mul pins s σ H _ _ v u Q I rx ry ⟨i, j, rfl, rfl, .inl (of_decide_eq_true hm), q⟩
      · exact op_mul pins s σ H _ _ v u Q I rx ry ⟨i, j, rfl, rfl, .inr (of_decide_eq_true hm), q⟩
      · exact op_mulW pins s σ H _ _ v u Q I rx ry ⟨i, j, rfl, rfl, (show i.natAbs.log2 + j.natAbs.log2 < 1000000 from of_decide_eq_true hm), q⟩
    · exact p.elim
  · rename_i n k
    split at p
    · rename_i xs hn
      split at p
      · rename_i hz
        obtain ⟨a1, vs, rfl, _, e1, q1⟩ := rh.lst ra hn
        exact op_rep pins s σ H _ _ v u Q I rx ry ⟨a1, k, vs, rfl, rep_int rb, e1, hz.1, hz.2.1, by rw [← q1.length]; exact hz.2.2, POo_new (vs := (List.replicate k.toNat vs).flatten) rh (q1.repl _) p⟩
      · exact p.elim
    · exact p.elim
  · exact p.elim
theorem o_div : OpR X (binaryOp .FloorDiv) (rO X.K fDiv) := opr_int op_fdivW fun x y h z e => by
  unfold fDiv at e
  split at e
  · split at e
    · rename_i hd
      cases e
      unfold divOk at hd
      rw [Bool.and_eq_true] at hd
      exact ⟨_, _, rfl, rfl, ⟨of_decide_eq_true hd.1, of_decide_eq_true hd.2⟩, rfl⟩
    · cases e
  · cases e
theorem o_mod : OpR X (binaryOp .Mod) (rO X.K fMod) := opr_int op_mod fun x y h z e => by
  unfold fMod at e
  split at e
  · split at e
    · rename_i hd
      cases e
      exact ⟨_, _, rfl, rfl, hd, rfl⟩
    · cases e
  · cases e
theorem o_pow : OpR X (binaryOp .Pow) (rO X.K fPow) := opr_int op_pow fun x y h z e => by
  unfold fPow at e
  split at e
  · split at e
    · rename_i hd
      cases e
      exact ⟨_, _, rfl, rfl, hd, rfl⟩
    · cases e
  · cases e
theorem o_and : OpR X (binaryOp .BitAnd) (rO X.K fAnd) := opr_int0 op_and fun x y h z e => by
  unfold fAnd at e; split at e <;> cases e; exact ⟨_, _, rfl, rfl, rfl⟩
theorem o_or : OpR X (binaryOp .BitOr) (rO X.K fOr) := opr_int0 op_or fun x y h z e => by
  unfold fOr at e; split at e <;> cases e; exact ⟨_, _, rfl, rfl, rfl⟩
theorem o_xor : OpR X (binaryOp .BitXor) (rO X.K fXor) := opr_int0 op_xor fun x y h z e => by
  unfold fXor at e; split at e <;> cases e; exact ⟨_, _, rfl, rfl, rfl⟩
theorem o_neg : UnR X (unaryOp .USub) (rO1 X.K fNeg) := by
  intro pins s σ H x v Q I rx ⟨W, h, a, ra, rh, p⟩
  unfold fNeg at p
  split at p
  · obtain rfl := rep_int ra
    exact un_neg pins s σ H _ v Q I rx ⟨_, rfl, p W _ H (.refl W) (rep_int' _) rh⟩
  · exact p.elim
theorem o_add : OpR X (binaryOp .Add) (rO X.K fAdd) := by
  intro pins s σ H x y v u Q I rx ry ⟨W, h, a, b, ra, rb, rh, p⟩
  unfold fAdd at p
  split at p
  · obtain rfl := rep_int ra
    obtain rfl := rep_int rb
    exact op_add pins s σ H _ _ v u Q I rx ry ⟨_, _, rfl, rfl, p W _ H (.refl W) (rep_int' _) rh⟩
  · split at p
    · rename_i hz
      obtain rfl := rep_str ra
      obtain rfl := rep_str rb
      exact op_add_str pins s σ H _ _ v u Q I rx ry ⟨_, _, rfl, rfl, hz, p W _ H (.refl W) (rep_str' _) rh⟩
    · exact p.elim
  · split at p
    · split at p
      · split at p
        · rename_i hn hm hz
          obtain ⟨a1, vs, rfl, _, e1, q1⟩ := rh.lst ra hn
          obtain ⟨a2, us, rfl, _, e2, q2⟩ := rh.lst rb hm
          exact op_cat pins s σ H _ _ v u Q I rx ry ⟨a1, a2, vs, us, rfl, rfl, e1, e2, by rw [← q1.length, ← q2.length]; exact hz, POo_new rh (q1.append q2) p⟩
        · exact p.elim
      · exact p.elim
    · exact p.elim
end
end DD
end
section
set_option Elab.async false
set_option linter.all false
set_option maxRecDepth 100000
set_option maxHeartbeats 2000000
/-! D3: comparisons, truth, displays, subscripts, slices, fields. -/
namespace DD
open PySem PySem.Spec PyProof.Rows L2

/-! ### data -/
def mapO {A B : Type} (f : A → Option B) : List A → Option (List B)
  | [] => some []
  | x :: r => match f x, mapO f r with
    | some y, some ys => some (y :: ys)
    | _, _ => none
def toD : Nat → LH → LV → Option PyData
  | 0, _, _ => none
  | n + 1, h, x => match x with
    | .non => some .none
    | .bl b => some (.bool b)
    | .int i => some (.int i)
    | .str s => some (.str s)
    | .tup xs => (mapO (toD n h) xs).map .tuple
    | .lst xs => (mapO (toD n h) xs).map .list
    | .ptr p => (match h[p]? with
      | some (.lst xs) => (mapO (toD n h) xs).map .list
      | _ => none)
    | _ => none
section
variable {K : PySem.W.Frag} {W : Wd} {H : Hp} {h : LH}
theorem mapO_dp {f : LV → Option PyData} (hf : ∀ x v d, Rep K W x v → f x = some d → Dp K H v d) : ∀ {xs : List LV} {vs : List V} {ds : List PyData}, RepL K W xs vs → mapO f xs = some ds → DpAll K H vs ds
  | [], _, _, r, e => by unfold RepL at r; cases e; rw [r]; exact .nil
  | x :: xs, _, _, r, e => by
    unfold RepL at r
    obtain ⟨v, us, rfl, q, s⟩ := r
    unfold mapO at e
    split at e
    · rename_i y ys e1 e2
      cases e
      exact .cons (hf x v y q e1) (mapO_dp hf s e2)
    · cases e
theorem toD_dp (rh : RepH K W H h) : ∀ (n : Nat) (x : LV) (v : V) (d : PyData), Rep K W x v → toD n h x = some d → Dp K H v d
  | 0, _, _, _, _, e => by cases e
  | n + 1, x, v, d, r, e => by
    unfold toD at e
    split at e
    · cases e; rw [rep_non r]; exact .non
    · cases e; rw [rep_bl r]; exact .bl _
    · cases e; rw [rep_int r]; exact .int _
    · cases e; rw [rep_str r]; exact .str _
    · obtain ⟨ds, e1, rfl⟩ := Option.map_eq_some_iff.mp e
      unfold Rep at r
      obtain ⟨a, vs, rfl, q, s⟩ := r
      exact .tup (SqT.of (rh.sub _ _ q)) (mapO_dp (toD_dp rh n) s e1)
    · obtain ⟨ds, e1, rfl⟩ := Option.map_eq_some_iff.mp e
      unfold Rep at r
      obtain ⟨a, vs, rfl, q, s⟩ := r
      exact .lst (sqL_mono rh.sub q) (mapO_dp (toD_dp rh n) s e1)
    · split at e
      · rename_i hn
        obtain ⟨ds, e1, rfl⟩ := Option.map_eq_some_iff.mp e
        obtain ⟨a, vs, rfl, _, q, s⟩ := rh.lst r hn
        exact .lst (SqL.of q) (mapO_dp (toD_dp rh n) s e1)
      · cases e
    · cases e
end
/-- == -/
def eqL (x y : LV) (h : LH) : Option Bool := match x, y with
  | .int i, .int j => some (decide (i = j))
  | .str s, .str t => some (decide (s = t))
  | .bl a, .bl b => some (decide (a = b))
  | x, y => (match toD 9 h x, toD 9 h y with
    | some d, some e => if (SeqAt.shaped d && SeqAt.shaped e) = true then some (PyData.eqv d e) else none
    | _, _ => none)
def fEq : F2 := fun x y h => match eqL x y h with
  | some b => some (.bl b, h)
  | none => none
def fNe : F2 := fun x y h => match eqL x y h with
  | some b => some (.bl (!b), h)
  | none => none
def fLt : F2 := fun x y h => match x, y with
  | .int i, .int j => some (.bl (decide (i < j)), h)
  | _, _ => none
def fLe : F2 := fun x y h => match x, y with
  | .int i, .int j => some (.bl (decide (i ≤ j)), h)
  | _, _ => none
def fGt : F2 := fun x y h => match x, y with
  | .int i, .int j => some (.bl (decide (j < i)), h)
  | _, _ => none
def fGe : F2 := fun x y h => match x, y with
  | .int i, .int j => some (.bl (decide (j ≤ i)), h)
  | _, _ => none
def isNon : LV → Bool
  | .non => true
  | _ => false
def fIs : F2 := fun x y h => match y with
  | .non => some (.bl (isNon x), h)
  | _ => none
def fIsNot : F2 := fun x y h => match y with
  | .non => some (.bl (!isNon x), h)
  | _ => none
/-- in a list or tuple of scalars; one sign in a text -/
def inL (x y : LV) (h : LH) : Option Bool := match x, y with
  | .str s, .str z => (match s.cps.toList with
    | [c] => some (decide (c ∈ z.cps.toList))
    | _ => none)
  | x, y => (match seqOf y h with
    | some ys => if (scalL x && ys.all scalL) = true then some (ys.any fun y => eqV (toV y) (toV x)) else none
    | none => none)
def fIn : F2 := fun x y h => match inL x y h with
  | some b => some (.bl b, h)
  | none => none
def fNotIn : F2 := fun x y h => match inL x y h with
  | some b => some (.bl (!b), h)
  | none => none
section
variable {X : Cx}
theorem eqL_of {K : PySem.W.Frag} {W : Wd} {H : Hp} {h : LH} {x y : LV} {v u : V} {b : Bool} (rh : RepH K W H h) (rx : Rep K W x v) (ry : Rep K W y u) (e : eqL x y h = some b) :
    (scal v u = true ∧ decide (v = u) = b) ∨ ∃ d e, Dp K H v d ∧ Dp K H u e ∧ SeqAt.shaped d = true ∧ SeqAt.shaped e = true ∧ PyData.eqv d e = b := by
  unfold eqL at e
  split at e
  · cases e; rw [rep_int rx, rep_int ry]; exact .inl ⟨rfl, by simp⟩
  · cases e; rw [rep_str rx, rep_str ry]; exact .inl ⟨rfl, by simp⟩
  · cases e; rw [rep_bl rx, rep_bl ry]; exact .inl ⟨rfl, by simp⟩
  · split at e
    · rename_i d d' e1 e2
      split at e
      · rename_i hs
        cases e
        rw [Bool.and_eq_true] at hs
        exact .inr ⟨d, d', toD_dp rh _ _ _ _ rx e1, toD_dp rh _ _ _ _ ry e2, hs.1, hs.2, rfl⟩
      · cases e
    · cases e
theorem o_eq (hu : X.A.units + 64 < cLine) : OpR X (compareOp .Eq) (rO X.K fEq) := by
  intro pins s σ H x y v u Q I rx ry ⟨W, h, a, b, ra, rb, rh, p⟩
  unfold fEq at p
  split at p
  · rename_i c hc
    have q := p W _ H (.refl W) (rep_bl' c) rh
    rcases eqL_of rh ra rb hc with ⟨h1, h2⟩ | ⟨d, e, h1, h2, h3, h4, h5⟩
    · exact op_eq pins s σ H x y v u Q I rx ry ⟨h1, by rw [h2]; exact q⟩
    · exact op_eqD hu pins s σ H x y v u Q I rx ry ⟨d, e, h1, h2, h3, h4, by rw [h5]; exact q⟩
  · exact p.elim
theorem o_ne (hu : X.A.units + 64 < cLine) : OpR X (compareOp .NotEq) (rO X.K fNe) := by
  intro pins s σ H x y v u Q I rx ry ⟨W, h, a, b, ra, rb, rh, p⟩
  unfold fNe at p
  split at p
  · rename_i c hc
    have q := p W _ H (.refl W) (rep_bl' (!c)) rh
    rcases eqL_of rh ra rb hc with ⟨h1, h2⟩ | ⟨d, e, h1, h2, h3, h4, h5⟩
    · exact op_ne pins s σ H x y v u Q I rx ry ⟨h1, by rw [h2]; exact q⟩
    · exact op_neD hu pins s σ H x y v u Q I rx ry ⟨d, e, h1, h2, h3, h4, by rw [h5]; exact q⟩
  · exact p.elim
theorem opr_bl0 {fv : Value → Value → Sem Value} {f : F2} {g : Int → Int → Bool} (ho : OpR X fv (rI0 fun i j => .bl (g i j)))
    (hf : ∀ x y h z, f x y h = some z → ∃ i j, x = .int i ∧ y = .int j ∧ z = (.bl (g i j), h)) : OpR X fv (rO X.K f) := by
  intro pins s σ H x y v u Q I rx ry ⟨W, h, a, b, ra, rb, rh, p⟩
  cases e : f a b h with
  | none => rw [e] at p; exact p.elim
  | some z =>
    obtain ⟨i, j, rfl, rfl, rfl⟩ := hf _ _ _ _ e
    rw [e] at p
    obtain rfl := rep_int ra
    obtain rfl := rep_int rb
    exact ho pins s σ H _ _ v u Q I rx ry ⟨i, j, rfl, rfl, p W _ H (.refl W) (rep_bl' _) rh⟩
theorem o_lt : OpR X (compareOp .Lt) (rO X.K fLt) := opr_bl0 op_lt fun x y h z e => by
  unfold fLt at e; split at e <;> cases e; exact ⟨_, _, rfl, rfl, rfl⟩
theorem o_le : OpR X (compareOp .LtE) (rO X.K fLe) := opr_bl0 op_le fun x y h z e => by
  unfold fLe at e; split at e <;> cases e; exact ⟨_, _, rfl, rfl, rfl⟩
theorem o_gt : OpR X (compareOp .Gt) (rO X.K fGt) := opr_bl0 op_gt fun x y h z e => by
  unfold fGt at e; split at e <;> cases e; exact ⟨_, _, rfl, rfl, rfl⟩
theorem o_ge : OpR X (compareOp .GtE) (rO X.K fGe) := opr_bl0 op_ge fun x y h z e => by
  unfold fGe at e; split at e <;> cases e; exact ⟨_, _, rfl, rfl, rfl⟩
theorem isNon_of {K : PySem.W.Frag} {W : Wd} {x : LV} {v : V} (r : Rep K W x v) : decide (v = .non) = isNon x := by
  cases x <;> unfold Rep at r
  · rw [r]; rfl
  · rw [r]; rfl
  · rw [r]; rfl
  · rw [r]; rfl
  · obtain ⟨a, vs, rfl, _⟩ := r; rfl
  · obtain ⟨a, vs, rfl, _⟩ := r; rfl
  · obtain ⟨a, dx, vs, rfl, _⟩ := r; rfl
  · obtain ⟨a, rfl, _⟩ := r; rfl
theorem o_is : OpR X (compareOp .Is) (rO X.K fIs) := by
  intro pins s σ H x y v u Q I rx ry ⟨W, h, a, b, ra, rb, rh, p⟩
  unfold fIs at p
  split at p
  · have q := p W _ H (.refl W) (rep_bl' _) rh
    exact op_isN pins s σ H x y v u Q I rx ry ⟨rep_non rb, by rw [isNon_of ra]; exact q⟩
  · exact p.elim
theorem o_isnot : OpR X (compareOp .IsNot) (rO X.K fIsNot) := by
  intro pins s σ H x y v u Q I rx ry ⟨W, h, a, b, ra, rb, rh, p⟩
  unfold fIsNot at p
  split at p
  · have q := p W _ H (.refl W) (rep_bl' _) rh
    exact op_notN pins s σ H x y v u Q I rx ry ⟨rep_non rb, by rw [isNon_of ra]; exact q⟩
  · exact p.elim
theorem flat_of {K : PySem.W.Frag} {W : Wd} {x : LV} {v : V} (r : Rep K W x v) (h : scalL x = true) : flatV v = true ∧ v = toV x := by
  cases x <;> unfold Rep at r <;> first | (rw [r]; exact ⟨rfl, rfl⟩) | cases h
theorem flat_all {K : PySem.W.Frag} {W : Wd} {x : V} : ∀ {xs : List LV} {vs : List V}, RepL K W xs vs → xs.all scalL = true → vs.all flatV = true ∧ (vs.any fun y => eqV y x) = xs.any fun y => eqV (toV y) x
  | [], _, r, _ => by unfold RepL at r; rw [r]; exact ⟨rfl, rfl⟩
  | y :: xs, _, r, h => by
    unfold RepL at r
    obtain ⟨v, us, rfl, q, s⟩ := r
    rw [List.all_cons, Bool.and_eq_true] at h
    obtain ⟨h1, h2⟩ := flat_of q h.1
    obtain ⟨h3, h4⟩ := flat_all (x := x) s h.2
    exact ⟨by rw [List.all_cons, h1, h3]; rfl, by rw [List.any_cons, List.any_cons, h4, h2]⟩
theorem o_in : OpR X (compareOp .In) (rO X.K fIn) := by
  intro pins s σ H x y v u Q I rx ry ⟨W, h, a, b, ra, rb, rh, p⟩
  unfold fIn at p
  split at p
  · rename_i c hc
    have q := p W _ H (.refl W) (rep_bl' c) rh
    unfold inL at hc
    split at hc
    · rename_i s1 z
      split at hc
      · rename_i k hk
        cases hc
        have es : s1 = ⟨#[k]⟩ := by
          cases s1 with
          | mk cps => exact congrArg Str.mk (by rw [← Array.toArray_toList (xs := cps), hk])
        exact op_in_sign pins s σ H x y v u Q I rx ry ⟨k, z, by rw [rep_str ra, es], rep_str rb, q⟩
      · cases hc
    · split at hc
      · rename_i ys hy
        split at hc
        · rename_i hf
          cases hc
          rw [Bool.and_eq_true] at hf
          obtain ⟨p1, vs, rfl, hq, r⟩ := seqOf_sq rh rb hy
          obtain ⟨f1, f2⟩ := flat_of ra hf.1
          obtain ⟨f3, f4⟩ := flat_all (x := x) r hf.2
          refine op_in_seq pins s σ H x _ v u Q I rx ry ⟨p1, vs, rfl, hq, f1, f3, ?_⟩
          show Q (.bl (inV x vs)) H
          unfold inV
          rw [f4, f2]
          exact q
        · cases hc
      · cases hc
  · exact p.elim
theorem o_notin : OpR X (compareOp .NotIn) (rO X.K fNotIn) := by
  intro pins s σ H x y v u Q I rx ry ⟨W, h, a, b, ra, rb, rh, p⟩
  unfold fNotIn at p
  split at p
  · rename_i c hc
    have q := p W _ H (.refl W) (rep_bl' (!c)) rh
    unfold inL at hc
    split at hc
    · rename_i s1 z
      split at hc
      · rename_i k hk
        cases hc
        have es : s1 = ⟨#[k]⟩ := by
          cases s1 with
          | mk cps => exact congrArg Str.mk (by rw [← Array.toArray_toList (xs := cps), hk])
        exact op_notIn_sign pins s σ H x y v u Q I rx ry ⟨k, z, by rw [rep_str ra, es], rep_str rb, q⟩
      · cases hc
    · split at hc
      · rename_i ys hy
        split at hc
        · rename_i hf
          cases hc
          rw [Bool.and_eq_true] at hf
          obtain ⟨p1, vs, rfl, hq, r⟩ := seqOf_sq rh rb hy
          obtain ⟨f1, f2⟩ := flat_of ra hf.1
          obtain ⟨f3, f4⟩ := flat_all (x := x) r hf.2
          refine op_notIn_seq pins s σ H x _ v u Q I rx ry ⟨p1, vs, rfl, hq, f1, f3, ?_⟩
          show Q (.bl (!inV x vs)) H
          unfold inV
          rw [f4, f2]
          exact q
        · cases hc
      · cases hc
  · exact p.elim
end

/-! ### chains, and, or, not, if -/
def onB (o : Out LV) (k : Bool → LH → Out LV) : Out LV := bnd o fun x h => match x with
  | .bl b => k b h
  | _ => .bad
@[simp] theorem onB_ok (b : Bool) (h : LH) (k : Bool → LH → Out LV) : onB (.ok (.bl b) h) k = k b h := rfl
@[simp] theorem onB_exc (c : Nat) (fs : List LV) (h : LH) (k : Bool → LH → Out LV) : onB (.exc c fs h) k = .exc c fs h := rfl
@[simp] theorem onB_bad (k : Bool → LH → Out LV) : onB .bad k = .bad := rfl
def eAnd (a b : ME) : ME := fun ρ h => onB (a ρ h) fun c h1 => if c = true then b ρ h1 else .ok (.bl false) h1
def eOr (a b : ME) : ME := fun ρ h => onB (a ρ h) fun c h1 => if c = true then .ok (.bl true) h1 else b ρ h1
def eNot (a : ME) : ME := fun ρ h => onB (a ρ h) fun c h1 => .ok (.bl (!c)) h1
def eIf (t a b : ME) : ME := fun ρ h => onB (t ρ h) fun c h1 => if c = true then a ρ h1 else b ρ h1
def eChain (f g : F2) (a b c : ME) : ME := fun ρ h => bnd (a ρ h) fun x h1 => bnd (b ρ h1) fun y h2 => onB (lft (f x y h2)) fun k h3 => if k = true then bnd (c ρ h3) fun z h4 => lft (g y z h4) else .ok (.bl false) h3
theorem PO_onB {K : PySem.W.Frag} {W : Wd} {Q : VK} {E : XK} {o : Out LV} {k : Bool → LH → Out LV} (p : PO K (onB o k) W Q E) :
    PO K o W (fun v H => ∃ W' c h', v = .bl c ∧ W.le W' ∧ RepH K W' H h' ∧ PO K (k c h') W' Q E) E := by
  refine (PO_bnd p).imp (fun v H ⟨W', x, h', l, r, rh, q⟩ => ?_) fun _ _ _ z => z
  cases x with
  | bl c => exact ⟨W', c, h', rep_bl r, l, rh, q⟩
  | _ => exact q.elim
section
variable {X : Cx} {e a b c t : Expr} {m ma mb mc mt : ME} {pos : Pos} {rest : List Expr}
def SW (X : Cx) (m : ME) (e : Expr) : Prop := ∀ E : WX, Takes X E → PW X e (tB' X.K m E)
theorem pw_wk {X : Cx} {e : Expr} {t t' : TT} (h : PW X e t) (w : ∀ σ H Q, t' σ H Q → t σ H Q) : PW X e t' := ⟨fun wh pins s σ H Q I q => h.run wh pins s σ H Q I (w _ _ _ q)⟩
theorem sb_w (h : SW X m e) : SB X m e := fun E tk => (h E tk).pt
theorem sw_and1 (ha : SB X ma a) : SW X ma (.BoolOp .And [a] pos) := fun E tk => pw_and1 (ha E tk)
theorem sw_or1 (ha : SB X ma a) : SW X ma (.BoolOp .Or [a] pos) := fun E tk => pw_or1 (ha E tk)
theorem rd_tb {K : PySem.W.Frag} {E : WX} {σ : L2.St} {H : Hp} {k : Bool → LH → Rho → Out LV} {Q : VK} (hh : tS K (fun ρ h => onB (m ρ h) fun c h1 => k c h1 ρ) E σ H Q) :
    tB' K m E σ H fun c H1 => ∃ W ρ h, RepS K W ρ σ ∧ RepH K W H1 h ∧ PO K (k c h ρ) W Q (fun cl d H' => E cl d σ H') := by
  obtain ⟨W, ρ, h, rs, rh, p⟩ := hh
  refine ⟨W, ρ, h, rs, rh, (PO_onB p).imp (fun v H1 ⟨W', c, h', e, l, rh', q⟩ => ⟨c, e, W', ρ, h', rs.mono l, rh', q⟩) fun _ _ _ z => z⟩
theorem ok_bl {K : PySem.W.Frag} {W : Wd} {H : Hp} {h : LH} {b : Bool} {Q : VK} {E : XK} (rh : RepH K W H h) (p : PO K (.ok (.bl b) h) W Q E) : Q (.bl b) H := p W _ H (.refl W) (rep_bl' b) rh
theorem sw_and (ha : SB X ma a) (hb : SW X mb (.BoolOp .And (b :: rest) pos)) : SW X (eAnd ma mb) (.BoolOp .And (a :: b :: rest) pos) := fun E tk =>
  pw_wk (pw_and (ha E tk) (hb E tk)) fun σ H Q q => by
    obtain ⟨W, ρ, h, rs, rh, p⟩ := rd_tb q
    refine ⟨W, ρ, h, rs, rh, p.imp (fun v H1 ⟨c, e, W1, ρ1, h1, rs1, rh1, p1⟩ => ⟨c, e, ?_⟩) fun _ _ _ z => z⟩
    cases c with
    | true => exact ⟨W1, ρ1, h1, rs1, rh1, p1⟩
    | false =>
      obtain ⟨c, e, q⟩ := ok_bl rh1 p1
      cases e
      exact q
theorem sw_or (ha : SB X ma a) (hb : SW X mb (.BoolOp .Or (b :: rest) pos)) : SW X (eOr ma mb) (.BoolOp .Or (a :: b :: rest) pos) := fun E tk =>
  pw_wk (pw_or (ha E tk) (hb E tk)) fun σ H Q q => by
    obtain ⟨W, ρ, h, rs, rh, p⟩ := rd_tb q
    refine ⟨W, ρ, h, rs, rh, p.imp (fun v H1 ⟨c, e, W1, ρ1, h1, rs1, rh1, p1⟩ => ⟨c, e, ?_⟩) fun _ _ _ z => z⟩
    cases c with
    | false => exact ⟨W1, ρ1, h1, rs1, rh1, p1⟩
    | true =>
      obtain ⟨c, e, q⟩ := ok_bl rh1 p1
      cases e
      exact q
theorem sb_not (ha : SB X ma a) : SB X (eNot ma) (.UnaryOp .Not a pos) := fun E tk =>
  pt_wk (pt_not (ha E tk)) fun σ H Q q => by
    obtain ⟨W, ρ, h, rs, rh, p⟩ := rd_tb q
    refine ⟨W, ρ, h, rs, rh, p.imp (fun v H1 ⟨c, e, W1, ρ1, h1, rs1, rh1, p1⟩ => ⟨c, e, ?_⟩) fun _ _ _ z => z⟩
    obtain ⟨c', e', q'⟩ := ok_bl rh1 p1
    cases e'
    exact q'
/-- as values -/
theorem rd_b {K : PySem.W.Frag} {E : WX} {σ : L2.St} {H : Hp} {k : Bool → LH → Rho → Out LV} {Q : VK} (hh : tS K (fun ρ h => onB (m ρ h) fun c h1 => k c h1 ρ) E σ H Q) :
    tS K m E σ H fun v H1 => ∃ c, v = .bl c ∧ ∃ W ρ h, RepS K W ρ σ ∧ RepH K W H1 h ∧ PO K (k c h ρ) W Q (fun cl d H' => E cl d σ H') := rd_tb hh
theorem se_one {op : BoolOp} (ha : SE X ma a) : SE X ma (.BoolOp op [a] pos) := fun E tk => pe_one (ha E tk)
theorem se_and (ha : SE X ma a) (hb : SE X mb (.BoolOp .And (b :: rest) pos)) : SE X (eAnd ma mb) (.BoolOp .And (a :: b :: rest) pos) := fun E tk =>
  pe_wk (pe_and (ha E tk) (hb E tk)) fun σ H Q q => by
    obtain ⟨W, ρ, h, rs, rh, p⟩ := rd_b q
    refine ⟨W, ρ, h, rs, rh, p.imp (fun v H1 ⟨c, e, W1, ρ1, h1, rs1, rh1, p1⟩ => ⟨c, e, ?_⟩) fun _ _ _ z => z⟩
    cases c with
    | true => exact ⟨W1, ρ1, h1, rs1, rh1, p1⟩
    | false => exact ok_bl rh1 p1
theorem se_or (ha : SE X ma a) (hb : SE X mb (.BoolOp .Or (b :: rest) pos)) : SE X (eOr ma mb) (.BoolOp .Or (a :: b :: rest) pos) := fun E tk =>
  pe_wk (pe_or (ha E tk) (hb E tk)) fun σ H Q q => by
    obtain ⟨W, ρ, h, rs, rh, p⟩ := rd_b q
    refine ⟨W, ρ, h, rs, rh, p.imp (fun v H1 ⟨c, e, W1, ρ1, h1, rs1, rh1, p1⟩ => ⟨c, e, ?_⟩) fun _ _ _ z => z⟩
    cases c with
    | false => exact ⟨W1, ρ1, h1, rs1, rh1, p1⟩
    | true => exact ok_bl rh1 p1
theorem se_not (ha : SE X ma a) : SE X (eNot ma) (.UnaryOp .Not a pos) := fun E tk =>
  pe_wk (pe_not (ha E tk)) fun σ H Q q => by
    obtain ⟨W, ρ, h, rs, rh, p⟩ := rd_b q
    exact ⟨W, ρ, h, rs, rh, p.imp (fun v H1 ⟨c, e, W1, ρ1, h1, rs1, rh1, p1⟩ => ⟨c, e, ok_bl rh1 p1⟩) fun _ _ _ z => z⟩
theorem se_if (ht : SB X mt t) (ha : SE X ma a) (hb : SE X mb b) : SE X (eIf mt ma mb) (.IfExp t a b pos) := fun E tk =>
  pe_wk (pe_ifExp (ht E tk) (ha E tk) (hb E tk)) fun σ H Q q => by
    obtain ⟨W, ρ, h, rs, rh, p⟩ := rd_tb q
    refine ⟨W, ρ, h, rs, rh, p.imp (fun v H1 ⟨c, e, W1, ρ1, h1, rs1, rh1, p1⟩ => ⟨c, e, ?_⟩) fun _ _ _ z => z⟩
    cases c with
    | true => exact ⟨W1, ρ1, h1, rs1, rh1, p1⟩
    | false => exact ⟨W1, ρ1, h1, rs1, rh1, p1⟩
theorem rd_chain {K : PySem.W.Frag} {E : WX} {f g : F2} {σ : L2.St} {H : Hp} {Q : VK} (hh : tS K (eChain f g ma mb mc) E σ H Q) : tChain (rO K f) (rO K g) (tS K ma E) (tS K mb E) (tS K mc E) σ H Q := by
  obtain ⟨W, ρ, h, rs, rh, p⟩ := hh
  refine ⟨W, ρ, h, rs, rh, (PO_bnd p).imp (fun x H1 ⟨W1, lx, h1, l1, r1, rh1, p1⟩ => ?_) fun _ _ _ z => z⟩
  refine ⟨W1, ρ, h1, rs.mono l1, rh1, (PO_bnd p1).imp (fun y H2 ⟨W2, ly, h2, l2, r2, rh2, p2⟩ => ?_) fun _ _ _ z => z⟩
  refine ⟨W2, h2, lx, ly, r1.mono l2, r2, rh2, ?_⟩
  have p3 := PO_onB p2
  cases e : f lx ly h2 with
  | none => rw [e] at p3; exact p3.elim
  | some z =>
    rw [e] at p3
    refine fun W3 v H3 l3 rv rh3 => ?_
    obtain ⟨W4, k, h4, rfl, l4, rh4, p4⟩ := p3 W3 v H3 l3 rv rh3
    refine ⟨k, rfl, ?_⟩
    cases k with
    | false => exact ok_bl rh4 p4
    | true =>
      have l24 := l4
      refine ⟨W4, ρ, h4, rs.mono ((l1.trans l2).trans l24), rh4, (PO_bnd p4).imp (fun w H5 ⟨W5, lz, h5, l5, r5, rh5, p5⟩ => ?_) fun _ _ _ z => z⟩
      exact ⟨W5, h5, ly, lz, r2.mono (l24.trans l5), r5, rh5, PO_lft p5⟩
theorem se_chain {op op' : CmpOp} {f g : F2} (ho : OpR X (compareOp op) (rO X.K f)) (ho' : OpR X (compareOp op') (rO X.K g)) (ha : SE X ma a) (hb : SE X mb b) (hc : SE X mc c)
    (hm : lastMarks [op, op'] [b, c] = false := by with_unfolding_all rfl) : SE X (eChain f g ma mb mc) (.Compare a [op, op'] [b, c] pos) := fun E tk =>
  pe_wk (pe_chain ho ho' (ha E tk) (hb E tk) (hc E tk) hm) fun _ _ _ q => rd_chain q
theorem sb_chain {op op' : CmpOp} {f g : F2} (ho : OpR X (compareOp op) (rO X.K f)) (ho' : OpR X (compareOp op') (rO X.K g)) (ha : SE X ma a) (hb : SE X mb b) (hc : SE X mc c)
    (hm : lastMarks [op, op'] [b, c] = false := by with_unfolding_all rfl) : SB X (eChain f g ma mb mc) (.Compare a [op, op'] [b, c] pos) := fun E tk =>
  pt_wk (pt_chain ho ho' (ha E tk) (hb E tk) (hc E tk) hm) fun _ _ _ q => rd_chain q

/-! ### argument lists, displays -/
def aN : MA := fun _ h => .ok [] h
def aC (m : ME) (r : MA) : MA := fun ρ h => bnd (m ρ h) fun x h1 => bnd (r ρ h1) fun xs h2 => .ok (x :: xs) h2
def eTup (ms : MA) : ME := fun ρ h => bnd (ms ρ h) fun xs h1 => if xs.length ≤ sizeLine then .ok (.tup xs) h1 else .bad
def eLst (ms : MA) : ME := fun ρ h => bnd (ms ρ h) fun xs h1 => if xs.length ≤ sizeLine then .ok (.ptr h1.length) (h1 ++ [.lst xs]) else .bad
variable {es : List Expr} {ms : MA}
theorem sa_nil : SA X aN [] := fun E tk => pa_wk pa_nil fun σ H Q ⟨W, ρ, h, rs, rh, p⟩ => p W _ H (.refl W) .nil rh
theorem sa_cons (ha : SE X m e) (hr : SA X ms es) (hs : starEach (e :: es) X.env = (false, eval e X.env) :: starEach es X.env := by rfl) : SA X (aC m ms) (e :: es) := fun E tk =>
  pa_wk (pa_cons (ha E tk) (hr E tk) hs) fun σ H Q ⟨W, ρ, h, rs, rh, p⟩ => by
    refine ⟨W, ρ, h, rs, rh, (POL_bnd p).imp (fun x H1 ⟨W1, lx, h1, l1, r1, rh1, p1⟩ => ?_) fun _ _ _ z => z⟩
    refine ⟨W1, ρ, h1, rs.mono l1, rh1, ?_⟩
    cases e2 : ms ρ h1 with
    | ok xs h2 =>
      rw [e2] at p1
      exact fun W2 vs H2 l2 r2 rh2 => p1 W2 _ H2 l2 (.cons (r1.mono l2) r2) rh2
    | exc c fs h2 => rw [e2] at p1; exact p1
    | bad => rw [e2] at p1; exact p1
theorem se_tup {x1} (hh : SA X ms es) : SE X (eTup ms) (.Tuple es x1 pos) := fun E tk =>
  pe_wk (pe_tup (hh E tk)) fun σ H Q ⟨W, ρ, h, rs, rh, p⟩ => by
    have p1 := PO_bndL p
    refine ⟨W, ρ, h, rs, rh, ?_⟩
    cases e2 : ms ρ h with
    | ok xs h2 =>
      rw [e2] at p1
      refine fun W2 vs H2 l2 r2 rh2 => ?_
      obtain ⟨W3, ys, h3, l3, r3, rh3, p3⟩ := p1 W2 vs H2 l2 r2 rh2
      split at p3
      · rename_i hz
        exact ⟨by rw [← r3.length]; exact hz, POo_newT rh3 r3 p3⟩
      · exact p3.elim
    | exc c fs h2 => rw [e2] at p1; exact p1
    | bad => rw [e2] at p1; exact p1
theorem se_lst (hh : SA X ms es) : SE X (eLst ms) (.List es pos) := fun E tk =>
  pe_wk (pe_lst (hh E tk)) fun σ H Q ⟨W, ρ, h, rs, rh, p⟩ => by
    have p1 := PO_bndL p
    refine ⟨W, ρ, h, rs, rh, ?_⟩
    cases e2 : ms ρ h with
    | ok xs h2 =>
      rw [e2] at p1
      refine fun W2 vs H2 l2 r2 rh2 => ?_
      obtain ⟨W3, ys, h3, l3, r3, rh3, p3⟩ := p1 W2 vs H2 l2 r2 rh2
      split at p3
      · rename_i hz
        exact ⟨by rw [← r3.length]; exact hz, POo_new rh3 r3 p3⟩
      · exact p3.elim
    | exc c fs h2 => rw [e2] at p1; exact p1
    | bad => rw [e2] at p1; exact p1

/-! ### subscripts, slices -/
def fIx : F2 := fun x y h => match x, y with
  | .str z, .int i => (match atI z.cps.toList i with
    | some c => if z.length ≤ sizeLine then some (.str ⟨#[c]⟩, h) else none
    | none => none)
  | x, .int i => (match seqOf x h with
    | some xs => (match atI xs i with
      | some y => some (y, h)
      | none => none)
    | none => none)
  | _, _ => none
theorem RepL.atI {K : PySem.W.Frag} {W : Wd} {xs : List LV} {vs : List V} {i : Int} {x : LV} (r : RepL K W xs vs) (e : L2.atI xs i = some x) : ∃ v, L2.atI vs i = some v ∧ Rep K W x v := by
  unfold L2.atI at e ⊢
  rw [← r.length]
  cases q : ixN xs.length i with
  | none => rw [q] at e; cases e
  | some j =>
    rw [q] at e
    exact r.get e
theorem ixr_of : IxR X (rO X.K fIx) := by
  intro value slice pins s σ H x y v u Q I rx ry ⟨W, h, a, b, ra, rb, rh, p⟩ hs
  unfold fIx at p
  split at p
  · split at p
    · rename_i c hc
      split at p
      · rename_i hz
        exact ix_seq value slice pins s σ H x y v u Q I rx ry (.inr (.inr ⟨_, _, c, rep_str ra, rep_int rb, hz, hc, p W _ H (.refl W) (rep_str' _) rh⟩)) hs
      · exact p.elim
    · exact p.elim
  · split at p
    · rename_i xs hx
      split at p
      · rename_i y1 hy
        obtain ⟨a1, vs, rfl, hq, r⟩ := seqOf_sq rh ra hx
        obtain ⟨w, e1, r1⟩ := r.atI hy
        have q := p W _ H (.refl W) r1 rh
        rcases hq with hq | hq
        · exact ix_seq value slice pins s σ H _ y v u Q I rx ry (.inl ⟨a1, vs, _, w, rfl, rep_int rb, hq, e1, q⟩) hs
        · exact ix_seq value slice pins s σ H _ y v u Q I rx ry (.inr (.inl ⟨a1, vs, _, w, rfl, rep_int rb, hq, e1, q⟩)) hs
      · exact p.elim
    · exact p.elim
  · exact p.elim
theorem se_ix (ha : SE X ma a) (hb : SE X mb b) (hs : PlainIx b) : SE X (eB fIx ma mb) (.Subscript a b pos) := fun E tk =>
  pe_wk (pe_ix ixr_of (ha E tk) (hb E tk) hs) fun _ _ _ q => rd_bin q
/-- a part of a slice -/
def SO' (X : Cx) (m : Rho → LH → Out (Option Int)) (e : Option Expr) : Prop := ∀ E : WX, Takes X E → L2.PO X e (fun σ H Q => ∃ W ρ h, RepS X.K W ρ σ ∧ RepH X.K W H h ∧ match m ρ h with
  | .ok o h' => ∀ W' H', W.le W' → RepH X.K W' H' h' → Q o H'
  | .exc c fs h' => ∀ W' cls d H', W.le W' → RepX X.K W' H' c fs cls d → RepH X.K W' H' h' → E cls d σ H'
  | .bad => False)
def oN : Rho → LH → Out (Option Int) := fun _ h => .ok none h
def oS (m : ME) : Rho → LH → Out (Option Int) := fun ρ h => bnd (m ρ h) fun x h1 => match x with
  | .int i => .ok (some i) h1
  | _ => .bad
theorem po_wk {e : Option Expr} {t t' : TO} (h : L2.PO X e t) (w : ∀ σ H Q, t' σ H Q → t σ H Q) : L2.PO X e t' := ⟨fun pins s σ H Q I q => h.run pins s σ H Q I (w _ _ _ q)⟩
theorem so_none : SO' X oN none := fun E tk => po_wk po_none fun σ H Q ⟨W, ρ, h, rs, rh, p⟩ => p W H (.refl W) rh
theorem so_some (hm : SE X m e) : SO' X (oS m) (some e) := fun E tk => po_wk (po_some (hm E tk)) fun σ H Q ⟨W, ρ, h, rs, rh, p⟩ => by
  refine ⟨W, ρ, h, rs, rh, ?_⟩
  unfold oS at p
  cases e1 : m ρ h with
  | ok x h1 =>
    rw [e1] at p
    refine fun W1 v H1 l1 r1 rh1 => ?_
    cases x with
    | int i => exact ⟨i, rep_int r1, p W1 H1 l1 rh1⟩
    | _ => exact p.elim
  | exc c fs h1 => rw [e1] at p; exact p
  | bad => rw [e1] at p; exact p
def cutL {A : Type} (xs : List A) (lo hi : Option Int) : List A := (xs.drop (HT.sIx xs.length 0 lo)).take (HT.sIx xs.length xs.length hi - HT.sIx xs.length 0 lo)
def fSl (x : LV) (lo hi : Option Int) (h : LH) : Option (LV × LH) := match x with
  | .str z => if z.length ≤ sizeLine then some (.str (cutS z lo hi), h) else none
  | x => (match lstOf x h with
    | some xs => some (.ptr h.length, h ++ [.lst (cutL xs lo hi)])
    | none => none)
def eSl (m : ME) (lo hi : Rho → LH → Out (Option Int)) : ME := fun ρ h => bnd (m ρ h) fun x h1 => bnd (lo ρ h1) fun l h2 => bnd (hi ρ h2) fun u h3 => lft (fSl x l u h3)
theorem se_sl {lo hi : Option Expr} {ml mh : Rho → LH → Out (Option Int)} {p2 : Pos} (ha : SE X m e) (hl : SO' X ml lo) (hh : SO' X mh hi) : SE X (eSl m ml mh) (.Subscript e (.Slice lo hi none p2) pos) := fun E tk =>
  pe_wk (pe_slice (sl_str.or sl_list) (ha E tk) (hl E tk) (hh E tk)) fun σ H Q ⟨W, ρ, h, rs, rh, p⟩ => by
    refine ⟨W, ρ, h, rs, rh, (PO_bnd p).imp (fun x H1 ⟨W1, lx, h1, l1, r1, rh1, p1⟩ => ?_) fun _ _ _ z => z⟩
    refine ⟨W1, ρ, h1, rs.mono l1, rh1, ?_⟩
    cases e1 : ml ρ h1 with
    | bad => rw [e1] at p1; exact p1
    | exc c fs h2 => rw [e1] at p1; exact p1
    | ok lo' h2 =>
      rw [e1, bnd_ok] at p1
      refine fun W2 H2 l2 rh2 => ⟨W2, ρ, h2, rs.mono (l1.trans l2), rh2, ?_⟩
      cases e2 : mh ρ h2 with
      | bad => rw [e2] at p1; exact p1
      | exc c fs h3 => rw [e2] at p1; exact PO.mono (o := .exc c fs h3) l2 p1
      | ok hi' h3 =>
        rw [e2, bnd_ok] at p1
        refine fun W3 H3 l3 rh3 => ?_
        have p3 := PO_lft (p1.mono (l2.trans l3))
        have r3 := r1.mono (l2.trans l3)
        unfold fSl at p3
        split at p3
        · split at p3
          · rename_i hz
            exact .inl ⟨_, rep_str r3, hz, p3 W3 _ H3 (.refl W3) (rep_str' _) rh3⟩
          · exact p3.elim
        · split at p3
          · rename_i xs hx
            obtain ⟨a1, vs, e4, hq, r4⟩ := lstOf_sq rh3 r3 hx
            refine .inr ⟨a1, vs, e4, hq, POo_new (vs := cutV vs lo' hi') rh3 ?_ p3⟩
            unfold cutL cutV
            rw [r4.length]
            exact (r4.drop _).take _
          · exact p3.elim
end
end DD
end
section
set_option Elab.async false
set_option linter.all false
set_option maxRecDepth 100000
set_option maxHeartbeats 2000000
/-! D4: fields, calls, methods, instances, isinstance, freezing. -/
namespace DD
open PySem PySem.Spec PyProof.Rows L2

/-! ### fields -/
def lookF : List Nat → List LV → Nat → Option LV
  | g :: gs, v :: vs, f => if g = f then some v else lookF gs vs f
  | _, _, _ => none
/-- a field is stored: one that is there, or the next one of the class -/
def storeF : List Nat → List LV → Nat → LV → Option (List LV)
  | g :: _, [], f, v => if g = f then some [v] else none
  | g :: gs, x :: xs, f, v => if g = f then some (v :: xs) else (match storeF gs xs f v with
    | some ys => some (x :: ys)
    | none => none)
  | [], _, _, _ => none
def insOf (x : LV) (h : LH) : Option (Nat × List LV) := match x with
  | .obj c fs => some (c, fs)
  | .ptr n => (match h[n]? with
    | some (.ins c fs) => some (c, fs)
    | _ => none)
  | _ => none
def fFld (f : Nat) : F1 := fun x h => match insOf x h with
  | some (c, fs) => (match lookF (flds c) fs f with
    | some v => some (v, h)
    | none => none)
  | none => none
def putFld (x : LV) (f : Nat) (v : LV) (h : LH) : Option LH := match x with
  | .ptr n => (match h[n]? with
    | some (.ins c fs) => (match storeF (flds c) fs f v with
      | some fs' => some (h.set n (.ins c fs'))
      | none => none)
    | _ => none)
  | _ => none
section
variable {K : PySem.W.Frag} {W : Wd} {H : Hp} {h : LH}
theorem insOf_at {x : LV} {v : V} {c : Nat} {fs : List LV} (rh : RepH K W H h) (r : Rep K W x v) (e : insOf x h = some (c, fs)) :
    ∃ a dx vs, v = .ref a ∧ ClsG K c ∧ H a = some (.ins (ca K c) dx ((names c).zip vs)) ∧ fs.length ≤ (names c).length ∧ RepL K W fs vs := by
  unfold insOf at e
  split at e
  · cases e
    unfold Rep at r
    obtain ⟨a, dx, vs, e1, g, q, n, s⟩ := r
    exact ⟨a, dx, vs, e1, g, rh.sub _ _ q, n, s⟩
  · split at e
    · rename_i hn
      cases e
      unfold Rep at r
      obtain ⟨a, rfl, ha⟩ := r
      obtain ⟨_, dx, vs, q, z, s, g⟩ := rh.at_ _ a _ ha hn (by intro z; cases z)
      exact ⟨a, dx, vs, rfl, g, q, z, s⟩
    · cases e
  · cases e
theorem lookF_mem : ∀ {gs : List Nat} {fs : List LV} {f : Nat} {v : LV}, lookF gs fs f = some v → f ∈ gs
  | [], _, _, _, e => by cases e
  | g :: gs, [], _, _, e => by cases e
  | g :: gs, x :: xs, f, v, e => by
    unfold lookF at e
    split at e
    · rename_i h; rw [h]; exact List.mem_cons_self
    · exact List.mem_cons_of_mem _ (lookF_mem e)
theorem lookF_zip : ∀ {gs : List Nat} {fs : List LV} {vs : List V} {f : Nat} {x : LV}, (gs.map fname).Nodup → RepL K W fs vs → lookF gs fs f = some x → ∃ v, ((gs.map fname).zip vs).lookup (fname f) = some v ∧ Rep K W x v
  | [], _, _, _, _, _, _, e => by cases e
  | g :: gs, [], _, _, _, _, _, e => by cases e
  | g :: gs, y :: ys, _, f, x, nd, r, e => by
    unfold RepL at r
    obtain ⟨v, us, rfl, q, s⟩ := r
    rw [List.map_cons, List.nodup_cons] at nd
    unfold lookF at e
    rw [List.map_cons, List.zip_cons_cons, List.lookup_cons]
    split at e
    · rename_i hg
      cases e
      subst hg
      exact ⟨v, by simp, q⟩
    · rename_i hg
      obtain ⟨u, e1, r1⟩ := lookF_zip nd.2 s e
      refine ⟨u, ?_, r1⟩
      have hne : (fname f == fname g) = false := by
        rw [beq_eq_false_iff_ne]
        intro z
        exact nd.1 (z ▸ List.mem_map_of_mem (lookF_mem e))
      rw [hne]
      exact e1
theorem putF_zip : ∀ {gs : List Nat} {fs fs' : List LV} {vs : List V} {f : Nat} {x : LV} {v : V}, (gs.map fname).Nodup → fs.length ≤ gs.length → RepL K W fs vs → Rep K W x v → storeF gs fs f x = some fs' →
    ∃ vs', putF (fname f) v ((gs.map fname).zip vs) = (gs.map fname).zip vs' ∧ RepL K W fs' vs' ∧ fname f ∈ gs.map fname ∧ fs'.length ≤ gs.length
  | [], _, _, _, _, _, _, _, _, _, _, e => by unfold storeF at e; cases e
  | g :: gs, [], _, _, f, x, v, nd, hl, r, q, e => by
    unfold RepL at r
    subst r
    unfold storeF at e
    split at e
    · rename_i hg
      cases e
      subst hg
      exact ⟨[v], by simp [putF], .cons q .nil, by simp, by simp⟩
    · cases e
  | g :: gs, y :: ys, _, _, f, x, v, nd, hl, r, q, e => by
    unfold RepL at r
    obtain ⟨u, us, rfl, q1, s⟩ := r
    rw [List.map_cons, List.nodup_cons] at nd
    unfold storeF at e
    split at e
    · rename_i hg
      cases e
      subst hg
      refine ⟨v :: us, ?_, .cons q s, by simp, ?_⟩
      · rw [List.map_cons, List.zip_cons_cons, List.zip_cons_cons]
        unfold putF
        rw [if_pos rfl]
      · simpa using hl
    · rename_i hg
      split at e
      · rename_i zs hz
        cases e
        obtain ⟨vs', e1, r1, m1, l1⟩ := putF_zip nd.2 (by simpa using hl) s q hz
        refine ⟨u :: vs', ?_, .cons q1 r1, List.mem_cons_of_mem _ m1, by simp; exact l1⟩
        rw [List.map_cons, List.zip_cons_cons, List.zip_cons_cons]
        unfold putF
        rw [if_neg (fun z => nd.1 (by rw [z]; exact m1)), e1]
      · cases e
end
section
variable {X : Cx} {e o a : Expr} {m mo mv : ME} {pos pos' : Pos}
theorem se_fld {f : Nat} {fs : Str} (he : SE X m e) (hf : fs = fname f) (hb : attributeBase e fs X.env (eval e X.env) = eval e X.env := by rfl) : SE X (eU (fFld f) m) (.Attribute e fs pos) := fun E tk => by
  subst hf
  refine pe_wk (pe_fld (he E tk) hb) fun σ H Q q => ?_
  obtain ⟨W, ρ, h, rs, rh, p⟩ := rd_un q
  refine ⟨W, ρ, h, rs, rh, p.imp (fun v H1 ⟨W1, h1, x, r1, rh1, p1⟩ => ?_) fun _ _ _ z => z⟩
  unfold fFld at p1
  split at p1
  · rename_i c fs hi
    split at p1
    · rename_i y hy
      obtain ⟨a, dx, vs, rfl, g, ha, hl, r⟩ := insOf_at rh1 r1 hi
      obtain ⟨u, e1, r2⟩ := lookF_zip g.nd r hy
      exact ⟨a, ca X.K c, dx, _, u, rfl, ha, g.cls, g.noat _ (List.mem_map_of_mem (lookF_mem hy)), e1, p1 W1 u H1 (.refl W1) r2 rh1⟩
    · exact p1.elim
  · exact p1.elim
end

/-! ### what a call promises -/
structure CF where
  fn : Nat → List LV → LH → Out LV
  mk_ : Nat → List LV → LH → Out LV
def spOf (K : PySem.W.Frag) (g : List LV → LH → Out LV) (np : Nat) : Sp := fun vs H Q E => vs.length = np ∧ ∃ W h xs, RepL K W xs vs ∧ RepH K W H h ∧ PO K (g xs h) W Q E
/-- the function number f stands at path p and does what cf.fn f says -/
structure FnG (P : Program) (w : World) (K : PySem.W.Frag) (mg : Str → Option Value) (base : Heap) (k : Nat) (g : List LV → LH → Out LV) (p : Str × Option Str) (ps : List Str) (dfl : List LV) : Prop where
  ex : ∃ (fd : FuncData) (ds : List Value), FnOk P w K mg base (L2.CX P w) k (He.fAd K p) fd ps (spOf K g ps.length) ∧ Vals (dfl.map toV) ds ∧ Binds K fd ps ds ∧ ∃ oc od osl, K.lookup (He.fAd K p) = some ⟨oc, od, .func fd, osl⟩
  kp : PySem.W.keepIn K (.ref (He.fAd K p)) = true
  sc : dfl.all scalL = true
  gl : p.2 = none → mg p.1 = some (.ref (He.fAd K p))
theorem repL_toV {K : PySem.W.Frag} {W : Wd} : ∀ {xs : List LV}, xs.all scalL = true → RepL K W xs (xs.map toV)
  | [], _ => .nil
  | x :: xs, h => by
    rw [List.all_cons, Bool.and_eq_true] at h
    exact .cons (rep_toV h.1) (repL_toV h.2)
/-- f(args), the last parameters by their defaults -/
def eCall (g : List LV → LH → Out LV) (ms : MA) (dfl : List LV) : ME := fun ρ h => bnd (ms ρ h) fun xs h1 => g (xs ++ dfl) h1
section
variable {X : Cx} {e o : Expr} {es : List Expr} {m mo : ME} {ms : MA} {pos apos p : Pos} {x : Str} {k : Nat} {g : List LV → LH → Out LV} {pth : Str × Option Str} {ps : List Str} {dfl : List LV}
theorem rd_call {E : WX} {σ : L2.St} {H : Hp} {Q : VK} {dvs : List V} (hd : ∀ W, RepL X.K W dfl dvs) (hg : ∀ xs h, xs.length ≠ ps.length → g xs h = .bad) (q : tS X.K (eCall g ms dfl) E σ H Q) :
    tA X.K ms E σ H fun vs H1 => spOf X.K g ps.length (vs ++ dvs) H1 Q (fun c d H' => E c d σ H') := by
  obtain ⟨W, ρ, h, rs, rh, p⟩ := q
  have p1 := PO_bndL p
  refine ⟨W, ρ, h, rs, rh, ?_⟩
  cases e2 : ms ρ h with
  | ok xs h2 =>
    rw [e2] at p1
    refine fun W2 vs H2 l2 r2 rh2 => ?_
    obtain ⟨W3, ys, h3, l3, r3, rh3, p3⟩ := p1 W2 vs H2 l2 r2 rh2
    have rr := r3.append (hd W3)
    refine ⟨?_, W3, h3, _, rr, rh3, p3⟩
    rw [← rr.length]
    exact Classical.byContradiction fun z => by rw [hg _ _ z] at p3; exact p3
  | exc c fs h2 => rw [e2] at p1; exact p1
  | bad => rw [e2] at p1; exact p1
theorem se_call (F : FnG X.prog X.w X.K X.mg X.base k g pth ps dfl) (hg : ∀ xs h, xs.length ≠ ps.length → g xs h = .bad) (hr : Room k X.A) (hx : pth = (x, none)) (hgl : Gl X x) (ha : SA X ms (e :: es))
    (hdb : (x == ("__debug__" : Str)) = false := by decide) (he : starEach (e :: es) X.env = (false, eval e X.env) :: starEach es X.env := by rfl) (hpl : (backTo pos (starEach es X.env)).any (·.1) = false := by rfl) :
    SE X (eCall g ms dfl) (.Call (.Name x p) (e :: es) [] pos) := fun E tk => by
  subst hx
  obtain ⟨fd, ds, F1, rd, hb, _⟩ := F.ex
  exact pe_wk (pe_callSD (E := WE E) F1 hr hgl (F.gl rfl) F.kp hb rd (fun σ => passAt tk σ) (ha E tk) hdb he hpl) fun σ H Q q => rd_call (fun W => repL_toV F.sc) hg q
theorem se_call0 (F : FnG X.prog X.w X.K X.mg X.base k g pth ps dfl) (hg : ∀ xs h, xs.length ≠ ps.length → g xs h = .bad) (hr : Room k X.A) (hx : pth = (x, none)) (hgl : Gl X x)
    (hdb : (x == ("__debug__" : Str)) = false := by decide) : SE X (eCall g aN dfl) (.Call (.Name x p) [] [] pos) := fun E tk => by
  subst hx
  obtain ⟨fd, ds, F1, rd, hb, _⟩ := F.ex
  refine ⟨fun pins s σ H Q I q => ?_⟩
  have q2 := rd_call (fun W => repL_toV F.sc) hg q
  obtain ⟨W, ρ, h, rs, rh, p2⟩ := q2
  refine wpAny_Call_Name_kw (ld_glob I hgl (F.gl rfl) ?_ hdb)
  refine PySem.W.callWith_K0 I.kIn F.kp (run_fnSD (us := []) (E := WE E) F1 hr hb rd (passAt tk σ) I .nil (p2 W [] H (.refl W) .nil rh))
/-- the receiver's class has the method -/
def eMeth (fn : Nat → List LV → LH → Out LV) (mi : Nat) (mo : ME) (ms : MA) : ME := fun ρ h => bnd (mo ρ h) fun x h1 => match insOf x h1 with
  | some (c, _) => (match mtab c mi with
    | some f => bnd (ms ρ h1) fun xs h2 => fn f (x :: xs) h2
    | none => .bad)
  | none => .bad
/-- all methods stand -/
structure MtG (P : Program) (w : World) (K : PySem.W.Frag) (mg : Str → Option Value) (base : Heap) (k : Nat) (fn : Nat → List LV → LH → Out LV) : Prop where
  at_ : ∀ c m f, hereB K c = true → mtab c m = some f → (∀ xs h, fn f xs h = .bad) ∨ ∃ ps, FnG P w K mg base k (fn f) (fpath f) ps [] ∧ ∀ xs h, xs.length ≠ ps.length → fn f xs h = .bad
theorem lookup_none : ∀ {ns : List Str} {vs : List V} {m : Str}, m ∉ ns → (ns.zip vs).lookup m = none
  | [], _, _, _ => rfl
  | n :: ns, [], _, _ => rfl
  | n :: ns, v :: vs, m, h => by
    rw [List.zip_cons_cons, List.lookup_cons]
    have hne : (m == n) = false := by
      rw [beq_eq_false_iff_ne]
      intro z
      exact h (z ▸ List.mem_cons_self)
    rw [hne]
    exact lookup_none fun z => h (List.mem_cons_of_mem _ z)
theorem se_meth {fn : Nat → List LV → LH → Out LV} {mi : Nat} {mn : Str} {pl : Sem Bool} (G : MtG X.prog X.w X.K X.mg X.base k fn) (hr : Room k X.A) (hm : mn = mname mi) (ho : SE X mo o) (ha : SA X ms (e :: es))
    (hst : starEach (e :: es) X.env = (false, eval e X.env) :: starEach es X.env := by rfl) (hpl : (backTo pos (starEach es X.env)).any (·.1) = false := by rfl)
    (ht : eval (.Call (.Attribute o mn apos) (e :: es) [] pos) X.env = (do
      let ov ← eval o X.env
      standAt apos.atName
      let (f, first) ← holding [ov] (getMethod ov mn pl)
      callWith pos f first (backTo pos (starEach (e :: es) X.env)) (backToKw pos (keywordEach [] X.env))) := by rfl) :
    SE X (eMeth fn mi mo ms) (.Call (.Attribute o mn apos) (e :: es) [] pos) := fun E tk => by
  refine ⟨fun pins s σ H Q I q => ?_⟩
  obtain ⟨W, ρ, h, rs, rh, p⟩ := q
  refine methcall_of (ho E tk) I ⟨W, ρ, h, rs, rh, (PO_bnd p).imp (fun v H1 ⟨W1, x, h1, l1, r1, rh1, p1⟩ => ?_) fun _ _ _ z => z⟩ ht
  split at p1
  · rename_i c fs hi
    split at p1
    · rename_i f hf
      obtain ⟨a, dx, vs, rfl, g, hA, hl, r⟩ := insOf_at rh1 r1 hi
      obtain ⟨hM, hN⟩ := g.meth mi f hf
      rw [← hm] at hM hN
      refine ⟨a, ca X.K c, dx, _, _, rfl, hA, g.cls, hM, lookup_none hN, fun s1 I1 => ?_⟩
      refine PySem.W.callWith_K (first := [.ref a]) (h₀ := X.base) I.ok.mod.kin hM.kp (thn ((ha E tk).run pos pins s1 σ H1 (fun vs H2 => ∃ W' xs h', W1.le W' ∧ RepL X.K W' xs vs ∧ RepH X.K W' H2 h' ∧ PO X.K (fn f (x :: xs) h') W' Q (fun c d H' => E c d σ H')) I1
        ⟨W1, ρ, h1, rs.mono l1, rh1, PO_bndL p1⟩) fun us s2 ⟨vs', H2, I2, rv, W2, xs, h2, l2, r2, rh2, p2⟩ => ⟨I2.kIn, ?_⟩) hst hpl
      rcases G.at_ c mi f g.pr hf with hb | ⟨ps, F, hg⟩
      · rw [hb] at p2; exact p2.elim
      · obtain ⟨fd, ds, F1, rd, hb, _⟩ := F.ex
        have rr : RepL X.K W2 (x :: xs) (.ref a :: vs') := .cons (r1.mono l2) r2
        refine run_fnSD (us := .ref a :: us) (vs := .ref a :: vs') (E := WE E) F1 hr hb rd (passAt tk σ) I2 (.cons rfl rv) ⟨?_, W2, h2, _, ?_, rh2, p2⟩
        · show (V.ref a :: vs' ++ []).length = ps.length
          rw [List.append_nil, ← rr.length]
          exact Classical.byContradiction fun z => by rw [hg _ _ z] at p2; exact p2
        · show RepL X.K W2 (x :: xs) (V.ref a :: vs' ++ [])
          rw [List.append_nil]; exact rr
    · exact p1.elim
  · exact p1.elim
theorem se_meth0 {fn : Nat → List LV → LH → Out LV} {mi : Nat} {mn : Str} {pl : Sem Bool} (G : MtG X.prog X.w X.K X.mg X.base k fn) (hr : Room k X.A) (hm : mn = mname mi) (ho : SE X mo o)
    (ht : eval (.Call (.Attribute o mn apos) [] [] pos) X.env = (do
      let ov ← eval o X.env
      standAt apos.atName
      let (f, first) ← holding [ov] (getMethod ov mn pl)
      callWith pos f first (backTo pos (starEach [] X.env)) (backToKw pos (keywordEach [] X.env))) := by rfl) :
    SE X (eMeth fn mi mo aN) (.Call (.Attribute o mn apos) [] [] pos) := fun E tk => by
  refine ⟨fun pins s σ H Q I q => ?_⟩
  obtain ⟨W, ρ, h, rs, rh, p⟩ := q
  refine methcall_of (ho E tk) I ⟨W, ρ, h, rs, rh, (PO_bnd p).imp (fun v H1 ⟨W1, x, h1, l1, r1, rh1, p1⟩ => ?_) fun _ _ _ z => z⟩ ht
  split at p1
  · rename_i c fs hi
    split at p1
    · rename_i f hf
      obtain ⟨a, dx, vs, rfl, g, hA, hl, r⟩ := insOf_at rh1 r1 hi
      obtain ⟨hM, hN⟩ := g.meth mi f hf
      rw [← hm] at hM hN
      refine ⟨a, ca X.K c, dx, _, _, rfl, hA, g.cls, hM, lookup_none hN, fun s1 I1 => ?_⟩
      have p2 : PO X.K (fn f [x] h1) W1 Q (fun c d H' => E c d σ H') := p1
      rcases G.at_ c mi f g.pr hf with hb | ⟨ps, F, hg⟩
      · rw [hb] at p2; exact p2.elim
      · obtain ⟨fd, ds, F1, rd, hb, _⟩ := F.ex
        have rr : RepL X.K W1 [x] [.ref a] := .cons r1 .nil
        refine PySem.W.callWith_K0 (first := [.ref a]) I1.kIn hM.kp (run_fnSD (us := [.ref a]) (vs := [.ref a]) (E := WE E) F1 hr hb rd (passAt tk σ) I1 (.cons rfl .nil) ⟨?_, W1, h1, _, rr, rh1, p2⟩)
        show ([V.ref a] ++ []).length = ps.length
        exact Classical.byContradiction fun z => by rw [hg [x] _ z] at p2; exact p2
    · exact p1.elim
  · exact p1.elim

/-! ### own classes called -/
/-- the object is laid, then its __init__ (fi, one level below) -/
def mkOut (fi : List LV → LH → Out LV) (c : Nat) (xs : List LV) (h : LH) : Out LV := match fi (.ptr h.length :: xs) (h ++ [.ins c []]) with
  | .ok .non h' => .ok (.ptr h.length) h'
  | _ => .bad
structure MkG (P : Program) (w : World) (K : PySem.W.Frag) (mg : Str → Option Value) (base : Heap) (k : Nat) (fi : List LV → LH → Out LV) (c : Nat) (pi : Str × Option Str) (ps : List Str) (dfl : List LV) : Prop where
  cls : ClsG K c
  gl : mg (cname c) = some (.ref (ca K c))
  mkr : Mk K (ca K c) (He.fAd K pi)
  fn : FnG P w K mg base k fi pi ps dfl
def eMake (fi : List LV → LH → Out LV) (c : Nat) (ms : MA) (dfl : List LV) : ME := fun ρ h => bnd (ms ρ h) fun xs h1 => mkOut fi c (xs ++ dfl) h1
theorem rd_make {E : XK} {H : Hp} {Q : VK} {c : Nat} {fi : List LV → LH → Out LV} {W : Wd} {h : LH} {xs : List LV} {vs : List V} (G : ClsG X.K c) (hg : ∀ xs h, xs.length ≠ ps.length → fi xs h = .bad) (r : RepL X.K W xs vs) (rh : RepH X.K W H h) (p : PO X.K (mkOut fi c xs h) W Q E) :
    ∀ x dx, H x = none → H dx = none → dx ≠ x → spOf X.K fi ps.length (.ref x :: vs) (upd (upd H dx (.own x)) x (.ins (ca X.K c) dx [])) (fun v H2 => v = .non ∧ Q (.ref x) H2) E0 := fun x dx hx hdx ne => by
  have rh1 : RepH X.K W (upd H dx (.own x)) h := rh.grow fun a o e => by rw [upd_ne (ne_of_none e hdx)]; exact e
  have hx1 : upd H dx (.own x) x = none := by rw [upd_ne (Ne.symm ne)]; exact hx
  obtain ⟨l, rh2, e2⟩ := rh1.freshM (mo := .ins c []) (o := .ins (ca X.K c) dx []) hx1 ⟨dx, [], by rw [upd_same]; simp, Nat.zero_le _, .nil, G⟩
  have r2 : RepL X.K ⟨W.α ++ [x], W.fz, W.lk⟩ (.ptr h.length :: xs) (.ref x :: vs) := .cons (by unfold Rep; exact ⟨x, rfl, e2⟩) (r.mono l)
  have p2 := p.mono l
  unfold mkOut at p2
  refine ⟨?_, _, _, _, r2, rh2, ?_⟩
  · rw [← r2.length]
    exact Classical.byContradiction fun z => by rw [hg _ _ z] at p2; exact p2
  · split at p2
    · rename_i h' he
      rw [he]
      exact fun W' v H2 l' r' rh' => ⟨rep_non r', p2 W' _ H2 l' (by unfold Rep; exact ⟨x, rfl, l'.at_ e2⟩) rh'⟩
    · exact p2.elim
theorem se_make {c : Nat} {fi : List LV → LH → Out LV} (G : MkG X.prog X.w X.K X.mg X.base k fi c pth ps dfl) (hg : ∀ xs h, xs.length ≠ ps.length → fi xs h = .bad) (hr : Room (k + 1) X.A) (hx : x = cname c) (hgl : Gl X x) (ha : SA X ms (e :: es))
    (hdb : (x == ("__debug__" : Str)) = false := by decide) (he : starEach (e :: es) X.env = (false, eval e X.env) :: starEach es X.env := by rfl) (hpl : (backTo pos (starEach es X.env)).any (·.1) = false := by rfl) :
    SE X (eMake fi c ms dfl) (.Call (.Name x p) (e :: es) [] pos) := fun E tk => by
  subst hx
  obtain ⟨fd, ds, F1, rd, hb, _⟩ := G.fn.ex
  refine pe_wk (pe_make G.mkr F1 hr hgl G.gl hb rd passL (ha E tk) hdb he hpl) fun σ H Q ⟨W, ρ, h, rs, rh, p⟩ => ?_
  have p1 := PO_bndL p
  refine ⟨W, ρ, h, rs, rh, ?_⟩
  cases e2 : ms ρ h with
  | ok xs h2 =>
    rw [e2] at p1
    refine fun W2 vs H2 l2 r2 rh2 => ?_
    obtain ⟨W3, ys, h3, l3, r3, rh3, p3⟩ := p1 W2 vs H2 l2 r2 rh2
    exact rd_make (ps := ps) G.cls hg (r3.append (repL_toV G.fn.sc)) rh3 p3
  | exc c fs h2 => rw [e2] at p1; exact p1
  | bad => rw [e2] at p1; exact p1
theorem se_make0 {c : Nat} {fi : List LV → LH → Out LV} (G : MkG X.prog X.w X.K X.mg X.base k fi c pth ps dfl) (hg : ∀ xs h, xs.length ≠ ps.length → fi xs h = .bad) (hr : Room (k + 1) X.A) (hx : x = cname c) (hgl : Gl X x)
    (hdb : (x == ("__debug__" : Str)) = false := by decide) : SE X (eMake fi c aN dfl) (.Call (.Name x p) [] [] pos) := fun E tk => by
  subst hx
  obtain ⟨fd, ds, F1, rd, hb, _⟩ := G.fn.ex
  refine pe_wk (pe_make0 G.mkr F1 hr hgl G.gl hb rd passL hdb) fun σ H Q ⟨W, ρ, h, rs, rh, p⟩ => ?_
  have p1 : PO X.K (mkOut fi c ([] ++ dfl) h) W Q (fun c d H' => E c d σ H') := p
  exact rd_make (ps := ps) G.cls hg (RepL.nil.append (repL_toV G.fn.sc)) rh p1
/-- a class without __init__ -/
structure MkG0 (K : PySem.W.Frag) (mg : Str → Option Value) (c : Nat) : Prop where
  cls : ClsG K c
  gl : mg (cname c) = some (.ref (ca K c))
  makes : PySem.W.makesIn K (ca K c) = true
  init : PySem.W.findIn K (.ref (ca K c)) "__init__" = some (some (.builtin "object.__init__"))
  kp : PySem.W.keepIn K (.ref (ca K c)) = true
def eNew (c : Nat) : ME := fun _ h => .ok (.ptr h.length) (h ++ [.ins c []])
theorem se_new {c : Nat} (G : MkG0 X.K X.mg c) (hx : x = cname c) (hgl : Gl X x) (hdb : (x == ("__debug__" : Str)) = false := by decide) : SE X (eNew c) (.Call (.Name x p) [] [] pos) := fun E tk => by
  subst hx
  refine ⟨fun pins s σ H Q I q => ?_⟩
  obtain ⟨W, ρ, h, rs, rh, p⟩ := q
  refine wpAny_Call_Name_kw (ld_glob I hgl G.gl ?_ hdb)
  refine PySem.W.callWith_K0 I.kIn G.kp (wpAny_call ?_)
  refine make_map0 I.kIn G.makes G.init (fun self => PySem.W.Looks.of_pure (PySem.W.oi_bind self)) ?_
  have I2 := Inv.made (C := ca X.K c) I
  have e2 : ((s.heap.push PySem.W.emptyDict).push (PySem.W.instObj (ca X.K c) s.heap.objs.size)).get? (s.heap.objs.size + 1) = some (PySem.W.instObj (ca X.K c) s.heap.objs.size) := by
    have := Heap.get?_push_size (s.heap.push PySem.W.emptyDict) (o := PySem.W.instObj (ca X.K c) s.heap.objs.size) rfl
    rwa [Heap.size_push] at this
  have Y := PySem.W.makes_of (M := model X.prog X.w) I2.kIn G.makes
  have t1 : PySem.W.Looks (model X.prog X.w) ((s.heap.push PySem.W.emptyDict).push (PySem.W.instObj (ca X.K c) s.heap.objs.size)) (typeOf (.ref (s.heap.objs.size + 1))) (.ref (ca X.K c)) := (PySem.W.Looks.ld e2).andThen .now
  have t2 : PySem.W.Looks (model X.prog X.w) ((s.heap.push PySem.W.emptyDict).push (PySem.W.instObj (ca X.K c) s.heap.objs.size)) (isInstance (.ref (s.heap.objs.size + 1)) (.type "object")) true := t1.andThen Y.top
  refine codeAny_call_builtin PySem.W.oi_plain PySem.W.entry_oi (@PySem.W.check_slot (model X.prog X.w) _ _ _ "object.__init__" "object" "__init__" (.ref (s.heap.objs.size + 1)) [] [] _ PySem.W.oi_kind PySem.W.oi_split t2 (PySem.W.oi_args (.ref (s.heap.objs.size + 1))) ?_)
  rw [PySem.W.oi_run]
  have hdx : H s.heap.objs.size = none := I.hok.fresh (Nat.le_refl _)
  have ne : s.heap.objs.size ≠ s.heap.objs.size + 1 := Nat.ne_of_lt (Nat.lt_succ_self _)
  have rh1 : RepH X.K W (upd H s.heap.objs.size (.own (s.heap.objs.size + 1))) h := rh.grow fun a o e => by rw [upd_ne (ne_of_none e hdx)]; exact e
  have hx1 : upd H s.heap.objs.size (.own (s.heap.objs.size + 1)) (s.heap.objs.size + 1) = none := by rw [upd_ne (Ne.symm ne)]; exact I.hok.fresh (Nat.le_succ _)
  obtain ⟨l, rh2, e3⟩ := rh1.freshM (mo := .ins c []) (o := .ins (ca X.K c) s.heap.objs.size []) hx1 ⟨s.heap.objs.size, [], by rw [upd_same]; simp, Nat.zero_le _, .nil, G.cls⟩
  exact wpAny_pure (And.intro rfl ⟨.ref (s.heap.objs.size + 1), _, I2, rfl, p _ _ _ l (by unfold Rep; exact ⟨_, rfl, e3⟩) rh2⟩)

/-! ### freezing: a ghost step -/
def fFrz : F1 := fun x h => match x with
  | .ptr n => (match h[n]? with
    | some (.lst xs) => some (.lst xs, h.set n .dead)
    | some (.ins c fs) => some (.obj c fs, h.set n .dead)
    | _ => none)
  | _ => none
def eFrz (m : ME) : ME := eU fFrz m
theorem se_frz (hm : SE X m e) : SE X (eFrz m) e := fun E tk => pe_wk (hm E tk) fun σ H Q q => by
  obtain ⟨W, ρ, h, rs, rh, p⟩ := rd_un q
  refine ⟨W, ρ, h, rs, rh, p.imp (fun v H1 ⟨W1, h1, x, r1, rh1, p1⟩ => ?_) fun _ _ _ z => z⟩
  unfold fFrz at p1
  split at p1
  · split at p1
    · rename_i xs hn
      unfold Rep at r1
      obtain ⟨a, rfl, ha⟩ := r1
      obtain ⟨hz, vs, e1, r⟩ := rh1.at_ _ a _ ha hn (by intro z; cases z)
      obtain ⟨l, rh2⟩ := rh1.freeze ha e1
      exact p1 _ _ _ (l hz) (by unfold Rep; exact ⟨a, vs, rfl, SqL.of upd_same, r.mono (l hz)⟩) (rh2 hz)
    · rename_i c fs hn
      unfold Rep at r1
      obtain ⟨a, rfl, ha⟩ := r1
      obtain ⟨hz, dx, vs, e1, hl, r, g⟩ := rh1.at_ _ a _ ha hn (by intro z; cases z)
      obtain ⟨l, rh2⟩ := rh1.freeze ha e1
      exact p1 _ _ _ (l hz) (by unfold Rep; exact ⟨a, dx, vs, rfl, g, upd_same, hl, r.mono (l hz)⟩) (rh2 hz)
    · exact p1.elim
  · exact p1.elim

/-! ### isinstance -/
inductive IC where
  | own (d : Nat) | ty (n : String)
def kindL (x : LV) (h : LH) : Option (Nat ⊕ String) := match x with
  | .non => some (.inr "NoneType")
  | .bl _ => some (.inr "bool")
  | .int _ => some (.inr "int")
  | .str _ => some (.inr "str")
  | .tup _ => some (.inr "tuple")
  | .lst _ => some (.inr "list")
  | .obj c _ => some (.inl c)
  | .ptr n => (match h[n]? with
    | some (.lst _) => some (.inr "list")
    | some (.ins c _) => some (.inl c)
    | some (.dK _) => some (.inr "dict")
    | some (.dT _) => some (.inr "dict")
    | _ => none)
def tyB (t n : String) : Bool := decide (t = n) || (decide (t = "bool") && decide (n = "int"))
def icTys : List String := ["int", "bool", "str", "list", "tuple", "dict"]
def isOne (k : Nat ⊕ String) (d : IC) : Option Bool := match k, d with
  | .inl c, .own d => some (isub c d)
  | .inr _, .own _ => some false
  | .inr t, .ty n => if icTys.contains n = true then some (tyB t n) else none
  | .inl _, .ty _ => none
def isAny (k : Nat ⊕ String) : List IC → Option Bool
  | [] => some false
  | d :: ds => match isOne k d with
    | some true => some true
    | some false => isAny k ds
    | none => none
def fIsi (ds : List IC) : F1 := fun x h => match kindL x h with
  | some k => (match isAny k ds with
    | some b => some (.bl b, h)
    | none => none)
  | none => none
/-- a class that isinstance may name -/
structure IsG (K : PySem.W.Frag) (mg : Str → Option Value) (d : Nat) : Prop where
  lt : d < nC
  ne : isexc d = false
  here : hereB K d = true
  gl : mg (cname d) = some (.ref (ca K d))
  dt : ∀ t ∈ dataTys, PySem.W.kitOne K (.type t) (.ref (ca K d)) = some false
def icV (K : PySem.W.Frag) : IC → Value
  | .own d => .ref (ca K d)
  | .ty n => .type n
def icW (K : PySem.W.Frag) : IC → V
  | .own d => .ref (ca K d)
  | .ty n => .ty n
theorem ic_cls (d : IC) : ClsV (icW X.K d) (icV X.K d) := by cases d <;> constructor
theorem ty_all : ∀ t ∈ dataTys, ∀ n ∈ icTys, kitB t n = some (tyB t n) := by decide +kernel
theorem kind_ty {W : Wd} {H : Hp} {h : LH} {y : LV} {v : V} {kd : Nat ⊕ String} (rh : RepH X.K W H h) (r : Rep X.K W y v) (e : kindL y h = some kd) :
    ∃ t, TyX X.K H v t ∧ ((∃ c, kd = .inl c ∧ t = .ref (ca X.K c) ∧ ClsG X.K c) ∨ ∃ n, kd = .inr n ∧ t = .type n ∧ n ∈ dataTys) := by
  have insT : ∀ {a dx : Addr} {c : Nat} {fs : List (Str × V)}, H a = some (.ins (ca X.K c) dx fs) → ClsG X.K c → TyX X.K H (.ref a) (.ref (ca X.K c)) := fun e g => .base (.ins e g.cls g.cla g.clg g.clt g.mro)
  unfold kindL at e
  split at e
  · cases e; rw [rep_non r]; exact ⟨_, .base .non, .inr ⟨_, rfl, rfl, by decide⟩⟩
  · cases e; rw [rep_bl r]; exact ⟨_, .base (.bl _), .inr ⟨_, rfl, rfl, by decide⟩⟩
  · cases e; rw [rep_int r]; exact ⟨_, .base (.int _), .inr ⟨_, rfl, rfl, by decide⟩⟩
  · cases e; rw [rep_str r]; exact ⟨_, .base (.str _), .inr ⟨_, rfl, rfl, by decide⟩⟩
  · cases e
    unfold Rep at r
    obtain ⟨a, vs, rfl, q, s⟩ := r
    refine ⟨.type "tuple", ?_, .inr ⟨_, rfl, rfl, by decide⟩⟩
    exact .base (.tup (rh.sub _ _ q))
  · cases e
    unfold Rep at r
    obtain ⟨a, vs, rfl, q, s⟩ := r
    refine ⟨.type "list", ?_, .inr ⟨_, rfl, rfl, by decide⟩⟩
    rcases sqL_mono rh.sub q with (q | ⟨o, q⟩) | ⟨o, its, n, q, hc, _⟩
    · exact .base (.lst q)
    · exact .base (.frz q)
    · exact .kList q hc
  · cases e
    unfold Rep at r
    obtain ⟨a, dx, vs, rfl, g, q, hl, s⟩ := r
    exact ⟨_, insT (rh.sub _ _ q) g, .inl ⟨_, rfl, rfl, g⟩⟩
  · unfold Rep at r
    obtain ⟨a, rfl, ha⟩ := r
    split at e
    · rename_i hn
      cases e
      obtain ⟨_, vs, q, _⟩ := rh.at_ _ a _ ha hn (by intro z; cases z)
      exact ⟨_, .base (.lst q), .inr ⟨_, rfl, rfl, by decide⟩⟩
    · rename_i hn
      cases e
      obtain ⟨_, dx, vs, q, _, _, g⟩ := rh.at_ _ a _ ha hn (by intro z; cases z)
      exact ⟨_, insT q g, .inl ⟨_, rfl, rfl, g⟩⟩
    · rename_i hn
      cases e
      obtain ⟨_, vs, q, _⟩ := rh.at_ _ a _ ha hn (by intro z; cases z)
      exact ⟨_, .base (.dK q), .inr ⟨_, rfl, rfl, by decide⟩⟩
    · rename_i hn
      cases e
      obtain ⟨_, vs, q, _⟩ := rh.at_ _ a _ ha hn (by intro z; cases z)
      exact ⟨_, .base (.dT q), .inr ⟨_, rfl, rfl, by decide⟩⟩
    · cases e
theorem one_ok {kd : Nat ⊕ String} {t : Value} {d : IC} {b : Bool} (hk : (∃ c, kd = .inl c ∧ t = .ref (ca X.K c) ∧ ClsG X.K c) ∨ ∃ n, kd = .inr n ∧ t = .type n ∧ n ∈ dataTys) (hd : ∀ j, d = .own j → IsG X.K X.mg j) (e : isOne kd d = some b) : PySem.W.kitOne X.K t (icV X.K d) = some b := by
  rcases hk with ⟨c, rfl, rfl, g⟩ | ⟨n, rfl, rfl, hn⟩
  · cases d with
    | own j =>
      cases e
      obtain ⟨lt, ne, he, _, _⟩ := hd j rfl
      exact g.isi j lt ne he
    | ty n => cases e
  · cases d with
    | own j =>
      cases e
      exact (hd j rfl).dt n hn
    | ty m =>
      have e2 : (if icTys.contains m = true then some (tyB n m) else none) = some b := e
      split at e2
      · rename_i hm
        cases e2
        exact kit_ty (ty_all _ hn _ (List.contains_iff_mem.mp hm))
      · cases e2
theorem any_ok {kd : Nat ⊕ String} {t : Value} (hk : (∃ c, kd = .inl c ∧ t = .ref (ca X.K c) ∧ ClsG X.K c) ∨ ∃ n, kd = .inr n ∧ t = .type n ∧ n ∈ dataTys) : ∀ {ds : List IC} {b : Bool}, (∀ j, .own j ∈ ds → IsG X.K X.mg j) → isAny kd ds = some b →
    PySem.W.kitAny X.K t (ds.map (icV X.K)) = some b
  | [], b, _, e => by cases e; rfl
  | d :: ds, b, hd, e => by
    unfold isAny at e
    rw [List.map_cons]
    split at e
    · rename_i h1
      cases e
      exact kitAny_cons (one_ok hk (fun j q => hd j (q ▸ List.mem_cons_self)) h1) (fun z => by cases z) fun _ => rfl
    · rename_i h1
      exact kitAny_cons (one_ok hk (fun j q => hd j (q ▸ List.mem_cons_self)) h1) (fun _ => any_ok hk (fun j q => hd j (List.mem_cons_of_mem _ q)) e) fun z => by cases z
    · cases e
def eIsi (m : ME) (ds : List IC) : ME := eU (fIsi ds) m
/-- a class's name as a value -/
def IcE (X : Cx) (d : IC) (e : Expr) : Prop := PE X e (tC (icW X.K d))
theorem ic_own {d : Nat} (G : IsG X.K X.mg d) (hx : x = cname d) (hgl : Gl X x) (hdb : (x == ("__debug__" : Str)) = false := by decide) : IcE X (.own d) (.Name x p) := by
  subst hx
  exact pe_glob hgl G.gl rfl hdb
theorem se_isi {d : IC} {c : Expr} (hm : SE X m e) (hd : ∀ j, d = .own j → IsG X.K X.mg j) (hc : IcE X d c) (hgl : Gl X "isinstance") (hmg : X.mg "isinstance" = none)
    (he : starEach (e :: [c]) X.env = (false, eval e X.env) :: starEach [c] X.env := by rfl) (he2 : starEach (c :: []) X.env = (false, eval c X.env) :: starEach [] X.env := by rfl) (hpl : (backTo pos (starEach [c] X.env)).any (·.1) = false := by rfl) :
    SE X (eIsi m [d]) (.Call (.Name "isinstance" p) [e, c] [] pos) := fun E tk =>
  pe_wk (pe_callB call_isi hgl hmg (by decide +kernel) (pa_cons (hm E tk) (pa_cons hc pa_nil he2) he) (by decide) (by decide) he hpl) fun σ H Q q => by
    obtain ⟨W, ρ, h, rs, rh, p⟩ := rd_un q
    refine ⟨W, ρ, h, rs, rh, p.imp (fun v H1 ⟨W1, h1, y, r1, rh1, p1⟩ => ?_) fun _ _ _ z => z⟩
    unfold fIsi at p1
    split at p1
    · rename_i kd hk
      obtain ⟨t, ht, hkd⟩ := kind_ty rh1 r1 hk
      split at p1
      · rename_i b hb
        have hb1 : isOne kd d = some b := by
          unfold isAny at hb
          split at hb
          · rename_i z; cases hb; exact z
          · rename_i z; cases hb; exact z
          · cases hb
        exact ⟨v, icW X.K d, t, icV X.K d, b, rfl, ic_cls d, ht, one_ok hkd hd hb1, p1 W1 _ H1 (.refl W1) (rep_bl' b) rh1⟩
      · exact p1.elim
    · exact p1.elim
end
end DD
end
section
set_option Elab.async false
set_option linter.all false
set_option maxRecDepth 100000
set_option maxHeartbeats 2000000
/-! D5: statements, loops. -/
namespace DD
open PySem PySem.Spec PyProof.Rows L2

section
variable {K : PySem.W.Frag} {W W' : Wd} {H : Hp} {h : LH} {ρ : Rho} {σ : L2.St} {E : WX} {D : Ends}
def sbn {A : Type} (o : Out A) (ρ : Rho) (k : A → LH → SO) : SO := match o with
  | .ok a h => k a h
  | .exc c fs h => .exc c fs ρ h
  | .bad => .bad
@[simp] theorem sbn_ok {A : Type} (a : A) (h : LH) (ρ : Rho) (k : A → LH → SO) : sbn (.ok a h) ρ k = k a h := rfl
@[simp] theorem sbn_exc {A : Type} (c : Nat) (fs : List LV) (h : LH) (ρ : Rho) (k : A → LH → SO) : sbn (.exc c fs h) ρ k = .exc c fs ρ h := rfl
@[simp] theorem sbn_bad {A : Type} (ρ : Rho) (k : A → LH → SO) : sbn .bad ρ k = .bad := rfl
theorem SPo_sbn {o : Out LV} {k : LV → LH → SO} (rs : RepS K W ρ σ) (p : SPo K (sbn o ρ k) W D E) :
    PO K o W (fun v H => ∃ W' x h', W.le W' ∧ Rep K W' x v ∧ RepH K W' H h' ∧ RepS K W' ρ σ ∧ SPo K (k x h') W' D E) (fun c d H => E c d σ H) := by
  cases o with
  | ok x h => exact fun W' v H l r rh => ⟨W', x, h, l, r, rh, rs.mono l, p.mono l⟩
  | exc c fs h => exact fun W' cls d H l rx rh => p W' cls d σ H l rx (rs.mono l) rh
  | bad => exact p
theorem SPo_sbnL {o : Out (List LV)} {k : List LV → LH → SO} (rs : RepS K W ρ σ) (p : SPo K (sbn o ρ k) W D E) :
    POL K o W (fun v H => ∃ W' x h', W.le W' ∧ RepL K W' x v ∧ RepH K W' H h' ∧ RepS K W' ρ σ ∧ SPo K (k x h') W' D E) (fun c d H => E c d σ H) := by
  cases o with
  | ok x h => exact fun W' v H l r rh => ⟨W', x, h, l, r, rh, rs.mono l, p.mono l⟩
  | exc c fs h => exact fun W' cls d H l rx rh => p W' cls d σ H l rx (rs.mono l) rh
  | bad => exact p
theorem SPo_nx (rs : RepS K W ρ σ) (rh : RepH K W H h) (p : SPo K (.nx ρ h) W D E) : D.nx σ H := p W σ H (.refl W) rs rh
theorem SPo.imp {o : SO} {D' : Ends} {E' : WX} (p : SPo K o W D E) (h1 : ∀ σ H, D.nx σ H → D'.nx σ H) (h2 : ∀ v H, D.rt v H → D'.rt v H) (h3 : ∀ σ H, D.bk σ H → D'.bk σ H) (h4 : ∀ σ H, D.ct σ H → D'.ct σ H)
    (h5 : ∀ c d σ H, E c d σ H → E' c d σ H) : SPo K o W D' E' := by
  cases o with
  | nx ρ h => exact fun W2 v H a b c => h1 _ _ (p W2 v H a b c)
  | bk ρ h => exact fun W2 v H a b c => h3 _ _ (p W2 v H a b c)
  | ct ρ h => exact fun W2 v H a b c => h4 _ _ (p W2 v H a b c)
  | rt x h => exact fun W2 v H a b c => h2 _ _ (p W2 v H a b c)
  | exc c fs ρ h => exact fun W2 cls d σ H a b c e => h5 _ _ _ _ (p W2 cls d σ H a b c e)
  | bad => exact p
end

/-! ### blocks -/
def sNop : MS := fun ρ h => .nx ρ h
def sSeq (a b : MS) : MS := fun ρ h => match a ρ h with
  | .nx ρ' h' => b ρ' h'
  | o => o
section
variable {X : Cx} {st : Stmt} {sts : List Stmt} {a b : MS} {e : Expr} {m mv mo : ME} {pos pos' : Pos}
theorem ss_nil : SSs X sNop [] := fun E tk po => pss_wk pss_nil fun D σ H ⟨W, ρ, h, rs, rh, p⟩ => SPo_nx rs rh p
theorem rd_seq {K : PySem.W.Frag} {E : WX} {D : Ends} {σ : L2.St} {H : Hp} (q : tSS K (sSeq a b) E D σ H) : tSS K a E { D with nx := tSS K b E D } σ H := by
  obtain ⟨W, ρ, h, rs, rh, p⟩ := q
  refine ⟨W, ρ, h, rs, rh, ?_⟩
  unfold sSeq at p
  cases e : a ρ h with
  | nx ρ' h' => rw [e] at p; exact fun W' σ' H' l rs' rh' => ⟨W', ρ', h', rs', rh', p.mono l⟩
  | rt x h' => rw [e] at p; exact p
  | bk x h' => rw [e] at p; exact p
  | ct x h' => rw [e] at p; exact p
  | exc c fs ρ' h' => rw [e] at p; exact p
  | bad => rw [e] at p; exact p
theorem ss_cons (ha : SS X a st) (hb : SSs X b sts) : SSs X (sSeq a b) (st :: sts) := fun E tk po => pss_wk (pss_cons (ha E tk po) (hb E tk po)) fun D σ H q => rd_seq q
theorem ss_one (ha : SS X a st) : SSs X a [st] := fun E tk po => pss_one (ha E tk po)
def sPass : MS := fun ρ h => .nx ρ h
def sBrk : MS := fun ρ h => .bk ρ h
def sCnt : MS := fun ρ h => .ct ρ h
theorem s_pass : SS X sPass (.Pass pos) := fun E tk po => ps_wk ps_pass fun D σ H ⟨W, ρ, h, rs, rh, p⟩ => SPo_nx rs rh p
theorem s_brk : SS X sBrk (.Break pos) := fun E tk po => ps_wk ps_break fun D σ H ⟨W, ρ, h, rs, rh, p⟩ => p W σ H (.refl W) rs rh
theorem s_cnt : SS X sCnt (.Continue pos) := fun E tk po => ps_wk ps_continue fun D σ H ⟨W, ρ, h, rs, rh, p⟩ => p W σ H (.refl W) rs rh
def sExpr (m : ME) : MS := fun ρ h => sbn (m ρ h) ρ fun _ h => .nx ρ h
def sRet (m : ME) : MS := fun ρ h => sbn (m ρ h) ρ fun x h => .rt x h
def sRetN : MS := fun _ h => .rt .non h
def sSet (i : Nat) (m : ME) : MS := fun ρ h => sbn (m ρ h) ρ fun x h => .nx (ρ.set i (some x)) h
theorem s_expr (hm : SE X m e) (hs : swapsWith e none pos.line X.env = pure false := by rfl) : SS X (sExpr m) (.Expr e pos) := fun E tk po => ps_wk (ps_expr (hm E tk) hs) fun D σ H ⟨W, ρ, h, rs, rh, p⟩ =>
  ⟨W, ρ, h, rs, rh, (SPo_sbn rs p).imp (fun v H1 ⟨W1, x, h1, l, r, rh1, rs1, p1⟩ => SPo_nx rs1 rh1 p1) fun _ _ _ z => z⟩
theorem s_ret (hm : SE X m e) : SS X (sRet m) (.Return (some e) pos) := fun E tk po => ps_wk (ps_ret (hm E tk)) fun D σ H ⟨W, ρ, h, rs, rh, p⟩ =>
  ⟨W, ρ, h, rs, rh, (SPo_sbn rs p).imp (fun v H1 ⟨W1, x, h1, l, r, rh1, rs1, p1⟩ => p1 W1 v H1 (.refl W1) r rh1) fun _ _ _ z => z⟩
theorem s_retN : SS X sRetN (.Return none pos) := fun E tk po => ps_wk ps_retN fun D σ H ⟨W, ρ, h, rs, rh, p⟩ => p W _ H (.refl W) rep_non' rh
theorem s_set {i : Nat} {x : Str} (hN : X.N.Nodup) (hi : X.N[i]? = some x) (hx : Loc X.env.scope x) (hm : SE X m e) (hs : swapsWith e (some (.Name x pos')) pos.line X.env = pure false := by rfl)
    (hf : X.fn x = true ∨ X.env.scope.names.lookup x = some .local := by first | exact .inl rfl | exact .inr rfl | assumption) : SS X (sSet i m) (.Assign [.Name x pos'] e pos) := fun E tk po =>
  ps_wk (ps_set hN hi hx (hm E tk) hs hf) fun D σ H ⟨W, ρ, h, rs, rh, p⟩ =>
    ⟨W, ρ, h, rs, rh, (SPo_sbn rs p).imp (fun v H1 ⟨W1, x, h1, l, r, rh1, rs1, p1⟩ => p1 W1 _ H1 (.refl W1) (rs1.set r) rh1) fun _ _ _ z => z⟩

/-! ### o.f = e, o.f op= e -/
def sFld (mo : ME) (f : Nat) (mv : ME) : MS := fun ρ h => sbn (mv ρ h) ρ fun y h1 => sbn (mo ρ h1) ρ fun x h2 => match putFld x f y h2 with
  | some h3 => .nx ρ h3
  | none => .bad
def sameC (x : LV) (h h' : LH) : Bool := match insOf x h, insOf x h' with
  | some (c, _), some (d, _) => decide (c = d)
  | _, _ => false
def sFldAug (mo : ME) (f : Nat) (g : F2) (mv : ME) : MS := fun ρ h => sbn (mo ρ h) ρ fun x h1 => sbn (lft (fFld f x h1)) ρ fun u h2 => sbn (mv ρ h2) ρ fun y h3 => sbn (lft (g u y h3)) ρ fun z h4 => if sameC x h1 h4 = true then (match putFld x f z h4 with
  | some h5 => .nx ρ h5
  | none => .bad) else .bad
theorem putFld_ok {K : PySem.W.Frag} {W : Wd} {H : Hp} {h h' : LH} {x y : LV} {f : Nat} {v u : V} (rh : RepH K W H h) (rx : Rep K W x v) (ry : Rep K W y u) (e : putFld x f y h = some h') :
    ∃ a C dx fs, (∃ c gs, C = ca K c ∧ insOf x h = some (c, gs)) ∧ v = .ref a ∧ H a = some (.ins C dx fs) ∧ Cls K C ∧ NoAttr K C (fname f) ∧ fs.length < 1000 ∧ RepH K W (upd H a (.ins C dx (putF (fname f) u fs))) h' := by
  unfold putFld at e
  split at e
  · rename_i n
    split at e
    · rename_i c fs hn
      split at e
      · rename_i fs' hf
        cases e
        unfold Rep at rx
        obtain ⟨a, rfl, ha⟩ := rx
        obtain ⟨hz, dx, vs, e1, hl, r, g⟩ := rh.at_ _ a _ ha hn (by intro z; cases z)
        have hl2 : fs.length ≤ (flds c).length := by simpa [names] using hl
        obtain ⟨vs', e2, r2, hm, hl3⟩ := putF_zip g.nd hl2 r ry hf
        refine ⟨a, ca K c, dx, _, ⟨c, fs, rfl, by simp only [insOf, hn]⟩, rfl, e1, g.cls, g.noat _ hm, ?_, rh.write ha hn (by intro z; cases z) ?_⟩
        · have := g.few
          rw [List.length_zip]
          omega
        · refine ⟨dx, vs', ?_, ?_, r2, g⟩
          · rw [upd_same]
            show some (HO.ins (ca K c) dx (putF (fname f) u ((names c).zip vs))) = _
            unfold names
            rw [e2]
          · show fs'.length ≤ ((flds c).map fname).length
            simpa using hl3
      · cases e
    · cases e
  · cases e
theorem s_fld {f : Nat} {o : Expr} {fs : Str} (ho : SE X mo o) (hv : SE X mv e) (hf : fs = fname f) (hs : swapsWith e (some (.Attribute o fs pos')) pos.line X.env = pure false := by rfl) : SS X (sFld mo f mv) (.Assign [.Attribute o fs pos'] e pos) := fun E tk po => by
  subst hf
  refine ps_wk (ps_fld (ho E tk) (hv E tk) hs) fun D σ H ⟨W, ρ, h, rs, rh, p⟩ => ?_
  refine ⟨W, ρ, h, rs, rh, (SPo_sbn rs p).imp (fun u H1 ⟨W1, y, h1, l1, r1, rh1, rs1, p1⟩ => ?_) fun _ _ _ z => z⟩
  refine ⟨W1, ρ, h1, rs1, rh1, (SPo_sbn rs1 p1).imp (fun v H2 ⟨W2, x, h2, l2, r2, rh2, rs2, p2⟩ => ?_) fun _ _ _ z => z⟩
  split at p2
  · rename_i h3 e3
    obtain ⟨a, C, dx, fs, _, rfl, e1, c1, n1, hl, rh3⟩ := putFld_ok rh2 r2 (r1.mono l2) e3
    exact ⟨a, C, dx, fs, rfl, e1, c1, n1, hl, SPo_nx rs2 rh3 p2⟩
  · exact p2.elim
theorem s_fldaug {f : Nat} {o : Expr} {fs : Str} {g : F2} {op : Operator} {tpos : Pos} (ho : SE X mo o) (hv : SE X mv e) (hf : fs = fname f) (hop : OpR X (inplaceOp op) (rO X.K g)) : SS X (sFldAug mo f g mv) (.AugAssign (.Attribute o fs tpos) op e pos) := fun E tk po => by
  subst hf
  refine ps_wk (ps_fldaug (rd := rO X.K g) (ho E tk) (hv E tk) (fun pins s σ H x y u v Q I rx ry q => hop pins s σ H x y u v Q I rx ry q)) fun D σ H ⟨W, ρ, h, rs, rh, p⟩ => ?_
  refine ⟨W, ρ, h, rs, rh, (SPo_sbn rs p).imp (fun v H1 ⟨W1, x, h1, l1, r1, rh1, rs1, p1⟩ => ?_) fun _ _ _ z => z⟩
  unfold fFld at p1
  split at p1
  · rename_i c fs hi
    split at p1
    · rename_i y hy
      obtain ⟨a, dx, vs, rfl, gc, ha, hl, r⟩ := insOf_at rh1 r1 hi
      obtain ⟨u, e1, r2⟩ := lookF_zip gc.nd r hy
      refine ⟨a, ca X.K c, dx, _, u, rfl, ha, gc.cls, gc.noat _ (List.mem_map_of_mem (lookF_mem hy)), e1, ?_⟩
      rw [lft_some, sbn_ok] at p1
      refine ⟨W1, ρ, h1, rs1, rh1, (SPo_sbn rs1 p1).imp (fun w H2 ⟨W2, ly, h2, l2, r3, rh2, rs2, p2⟩ => ?_) fun _ _ _ z => z⟩
      refine ⟨W2, h2, y, ly, r2.mono l2, r3, rh2, ?_⟩
      cases e3 : g y ly h2 with
      | none => rw [e3] at p2; exact p2.elim
      | some z =>
        rw [e3] at p2
        refine fun W3 vz H3 l3 rz rh3 => ?_
        have p3 : SPo X.K (if sameC x h1 z.2 = true then (match putFld x f z.1 z.2 with | some h5 => SO.nx ρ h5 | none => .bad) else .bad) W3 D E := p2.mono l3
        split at p3
        · rename_i hsc
          split at p3
          · rename_i h5 e5
            obtain ⟨a', C, dx', fs', ⟨c', gs, hC, hI⟩, ea, e6, c1, n1, hl', rh5⟩ := putFld_ok rh3 (r1.mono (l2.trans l3)) rz e5
            cases ea
            unfold sameC at hsc
            rw [hi, hI] at hsc
            have ec : c = c' := of_decide_eq_true hsc
            subst ec hC
            exact ⟨dx', fs', e6, hl', SPo_nx (rs2.mono l3) rh5 p3⟩
          · exact p3.elim
        · exact p3.elim
    · exact p1.elim
  · exact p1.elim

/-! ### o[i] = e, several targets, op= -/
def fSetIx (o i v : LV) (h : LH) : Option LH := match o, i with
  | .ptr n, .int k => (match h[n]? with
    | some (.lst xs) => (match ixN xs.length k with
      | some j => some (h.set n (.lst (xs.set j v)))
      | none => none)
    | _ => none)
  | _, _ => none
def sSetIx (mo mi mv : ME) : MS := fun ρ h => sbn (mv ρ h) ρ fun y h1 => sbn (mo ρ h1) ρ fun x h2 => sbn (mi ρ h2) ρ fun i h3 => match fSetIx x i y h3 with
  | some h4 => .nx ρ h4
  | none => .bad
theorem s_setix {o i : Expr} {mi : ME} {tpos : Pos} (ho : SE X mo o) (hi : SE X mi i) (hv : SE X mv e)
    (ha : ∀ v, assign (.Subscript o i tpos) X.env v = (do
      let ov ← holding [v] (eval o X.env)
      let iv ← holding [v, ov] (eval i X.env)
      standAt tpos
      holding [v, ov, iv] (setItem ov iv v)
      release [v, ov, iv] []) := by intro _; rfl)
    (hs : swapsWithSole [.Subscript o i tpos] e pos.line X.env = pure false := by rfl) (hw : swappedStores [.Subscript o i tpos] e X.env = pure none := by rfl) (h1 : (assignEach [.Subscript o i tpos] X.env).map (·.2) = [assign (.Subscript o i tpos) X.env] := by rfl) :
    SS X (sSetIx mo mi mv) (.Assign [.Subscript o i tpos] e pos) := fun E tk po =>
  ps_wk (ps_asg (hv E tk) (pg_sub (ho E tk) (hi E tk) set_list ha) hs hw h1) fun D σ H ⟨W, ρ, h, rs, rh, p⟩ => by
    refine ⟨W, ρ, h, rs, rh, (SPo_sbn rs p).imp (fun u H1 ⟨W1, y, h1, l1, r1, rh1, rs1, p1⟩ => ?_) fun _ _ _ z => z⟩
    refine ⟨W1, ρ, h1, rs1, rh1, (SPo_sbn rs1 p1).imp (fun v H2 ⟨W2, x, h2, l2, r2, rh2, rs2, p2⟩ => ?_) fun _ _ _ z => z⟩
    refine ⟨W2, ρ, h2, rs2, rh2, (SPo_sbn rs2 p2).imp (fun w H3 ⟨W3, k, h3, l3, r3, rh3, rs3, p3⟩ => ?_) fun _ _ _ z => z⟩
    split at p3
    · rename_i h4 e4
      unfold fSetIx at e4
      split at e4
      · split at e4
        · rename_i xs hn
          split at e4
          · rename_i j hj
            cases e4
            obtain ⟨a, vs, rfl, ha', eH, rl⟩ := rh3.lst (r2.mono l3) hn
            refine ⟨a, vs, _, j, rfl, rep_int r3, eH, by rw [← rl.length]; exact hj, SPo_nx rs3 (rh3.write (mo' := .lst (xs.set j y)) ha' hn (by intro z; cases z) ⟨_, upd_same, rl.set (r1.mono (l2.trans l3)) j⟩) p3⟩
          · cases e4
        · cases e4
      · cases e4
    · exact p3.elim
/-- targets: how they store a value -/
abbrev TgF := LV → Rho → Option Rho
def SG (X : Cx) (g : TgF) (tg : Expr) : Prop := PG X tg (fun v σ H Q => ∃ W ρ h x, RepS X.K W ρ σ ∧ RepH X.K W H h ∧ Rep X.K W x v ∧ ∃ ρ', g x ρ = some ρ' ∧ ∀ σ', RepS X.K W ρ' σ' → Q σ' H)
def tgN (i : Nat) : TgF := fun x ρ => some (ρ.set i (some x))
def setAll : List Nat → List LV → Rho → Option Rho
  | [], [], ρ => some ρ
  | i :: is, x :: xs, ρ => setAll is xs (ρ.set i (some x))
  | _, _, _ => none
theorem setAll_len : ∀ {is : List Nat} {xs : List LV} {ρ ρ' : Rho}, setAll is xs ρ = some ρ' → xs.length = is.length
  | [], [], _, _, _ => rfl
  | _ :: _, _ :: _, _, _, e => by
    unfold setAll at e
    simp [setAll_len e]
  | [], _ :: _, _, _, e => by cases e
  | _ :: _, [], _, _, e => by cases e
def tgT (is : List Nat) : TgF := fun x ρ => match x with
  | .tup xs => setAll is xs ρ
  | _ => none
theorem pg_wk {tg : Expr} {t t' : TG} (h : PG X tg t) (w : ∀ v σ H Q, t' v σ H Q → t v σ H Q) : PG X tg t' := ⟨fun pins s σ H v u Q I r q => h.run pins s σ H v u Q I r (w _ _ _ _ q)⟩
theorem sg_name {i : Nat} {x : Str} (hN : X.N.Nodup) (hi : X.N[i]? = some x) (hx : Loc X.env.scope x) (hf : X.fn x = true ∨ X.env.scope.names.lookup x = some .local := by first | exact .inl rfl | exact .inr rfl | assumption) : SG X (tgN i) (.Name x pos) :=
  pg_wk (pg_name hN hi hx hf) fun v σ H Q ⟨W, ρ, h, x, rs, rh, r, ρ', e, q⟩ => by
    cases e
    exact q _ (rs.set r)
/-- several names -/
def SGs (X : Cx) (is : List Nat) (tgs : List Expr) : Prop := PGs X tgs (fun vs σ H Q => ∃ W ρ h xs, RepS X.K W ρ σ ∧ RepH X.K W H h ∧ RepL X.K W xs vs ∧ ∃ ρ', setAll is xs ρ = some ρ' ∧ ∀ σ', RepS X.K W ρ' σ' → Q σ' H)
theorem pgs_wk {tg : List Expr} {t t' : TGs} (h : PGs X tg t) (w : ∀ v σ H Q, t' v σ H Q → t v σ H Q) : PGs X tg t' := ⟨fun pins s σ H v u Q I r q => h.run pins s σ H v u Q I r (w _ _ _ _ q)⟩
theorem sgs_nil : SGs X [] [] := pgs_wk pgs_nil fun vs σ H Q ⟨W, ρ, h, xs, rs, rh, r, ρ', e, q⟩ => by
  cases xs with
  | nil =>
    unfold RepL at r
    cases e
    exact ⟨r, q _ rs⟩
  | cons x xs => cases e
theorem sgs_cons {i : Nat} {is : List Nat} {x : Str} {tgs : List Expr} (hN : X.N.Nodup) (hi : X.N[i]? = some x) (hx : Loc X.env.scope x) (hr : SGs X is tgs) (hf : X.fn x = true ∨ X.env.scope.names.lookup x = some .local := by first | exact .inl rfl | exact .inr rfl | assumption)
    (hs : (assignEach (.Name x pos :: tgs) X.env).map (·.2) = assign (.Name x pos) X.env :: (assignEach tgs X.env).map (·.2) := by rfl) : SGs X (i :: is) (.Name x pos :: tgs) :=
  pgs_wk (pgs_cons (pg_name hN hi hx hf) hr hs) fun vs σ H Q ⟨W, ρ, h, xs, rs, rh, r, ρ', e, q⟩ => by
    cases xs with
    | nil => cases e
    | cons y ys =>
      unfold RepL at r
      obtain ⟨v, us, rfl, r1, r2⟩ := r
      exact ⟨v, us, rfl, W, _, h, ys, rs.set r1, rh, r2, ρ', e, q⟩
theorem sg_tup {is : List Nat} {tgs : List Expr} {kk n : Nat} (hc : X.calm = true) (hg : SGs X is tgs) (hl : is.length = n) (hn : (assignEach tgs X.env).length = n := by rfl) (hst : (assignEach tgs X.env).findIdx? (·.1) = none := by rfl) : SG X (tgT is) (.Tuple tgs kk pos) :=
  pg_wk (pg_tup hc hg hn hst) fun v σ H Q ⟨W, ρ, h, x, rs, rh, r, ρ', e, q⟩ => by
    unfold tgT at e
    split at e
    · rename_i xs
      unfold Rep at r
      obtain ⟨a, vs, rfl, q1, r1⟩ := r
      refine ⟨a, vs, rfl, SqT.of (rh.sub _ _ q1), ?_, W, ρ, h, xs, rs, rh, r1, ρ', e, q⟩
      rw [← r1.length, ← hl]
      exact setAll_len e
    · cases e
def sAsg (g : TgF) (m : ME) : MS := fun ρ h => sbn (m ρ h) ρ fun x h1 => match g x ρ with
  | some ρ' => .nx ρ' h1
  | none => .bad
theorem s_asg {g : TgF} {tg : Expr} (hg : SG X g tg) (hm : SE X m e) (hs : swapsWithSole [tg] e pos.line X.env = pure false := by rfl) (hw : swappedStores [tg] e X.env = pure none := by rfl)
    (h1 : (assignEach [tg] X.env).map (·.2) = [assign tg X.env] := by rfl) : SS X (sAsg g m) (.Assign [tg] e pos) := fun E tk po =>
  ps_wk (ps_asg (hm E tk) hg hs hw h1) fun D σ H ⟨W, ρ, h, rs, rh, p⟩ => by
    refine ⟨W, ρ, h, rs, rh, (SPo_sbn rs p).imp (fun v H1 ⟨W1, x, h1, l1, r1, rh1, rs1, p1⟩ => ?_) fun _ _ _ z => z⟩
    split at p1
    · rename_i ρ' e'
      exact ⟨W1, ρ, h1, x, rs1, rh1, r1, ρ', e', fun σ' rs' => SPo_nx rs' rh1 p1⟩
    · exact p1.elim
/-- a, b = e1, e2: two local names -/
def sPar (i j : Nat) (ms : MA) : MS := fun ρ h => sbn (ms ρ h) ρ fun xs h1 => match xs with
  | [x, y] => .nx ((ρ.set i (some x)).set j (some y)) h1
  | _ => .bad
theorem s_par {i j : Nat} {x y : Str} {a b : Expr} {ms : MA} {px py pt : Pos} {kt k2 pt2} (hc : X.calm = true) (hN : X.N.Nodup) (hi : X.N[i]? = some x) (hj : X.N[j]? = some y) (hij : i ≠ j)
    (hx : X.env.scope.names.lookup x = some .local) (hy : X.env.scope.names.lookup y = some .local) (ha : SA X ms [a, b])
    (hw : swappedStores [.Tuple [.Name x px, .Name y py] kt pt] (.Tuple [a, b] k2 pt2) X.env = pure (some [x, y]))
    (hs : swapsWithSole [.Tuple [.Name x px, .Name y py] kt pt] (.Tuple [a, b] k2 pt2) pos.line X.env = pure false := by rfl) :
    SS X (sPar i j ms) (.Assign [.Tuple [.Name x px, .Name y py] kt pt] (.Tuple [a, b] k2 pt2) pos) := fun E tk po =>
  ps_wk (ps_par hc hN hi hj hij hx hy (ha E tk) hw hs) fun D σ H ⟨W, ρ, h, rs, rh, p⟩ => by
    refine ⟨W, ρ, h, rs, rh, ?_⟩
    have p1 := SPo_sbnL rs p
    cases e2 : ms ρ h with
    | ok xs h2 =>
      rw [e2] at p1
      refine fun W2 vs H2 l2 r2 rh2 => ?_
      obtain ⟨W3, ys, h3, l3, r3, rh3, rs3, p3⟩ := p1 W2 vs H2 l2 r2 rh2
      split at p3
      · unfold RepL at r3
        obtain ⟨v, us, rfl, q1, q2⟩ := r3
        unfold RepL at q2
        obtain ⟨w, us, rfl, q3, q4⟩ := q2
        unfold RepL at q4
        subst q4
        exact ⟨v, w, rfl, SPo_nx ((rs3.set q1).set q3) rh3 p3⟩
      · exact p3.elim
    | exc c fs h2 => rw [e2] at p1; exact p1
    | bad => rw [e2] at p1; exact p1
/-- name op= e -/
def sAug (i : Nat) (g : F2) (m : ME) : MS := fun ρ h => match ρ[i]? with
  | some (some x) => sbn (m ρ h) ρ fun y h1 => sbn (lft (g x y h1)) ρ fun z h2 => .nx (ρ.set i (some z)) h2
  | _ => .bad
theorem s_aug {i : Nat} {x : Str} {g : F2} {op : Operator} (hN : X.N.Nodup) (hi : X.N[i]? = some x) (hx : Loc X.env.scope x) (hm : SE X m e) (ho : OpR X (inplaceOp op) (rO X.K g))
    (hf : X.fn x = true ∨ X.env.scope.names.lookup x = some .local := by first | exact .inl rfl | exact .inr rfl | assumption) : SS X (sAug i g m) (.AugAssign (.Name x pos') op e pos) := fun E tk po =>
  ps_wk (ps_aug (ti := rO X.K g) hN hi hx (hm E tk) ho hf) fun D σ H ⟨W, ρ, h, rs, rh, p⟩ => by
    unfold sAug at p
    split at p
    · rename_i y hy
      obtain ⟨v, e1, r⟩ := rs.2 i y hy
      refine ⟨v, e1, W, ρ, h, rs, rh, (SPo_sbn rs p).imp (fun w H1 ⟨W1, z, h1, l1, r1, rh1, rs1, p1⟩ => ?_) fun _ _ _ z => z⟩
      refine ⟨W1, h1, y, z, r.mono l1, r1, rh1, ?_⟩
      cases e3 : g y z h1 with
      | none => rw [e3] at p1; exact p1.elim
      | some q =>
        rw [e3] at p1
        exact fun W2 u H2 l2 ru rh2 => SPo_nx ((rs1.mono l2).set ru) rh2 (p1.mono l2)
    · exact p.elim
def fIAdd : F2 := fun x y h => match x, y with
  | .int i, .int j => some (.int (i + j), h)
  | .str s, .str t => if s.length + t.length ≤ sizeLine then some (.str (s ++ t), h) else none
  | _, _ => none
theorem oi_add : OpR X (inplaceOp .Add) (rO X.K fIAdd) := by
  intro pins s σ H x y v u Q I rx ry ⟨W, h, a, b, ra, rb, rh, p⟩
  unfold fIAdd at p
  split at p
  · obtain rfl := rep_int ra
    obtain rfl := rep_int rb
    exact iop_add pins s σ H _ _ v u Q I rx ry ⟨_, _, rfl, rfl, p W _ H (.refl W) (rep_int' _) rh⟩
  · split at p
    · rename_i hz
      obtain rfl := rep_str ra
      obtain rfl := rep_str rb
      exact iop_add_str pins s σ H _ _ v u Q I rx ry ⟨_, _, rfl, rfl, hz, p W _ H (.refl W) (rep_str' _) rh⟩
    · exact p.elim
  · exact p.elim
theorem oi_sub : OpR X (inplaceOp .Sub) (rO X.K fSub) := opr_int0 iop_sub fun x y h z e => by
  unfold fSub at e; split at e <;> cases e; exact ⟨_, _, rfl, rfl, rfl⟩
def fIMul : F2 := fun x y h => match x, y with
  | .int i, .int j => if (-(2 ^ 64) < i ∧ i < 2 ^ 64) ∨ (-(2 ^ 64) < j ∧ j < 2 ^ 64) then some (.int (i * j), h) else none
  | _, _ => none
theorem oi_mul : OpR X (inplaceOp .Mult) (rO X.K fIMul) := opr_int iop_mul fun x y h z e => by
  unfold fIMul at e
  split at e
  · split at e
    · rename_i hd
      cases e
      exact ⟨_, _, rfl, rfl, hd, rfl⟩
    · cases e
  · cases e

/-! ### if -/
def onBS (o : Out LV) (ρ : Rho) (k : Bool → LH → SO) : SO := sbn o ρ fun x h => match x with
  | .bl b => k b h
  | _ => .bad
@[simp] theorem onBS_ok (b : Bool) (h : LH) (ρ : Rho) (k : Bool → LH → SO) : onBS (.ok (.bl b) h) ρ k = k b h := rfl
@[simp] theorem onBS_exc (c : Nat) (fs : List LV) (h : LH) (ρ : Rho) (k : Bool → LH → SO) : onBS (.exc c fs h) ρ k = .exc c fs ρ h := rfl
@[simp] theorem onBS_bad (ρ : Rho) (k : Bool → LH → SO) : onBS .bad ρ k = .bad := rfl
def sIf (t : ME) (a b : MS) : MS := fun ρ h => onBS (t ρ h) ρ fun c h1 => if c = true then a ρ h1 else b ρ h1
theorem SPo_onBS {K : PySem.W.Frag} {W : Wd} {ρ : Rho} {σ : L2.St} {D : Ends} {E : WX} {o : Out LV} {k : Bool → LH → SO} (rs : RepS K W ρ σ) (p : SPo K (onBS o ρ k) W D E) :
    PO K o W (fun v H => ∃ c, v = .bl c ∧ ∃ W' h', W.le W' ∧ RepH K W' H h' ∧ RepS K W' ρ σ ∧ SPo K (k c h') W' D E) (fun c d H => E c d σ H) := by
  refine (SPo_sbn rs p).imp (fun v H ⟨W', x, h', l, r, rh, rs', q⟩ => ?_) fun _ _ _ z => z
  cases x with
  | bl c => exact ⟨c, rep_bl r, W', h', l, rh, rs', q⟩
  | _ => exact q.elim
theorem s_if {c : Expr} {t : ME} {sa sb' : List Stmt} (ht : SB X t c) (ha : SSs X a sa) (hb : SSs X b sb') : SS X (sIf t a b) (.If c sa sb' pos) := fun E tk po =>
  ps_wk (ps_if (ht E tk) (ha E tk po) (hb E tk po)) fun D σ H ⟨W, ρ, h, rs, rh, p⟩ => by
    refine ⟨W, ρ, h, rs, rh, (SPo_onBS rs p).imp (fun v H1 ⟨c, e, W1, h1, l1, rh1, rs1, p1⟩ => ⟨c, e, ?_⟩) fun _ _ _ z => z⟩
    cases c with
    | true => exact ⟨W1, ρ, h1, rs1, rh1, p1⟩
    | false => exact ⟨W1, ρ, h1, rs1, rh1, p1⟩
end
end DD
end
section
set_option Elab.async false
set_option linter.all false
set_option maxRecDepth 100000
set_option maxHeartbeats 2000000
/-! D6: what is walked, for, while, comprehensions. -/
namespace DD
open PySem PySem.Spec PyProof.Rows L2

/-! ### what is walked -/
/-- n things; the thing at i as the heap stands; whether the walk may end -/
structure IterV where
  n : Nat
  at_ : Nat → LH → Option LV
  fin : LH → Bool
structure ItOk (K : PySem.W.Frag) (J : It) (W : Wd) (x : IterV) : Prop where
  go : ∀ (i : Nat) W1 H h y, W.le W1 → RepH K W1 H h → i < x.n → x.at_ i h = some y → J.go i H
  stop : ∀ W1 H h, W.le W1 → RepH K W1 H h → x.fin h = true → J.stop x.n H
  yld : ∀ (i : Nat) W1 H h v H' y, W.le W1 → RepH K W1 H h → x.at_ i h = some y → J.yld i H v H' → ∃ W2, W1.le W2 ∧ Rep K W2 y v ∧ RepH K W2 H' h
def ItP (K : PySem.W.Frag) (o : Out IterV) (W : Wd) (R : It → Hp → Prop) (E : XK) : Prop := match o with
  | .ok x h => ∀ W' H J, W.le W' → RepH K W' H h → ItOk K J W' x → R J H
  | .exc c fs h => ∀ W' cls d H, W.le W' → RepX K W' H c fs cls d → RepH K W' H h → E cls d H
  | .bad => False
def SI (X : Cx) (mi : Rho → LH → Out IterV) (tg it : Expr) : Prop := ∀ E : WX, Takes X E → PI X tg it (fun σ H R => ∃ W ρ h, RepS X.K W ρ σ ∧ RepH X.K W H h ∧ ItP X.K (mi ρ h) W R (fun c d H' => E c d σ H'))
theorem pi_wk {X : Cx} {tg it : Expr} {t t' : TI} (h : PI X tg it t) (w : ∀ σ H R, t' σ H R → t σ H R) : PI X tg it t' := ⟨fun pins s σ H R I q => h.run pins s σ H R I (w _ _ _ q)⟩
theorem ItP_bnd {K : PySem.W.Frag} {W : Wd} {R : It → Hp → Prop} {E : XK} {o : Out LV} {k : LV → LH → Out IterV} (p : ItP K (bnd o k) W R E) :
    PO K o W (fun v H => ∃ W' x h', W.le W' ∧ Rep K W' x v ∧ RepH K W' H h' ∧ ItP K (k x h') W' R E) E := by
  have mono : ∀ {o : Out IterV} {W' : Wd}, W.le W' → ItP K o W R E → ItP K o W' R E := fun {o W'} l q => by
    cases o with
    | ok x h => exact fun W2 H J a b c => q W2 H J (l.trans a) b c
    | exc c fs h => exact fun W2 cls d H a b c => q W2 cls d H (l.trans a) b c
    | bad => exact q
  cases o with
  | ok x h => exact fun W' v H l r rh => ⟨W', x, h, l, r, rh, mono l p⟩
  | exc c fs h => exact p
  | bad => exact p
theorem ItP_bndL {K : PySem.W.Frag} {W : Wd} {R : It → Hp → Prop} {E : XK} {o : Out (List LV)} {k : List LV → LH → Out IterV} (p : ItP K (bnd o k) W R E) :
    POL K o W (fun v H => ∃ W' x h', W.le W' ∧ RepL K W' x v ∧ RepH K W' H h' ∧ ItP K (k x h') W' R E) E := by
  have mono : ∀ {o : Out IterV} {W' : Wd}, W.le W' → ItP K o W R E → ItP K o W' R E := fun {o W'} l q => by
    cases o with
    | ok x h => exact fun W2 H J a b c => q W2 H J (l.trans a) b c
    | exc c fs h => exact fun W2 cls d H a b c => q W2 cls d H (l.trans a) b c
    | bad => exact q
  cases o with
  | ok x h => exact fun W' v H l r rh => ⟨W', x, h, l, r, rh, mono l p⟩
  | exc c fs h => exact p
  | bad => exact p
/-- a list, as it stands -/
def lstAt (x : LV) (i : Nat) (h : LH) : Option LV := match lstOf x h with
  | some xs => xs[i]?
  | none => none
def lstFin (x : LV) (n : Nat) (h : LH) : Bool := match lstOf x h with
  | some xs => decide (xs.length ≤ n)
  | none => false
theorem lstAt_sq {K : PySem.W.Frag} {W : Wd} {H : Hp} {h : LH} {x y : LV} {a : Addr} {i : Nat} (rh : RepH K W H h) (r : Rep K W x (.ref a)) (e : lstAt x i h = some y) : ∃ vs v, SqL K H a vs ∧ vs[i]? = some v ∧ Rep K W y v := by
  unfold lstAt at e
  split at e
  · rename_i xs hx
    obtain ⟨b, vs, e1, q, s⟩ := lstOf_sq rh r hx
    cases e1
    obtain ⟨v, e2, r2⟩ := s.get e
    exact ⟨vs, v, q, e2, r2⟩
  · cases e
theorem lstFin_sq {K : PySem.W.Frag} {W : Wd} {H : Hp} {h : LH} {x : LV} {a : Addr} {n : Nat} (rh : RepH K W H h) (r : Rep K W x (.ref a)) (e : lstFin x n h = true) : ∃ vs, SqL K H a vs ∧ vs.length ≤ n := by
  unfold lstFin at e
  split at e
  · rename_i xs hx
    obtain ⟨b, vs, e1, q, s⟩ := lstOf_sq rh r hx
    cases e1
    exact ⟨vs, q, by rw [← s.length]; exact of_decide_eq_true e⟩
  · cases e
def itL (x : LV) (n : Nat) : IterV := ⟨n, lstAt x, lstFin x n⟩
theorem it_list {K : PySem.W.Frag} {W : Wd} {x : LV} {a : Addr} {n : Nat} (r : Rep K W x (.ref a)) : ItOk K (Itl K a) W (itL x n) := by
  refine ⟨fun i W1 H h y l rh hi c => ?_, fun W1 H h l rh c => ?_, fun i W1 H h v H' y l rh c hy => ?_⟩
  · obtain ⟨vs, v, q, s, _⟩ := lstAt_sq rh (r.mono l) c
    exact ⟨vs, v, q, s⟩
  · exact lstFin_sq rh (r.mono l) c
  · obtain ⟨vs, u, q, s, r3⟩ := lstAt_sq rh (r.mono l) c
    obtain ⟨rfl, e⟩ := hy
    have e2 := e vs q
    rw [s] at e2
    cases e2
    exact ⟨W1, .refl W1, r3, rh⟩
theorem new_pair {K : PySem.W.Frag} {W1 : Wd} {H : Hp} {h : LH} {A : Addr} {x y : LV} {v u : V} (rh : RepH K W1 H h) (hA : H A = none) (rx : Rep K W1 x v) (ry : Rep K W1 y u) :
    ∃ W2, W1.le W2 ∧ Rep K W2 (.tup [x, y]) (.ref A) ∧ RepH K W2 (upd H A (.tup [v, u])) h := by
  obtain ⟨l, rh2⟩ := rh.freshF (o := .tup [v, u]) hA
  refine ⟨_, l, ?_, rh2⟩
  unfold Rep
  exact ⟨A, [v, u], rfl, upd_same, (RepL.cons rx (.cons ry .nil)).mono l⟩
def itE (x : LV) (n : Nat) : IterV := ⟨n, fun i h => match lstAt x i h with
  | some y => some (.tup [.int (i : Nat), y])
  | none => none, lstFin x n⟩
theorem it_enum {K : PySem.W.Frag} {W : Wd} {x : LV} {a : Addr} {n : Nat} (r : Rep K W x (.ref a)) : ItOk K (Ite K a) W (itE x n) := by
  refine ⟨fun i W1 H h y l rh hi c => ?_, fun W1 H h l rh c => ?_, fun i W1 H h v H' y l rh c hy => ?_⟩
  · have c : (match lstAt x i h with
      | some y => some (LV.tup [.int (i : Nat), y])
      | none => none) = some y := c
    split at c
    · rename_i z hz
      obtain ⟨vs, v, q, s, _⟩ := lstAt_sq rh (r.mono l) hz
      exact ⟨vs, v, q, s⟩
    · cases c
  · exact lstFin_sq rh (r.mono l) c
  · have c : (match lstAt x i h with
      | some y => some (LV.tup [.int (i : Nat), y])
      | none => none) = some y := c
    split at c
    · rename_i z hz
      cases c
      obtain ⟨vs, u, q, s, r3⟩ := lstAt_sq rh (r.mono l) hz
      obtain ⟨A, w, rfl, hA, rfl, e⟩ := hy
      have e2 := e vs q
      rw [s] at e2
      cases e2
      exact new_pair rh hA (rep_int' _) r3
    · cases c
def itZ (x y : LV) (n : Nat) : IterV := ⟨n, fun i h => match lstAt x i h, lstAt y i h with
  | some u, some v => some (.tup [u, v])
  | _, _ => none, fun h => match lstOf x h, lstOf y h with
  | some xs, some ys => decide (min xs.length ys.length ≤ n)
  | _, _ => false⟩
theorem it_zip {K : PySem.W.Frag} {W : Wd} {x y : LV} {a b : Addr} {n : Nat} (rx : Rep K W x (.ref a)) (ry : Rep K W y (.ref b)) : ItOk K (Itz K a b) W (itZ x y n) := by
  refine ⟨fun i W1 H h z l rh hi c => ?_, fun W1 H h l rh c => ?_, fun i W1 H h v H' z l rh c hy => ?_⟩
  · have c : (match lstAt x i h, lstAt y i h with
      | some u, some v => some (LV.tup [u, v])
      | _, _ => none) = some z := c
    split at c
    · rename_i u v hu hv
      obtain ⟨vs, v1, q, s, _⟩ := lstAt_sq rh (rx.mono l) hu
      obtain ⟨us, v2, q', s', _⟩ := lstAt_sq rh (ry.mono l) hv
      exact ⟨vs, us, v1, v2, q, q', s, s'⟩
    · cases c
  · have c : (match lstOf x h, lstOf y h with
      | some xs, some ys => decide (min xs.length ys.length ≤ n)
      | _, _ => false) = true := c
    split at c
    · rename_i xs ys hx hy
      obtain ⟨a1, vs, e1, q, s⟩ := lstOf_sq rh (rx.mono l) hx
      obtain ⟨a2, us, e2, q', s'⟩ := lstOf_sq rh (ry.mono l) hy
      cases e1
      cases e2
      refine ⟨vs, us, q, q', ?_⟩
      have := of_decide_eq_true c
      rw [← s.length, ← s'.length]
      show xs.length ≤ n ∨ ys.length ≤ n
      omega
    · cases c
  · have c : (match lstAt x i h, lstAt y i h with
      | some u, some v => some (LV.tup [u, v])
      | _, _ => none) = some z := c
    split at c
    · rename_i u v hu hv
      cases c
      obtain ⟨vs, v1, q, s, r6⟩ := lstAt_sq rh (rx.mono l) hu
      obtain ⟨us, v2, q', s', r7⟩ := lstAt_sq rh (ry.mono l) hv
      obtain ⟨A, w1, w2, rfl, hA, rfl, e, e'⟩ := hy
      have h1 := e vs q
      have h2 := e' us q'
      rw [s] at h1
      rw [s'] at h2
      cases h1
      cases h2
      exact new_pair rh hA r6 r7
    · cases c
def itV (x : LV) (n : Nat) : IterV := ⟨n, fun i h => if i < n then lstAt x (n - 1 - i) h else none, fun _ => true⟩
theorem it_rev {K : PySem.W.Frag} {W : Wd} {x : LV} {a : Addr} {n : Nat} (r : Rep K W x (.ref a)) : ItOk K (Itv K a n) W (itV x n) := by
  refine ⟨fun i W1 H h y l rh hi c => ?_, fun W1 H h l rh c => ?_, fun i W1 H h v H' y l rh c hy => ?_⟩
  · have c : (if i < n then lstAt x (n - 1 - i) h else none) = some y := c
    have hi : i < n := hi
    rw [if_pos hi] at c
    obtain ⟨vs, v, q, s, _⟩ := lstAt_sq rh (r.mono l) c
    exact ⟨hi, vs, v, q, s⟩
  · exact Nat.le_refl n
  · have c : (if i < n then lstAt x (n - 1 - i) h else none) = some y := c
    split at c
    · rename_i hi
      obtain ⟨vs, u, q, s, r3⟩ := lstAt_sq rh (r.mono l) c
      obtain ⟨rfl, e⟩ := hy
      have e2 := e vs q
      rw [s] at e2
      cases e2
      exact ⟨W1, .refl W1, r3, rh⟩
    · cases c
def itR (lo : Int) (n : Nat) : IterV := ⟨n, fun i _ => some (.int (lo + (i : Nat))), fun _ => true⟩
theorem it_range {K : PySem.W.Frag} {W : Wd} {lo : Int} {n : Nat} : ItOk K (Itr lo n) W (itR lo n) := by
  refine ⟨fun i W1 H h y l rh hi c => hi, fun W1 H h l rh c => Nat.le_refl n, fun i W1 H h v H' y l rh c hy => ?_⟩
  obtain ⟨rfl, rfl⟩ := hy
  cases c
  exact ⟨W1, .refl W1, rep_int' _, rh⟩
def itS (z : List Nat) : IterV := ⟨z.length, fun i _ => match z[i]? with
  | some c => some (.str ⟨#[c]⟩)
  | none => none, fun _ => true⟩
theorem it_str {K : PySem.W.Frag} {W : Wd} {z : Str} : ItOk K (Its z) W (itS z.cps.toList) := by
  refine ⟨fun i W1 H h y l rh hi c => ?_, fun W1 H h l rh c => ?_, fun i W1 H h v H' y l rh c hy => ?_⟩
  · exact (show i < z.cps.size by simpa [itS] using hi)
  · show z.cps.size ≤ z.cps.toList.length
    simp
  · obtain ⟨rfl, k, e, rfl⟩ := hy
    have c : (match z.cps.toList[i]? with
      | some c => some (LV.str ⟨#[c]⟩)
      | none => none) = some y := c
    rw [Array.getElem?_toList, e] at c
    cases c
    exact ⟨W1, .refl W1, rep_str' _, rh⟩
def itT (xs : List LV) : IterV := ⟨xs.length, fun i _ => xs[i]?, fun _ => true⟩
theorem it_tup {K : PySem.W.Frag} {W : Wd} {a : Addr} {xs : List LV} (r : Rep K W (.tup xs) (.ref a)) : ItOk K (Itt K a) W (itT xs) := by
  have key : ∀ W1 H h, W.le W1 → RepH K W1 H h → ∃ vs, SqT K H a vs ∧ RepL K W1 xs vs := fun W1 H h l rh => by
    have r1 := r.mono l
    unfold Rep at r1
    obtain ⟨b, vs, e, q, s⟩ := r1
    cases e
    exact ⟨vs, SqT.of (rh.sub _ _ q), s⟩
  refine ⟨fun i W1 H h y l rh hi c => ?_, fun W1 H h l rh c => ?_, fun i W1 H h v H' y l rh c hy => ?_⟩
  · obtain ⟨vs, q, s⟩ := key W1 H h l rh
    obtain ⟨v, e, _⟩ := s.get c
    exact ⟨vs, v, q, e⟩
  · obtain ⟨vs, q, s⟩ := key W1 H h l rh
    exact ⟨vs, q, by rw [← s.length]; exact Nat.le_refl _⟩
  · obtain ⟨vs, q, s⟩ := key W1 H h l rh
    obtain ⟨rfl, e⟩ := hy
    have e2 := e vs q
    obtain ⟨u, e3, r3⟩ := s.get c
    rw [e3] at e2
    cases e2
    exact ⟨W1, .refl W1, r3, rh⟩

/-! ### the iterables -/
def iL (m : ME) : Rho → LH → Out IterV := fun ρ h => bnd (m ρ h) fun x h1 => match lstOf x h1 with
  | some xs => .ok (itL x xs.length) h1
  | none => .bad
def iT (m : ME) : Rho → LH → Out IterV := fun ρ h => bnd (m ρ h) fun x h1 => match x with
  | .tup xs => .ok (itT xs) h1
  | _ => .bad
def iS (m : ME) : Rho → LH → Out IterV := fun ρ h => bnd (m ρ h) fun x h1 => match x with
  | .str z => .ok (itS z.cps.toList) h1
  | _ => .bad
def rngOk (j : Int) : Bool := decide (-(2 ^ 62) ≤ j) && decide (j < 2 ^ 62)
def iR1 (m : ME) : Rho → LH → Out IterV := fun ρ h => bnd (m ρ h) fun x h1 => match x with
  | .int j => if rngOk j = true then .ok (itR 0 j.toNat) h1 else .bad
  | _ => .bad
def iR2 (a b : ME) : Rho → LH → Out IterV := fun ρ h => bnd (a ρ h) fun x h1 => bnd (b ρ h1) fun y h2 => match x, y with
  | .int i, .int j => if (rngOk i && rngOk j) = true then .ok (itR i (j - i).toNat) h2 else .bad
  | _, _ => .bad
def iE (m : ME) : Rho → LH → Out IterV := fun ρ h => bnd (m ρ h) fun x h1 => match lstOf x h1 with
  | some xs => .ok (itE x xs.length) h1
  | none => .bad
def iZ (a b : ME) : Rho → LH → Out IterV := fun ρ h => bnd (a ρ h) fun x h1 => bnd (b ρ h1) fun y h2 => match lstOf x h2, lstOf y h2 with
  | some xs, some ys => .ok (itZ x y (min xs.length ys.length)) h2
  | _, _ => .bad
def iV (m : ME) : Rho → LH → Out IterV := fun ρ h => bnd (m ρ h) fun x h1 => match lstOf x h1 with
  | some xs => .ok (itV x xs.length) h1
  | none => .bad
section
variable {X : Cx} {tg l e e2 : Expr} {m ma mb : ME} {p pos : Pos}
theorem si_l (hm : SE X m l) : SI X (iL m) tg l := fun E tk => pi_wk (pi_list (hm E tk)) fun σ H R ⟨W, ρ, h, rs, rh, q⟩ => by
  refine ⟨W, ρ, h, rs, rh, (ItP_bnd q).imp (fun v H1 ⟨W1, x, h1, l1, r1, rh1, p1⟩ => ?_) fun _ _ _ z => z⟩
  split at p1
  · rename_i xs hx
    obtain ⟨a, vs, rfl, q, s⟩ := lstOf_sq rh1 r1 hx
    exact ⟨a, rfl, ⟨vs, q⟩, p1 W1 H1 _ (.refl W1) rh1 (it_list r1)⟩
  · exact p1.elim
theorem si_t (hm : SE X m l) : SI X (iT m) tg l := fun E tk => pi_wk (pi_tup (hm E tk)) fun σ H R ⟨W, ρ, h, rs, rh, q⟩ => by
  refine ⟨W, ρ, h, rs, rh, (ItP_bnd q).imp (fun v H1 ⟨W1, x, h1, l1, r1, rh1, p1⟩ => ?_) fun _ _ _ z => z⟩
  split at p1
  · have r2 := r1
    unfold Rep at r2
    obtain ⟨a, vs, rfl, q, s⟩ := r2
    exact ⟨a, rfl, ⟨vs, SqT.of (rh1.sub _ _ q)⟩, p1 W1 H1 _ (.refl W1) rh1 (it_tup r1)⟩
  · exact p1.elim
theorem si_s (hm : SE X m l) : SI X (iS m) tg l := fun E tk => pi_wk (pi_str (hm E tk)) fun σ H R ⟨W, ρ, h, rs, rh, q⟩ => by
  refine ⟨W, ρ, h, rs, rh, (ItP_bnd q).imp (fun v H1 ⟨W1, x, h1, l1, r1, rh1, p1⟩ => ?_) fun _ _ _ z => z⟩
  split at p1
  · exact ⟨_, rep_str r1, p1 W1 H1 _ (.refl W1) rh1 it_str⟩
  · exact p1.elim
/-- one argument -/
theorem rd_a1 {K : PySem.W.Frag} {E : WX} {σ : L2.St} {H : Hp} {W : Wd} {ρ : Rho} {h : LH} {Q : V → Hp → Prop} {te : TE} (q : tS K m E σ H Q) : tCons (tS K m E) tNil σ H fun vs H1 => ∃ v, vs = [v] ∧ Q v H1 := by
  obtain ⟨W, ρ, h, rs, rh, p⟩ := q
  exact ⟨W, ρ, h, rs, rh, p.imp (fun v H1 q1 => ⟨v, rfl, q1⟩) fun _ _ _ z => z⟩
theorem pa1 {t : TE} (he : PE X e t) (hs : starEach [e] X.env = (false, eval e X.env) :: starEach [] X.env := by rfl) : PA X [e] (tCons t tNil) := pa_cons he pa_nil hs
theorem si_r1 (hm : SE X m e) (hg : Gl X "range") (hmg : X.mg "range" = none) (hs : starEach [e] X.env = [(false, eval e X.env)] := by rfl) : SI X (iR1 m) tg (.Call (.Name "range" p) [e] [] pos) := fun E tk =>
  pi_wk (pi_range1 hg hmg (pa1 (hm E tk) hs) hs) fun σ H R ⟨W, ρ, h, rs, rh, q⟩ => by
    refine ⟨W, ρ, h, rs, rh, (ItP_bnd q).imp (fun v H1 ⟨W1, x, h1, l1, r1, rh1, p1⟩ => ?_) fun _ _ _ z => z⟩
    split at p1
    · rename_i j
      split at p1
      · rename_i hj
        unfold rngOk at hj
        rw [Bool.and_eq_true] at hj
        have e1 := rep_int r1
        subst e1
        exact ⟨j, rfl, of_decide_eq_true hj.1, of_decide_eq_true hj.2, p1 W1 H1 _ (.refl W1) rh1 it_range⟩
      · exact p1.elim
    · exact p1.elim
theorem si_r2 (ha : SE X ma e) (hb : SE X mb e2) (hg : Gl X "range") (hmg : X.mg "range" = none) (hs : starEach [e, e2] X.env = [(false, eval e X.env), (false, eval e2 X.env)] := by rfl) (hs2 : starEach [e2] X.env = [(false, eval e2 X.env)] := by rfl) :
    SI X (iR2 ma mb) tg (.Call (.Name "range" p) [e, e2] [] pos) := fun E tk =>
  pi_wk (pi_range2 hg hmg (pa_cons (ha E tk) (pa1 (hb E tk) hs2) (by rw [hs, hs2])) hs hs2) fun σ H R ⟨W, ρ, h, rs, rh, q⟩ => by
    refine ⟨W, ρ, h, rs, rh, (ItP_bnd q).imp (fun v H1 ⟨W1, x, h1, l1, r1, rh1, p1⟩ => ?_) fun _ _ _ z => z⟩
    refine ⟨W1, ρ, h1, rs.mono l1, rh1, (ItP_bnd p1).imp (fun u H2 hq2 => ?_) fun _ _ _ z => z⟩
    obtain ⟨W2, y, h2, l2, r2, rh2, p2⟩ := hq2
    split at p2
    · rename_i i j
      split at p2
      · rename_i hj
        unfold rngOk at hj
        simp only [Bool.and_eq_true, decide_eq_true_eq] at hj
        have e1 := rep_int r1
        have e2 := rep_int r2
        subst e1 e2
        exact ⟨i, j, rfl, ⟨hj.1.1, hj.1.2, hj.2.1, hj.2.2⟩, p2 W2 H2 _ (.refl W2) rh2 it_range⟩
      · exact p2.elim
    · exact p2.elim
theorem si_e {elts : List Expr} {kk : Nat} {tpos : Pos} (hm : SE X m e) (hg : Gl X "enumerate") (hmg : X.mg "enumerate" = none) (hs : starEach [e] X.env = [(false, eval e X.env)] := by rfl) : SI X (iE m) (.Tuple elts kk tpos) (.Call (.Name "enumerate" p) [e] [] pos) := fun E tk =>
  pi_wk (pi_enum hg hmg (pa1 (hm E tk) hs) hs) fun σ H R ⟨W, ρ, h, rs, rh, q⟩ => by
    refine ⟨W, ρ, h, rs, rh, (ItP_bnd q).imp (fun v H1 ⟨W1, x, h1, l1, r1, rh1, p1⟩ => ?_) fun _ _ _ z => z⟩
    split at p1
    · rename_i xs hx
      obtain ⟨a, vs, rfl, q, s⟩ := lstOf_sq rh1 r1 hx
      exact ⟨a, vs, rfl, q, p1 W1 H1 _ (.refl W1) rh1 (it_enum r1)⟩
    · exact p1.elim
theorem si_z {elts : List Expr} {kk : Nat} {tpos : Pos} (ha : SE X ma e) (hb : SE X mb e2) (hg : Gl X "zip") (hmg : X.mg "zip" = none) (hs : starEach [e, e2] X.env = (false, eval e X.env) :: starEach [e2] X.env := by rfl) (hs2 : starEach [e2] X.env = (false, eval e2 X.env) :: starEach [] X.env := by rfl)
    (hpl : (backTo pos (starEach [e2] X.env)).any (·.1) = false := by rfl) : SI X (iZ ma mb) (.Tuple elts kk tpos) (.Call (.Name "zip" p) [e, e2] [] pos) := fun E tk =>
  pi_wk (pi_zip hg hmg (pa_cons (ha E tk) (pa1 (hb E tk) hs2) hs) hs hpl) fun σ H R ⟨W, ρ, h, rs, rh, q⟩ => by
    refine ⟨W, ρ, h, rs, rh, (ItP_bnd q).imp (fun v H1 ⟨W1, x, h1, l1, r1, rh1, p1⟩ => ?_) fun _ _ _ z => z⟩
    refine ⟨W1, ρ, h1, rs.mono l1, rh1, (ItP_bnd p1).imp (fun u H2 ⟨W2, y, h2, l2, r2, rh2, p2⟩ => ?_) fun _ _ _ z => z⟩
    split at p2
    · rename_i xs ys hx hy
      have r1' := r1.mono l2
      obtain ⟨a, vs, rfl, q, s⟩ := lstOf_sq rh2 r1' hx
      obtain ⟨b, us, rfl, q', s'⟩ := lstOf_sq rh2 r2 hy
      exact ⟨a, b, vs, us, rfl, q, q', p2 W2 H2 _ (.refl W2) rh2 (it_zip r1' r2)⟩
    · exact p2.elim
theorem si_v (hm : SE X m e) (hg : Gl X "reversed") (hmg : X.mg "reversed" = none) (hs : starEach [e] X.env = [(false, eval e X.env)] := by rfl) : SI X (iV m) tg (.Call (.Name "reversed" p) [e] [] pos) := fun E tk =>
  pi_wk (pi_reversed hg hmg (pa1 (hm E tk) hs) hs) fun σ H R ⟨W, ρ, h, rs, rh, q⟩ => by
    refine ⟨W, ρ, h, rs, rh, (ItP_bnd q).imp (fun v H1 ⟨W1, x, h1, l1, r1, rh1, p1⟩ => ?_) fun _ _ _ z => z⟩
    split at p1
    · rename_i xs hx
      obtain ⟨a, vs, rfl, q, s⟩ := lstOf_sq rh1 r1 hx
      refine ⟨a, vs, rfl, q, ?_⟩
      rw [← s.length]
      exact p1 W1 H1 _ (.refl W1) rh1 (it_rev r1)
    · exact p1.elim
end

/-! ### for -/
/-- r things are left, i are done -/
def loopF (g : TgF) (body : MS) (x : IterV) : Nat → Nat → Rho → LH → SO
  | 0, _, ρ, h => if x.fin h = true then .nx ρ h else .bad
  | r + 1, i, ρ, h => match x.at_ i h with
    | some y => (match g y ρ with
      | some ρ1 => (match body ρ1 h with
        | .nx ρ2 h2 => loopF g body x r (i + 1) ρ2 h2
        | .ct ρ2 h2 => loopF g body x r (i + 1) ρ2 h2
        | .bk ρ2 h2 => .nx ρ2 h2
        | .rt v h2 => .rt v h2
        | .exc c fs ρ2 h2 => .exc c fs ρ2 h2
        | .bad => .bad)
      | none => .bad)
    | none => .bad
def sFor (g : TgF) (mi : Rho → LH → Out IterV) (body : MS) : MS := fun ρ h => sbn (mi ρ h) ρ fun x h1 => loopF g body x x.n 0 ρ h1
section
variable {X : Cx} {tg it : Expr} {mi : Rho → LH → Out IterV} {g : TgF} {mb : MS} {body : List Stmt} {pos : Pos}
theorem s_for (hc : X.calm = true) (hi : SI X mi tg it) (hg : SG X g tg) (hb : SSs X mb body) (hs : ∀ x, foldedSetIterable it X.env x = pure x := by intro _; rfl) : SS X (sFor g mi mb) (.For tg it body [] pos) := fun E tk po =>
  ps_wk (ps_for po hc (hi E tk) hg (hb E tk po) hs) fun D σ H ⟨W, ρ, h, rs, rh, p⟩ => by
    refine ⟨W, ρ, h, rs, rh, ?_⟩
    unfold sFor at p
    cases e1 : mi ρ h with
    | bad => rw [e1] at p; exact p
    | exc c fs h1 => rw [e1] at p; exact fun W1 cls d H1 l rx rh1 => p W1 cls d σ H1 l rx (rs.mono l) rh1
    | ok x h1 =>
      rw [e1, sbn_ok] at p
      refine fun W1 H1 J l1 rh1 iok => ?_
      refine ⟨fun i m σ' H' => m + i = x.n ∧ ∃ W2 ρ2 h2, W1.le W2 ∧ RepS X.K W2 ρ2 σ' ∧ RepH X.K W2 H' h2 ∧ SPo X.K (loopF g mb x m i ρ2 h2) W2 D E,
        ⟨x.n, Nat.add_zero _, W1, ρ, h1, .refl W1, rs.mono l1, rh1, SPo.mono l1 p⟩, ?_⟩
      rintro i m σ2 H2 ⟨hm, W2, ρ2, h2, l2, rs2, rh2, p2⟩
      cases m with
      | zero =>
        unfold loopF at p2
        split at p2
        · rename_i hf
          have ei : i = x.n := by omega
          subst ei
          exact .inl ⟨iok.stop W2 H2 h2 l2 rh2 hf, SPo_nx rs2 rh2 p2⟩
        · exact p2.elim
      | succ m =>
        unfold loopF at p2
        cases e2 : x.at_ i h2 with
        | none => rw [e2] at p2; exact p2.elim
        | some y =>
          rw [e2] at p2
          refine .inr ⟨iok.go i W2 H2 h2 y l2 rh2 (by omega) e2, fun σ' H' => ∃ W3 ρ3 h3, W1.le W3 ∧ RepS X.K W3 ρ3 σ' ∧ RepH X.K W3 H' h3 ∧ SPo X.K (loopF g mb x m (i + 1) ρ3 h3) W3 D E,
            fun σ' H' q => ⟨m, Nat.lt_succ_self m, by omega, q⟩, fun v H3 hy => ?_⟩
          obtain ⟨W3, l3, r3, rh3⟩ := iok.yld i W2 H2 h2 v H3 y l2 rh2 e2 hy
          cases e3 : g y ρ2 with
          | none => rw [show (match (some y : Option LV) with
              | some y => (match g y ρ2 with
                | some ρ1 => (match mb ρ1 h2 with
                  | .nx ρ2 h2 => loopF g mb x m (i + 1) ρ2 h2
                  | .ct ρ2 h2 => loopF g mb x m (i + 1) ρ2 h2
                  | .bk ρ2 h2 => .nx ρ2 h2
                  | .rt v h2 => .rt v h2
                  | .exc c fs ρ2 h2 => .exc c fs ρ2 h2
                  | .bad => SO.bad)
                | none => .bad)
              | none => .bad) = SO.bad by simp only [e3]] at p2; exact p2.elim
          | some ρ3 =>
            have p3 : SPo X.K (match mb ρ3 h2 with
              | .nx ρ2 h2 => loopF g mb x m (i + 1) ρ2 h2
              | .ct ρ2 h2 => loopF g mb x m (i + 1) ρ2 h2
              | .bk ρ2 h2 => .nx ρ2 h2
              | .rt v h2 => .rt v h2
              | .exc c fs ρ2 h2 => .exc c fs ρ2 h2
              | .bad => .bad) W3 D E := SPo.mono l3 (by simpa only [e3] using p2)
            refine ⟨W3, ρ2, h2, _, rs2.mono l3, rh3, r3, ρ3, e3, fun σ3 rs3 => ?_⟩
            refine ⟨W3, ρ3, h2, rs3, rh3, ?_⟩
            have l13 := l2.trans l3
            show SPo X.K (mb ρ3 h2) W3 _ E
            cases e4 : mb ρ3 h2 with
            | nx ρ4 h4 => rw [e4] at p3; exact fun W4 σ4 H4 l4 rs4 rh4 => ⟨W4, ρ4, h4, l13.trans l4, rs4, rh4, SPo.mono l4 p3⟩
            | ct ρ4 h4 => rw [e4] at p3; exact fun W4 σ4 H4 l4 rs4 rh4 => ⟨W4, ρ4, h4, l13.trans l4, rs4, rh4, SPo.mono l4 p3⟩
            | bk ρ4 h4 => rw [e4] at p3; exact p3
            | rt v h4 => rw [e4] at p3; exact p3
            | exc c fs ρ4 h4 => rw [e4] at p3; exact p3
            | bad => rw [e4] at p3; exact p3
end

/-! ### while -/
def whileF (t : ME) (body : MS) : Nat → Rho → LH → SO
  | 0, _, _ => .bad
  | n + 1, ρ, h => onBS (t ρ h) ρ fun c h1 => if c = true then (match body ρ h1 with
      | .nx ρ2 h2 => whileF t body n ρ2 h2
      | .ct ρ2 h2 => whileF t body n ρ2 h2
      | .bk ρ2 h2 => .nx ρ2 h2
      | .rt v h2 => .rt v h2
      | .exc c fs ρ2 h2 => .exc c fs ρ2 h2
      | .bad => .bad) else .nx ρ h1
def wFuel : Nat := 1000000000000000000
def sWhile (t : ME) (body : MS) : MS := fun ρ h => whileF t body wFuel ρ h
section
variable {X : Cx} {c : Expr} {t : ME} {mb : MS} {body : List Stmt} {pos : Pos}
theorem s_while (ht : SB X t c) (hb : SSs X mb body) : SS X (sWhile t mb) (.While c body [] pos) := fun E tk po =>
  ps_wk (ps_while po (ht E tk) (hb E tk po)) fun D σ H ⟨W, ρ, h, rs, rh, p⟩ => by
    refine ⟨fun m σ' H' => ∃ W2 ρ2 h2, RepS X.K W2 ρ2 σ' ∧ RepH X.K W2 H' h2 ∧ SPo X.K (whileF t mb m ρ2 h2) W2 D E, ⟨wFuel, W, ρ, h, rs, rh, p⟩, ?_⟩
    rintro m σ2 H2 ⟨W2, ρ2, h2, rs2, rh2, p2⟩
    cases m with
    | zero => exact p2.elim
    | succ m =>
      refine ⟨W2, ρ2, h2, rs2, rh2, (SPo_onBS rs2 p2).imp (fun v H3 ⟨b, e, W3, h3, l3, rh3, rs3, p3⟩ => ⟨b, e, ?_⟩) fun _ _ _ z => z⟩
      cases b with
      | false => exact SPo_nx rs3 rh3 p3
      | true =>
        refine ⟨fun σ' H' => ∃ W2 ρ2 h2, RepS X.K W2 ρ2 σ' ∧ RepH X.K W2 H' h2 ∧ SPo X.K (whileF t mb m ρ2 h2) W2 D E, fun σ' H' q => ⟨m, Nat.lt_succ_self m, q⟩, ?_⟩
        refine ⟨W3, ρ2, h3, rs3, rh3, ?_⟩
        show SPo X.K (mb ρ2 h3) W3 _ E
        have p4 : SPo X.K (match mb ρ2 h3 with
          | .nx ρ2 h2 => whileF t mb m ρ2 h2
          | .ct ρ2 h2 => whileF t mb m ρ2 h2
          | .bk ρ2 h2 => .nx ρ2 h2
          | .rt v h2 => .rt v h2
          | .exc c fs ρ2 h2 => .exc c fs ρ2 h2
          | .bad => .bad) W3 D E := p3
        cases e4 : mb ρ2 h3 with
        | nx ρ4 h4 => rw [e4] at p4; exact fun W4 σ4 H4 l4 rs4 rh4 => ⟨W4, ρ4, h4, rs4, rh4, SPo.mono l4 p4⟩
        | ct ρ4 h4 => rw [e4] at p4; exact fun W4 σ4 H4 l4 rs4 rh4 => ⟨W4, ρ4, h4, rs4, rh4, SPo.mono l4 p4⟩
        | bk ρ4 h4 => rw [e4] at p4; exact p4
        | rt v h4 => rw [e4] at p4; exact p4
        | exc c fs ρ4 h4 => rw [e4] at p4; exact p4
        | bad => rw [e4] at p4; exact p4
end
end DD
end
section
set_option Elab.async false
set_option linter.all false
set_option maxRecDepth 100000
set_option maxHeartbeats 2000000
/-! D7: comprehensions. -/
namespace DD
open PySem PySem.Spec PyProof.Rows L2

/-! ### slots wiped -/
def wipeL (ρ : Rho) : List Nat → Rho
  | [] => ρ
  | v :: vs => (wipeL ρ vs).set v none
theorem wipe_outs {σ : L2.St} {i : Nat} {x : Option V} : ∀ {vs : List Nat}, i ∉ vs → wipe (σ.set i x) vs = (wipe σ vs).set i x
  | [], _ => rfl
  | v :: vs, h => by
    have h1 : i ≠ v := fun e => h (e ▸ List.mem_cons_self)
    show (wipe (σ.set i x) vs).set v none = ((wipe σ vs).set v none).set i x
    rw [wipe_outs fun z => h (List.mem_cons_of_mem _ z), List.set_comm _ _ h1]
theorem wipe_ins {σ : L2.St} {i : Nat} {x : Option V} : ∀ {vs : List Nat}, i ∈ vs → wipe (σ.set i x) vs = wipe σ vs
  | v :: vs, h => by
    show (wipe (σ.set i x) vs).set v none = (wipe σ vs).set v none
    by_cases hi : i ∈ vs
    · rw [wipe_ins hi]
    · have e : i = v := by
        rcases List.mem_cons.mp h with z | z
        · exact z
        · exact absurd z hi
      subst e
      rw [wipe_outs hi, List.set_set]
theorem wipe_wipe_sub {σ : L2.St} {us : List Nat} : ∀ {vs : List Nat}, (∀ i ∈ vs, i ∈ us) → wipe (wipe σ vs) us = wipe σ us
  | [], _ => rfl
  | v :: vs, h => by
    show wipe ((wipe σ vs).set v none) us = _
    rw [wipe_ins (h v List.mem_cons_self), wipe_wipe_sub fun i hi => h i (List.mem_cons_of_mem _ hi)]
theorem wipe_wipe {σ : L2.St} {vs : List Nat} : wipe (wipe σ vs) vs = wipe σ vs := wipe_wipe_sub fun _ h => h
theorem RepS.wipe {K : PySem.W.Frag} {W : Wd} {ρ : Rho} {σ : L2.St} (r : RepS K W ρ σ) : ∀ vs : List Nat, RepS K W (wipeL ρ vs) (L2.wipe σ vs)
  | [] => r
  | v :: vs => (RepS.wipe r vs).unset

/-! ### the targets of a comprehension -/
def gNs : List Nat → TGs
  | [] => gNil
  | i :: is => gCons (gName i) (gNs is)
def setV : List Nat → List V → L2.St → L2.St
  | i :: is, v :: vs, σ => setV is vs (σ.set i (some v))
  | _, _, σ => σ
theorem gNs_of {K : PySem.W.Frag} {W : Wd} {H : Hp} {Q : L2.St → Hp → Prop} : ∀ {is : List Nat} {xs : List LV} {vs : List V} {ρ ρ' : Rho} {σ : L2.St}, RepS K W ρ σ → RepL K W xs vs → setAll is xs ρ = some ρ' → Q (setV is vs σ) H → gNs is vs σ H Q ∧ RepS K W ρ' (setV is vs σ)
  | [], [], _, _, _, _, rs, r, e, q => by
    unfold RepL at r
    subst r
    cases e
    exact ⟨⟨rfl, q⟩, rs⟩
  | i :: is, x :: xs, _, _, _, _, rs, r, e, q => by
    unfold RepL at r
    obtain ⟨v, us, rfl, r1, r2⟩ := r
    obtain ⟨a, b⟩ := gNs_of (rs.set r1) r2 e q
    exact ⟨⟨v, us, rfl, a⟩, b⟩
  | [], _ :: _, _, _, _, _, _, _, e, _ => by cases e
  | _ :: _, [], _, _, _, _, _, _, e, _ => by cases e
theorem wipe_setV {own : List Nat} : ∀ {is : List Nat} {vs : List V} {σ : L2.St}, (∀ i ∈ is, i ∈ own) → wipe (setV is vs σ) own = wipe σ own
  | [], [], _, _ => rfl
  | [], _ :: _, _, _ => rfl
  | _ :: _, [], _, _ => rfl
  | i :: is, v :: vs, σ, h => by
    show wipe (setV is vs (σ.set i (some v))) own = _
    rw [wipe_setV fun j hj => h j (List.mem_cons_of_mem _ hj), wipe_ins (h i List.mem_cons_self)]
/-- a target that stores own names alone: t by the slots, g by the logical ones -/
def TgC (K : PySem.W.Frag) (own : List Nat) (g : TgF) (t : TG) : Prop := ∀ (W : Wd) (ρ ρ' : Rho) (σ : L2.St) (h : LH) (H : Hp) (x : LV) (v : V) (Q : L2.St → Hp → Prop), RepS K W ρ σ → RepH K W H h → Rep K W x v → g x ρ = some ρ' →
  (∀ σ', RepS K W ρ' σ' → wipe σ' own = wipe σ own → Q σ' H) → t v σ H Q
theorem tgc_name {K : PySem.W.Frag} {own : List Nat} {i : Nat} (hi : i ∈ own) : TgC K own (tgN i) (gName i) := fun W ρ ρ' σ h H x v Q rs rh r e q => by
  cases e
  exact q _ (rs.set r) (wipe_ins hi)
theorem tgc_tup {K : PySem.W.Frag} {own is : List Nat} {n : Nat} (hn : is.length = n) (hi : ∀ i ∈ is, i ∈ own) : TgC K own (tgT is) (gTup K n (gNs is)) := fun W ρ ρ' σ h H x v Q rs rh r e q => by
  unfold tgT at e
  split at e
  · rename_i xs
    unfold Rep at r
    obtain ⟨a, vs, rfl, q1, r1⟩ := r
    have hl := setAll_len e
    obtain ⟨z, rs'⟩ := gNs_of (Q := fun _ _ => True) (H := H) rs r1 e trivial
    exact ⟨a, vs, rfl, SqT.of (rh.sub _ _ q1), by rw [← r1.length, hl, hn], (gNs_of rs r1 e (q _ rs' (wipe_setV hi))).1⟩
  · cases e
theorem pgs_names {X : Cx} {i : Nat} {is : List Nat} {x : Str} {tgs : List Expr} {pos : Pos} (hN : X.N.Nodup) (hi : X.N[i]? = some x) (hx : Loc X.env.scope x) (hr : PGs X tgs (gNs is)) (hf : X.fn x = true ∨ X.env.scope.names.lookup x = some .local := by first | exact .inl rfl | exact .inr rfl | assumption)
    (hs : (assignEach (.Name x pos :: tgs) X.env).map (·.2) = assign (.Name x pos) X.env :: (assignEach tgs X.env).map (·.2) := by rfl) : PGs X (.Name x pos :: tgs) (gNs (i :: is)) := pgs_cons (pg_name hN hi hx hf) hr hs

/-! ### the comprehension -/
def compF (g : TgF) (mt me : ME) (x : IterV) (ρ : Rho) (n : Nat) : Nat → Nat → LH → Option LH
  | 0, _, h => if x.fin h = true then some h else none
  | r + 1, i, h => match x.at_ i h with
    | some u => (match g u ρ with
      | some ρ1 => (match mt ρ1 h with
        | .ok (.bl true) h1 => (match me ρ1 h1 with
          | .ok y h2 => (match h2[n]? with
            | some (.lst acc) => if acc.length < sizeLine then compF g mt me x ρ n r (i + 1) (h2.set n (.lst (acc ++ [y]))) else none
            | _ => none)
          | _ => none)
        | .ok (.bl false) h1 => compF g mt me x ρ n r (i + 1) h1
        | _ => none)
      | none => none)
    | none => none
def compR (n : Nat) (o : Option LH) : Out LV := match o with
  | some h2 => .ok (.ptr n) h2
  | none => .bad
def eComp (own : List Nat) (g : TgF) (mi : Rho → LH → Out IterV) (mt me : ME) : ME := fun ρ h => bnd (mi ρ h) fun x h1 => compR h1.length (compF g mt me x (wipeL ρ own) h1.length x.n 0 (h1 ++ [.lst []]))
/-- tests of a comprehension -/
def ST (X : Cx) (mt : ME) (ifs : List Expr) : Prop := PTs X ifs (tB' X.K mt fun _ _ _ _ => False)
def mYes : ME := eC (.bl true)
section
variable {X : Cx} {c : Expr} {mt : ME}
theorem pts_wk {ifs : List Expr} {t t' : TT} (h : PTs X ifs t) (w : ∀ σ H Q, t' σ H Q → t σ H Q) : PTs X ifs t' := ⟨fun pins s σ H Q I q => h.run pins s σ H Q I (w _ _ _ q)⟩
theorem st_nil : ST X mYes [] := pts_wk pts_nil fun σ H Q ⟨W, ρ, h, rs, rh, p⟩ => by
  obtain ⟨b, e, q⟩ := p W _ H (.refl W) (rep_bl' true) rh
  cases e
  exact q
theorem st_one (h : SB X mt c) : ST X mt [c] := pts_one (h _ takes0)
end
section
variable {X : Cx} {elt tg iter : Expr} {ifs : List Expr} {scope : Scope} {own : List (Str × Nat)} {pos : Pos} {mi : Rho → LH → Out IterV} {g : TgF} {t : TG} {mt me : ME}
theorem rd_lc {E : WX} {σ : L2.St} {H : Hp} {Q : VK} {ow : List Nat} (hg : TgC X.K ow g t) (q : tS X.K (eComp ow g mi mt me) E σ H Q) :
    tLc (fun σ H R => ∃ W ρ h, RepS X.K W ρ σ ∧ RepH X.K W H h ∧ ItP X.K (mi ρ h) W R (fun c d H' => E c d σ H')) t (tB' X.K mt fun _ _ _ _ => False) (tS X.K me fun _ _ _ _ => False) ow σ H Q := by
  obtain ⟨W, ρ, h, rs, rh, p⟩ := q
  refine ⟨W, ρ, h, rs, rh, ?_⟩
  unfold eComp at p
  cases e1 : mi ρ h with
  | bad => rw [e1] at p; exact p
  | exc c fs h1 => rw [e1] at p; exact p
  | ok x h1 =>
    rw [e1, bnd_ok] at p
    refine fun W1 H1 J l1 rh1 iok D hD => ?_
    have p1 := p.mono l1
    cases e2 : compF g mt me x (wipeL ρ ow) h1.length x.n 0 (h1 ++ [.lst []]) with
    | none => rw [e2] at p1; exact p1.elim
    | some hf =>
      rw [e2] at p1
      obtain ⟨l2, rh2, eD⟩ := rh1.freshM (mo := .lst []) (o := .lst []) hD ⟨[], upd_same, .nil⟩
      refine ⟨fun i m H' => m + i = x.n ∧ ∃ W2 h2, (Wd.mk (W1.α ++ [D]) W1.fz W1.lk).le W2 ∧ RepH X.K W2 H' h2 ∧ compF g mt me x (wipeL ρ ow) h1.length m i h2 = some hf,
        ⟨x.n, Nat.add_zero _, _, _, .refl _, rh2, e2⟩, ?_⟩
      rintro i m H2 ⟨hm, W2, h2, l3, rh3, e3⟩
      have l13 := l2.trans l3
      have rsW := (rs.mono (l1.trans l13)).wipe ow
      cases m with
      | zero =>
        unfold compF at e3
        split at e3
        · rename_i hf
          cases e3
          have ei : i = x.n := by omega
          subst ei
          exact .inl ⟨iok.stop W2 H2 _ l13 rh3 hf, p1 W2 _ H2 l13 (by unfold Rep; exact ⟨D, rfl, l3.at_ eD⟩) rh3⟩
        · cases e3
      | succ m =>
        unfold compF at e3
        split at e3
        · rename_i u hu
          refine .inr ⟨iok.go i W2 H2 h2 u l13 rh3 (by omega) hu, fun H' => ∃ W3 h3, (Wd.mk (W1.α ++ [D]) W1.fz W1.lk).le W3 ∧ RepH X.K W3 H' h3 ∧ compF g mt me x (wipeL ρ ow) h1.length m (i + 1) h3 = some hf,
            fun H' z => ⟨m, Nat.lt_succ_self m, by omega, z⟩, fun v H3 hy => ?_⟩
          obtain ⟨W3, l4, r4, rh4⟩ := iok.yld i W2 H2 h2 v H3 u l13 rh3 hu hy
          split at e3
          · rename_i ρ1 e4
            refine hg W3 _ ρ1 _ h2 H3 _ v _ (rsW.mono l4) rh4 r4 e4 fun σ2 rs2 ew => ⟨by rw [ew, wipe_wipe], ?_⟩
            refine ⟨W3, ρ1, h2, rs2, rh4, ?_⟩
            have l34 := l3.trans l4
            split at e3
            · rename_i h3 e6
              rw [e6]
              refine fun W4 vb H4 l5 rb rh5 => ⟨true, rep_bl rb, ?_⟩
              refine ⟨W4, ρ1, h3, rs2.mono l5, rh5, ?_⟩
              split at e3
              · rename_i y h4 e8
                rw [e8]
                refine fun W5 vy H5 l6 ry rh6 => ?_
                split at e3
                · rename_i acc hacc
                  split at e3
                  · rename_i hz
                    have aD : W5.α[h1.length]? = some D := (l34.trans (l5.trans l6)).at_ eD
                    obtain ⟨_, vs, eH, rl⟩ := rh6.at_ _ D _ aD hacc (by intro z; cases z)
                    exact ⟨vs, eH, by rw [← rl.length]; exact hz, W5, _, l34.trans (l5.trans l6), rh6.write (mo' := .lst (acc ++ [y])) aD hacc (by intro z; cases z) ⟨_, upd_same, rl.append (.cons ry .nil)⟩, e3⟩
                  · cases e3
                · cases e3
              · cases e3
            · rename_i h3 e6
              rw [e6]
              exact fun W4 vb H4 l5 rb rh5 => ⟨false, rep_bl rb, W4, h3, l34.trans l5, rh5, e3⟩
            · cases e3
          · cases e3
        · cases e3
theorem se_lc (hc : X.calm = true) (hN : X.N.Nodup) (hi : SI X mi tg iter) (ok : BlkOk X.N X.env.scope scope own) (hgc : TgC X.K (own.map (·.2)) g t)
    (hg : ∀ (s : Shared) (H : Hp) (C : Addr) (cl : List (Str × Addr)) (fp : List Addr), PG (X.blk s H scope (compEnvC scope cl C X.env) fp) tg t)
    (ht : ∀ (s : Shared) (H : Hp) (C : Addr) (cl : List (Str × Addr)) (fp : List Addr), ST (X.blk s H scope (compEnvC scope cl C X.env) fp) mt ifs)
    (he : ∀ (s : Shared) (H : Hp) (C : Addr) (cl : List (Str × Addr)) (fp : List Addr), SE (X.blk s H scope (compEnvC scope cl C X.env) fp) me elt) (hs : ∀ x, foldedSetIterable iter X.env x = pure x := by intro _; rfl) :
    SE X (eComp (own.map (·.2)) g mi mt me) (.ListComp elt [⟨tg, iter, ifs, 0⟩] scope pos) := fun E tk =>
  pe_wk (pe_lc (tt := tB' X.K mt fun _ _ _ _ => False) (te := tS X.K me fun _ _ _ _ => False) hc hN (hi E tk) ok hg (fun s H C cl fp => ht s H C cl fp) (fun s H C cl fp => he s H C cl fp _ takes0) hs) fun σ H Q q => rd_lc hgc q
theorem s_setlc {i : Nat} {y : Str} {py spos : Pos} (hc : X.calm = true) (hN : X.N.Nodup) (hy : X.N[i]? = some y) (hyl : X.env.scope.names.lookup y = some .local)
    (hsw : swapsWith (.ListComp elt [⟨tg, iter, ifs, 0⟩] scope pos) (some (.Name y py)) spos.line X.env = pure true) (hi : SI X mi tg iter) (ok : BlkOk X.N X.env.scope scope own) (hgc : TgC X.K (own.map (·.2)) g t)
    (hg : ∀ (s : Shared) (H : Hp) (C : Addr) (cl : List (Str × Addr)) (fp : List Addr), PG (X.blk s H scope (compEnvC scope cl C X.env) fp) tg t)
    (ht : ∀ (s : Shared) (H : Hp) (C : Addr) (cl : List (Str × Addr)) (fp : List Addr), ST (X.blk s H scope (compEnvC scope cl C X.env) fp) mt ifs)
    (he : ∀ (s : Shared) (H : Hp) (C : Addr) (cl : List (Str × Addr)) (fp : List Addr), SE (X.blk s H scope (compEnvC scope cl C X.env) fp) me elt) (hs : ∀ x, foldedSetIterable iter X.env x = pure x := by intro _; rfl) :
    SS X (sSet i (eComp (own.map (·.2)) g mi mt me)) (.Assign [.Name y py] (.ListComp elt [⟨tg, iter, ifs, 0⟩] scope pos) spos) := fun E tk po =>
  ps_wk (ps_setLc (tt := tB' X.K mt fun _ _ _ _ => False) (te := tS X.K me fun _ _ _ _ => False) hc hN hy hyl hsw (hi E tk) ok hg (fun s H C cl fp => ht s H C cl fp) (fun s H C cl fp => he s H C cl fp _ takes0) hs) fun D σ H ⟨W, ρ, h, rs, rh, p⟩ =>
    rd_lc hgc ⟨W, ρ, h, rs, rh, (SPo_sbn rs p).imp (fun v H1 ⟨W1, x, h1, l1, r1, rh1, rs1, p1⟩ => p1 W1 _ H1 (.refl W1) (rs1.set r1) rh1) fun _ _ _ z => z⟩
end
end DD
end
section
set_option Elab.async false
set_option linter.all false
set_option maxRecDepth 100000
set_option maxHeartbeats 2000000
/-! D8: built-in functions, types, methods of lists and texts. -/
namespace DD
open PySem PySem.Spec PyProof.Rows L2

abbrev FL := List LV → LH → Option (LV × LH)
def eCB (f : FL) (ms : MA) : ME := fun ρ h => bnd (ms ρ h) fun xs h1 => lft (f xs h1)
def rOL (K : PySem.W.Frag) (f : FL) : List V → Hp → VK → Prop := fun vs H Q => ∃ W h xs, RepL K W xs vs ∧ RepH K W H h ∧ POo K (f xs h) W Q
section
variable {X : Cx} {x : Str} {p pos : Pos} {e o : Expr} {es : List Expr} {ms : MA} {mo : ME} {id T : String} {f : FL}
theorem rd_cb {K : PySem.W.Frag} {E : WX} {σ : L2.St} {H : Hp} {Q : VK} (q : tS K (eCB f ms) E σ H Q) : tCB (rOL K f) (tA K ms E) σ H Q := by
  obtain ⟨W, ρ, h, rs, rh, p⟩ := q
  refine ⟨W, ρ, h, rs, rh, ?_⟩
  have p1 := PO_bndL p
  cases e2 : ms ρ h with
  | ok xs h2 =>
    rw [e2] at p1
    refine fun W2 vs H2 l2 r2 rh2 => ?_
    obtain ⟨W3, ys, h3, l3, r3, rh3, p3⟩ := p1 W2 vs H2 l2 r2 rh2
    exact ⟨W3, h3, ys, r3, rh3, PO_lft p3⟩
  | exc c fs h2 => rw [e2] at p1; exact p1
  | bad => rw [e2] at p1; exact p1
/-- f(e, ..), f a built-in function -/
theorem se_cb (hc : CallR X (.builtin id) (rOL X.K f)) (hg : Gl X x) (hm : X.mg x = none) (hv : bootBuiltins x = some (.builtin id)) (ha : SA X ms (e :: es)) (hn : x ≠ "__name__" := by decide) (hdb : (x == ("__debug__" : Str)) = false := by decide)
    (he : starEach (e :: es) X.env = (false, eval e X.env) :: starEach es X.env := by rfl) (hpl : (backTo pos (starEach es X.env)).any (·.1) = false := by rfl) : SE X (eCB f ms) (.Call (.Name x p) (e :: es) [] pos) := fun E tk =>
  pe_wk (pe_callB hc hg hm hv (ha E tk) hn hdb he hpl) fun _ _ _ q => rd_cb q
theorem se_ct (hc : CallR X (.type T) (rOL X.K f)) (hg : Gl X x) (hm : X.mg x = none) (hv : bootBuiltins x = some (.type T)) (ha : SA X ms (e :: es)) (hn : x ≠ "__name__" := by decide) (hdb : (x == ("__debug__" : Str)) = false := by decide)
    (he : starEach (e :: es) X.env = (false, eval e X.env) :: starEach es X.env := by rfl) (hpl : (backTo pos (starEach es X.env)).any (·.1) = false := by rfl) : SE X (eCB f ms) (.Call (.Name x p) (e :: es) [] pos) := fun E tk =>
  pe_wk (pe_callTy hc hg hm hv (ha E tk) hn hdb he hpl) fun _ _ _ q => rd_cb q
/-! ### which -/
def intOf : LV → Option Int
  | .int i => some i
  | _ => none
def blOf : LV → Option Bool
  | .bl b => some b
  | _ => none
def strOf : LV → Option Str
  | .str b => some b
  | _ => none
theorem repl_ints {K : PySem.W.Frag} {W : Wd} : ∀ {xs : List LV} {vs : List V} {ns : List Int}, RepL K W xs vs → mapO intOf xs = some ns → vs = ns.map V.int
  | [], _, _, r, e => by unfold RepL at r; cases e; exact r
  | x :: xs, _, _, r, e => by
    unfold RepL at r
    obtain ⟨v, us, rfl, q, s⟩ := r
    unfold mapO at e
    split at e
    · rename_i y ys e1 e2
      cases e
      cases x <;> cases e1
      rw [rep_int q, repl_ints s e2]; rfl
    · cases e
theorem repl_bls {K : PySem.W.Frag} {W : Wd} : ∀ {xs : List LV} {vs : List V} {ns : List Bool}, RepL K W xs vs → mapO blOf xs = some ns → vs = ns.map V.bl
  | [], _, _, r, e => by unfold RepL at r; cases e; exact r
  | x :: xs, _, _, r, e => by
    unfold RepL at r
    obtain ⟨v, us, rfl, q, s⟩ := r
    unfold mapO at e
    split at e
    · rename_i y ys e1 e2
      cases e
      cases x <;> cases e1
      rw [rep_bl q, repl_bls s e2]; rfl
    · cases e
theorem repl_strs {K : PySem.W.Frag} {W : Wd} : ∀ {xs : List LV} {vs : List V} {ns : List Str}, RepL K W xs vs → mapO strOf xs = some ns → vs = ns.map V.str
  | [], _, _, r, e => by unfold RepL at r; cases e; exact r
  | x :: xs, _, _, r, e => by
    unfold RepL at r
    obtain ⟨v, us, rfl, q, s⟩ := r
    unfold mapO at e
    split at e
    · rename_i y ys e1 e2
      cases e
      cases x <;> cases e1
      rw [rep_str q, repl_strs s e2]; rfl
    · cases e
theorem repl_one {K : PySem.W.Frag} {W : Wd} {x : LV} {vs : List V} (r : RepL K W [x] vs) : ∃ v, vs = [v] ∧ Rep K W x v := by
  unfold RepL at r
  obtain ⟨v, us, rfl, q, s⟩ := r
  unfold RepL at s
  exact ⟨v, by rw [s], q⟩
theorem repl_two {K : PySem.W.Frag} {W : Wd} {x y : LV} {vs : List V} (r : RepL K W [x, y] vs) : ∃ v u, vs = [v, u] ∧ Rep K W x v ∧ Rep K W y u := by
  unfold RepL at r
  obtain ⟨v, us, rfl, q, s⟩ := r
  obtain ⟨u, rfl, q2⟩ := repl_one s
  exact ⟨v, u, rfl, q, q2⟩
def fLen : FL := fun xs h => match xs with
  | [.str z] => if z.length ≤ sizeLine then some (.int z.length, h) else none
  | [x] => (match seqOf x h with
    | some ys => some (.int ys.length, h)
    | none => none)
  | _ => none
theorem c_len : CallR X (.builtin "len") (rOL X.K fLen) := by
  intro pins s σ H vs us Q I rs ⟨W, h, xs, r, rh, p⟩
  unfold fLen at p
  split at p
  · split at p
    · rename_i hz
      obtain ⟨v, rfl, q⟩ := repl_one r
      exact call_len_str pins s σ H _ us Q I rs ⟨_, by rw [rep_str q], hz, p W _ H (.refl W) (rep_int' _) rh⟩
    · exact p.elim
  · split at p
    · rename_i ys hy
      obtain ⟨v, rfl, q⟩ := repl_one r
      obtain ⟨a, ws, rfl, hq, r2⟩ := seqOf_sq rh q hy
      refine call_len_seq pins s σ H _ us Q I rs ⟨a, ws, rfl, hq, ?_⟩
      rw [← r2.length]
      exact p W _ H (.refl W) (rep_int' _) rh
    · exact p.elim
  · exact p.elim
def fInts (g : List Int → Option LV) : FL := fun xs h => match xs with
  | [x] => (match lstOf x h with
    | some ys => (match mapO intOf ys with
      | some ns => (match g ns with
        | some y => some (y, h)
        | none => none)
      | none => none)
    | none => none)
  | _ => none
theorem fInts_of {K : PySem.W.Frag} {W : Wd} {H : Hp} {h : LH} {xs : List LV} {vs : List V} {Q : VK} {g : List Int → Option LV} (r : RepL K W xs vs) (rh : RepH K W H h) (p : POo K (fInts g xs h) W Q) :
    ∃ a ns y, vs = [.ref a] ∧ SqL K H a (ns.map V.int) ∧ g ns = some y ∧ ∀ v, Rep K W y v → Q v H := by
  unfold fInts at p
  split at p
  · split at p
    · rename_i ys hy
      split at p
      · rename_i ns hn
        split at p
        · rename_i y hg
          obtain ⟨v, rfl, q⟩ := repl_one r
          obtain ⟨a, ws, rfl, hq, r2⟩ := lstOf_sq rh q hy
          rw [repl_ints r2 hn] at hq
          exact ⟨a, ns, y, rfl, hq, hg, fun v rv => p W v H (.refl W) rv rh⟩
        · exact p.elim
      · exact p.elim
    · exact p.elim
  · exact p.elim
def gSum (ns : List Int) : Option LV := some (.int ns.sum)
theorem c_sum (hc : X.calm = true) : CallR X (.builtin "sum") (rOL X.K (fInts gSum)) := by
  intro pins s σ H vs us Q I rs ⟨W, h, xs, r, rh, p⟩
  obtain ⟨a, ns, y, rfl, hq, hg, q⟩ := fInts_of r rh p
  cases hg
  exact cr_sum hc pins s σ H _ us Q I rs ⟨a, ns, rfl, hq, q _ (rep_int' _)⟩
def maxI : List Int → Int
  | [] => 0
  | [x] => x
  | x :: r => if maxI r > x then maxI r else x
def minI : List Int → Int
  | [] => 0
  | [x] => x
  | x :: r => if minI r < x then minI r else x
theorem maxI_cons (x y : Int) (r : List Int) : maxI (x :: y :: r) = if maxI (y :: r) > x then maxI (y :: r) else x := rfl
theorem minI_cons (x y : Int) (r : List Int) : minI (x :: y :: r) = if minI (y :: r) < x then minI (y :: r) else x := rfl
theorem maxI_is : ∀ (x : Int) (r : List Int) (m : Int), m ∈ x :: r → (∀ y, y ∈ x :: r → y ≤ m) → m = maxI (x :: r)
  | x, [], m, h, _ => by simpa [maxI] using h
  | x, y :: r, m, h, g => by
    rw [maxI_cons]
    have hx := g x List.mem_cons_self
    rcases List.mem_cons.mp h with e | h
    · subst e
      have : maxI (y :: r) ∈ y :: r := by
        clear h g hx
        induction r generalizing y with
        | nil => simp [maxI]
        | cons z r ih =>
          rw [maxI_cons]
          split
          · exact List.mem_cons_of_mem _ (ih z)
          · exact List.mem_cons_self
      have := g _ (List.mem_cons_of_mem _ this)
      rw [if_neg (by omega)]
    · have e := maxI_is y r m h fun z hz => g z (List.mem_cons_of_mem _ hz)
      rw [← e]
      split
      · rfl
      · omega
theorem minI_is : ∀ (x : Int) (r : List Int) (m : Int), m ∈ x :: r → (∀ y, y ∈ x :: r → m ≤ y) → m = minI (x :: r)
  | x, [], m, h, _ => by simpa [minI] using h
  | x, y :: r, m, h, g => by
    rw [minI_cons]
    have hx := g x List.mem_cons_self
    rcases List.mem_cons.mp h with e | h
    · subst e
      have : minI (y :: r) ∈ y :: r := by
        clear h g hx
        induction r generalizing y with
        | nil => simp [minI]
        | cons z r ih =>
          rw [minI_cons]
          split
          · exact List.mem_cons_of_mem _ (ih z)
          · exact List.mem_cons_self
      have := g _ (List.mem_cons_of_mem _ this)
      rw [if_neg (by omega)]
    · have e := minI_is y r m h fun z hz => g z (List.mem_cons_of_mem _ hz)
      rw [← e]
      split
      · rfl
      · omega
def gMax (ns : List Int) : Option LV := match ns with
  | [] => none
  | x :: r => some (.int (maxI (x :: r)))
def gMin (ns : List Int) : Option LV := match ns with
  | [] => none
  | x :: r => some (.int (minI (x :: r)))
theorem c_maxl (hc : X.calm = true) : CallR X (.builtin "max") (rOL X.K (fInts gMax)) := by
  intro pins s σ H vs us Q I rs ⟨W, h, xs, r, rh, p⟩
  obtain ⟨a, ns, y, rfl, hq, hg, q⟩ := fInts_of r rh p
  cases ns with
  | nil => cases hg
  | cons x r2 =>
    cases hg
    exact cr_max hc pins s σ H _ us Q I rs ⟨a, _, rfl, hq, by simp, fun m h1 h2 => by rw [maxI_is _ _ m h1 h2]; exact q _ (rep_int' _)⟩
theorem c_minl (hc : X.calm = true) : CallR X (.builtin "min") (rOL X.K (fInts gMin)) := by
  intro pins s σ H vs us Q I rs ⟨W, h, xs, r, rh, p⟩
  obtain ⟨a, ns, y, rfl, hq, hg, q⟩ := fInts_of r rh p
  cases ns with
  | nil => cases hg
  | cons x r2 =>
    cases hg
    exact cr_min hc pins s σ H _ us Q I rs ⟨a, _, rfl, hq, by simp, fun m h1 h2 => by rw [minI_is _ _ m h1 h2]; exact q _ (rep_int' _)⟩
def fMax2 : FL := fun xs h => match xs with
  | [.int i, .int j] => some (.int (if j > i then j else i), h)
  | _ => none
def fMin2 : FL := fun xs h => match xs with
  | [.int i, .int j] => some (.int (if j < i then j else i), h)
  | _ => none
theorem c_max2 (hc : X.calm = true) : CallR X (.builtin "max") (rOL X.K fMax2) := by
  intro pins s σ H vs us Q I rs ⟨W, h, xs, r, rh, p⟩
  unfold fMax2 at p
  split at p
  · obtain ⟨v, u, rfl, q1, q2⟩ := repl_two r
    exact call_max2 hc pins s σ H _ us Q I rs ⟨_, _, by rw [rep_int q1, rep_int q2], p W _ H (.refl W) (rep_int' _) rh⟩
  · exact p.elim
theorem c_min2 (hc : X.calm = true) : CallR X (.builtin "min") (rOL X.K fMin2) := by
  intro pins s σ H vs us Q I rs ⟨W, h, xs, r, rh, p⟩
  unfold fMin2 at p
  split at p
  · obtain ⟨v, u, rfl, q1, q2⟩ := repl_two r
    exact call_min2 hc pins s σ H _ us Q I rs ⟨_, _, by rw [rep_int q1, rep_int q2], p W _ H (.refl W) (rep_int' _) rh⟩
  · exact p.elim
def fAbs : FL := fun xs h => match xs with
  | [.int i] => some (.int (if i < 0 then -i else i), h)
  | _ => none
theorem c_abs : CallR X (.builtin "abs") (rOL X.K fAbs) := by
  intro pins s σ H vs us Q I rs ⟨W, h, xs, r, rh, p⟩
  unfold fAbs at p
  split at p
  · obtain ⟨v, rfl, q1⟩ := repl_one r
    exact call_abs pins s σ H _ us Q I rs ⟨_, by rw [rep_int q1], p W _ H (.refl W) (rep_int' _) rh⟩
  · exact p.elim
def fInt : FL := fun xs h => match xs with
  | [.int i] => some (.int i, h)
  | [.bl k] => some (.int (if k then 1 else 0), h)
  | [.str a] => if a.length ≤ 640 then (match PySem.intText? a with
    | some n => some (.int n, h)
    | none => none) else none
  | _ => none
theorem c_int : CallR X (.type "int") (rOL X.K fInt) := by
  intro pins s σ H vs us Q I rs ⟨W, h, xs, r, rh, p⟩
  unfold fInt at p
  split at p
  · obtain ⟨v, rfl, q1⟩ := repl_one r
    exact call_int1 pins s σ H _ us Q I rs (.inl ⟨_, by rw [rep_int q1], p W _ H (.refl W) (rep_int' _) rh⟩)
  · obtain ⟨v, rfl, q1⟩ := repl_one r
    exact call_int1 pins s σ H _ us Q I rs (.inr ⟨_, by rw [rep_bl q1], p W _ H (.refl W) (rep_int' _) rh⟩)
  · split at p
    · rename_i hz
      split at p
      · rename_i n hn
        obtain ⟨v, rfl, q1⟩ := repl_one r
        exact call_int_str pins s σ H _ us Q I rs ⟨_, n, by rw [rep_str q1], hn, hz, p W _ H (.refl W) (rep_int' _) rh⟩
      · exact p.elim
    · exact p.elim
  · exact p.elim
def fStr : FL := fun xs h => match xs with
  | [.int i] => if i.natAbs.log2 < 1920 then some (.str (toString i), h) else none
  | _ => none
theorem c_str : CallR X (.type "str") (rOL X.K fStr) := by
  intro pins s σ H vs us Q I rs ⟨W, h, xs, r, rh, p⟩
  unfold fStr at p
  split at p
  · split at p
    · rename_i hz
      obtain ⟨v, rfl, q1⟩ := repl_one r
      exact call_str_int pins s σ H _ us Q I rs ⟨_, by rw [rep_int q1], hz, p W _ H (.refl W) (rep_str' _) rh⟩
    · exact p.elim
  · exact p.elim
def fList : FL := fun xs h => match xs with
  | [x] => (match seqOf x h with
    | some ys => some (.ptr h.length, h ++ [.lst ys])
    | none => none)
  | _ => none
theorem c_list : CallR X (.type "list") (rOL X.K fList) := by
  intro pins s σ H vs us Q I rs ⟨W, h, xs, r, rh, p⟩
  unfold fList at p
  split at p
  · split at p
    · rename_i ys hy
      obtain ⟨v, rfl, q⟩ := repl_one r
      obtain ⟨a, ws, rfl, hq, r2⟩ := seqOf_sq rh q hy
      exact call_list_of pins s σ H _ us Q I rs ⟨a, ws, rfl, hq, POo_new rh r2 p⟩
    · exact p.elim
  · exact p.elim
/-- a tuple of what a list holds -/
def fTuple : FL := fun xs h => match xs with
  | [x] => (match lstOf x h with
    | some ys => some (.tup ys, h)
    | none => none)
  | _ => none
theorem c_tuple : CallR X (.type "tuple") (rOL X.K fTuple) := by
  intro pins s σ H vs us Q I rs ⟨W, h, xs, r, rh, p⟩
  unfold fTuple at p
  split at p
  · split at p
    · rename_i ys hy
      obtain ⟨v, rfl, q⟩ := repl_one r
      obtain ⟨a, ws, rfl, hq, r2⟩ := lstOf_sq rh q hy
      exact call_tuple_of pins s σ H _ us Q I rs ⟨a, ws, rfl, .inl ⟨hq, POo_newT rh r2 p⟩⟩
    · exact p.elim
  · exact p.elim
def fBls (g : List Bool → Bool) : FL := fun xs h => match xs with
  | [x] => (match lstOf x h with
    | some ys => (match mapO blOf ys with
      | some ns => some (.bl (g ns), h)
      | none => none)
    | none => none)
  | _ => none
theorem fBls_of {K : PySem.W.Frag} {W : Wd} {H : Hp} {h : LH} {xs : List LV} {vs : List V} {Q : VK} {g : List Bool → Bool} (r : RepL K W xs vs) (rh : RepH K W H h) (p : POo K (fBls g xs h) W Q) :
    ∃ a ns, vs = [.ref a] ∧ SqL K H a (ns.map V.bl) ∧ Q (.bl (g ns)) H := by
  unfold fBls at p
  split at p
  · split at p
    · rename_i ys hy
      split at p
      · rename_i ns hn
        obtain ⟨v, rfl, q⟩ := repl_one r
        obtain ⟨a, ws, rfl, hq, r2⟩ := lstOf_sq rh q hy
        rw [repl_bls r2 hn] at hq
        exact ⟨a, ns, rfl, hq, p W _ H (.refl W) (rep_bl' _) rh⟩
      · exact p.elim
    · exact p.elim
  · exact p.elim
def gAny (bs : List Bool) : Bool := bs.any fun b => b
def gAll (bs : List Bool) : Bool := bs.all fun b => b
theorem c_any (hc : X.calm = true) : CallR X (.builtin "any") (rOL X.K (fBls gAny)) := by
  intro pins s σ H vs us Q I rs ⟨W, h, xs, r, rh, p⟩
  obtain ⟨a, ns, rfl, hq, q⟩ := fBls_of r rh p
  exact cr_any hc pins s σ H _ us Q I rs ⟨a, ns, rfl, hq, q⟩
theorem c_all (hc : X.calm = true) : CallR X (.builtin "all") (rOL X.K (fBls gAll)) := by
  intro pins s σ H vs us Q I rs ⟨W, h, xs, r, rh, p⟩
  obtain ⟨a, ns, rfl, hq, q⟩ := fBls_of r rh p
  exact cr_all hc pins s σ H _ us Q I rs ⟨a, ns, rfl, hq, q⟩
/-- divmod by any divisor but nought -/
def fDivmod : FL := fun xs h => match xs with
  | [.int i, .int j] => if j ≠ 0 ∧ Builtin.divisionGoesByPylong i j = false then some (.tup [.int (i.fdiv j), .int (i.fmod j)], h) else none
  | _ => none
theorem c_divmod : CallR X (.builtin "divmod") (rOL X.K fDivmod) := by
  intro pins s σ H vs us Q I rs ⟨W, h, xs, r, rh, p⟩
  unfold fDivmod at p
  split at p
  · split at p
    · rename_i i j hj
      obtain ⟨v, u, rfl, q1, q2⟩ := repl_two r
      rw [rep_int q1, rep_int q2] at rs
      obtain ⟨u, w', rfl, ⟨t, rfl⟩, ⟨t', rfl⟩⟩ := vals2 rs
      refine divmod_int hj.1 ?_ (.inl hj.2)
      have hn : H s.heap.objs.size = none := I.hok.fresh (Nat.le_refl _)
      refine ⟨.ref s.heap.objs.size, _, ?_, rfl, POo_newT (vs := [.int (i.fdiv j), .int (i.fmod j)]) rh (.cons (rep_int' _) (.cons (rep_int' _) .nil)) p _ hn⟩
      refine I.laid (fun b o e => Heap.get?_push_of_some _ e) (Nat.le_refl _) ⟨by simp only [List.length_cons, List.length_nil]; rw [sizeLine_eq]; decide, [.int (i.fdiv j) s.toks, .int (i.fmod j) (s.toks + 1)], .cons ⟨_, rfl⟩ (.cons ⟨_, rfl⟩ .nil), ?_⟩
      exact ⟨_, Heap.get?_push_size s.heap rfl, rfl, 0, rfl⟩
    · exact p.elim
  · exact p.elim

/-! ### methods of lists and texts -/
abbrev FM := LV → List LV → LH → Option (LV × LH)
def tyL (T : String) (x : LV) (h : LH) : Bool := match x with
  | .str _ => T == "str"
  | .lst _ => T == "list"
  | .ptr n => (match h[n]? with
    | some (.lst _) => T == "list"
    | _ => false)
  | _ => false
def eBM (T : String) (f : FM) (mo : ME) (ms : MA) : ME := fun ρ h => bnd (mo ρ h) fun x h1 => if tyL T x h1 = true then bnd (ms ρ h1) fun xs h2 => lft (f x xs h2) else .bad
def rOM (K : PySem.W.Frag) (f : FM) : V → List V → Hp → VK → Prop := fun v vs H Q => ∃ W h x xs, Rep K W x v ∧ RepL K W xs vs ∧ RepH K W H h ∧ POo K (f x xs h) W Q
theorem tyL_of {K : PySem.W.Frag} {W : Wd} {H : Hp} {h : LH} {T : String} {x : LV} {v : V} (rh : RepH K W H h) (r : Rep K W x v) (e : tyL T x h = true) : tyV K T v H := by
  unfold tyL at e
  split at e
  · rw [rep_str r]; exact beq_iff_eq.mp e
  · unfold Rep at r
    obtain ⟨a, vs, rfl, q, s⟩ := r
    exact .inl ⟨beq_iff_eq.mp e, vs, sqL_mono rh.sub q⟩
  · split at e
    · rename_i hn
      obtain ⟨a, vs, rfl, _, e1, q1⟩ := rh.lst r hn
      exact .inl ⟨beq_iff_eq.mp e, vs, SqL.of e1⟩
    · cases e
  · cases e
theorem se_bm {f : FM} {name : Str} {apos cpos : Pos} (pa : PlainAttrs T) (slot : Slot T name id) (hty : typeOf (.builtin id) = pure (.type "method_descriptor")) (hm : MtR X id (rOM X.K f)) (ho : SE X mo o) (ha : SA X ms (e :: es))
    (hbase : attributeBase o name X.env (eval o X.env) = eval o X.env := by rfl)
    (hfew : ((backTo cpos (starEach (e :: es) X.env)).all (fun x => !x.1) && (backToKw cpos (keywordEach [] X.env)).all (fun x => x.1.isSome)
      && decide ((e :: es).length + ([] : List Keyword).length + (if ([] : List Keyword).isEmpty then 0 else 1) < 30)) = true := by rfl)
    (hline : (apos.endLine == cpos.line) = true := by rfl) (hs : starEach (e :: es) X.env = (false, eval e X.env) :: starEach es X.env := by rfl) (hplain : (backTo cpos (starEach es X.env)).any (·.1) = false := by rfl) :
    SE X (eBM T f mo ms) (.Call (.Attribute o name apos) (e :: es) [] cpos) := fun E tk =>
  pe_wk (pe_bm pa slot hty hm (ho E tk) (ha E tk) hbase hfew hline hs hplain) fun σ H Q ⟨W, ρ, h, rs, rh, p⟩ => by
    refine ⟨W, ρ, h, rs, rh, (PO_bnd p).imp (fun v H1 ⟨W1, x, h1, l1, r1, rh1, p1⟩ => ?_) fun _ _ _ z => z⟩
    split at p1
    · rename_i ht
      refine ⟨tyL_of rh1 r1 ht, W1, ρ, h1, rs.mono l1, rh1, ?_⟩
      have p2 := PO_bndL p1
      cases e2 : ms ρ h1 with
      | ok xs h2 =>
        rw [e2] at p2
        refine fun W2 vs H2 l2 r2 rh2 => ?_
        obtain ⟨W3, ys, h3, l3, r3, rh3, p3⟩ := p2 W2 vs H2 l2 r2 rh2
        exact ⟨W3, h3, x, ys, r1.mono l3, r3, rh3, PO_lft p3⟩
      | exc c fs h2 => rw [e2] at p2; exact p2
      | bad => rw [e2] at p2; exact p2
    · exact p1.elim
theorem se_bm0 {f : FM} {name : Str} {apos cpos : Pos} (pa : PlainAttrs T) (slot : Slot T name id) (hty : typeOf (.builtin id) = pure (.type "method_descriptor")) (hm : MtR X id (rOM X.K f)) (ho : SE X mo o)
    (hbase : attributeBase o name X.env (eval o X.env) = eval o X.env := by rfl) (hline : (apos.endLine == cpos.line) = true := by rfl) :
    SE X (eBM T f mo aN) (.Call (.Attribute o name apos) [] [] cpos) := fun E tk =>
  pe_wk (pe_bm0 pa slot hty hm (ho E tk) hbase hline) fun σ H Q ⟨W, ρ, h, rs, rh, p⟩ => by
    refine ⟨W, ρ, h, rs, rh, (PO_bnd p).imp (fun v H1 ⟨W1, x, h1, l1, r1, rh1, p1⟩ => ?_) fun _ _ _ z => z⟩
    split at p1
    · rename_i ht
      have p2 : PO X.K (lft (f x [] h1)) W1 Q (fun c d H' => E c d σ H') := p1
      exact ⟨tyL_of rh1 r1 ht, W1, h1, x, [], r1, .nil, rh1, PO_lft p2⟩
    · exact p1.elim
/-- a list is rewritten -/
def onLst (x : LV) (h : LH) (g : List LV → Option (LV × List LV)) : Option (LV × LH) := match x with
  | .ptr n => (match h[n]? with
    | some (.lst xs) => (match g xs with
      | some (y, ys) => some (y, h.set n (.lst ys))
      | none => none)
    | _ => none)
  | _ => none
theorem onLst_of {K : PySem.W.Frag} {W : Wd} {H : Hp} {h : LH} {x : LV} {v : V} {g : List LV → Option (LV × List LV)} {Q : VK} (rh : RepH K W H h) (r : Rep K W x v) (p : POo K (onLst x h g) W Q) :
    ∃ l xs vs y ys, v = .ref l ∧ H l = some (.lst vs) ∧ RepL K W xs vs ∧ g xs = some (y, ys) ∧ ∀ u us, Rep K W y u → RepL K W ys us → Q u (upd H l (.lst us)) := by
  unfold onLst at p
  split at p
  · split at p
    · rename_i xs hn
      split at p
      · rename_i y ys hg
        obtain ⟨a, vs, rfl, ha, e1, q1⟩ := rh.lst r hn
        exact ⟨a, xs, vs, y, ys, rfl, e1, q1, hg, fun u us r1 r2 => p W u _ (.refl W) r1 (rh.write (mo' := .lst ys) ha hn (by intro z; cases z) ⟨us, upd_same, r2⟩)⟩
      · exact p.elim
    · exact p.elim
  · exact p.elim
def fAppend : FM := fun x ys h => match ys with
  | [y] => onLst x h fun xs => if xs.length < sizeLine then some (.non, xs ++ [y]) else none
  | _ => none
theorem m_append : MtR X "list.append" (rOM X.K fAppend) := by
  intro pins s σ H x xs v us Q I rx rxs ⟨W, h, lx, ls, r1, r2, rh, p⟩
  unfold fAppend at p
  split at p
  · obtain ⟨u, rfl, q⟩ := repl_one r2
    obtain ⟨l, xs, vs, y, ys, rfl, e1, q1, hg, hQ⟩ := onLst_of rh r1 p
    split at hg
    · rename_i hz
      cases hg
      exact mt_append pins s σ H _ _ v us Q I rx rxs ⟨l, vs, _, rfl, rfl, e1, by rw [← q1.length]; exact hz, hQ _ _ rep_non' (q1.append (.cons q .nil))⟩
    · cases hg
  · exact p.elim
def fExtend : FM := fun x ys h => match ys with
  | [.ptr m] => (match h[m]? with
    | some (.lst zs) => onLst x h fun xs => if xs.length + zs.length ≤ sizeLine then some (.non, xs ++ zs) else none
    | _ => none)
  | _ => none
theorem m_extend : MtR X "list.extend" (rOM X.K fExtend) := by
  intro pins s σ H x xs v us Q I rx rxs ⟨W, h, lx, ls, r1, r2, rh, p⟩
  unfold fExtend at p
  split at p
  · split at p
    · rename_i zs hm
      obtain ⟨u, rfl, q⟩ := repl_one r2
      obtain ⟨b, ws, rfl, _, e2, q2⟩ := rh.lst q hm
      obtain ⟨l, xs, vs, y, ys, rfl, e1, q1, hg, hQ⟩ := onLst_of rh r1 p
      split at hg
      · rename_i hz
        cases hg
        exact mt_extend pins s σ H _ _ v us Q I rx rxs ⟨l, b, vs, ws, rfl, rfl, e1, e2, by rw [← q1.length, ← q2.length]; exact hz, hQ _ _ rep_non' (q1.append q2)⟩
      · cases hg
    · exact p.elim
  · exact p.elim
theorem RepL.dropLast {K : PySem.W.Frag} {W : Wd} {xs : List LV} {vs : List V} (r : RepL K W xs vs) : RepL K W xs.dropLast vs.dropLast := by
  rw [List.dropLast_eq_take, List.dropLast_eq_take, r.length]
  exact r.take _
theorem RepL.eraseIdx {K : PySem.W.Frag} {W : Wd} : ∀ {xs : List LV} {vs : List V} (i : Nat), RepL K W xs vs → RepL K W (xs.eraseIdx i) (vs.eraseIdx i)
  | [], _, _, h => by unfold RepL at h; rw [h]; exact .nil
  | x :: xs, _, 0, h => by
    unfold RepL at h
    obtain ⟨v, r, rfl, q, s⟩ := h
    exact s
  | x :: xs, _, i + 1, h => by
    unfold RepL at h
    obtain ⟨v, r, rfl, q, s⟩ := h
    exact .cons q (RepL.eraseIdx i s)
def fPop : FM := fun x ys h => match ys with
  | [] => onLst x h fun xs => (match xs[xs.length - 1]? with
    | some y => some (y, xs.dropLast)
    | none => none)
  | _ => none
theorem m_pop : MtR X "list.pop" (rOM X.K fPop) := by
  intro pins s σ H x xs v us Q I rx rxs ⟨W, h, lx, ls, r1, r2, rh, p⟩
  unfold fPop at p
  split at p
  · unfold RepL at r2
    subst r2
    obtain ⟨l, xs, vs, y, ys, rfl, e1, q1, hg, hQ⟩ := onLst_of rh r1 p
    split at hg
    · rename_i y hy
      cases hg
      obtain ⟨u, e2, q2⟩ := q1.get hy
      rw [q1.length] at e2
      exact mt_pop pins s σ H _ _ v us Q I rx rxs ⟨l, vs, u, rfl, rfl, e1, e2, hQ _ _ q2 q1.dropLast⟩
    · cases hg
  · exact p.elim
def fPopAt : FM := fun x ys h => match ys with
  | [.int i] => onLst x h fun xs => if -(2 ^ 63) ≤ i ∧ i < 2 ^ 63 then (match seqIndex? i xs.length with
    | some k => (match xs[k]? with
      | some y => some (y, xs.eraseIdx k)
      | none => none)
    | none => none) else none
  | _ => none
theorem m_popat : MtR X "list.pop" (rOM X.K fPopAt) := by
  intro pins s σ H x xs v us Q I rx rxs ⟨W, h, lx, ls, r1, r2, rh, p⟩
  unfold fPopAt at p
  split at p
  · rename_i i
    obtain ⟨w, rfl, q⟩ := repl_one r2
    obtain ⟨l, xs, vs, y, ys, rfl, e1, q1, hg, hQ⟩ := onLst_of rh r1 p
    split at hg
    · rename_i hz
      split at hg
      · rename_i k hk
        split at hg
        · rename_i y hy
          cases hg
          obtain ⟨u, e2, q2⟩ := q1.get hy
          exact mt_popAt pins s σ H _ _ v us Q I rx rxs ⟨l, vs, i, k, u, rfl, by rw [rep_int q], e1, hz.1, hz.2, by rw [← q1.length]; exact hk, e2, hQ _ _ q2 (q1.eraseIdx k)⟩
        · cases hg
      · cases hg
    · cases hg
  · exact p.elim
def fReverse : FM := fun x ys h => match ys with
  | [] => onLst x h fun xs => some (.non, xs.reverse)
  | _ => none
theorem m_reverse : MtR X "list.reverse" (rOM X.K fReverse) := by
  intro pins s σ H x xs v us Q I rx rxs ⟨W, h, lx, ls, r1, r2, rh, p⟩
  unfold fReverse at p
  split at p
  · unfold RepL at r2
    subst r2
    obtain ⟨l, xs, vs, y, ys, rfl, e1, q1, hg, hQ⟩ := onLst_of rh r1 p
    cases hg
    exact mt_reverse pins s σ H _ _ v us Q I rx rxs ⟨l, vs, rfl, rfl, e1, hQ _ _ rep_non' q1.reverse⟩
  · exact p.elim
def fClear : FM := fun x ys h => match ys with
  | [] => onLst x h fun xs => some (.non, [])
  | _ => none
theorem m_clear : MtR X "list.clear" (rOM X.K fClear) := by
  intro pins s σ H x xs v us Q I rx rxs ⟨W, h, lx, ls, r1, r2, rh, p⟩
  unfold fClear at p
  split at p
  · unfold RepL at r2
    subst r2
    obtain ⟨l, xs, vs, y, ys, rfl, e1, q1, hg, hQ⟩ := onLst_of rh r1 p
    cases hg
    exact mt_clear pins s σ H _ _ v us Q I rx rxs ⟨l, vs, rfl, rfl, e1, hQ _ _ rep_non' .nil⟩
  · exact p.elim
/-- the first place of an equal one -/
def findIx (p : V → Bool) : List V → Nat → Option Nat
  | [], _ => none
  | y :: ys, k => if p y = true then some k else findIx p ys (k + 1)
theorem findIx_is {p : V → Bool} : ∀ {ys : List V} {k j : Nat}, findIx p ys k = some j → ∃ i z, j = k + i ∧ ys[i]? = some z ∧ p z = true ∧ ∀ m z', m < i → ys[m]? = some z' → p z' = false
  | [], _, _, e => by cases e
  | y :: ys, k, j, e => by
    unfold findIx at e
    split at e
    · rename_i hp
      cases e
      exact ⟨0, y, rfl, rfl, hp, fun m z' hm => absurd hm (Nat.not_lt_zero m)⟩
    · rename_i hp
      obtain ⟨i, z, e1, e2, e3, e4⟩ := findIx_is e
      refine ⟨i + 1, z, by omega, by simpa using e2, e3, fun m z' hm hz => ?_⟩
      cases m with
      | zero =>
        simp at hz
        subst hz
        simpa using hp
      | succ m => exact e4 m z' (by omega) (by simpa using hz)
def fIndex : FM := fun x ys h => match ys with
  | [y] => (match lstOf x h with
    | some xs => if (scalL y && xs.all scalL) = true then (match findIx (fun z => eqV z (toV y)) (xs.map toV) 0 with
      | some j => some (.int (j : Nat), h)
      | none => none) else none
    | none => none)
  | _ => none
theorem repl_toV {K : PySem.W.Frag} {W : Wd} : ∀ {xs : List LV} {vs : List V}, RepL K W xs vs → xs.all scalL = true → vs = xs.map toV ∧ vs.all flatV = true
  | [], _, r, _ => by unfold RepL at r; rw [r]; exact ⟨rfl, rfl⟩
  | x :: xs, _, r, h => by
    unfold RepL at r
    obtain ⟨v, us, rfl, q, s⟩ := r
    rw [List.all_cons, Bool.and_eq_true] at h
    obtain ⟨h1, h2⟩ := flat_of q h.1
    obtain ⟨h3, h4⟩ := repl_toV s h.2
    exact ⟨by rw [h2, h3]; rfl, by rw [List.all_cons, h1, h4]; rfl⟩
theorem m_index : MtR X "list.index" (rOM X.K fIndex) := by
  intro pins s σ H x xs v us Q I rx rxs ⟨W, h, lx, ls, r1, r2, rh, p⟩
  unfold fIndex at p
  split at p
  · split at p
    · rename_i xs hx
      split at p
      · rename_i hs
        split at p
        · rename_i j hj
          obtain ⟨w, rfl, q⟩ := repl_one r2
          obtain ⟨a, vs, rfl, hq, r3⟩ := lstOf_sq rh r1 hx
          rw [Bool.and_eq_true] at hs
          obtain ⟨h1, h2⟩ := flat_of q hs.1
          obtain ⟨h3, h4⟩ := repl_toV r3 hs.2
          obtain ⟨i, z, e1, e2, e3, e4⟩ := findIx_is hj
          rw [Nat.zero_add] at e1
          subst e1
          rw [← h3] at e2
          refine mt_index pins s σ H _ _ v us Q I rx rxs ⟨a, vs, w, j, z, rfl, rfl, hq, h1, h4, e2, by rw [h2]; exact e3, fun m z' hm hz => ?_, p W _ H (.refl W) (rep_int' _) rh⟩
          rw [h3] at hz
          rw [h2]
          exact e4 m z' hm hz
        · exact p.elim
      · exact p.elim
    · exact p.elim
  · exact p.elim
/-- x.split(sep) -/
def fSplit : FM := fun x ys h => match x, ys with
  | .str a, [.str b] => if (b.length == 0) = false ∧ a.length + 2 ≤ sizeLine then some (.ptr h.length, h ++ [.lst ((Txt.split a b).map LV.str)]) else none
  | _, _ => none
theorem repl_ofStrs {K : PySem.W.Frag} {W : Wd} : ∀ {ys : List Str}, RepL K W (ys.map LV.str) (ys.map V.str)
  | [] => .nil
  | y :: ys => .cons (rep_str' y) repl_ofStrs
theorem m_split : MtR X "str.split" (rOM X.K fSplit) := by
  intro pins s σ H x xs v us Q I rx rxs ⟨W, h, lx, ls, r1, r2, rh, p⟩
  unfold fSplit at p
  split at p
  · split at p
    · rename_i a b hz
      obtain ⟨u, rfl, q⟩ := repl_one r2
      exact mt_split pins s σ H _ _ v us Q I rx rxs ⟨a, b, rep_str r1, by rw [rep_str q], hz.1, hz.2, POo_new rh repl_ofStrs p⟩
    · exact p.elim
  · exact p.elim
/-- sep.join(list of texts) -/
def fJoin : FM := fun x ys h => match x, ys with
  | .str a, [y] => (match seqOf y h with
    | some zs => (match mapO strOf zs with
      | some ts => if (ts.map (·.length)).sum + ts.length * a.length ≤ 16777216 then some (.str (Txt.join a ts), h) else none
      | none => none)
    | none => none)
  | _, _ => none
theorem m_join : MtR X "str.join" (rOM X.K fJoin) := by
  intro pins s σ H x xs v us Q I rx rxs ⟨W, h, lx, ls, r1, r2, rh, p⟩
  unfold fJoin at p
  split at p
  · split at p
    · rename_i zs hzs
      split at p
      · rename_i ts hts
        split at p
        · rename_i hz
          obtain ⟨u, rfl, q⟩ := repl_one r2
          obtain ⟨a1, vs, rfl, hq, r3⟩ := seqOf_sq rh q hzs
          rw [repl_strs r3 hts] at hq
          exact mt_join pins s σ H _ _ v us Q I rx rxs ⟨_, a1, ts, rep_str r1, rfl, hq, hz, p W _ H (.refl W) (rep_str' _) rh⟩
        · exact p.elim
      · exact p.elim
    · exact p.elim
  · exact p.elim
end
end DD
end
section
set_option Elab.async false
set_option linter.all false
set_option maxRecDepth 100000
set_option maxHeartbeats 2000000
/-! D9: functions by numbers; what a body may lean on. -/
namespace DD
open PySem PySem.Spec PyProof.Rows L2

/-! ### nothing said -/
def sBad : MS := fun _ _ => .bad
def eBad : ME := fun _ _ => .bad
theorem s_bad {X : Cx} {st : Stmt} : SS X sBad st := fun E tk po => ⟨fun pins s σ H D I q => by
  obtain ⟨W, ρ, h, rs, rh, p⟩ := q
  exact p.elim⟩
theorem ss_bad {X : Cx} {st : List Stmt} : SSs X sBad st := fun E tk po => ⟨fun pins s σ H D I q => by
  obtain ⟨W, ρ, h, rs, rh, p⟩ := q
  exact p.elim⟩
theorem se_bad {X : Cx} {e : Expr} : SE X eBad e := fun E tk => ⟨fun pins s σ H D I q => by
  obtain ⟨W, ρ, h, rs, rh, p⟩ := q
  exact p.elim⟩

/-! ### constants of the module -/
section
variable {X : Cx} {x : Str} {p : Pos}
theorem se_gint {i : Int} (hg : Gl X x) (hm : ∃ t, X.mg x = some (.int i t)) (hd : (x == ("__debug__" : Str)) = false := by decide) : SE X (eC (.int i)) (.Name x p) := by
  obtain ⟨t, hm⟩ := hm
  exact se_c (pe_glob hg hm ⟨t, rfl⟩ hd)
theorem se_gstr {z : Str} (hg : Gl X x) (hm : ∃ t, X.mg x = some (.str z t)) (hd : (x == ("__debug__" : Str)) = false := by decide) : SE X (eC (.str z)) (.Name x p) := by
  obtain ⟨t, hm⟩ := hm
  exact se_c (pe_glob hg hm ⟨t, rfl⟩ hd)
end

/-! ### l.count(x) of flat items -/
def sD : LV → PyData
  | .bl b => .bool b
  | .int i => .int i
  | .str s => .str s
  | _ => .none
def fCount : FM := fun x ys h => match ys with
  | [y] => (match lstOf x h with
    | some xs => if (scalL y && xs.all scalL) = true then some (.int ((xs.countP fun z => PyData.eqv (sD z) (sD y) : Nat) : Int), h) else none
    | none => none)
  | _ => none
theorem sD_dp {K : PySem.W.Frag} {W : Wd} {H : Hp} {x : LV} {v : V} (r : Rep K W x v) (e : scalL x = true) : Dp K H v (sD x) := by
  cases x <;> unfold Rep at r <;> first | (rw [r]; constructor) | cases e
theorem sD_dpAll {K : PySem.W.Frag} {W : Wd} {H : Hp} : ∀ {xs : List LV} {vs : List V}, RepL K W xs vs → xs.all scalL = true → DpAll K H vs (xs.map sD)
  | [], _, r, _ => by unfold RepL at r; rw [r]; exact .nil
  | x :: xs, _, r, e => by
    unfold RepL at r
    obtain ⟨v, us, rfl, q, s⟩ := r
    rw [List.all_cons, Bool.and_eq_true] at e
    exact .cons (sD_dp q e.1) (sD_dpAll s e.2)
theorem sD_plain (x : LV) : (sD x).plain = true := by cases x <;> rfl
theorem sD_depth (x : LV) : (sD x).depth ≤ 1 := by cases x <;> exact Nat.zero_le 1
theorem sD_plains : ∀ xs : List LV, PyData.plainAll (xs.map sD) = true
  | [] => rfl
  | x :: xs => by
    show (PyData.plain (sD x) && PyData.plainAll (xs.map sD)) = true
    rw [sD_plain, sD_plains xs]
    rfl
theorem countP_sD (y : PyData) : ∀ xs : List LV, (xs.map sD).countP (fun z => PyData.eqv z y) = xs.countP fun z => PyData.eqv (sD z) y := fun xs => by rw [List.countP_map]; rfl
theorem m_count {X : Cx} (hu : X.A.units + 65 < cLine) : MtR X "list.count" (rOM X.K fCount) := by
  intro pins s σ H x xs v us Q I rx rxs ⟨W, h, lx, ls, r1, r2, rh, p⟩
  unfold fCount at p
  split at p
  · rename_i y
    split at p
    · rename_i xs hx
      split at p
      · rename_i hs
        rw [Bool.and_eq_true] at hs
        obtain ⟨w, rfl, q⟩ := repl_one r2
        obtain ⟨a, vs, rfl, hq, r3⟩ := lstOf_sq rh r1 hx
        cases rx
        obtain ⟨u, rfl, ru⟩ := rxs.one
        obtain ⟨its, rv, hl, hlen⟩ := I.list hq
        obtain ⟨as, h1⟩ := Dp.readsAll I _ _ its (sD_dpAll r3 hs.2) rv
        obtain ⟨bs, h2⟩ := Dp.reads I _ _ u (sD_dp q hs.1) ru
        refine PySem.SeqAt.count_list_data (xs := xs.map sD) (d := sD y) hl.isList h1 h2 (sD_plains _) (sD_plain _) ?_ ?_
        · have := sD_depth y
          have h3 : min (PyData.depthAll (xs.map sD)) (sD y).depth ≤ (sD y).depth := Nat.min_le_right _ _
          omega
        · rw [countP_sD]
          exact ⟨.int _, H, I.tok _, ⟨_, rfl⟩, p W _ H (.refl W) (rep_int' _) rh⟩
      · exact p.elim
    · exact p.elim
  · exact p.elim

/-! ### C.m(..): a plain def, read of the class -/
structure ClsRd (K : PySem.W.Frag) (C : Addr) (m : Str) (g : Addr) : Prop where
  rd : PySem.W.readsIn K C (.type "type") = true
  ga : PySem.W.specialIn K (.ref C) "__getattribute__" = some (some (.builtin "type.__getattribute__"))
  at_ : PySem.W.findCls K (.ref C) (.type "type") m = some (.val (.ref g))
section
variable {X : Cx} {e o : Expr} {es : List Expr} {ms : MA} {pos apos : Pos} {m : Str} {k : Nat} {g : List LV → LH → Out LV} {pth : Str × Option Str} {ps : List Str} {C : Addr} {pl : Sem Bool}
theorem se_clsm (F : FnG X.prog X.w X.K X.mg X.base k g pth ps []) (hg : ∀ xs h, xs.length ≠ ps.length → g xs h = .bad) (hr : Room k X.A) (hC : PE X o (tC (.ref C))) (R : ClsRd X.K C m (He.fAd X.K pth)) (ha : SA X ms (e :: es))
    (hst : starEach (e :: es) X.env = (false, eval e X.env) :: starEach es X.env := by rfl) (hpl : (backTo pos (starEach es X.env)).any (·.1) = false := by rfl)
    (ht : eval (.Call (.Attribute o m apos) (e :: es) [] pos) X.env = (do
      let ov ← eval o X.env
      standAt apos.atName
      let (f, first) ← holding [ov] (getMethod ov m pl)
      callWith pos f first (backTo pos (starEach (e :: es) X.env)) (backToKw pos (keywordEach [] X.env))) := by rfl) :
    SE X (eCall g ms []) (.Call (.Attribute o m apos) (e :: es) [] pos) := fun E tk => by
  obtain ⟨fd, ds, F1, rd, hb, _⟩ := F.ex
  refine ⟨fun pins s σ H Q I q => ?_⟩
  have q2 := rd_call (ps := ps) (fun W => repL_toV F.sc) hg q
  refine PySem.W.methodCall_KW (pl := pl) (thn (hC.run pins s σ H (fun v H' => v = .ref C ∧ H' = H) I ⟨rfl, rfl⟩) fun u s1 ⟨x, H1, I1, rx, ex, eH⟩ => ?_) ht
  subst ex eH
  obtain rfl : u = Value.ref C := rx
  refine PySem.W.method_cls I1.kIn R.ga (PySem.W.cls_value I1.kIn R.rd R.at_ rfl ?_)
  have I2 := I1.tok (s1.toks + 1)
  refine PySem.W.callWith_K (h₀ := X.base) I2.ok.mod.kin F.kp (thn (ha E tk |>.run pos pins _ σ _ _ I2 q2) fun us s2 ⟨vs, H2, I3, rv, q3⟩ => ⟨I3.kIn, ?_⟩) hst hpl
  exact run_fnSD (E := WE E) F1 hr hb rd (passAt tk σ) I3 rv q3
end

/-! ### a, b, c = e1, e2, e3: three local names -/
def sPar3 (i j l : Nat) (ms : MA) : MS := fun ρ h => sbn (ms ρ h) ρ fun xs h1 => match xs with
  | [x, y, z] => .nx (((ρ.set i (some x)).set j (some y)).set l (some z)) h1
  | _ => .bad
theorem s_par3 {X : Cx} {pos : Pos} {i j l : Nat} {x y z : Str} {a b c : Expr} {ms : MA} {px py pz pt : Pos} {kt k2 pt2} (hc : X.calm = true) (hN : X.N.Nodup) (hi : X.N[i]? = some x) (hj : X.N[j]? = some y) (hl : X.N[l]? = some z) (hij : i ≠ j) (hil : i ≠ l) (hjl : j ≠ l)
    (hx : X.env.scope.names.lookup x = some .local) (hy : X.env.scope.names.lookup y = some .local) (hz : X.env.scope.names.lookup z = some .local) (ha : SA X ms [a, b, c])
    (hw : swappedStores [.Tuple [.Name x px, .Name y py, .Name z pz] kt pt] (.Tuple [a, b, c] k2 pt2) X.env = pure (some [x, y, z]))
    (hs : swapsWithSole [.Tuple [.Name x px, .Name y py, .Name z pz] kt pt] (.Tuple [a, b, c] k2 pt2) pos.line X.env = pure false := by rfl) :
    SS X (sPar3 i j l ms) (.Assign [.Tuple [.Name x px, .Name y py, .Name z pz] kt pt] (.Tuple [a, b, c] k2 pt2) pos) := fun E tk po =>
  ps_wk (ps_par3 hc hN hi hj hl hij hil hjl hx hy hz (ha E tk) hw hs) fun D σ H ⟨W, ρ, h, rs, rh, p⟩ => by
    refine ⟨W, ρ, h, rs, rh, ?_⟩
    have p1 := SPo_sbnL rs p
    cases e2 : ms ρ h with
    | ok xs h2 =>
      rw [e2] at p1
      refine fun W2 vs H2 l2 r2 rh2 => ?_
      obtain ⟨W3, ys, h3, l3, r3, rh3, rs3, p3⟩ := p1 W2 vs H2 l2 r2 rh2
      split at p3
      · unfold RepL at r3
        obtain ⟨v, us, rfl, q1, q2⟩ := r3
        obtain ⟨w, u, rfl, q3, q4⟩ := repl_two q2
        exact ⟨v, w, u, rfl, SPo_nx (((rs3.set q1).set q3).set q4) rh3 p3⟩
      · exact p3.elim
    | exc c fs h2 => rw [e2] at p1; exact p1
    | bad => rw [e2] at p1; exact p1

/-! ### functions by numbers -/
structure FD where
  np : Nat
  nl : Nat
  body : (Nat → List LV → LH → Out LV) → (Nat → List LV → LH → Out LV) → MS
def outOf (o : SO) : Out LV := match o with
  | .nx _ h => .ok .non h
  | .rt v h => .ok v h
  | .exc c fs _ h => .exc c fs h
  | _ => .bad
def runF (d : FD) (fn mk : Nat → List LV → LH → Out LV) (xs : List LV) (h : LH) : Out LV := if xs.length = d.np then outOf (d.body fn mk (xs.map some ++ List.replicate (d.nl - d.np) none) h) else .bad
def callF (tbl : Nat → Option FD) : Nat → Nat → List LV → LH → Out LV
  | 0, _, _, _ => .bad
  | 1, _, _, _ => .bad
  | n + 2, f, xs, h => match tbl f with
    | some d => runF d (callF tbl (n + 1)) (callF tbl n) xs h
    | none => .bad
structure FI where
  path : Str × Option Str
  ps : List Str
  dfl : List LV := []
/-- what the number f is -/
structure FnC (P : Program) (w : World) (K : PySem.W.Frag) (mg : Str → Option Value) (base : Heap) (k : Nat) (g : List LV → LH → Out LV) (i : FI) : Prop where
  at_ : ∀ j, FnG P w K mg base k g i.path i.ps (i.dfl.drop j)
  ne : ∀ xs h, xs.length ≠ i.ps.length → g xs h = .bad
def CallsG (P : Program) (w : World) (K : PySem.W.Frag) (mg : Str → Option Value) (base : Heap) (k : Nat) (fn : Nat → List LV → LH → Out LV) (info : List (Nat × FI)) : Prop := ∀ f i, info.lookup f = some i → FnC P w K mg base k (fn f) i
def AllL {A B : Type} (Q : A → B → Prop) : List (A × B) → Prop
  | [] => True
  | (a, b) :: r => Q a b ∧ AllL Q r
theorem AllL.at {B : Type} {Q : Nat → B → Prop} : ∀ {l : List (Nat × B)} {a : Nat} {b : B}, AllL Q l → l.lookup a = some b → Q a b
  | [], _, _, _, e => by cases e
  | (c, d) :: r, a, b, h, e => by
    rw [List.lookup_cons] at e
    split at e
    · rename_i hc
      cases e
      rw [beq_iff_eq] at hc
      subst hc
      exact h.1
    · exact h.2.at e
/-- the objects of the text that stand behind a function number -/
structure FnT (K : PySem.W.Frag) (mg : Str → Option Value) (i : FI) (name qual : Str) (st : Stmt) : Prop where
  fd : ∃ fd, FunD K name qual (defArgs st) (defBody st) (defScope st) (i.dfl.map toV) [] (He.fAd K i.path) fd ∧ ∀ j, ∃ ds, Vals ((i.dfl.drop j).map toV) ds ∧ Binds K fd i.ps ds
  gl : i.path.2 = none → mg i.path.1 = some (.ref (He.fAd K i.path))
abbrev CxF (P : Program) (w : World) (K : PySem.W.Frag) (mg : Str → Option Value) (base : Heap) (N : List Str) (qual : Str) (sc : Scope) (f : Addr) (cd : Value) (A : Around) (outer : List Env) (s : Shared) (H : Hp) (E : XK) : Cx := cxOf (L2.CX P w) P w K mg base N qual sc f cd A outer s H E
theorem start_repS {K : PySem.W.Frag} {W : Wd} {N : List Str} {xs : List LV} {vs : List V} {np nl : Nat} (r : RepL K W xs vs) (hn : N.length = nl) (hp : xs.length = np) : RepS K W (xs.map some ++ List.replicate (nl - np) none) (L2.start N vs) := by
  subst hn hp
  have hl := r.length
  refine ⟨by simp [L2.start, hl], fun i x e => ?_⟩
  by_cases hi : i < xs.length
  · rw [List.getElem?_append_left (by simpa using hi), List.getElem?_map] at e
    obtain ⟨y, e1, e2⟩ := Option.map_eq_some_iff.mp e
    cases e2
    obtain ⟨v, e3, e4⟩ := r.get e1
    refine ⟨v, ?_, e4⟩
    unfold L2.start
    rw [List.getElem?_append_left (by simpa [← hl] using hi), List.getElem?_map, e3]
    rfl
  · rw [List.getElem?_append_right (by simpa using hi)] at e
    have := List.mem_of_getElem? e
    simp at this
theorem lvl0 {P : Program} {w : World} {K : PySem.W.Frag} {mg : Str → Option Value} {base : Heap} {k : Nat} {g : List LV → LH → Out LV} {i : FI} {name qual : Str} {st : Stmt} (hg : ∀ xs h, g xs h = .bad) (T : FnT K mg i name qual st) (hs : i.dfl.all scalL = true) : FnC P w K mg base k g i := by
  obtain ⟨fd, FD, hb⟩ := T.fd
  refine ⟨fun j => ?_, fun xs h _ => hg xs h⟩
  obtain ⟨ds, hd, hB⟩ := hb j
  obtain ⟨oc, od, _, _, _, _, _, _, _, osl, _, lk, _⟩ := id FD.ex
  refine ⟨⟨fd, ds, ⟨fun vs H Q E q => q.1, fun A outer s H args us vs Q E hr e0 bd rv q => ?_⟩, hd, hB, oc, od, osl, lk⟩, FD.kp, ?_, T.gl⟩
  · obtain ⟨_, W, h, xs, r, rh, p⟩ := q
    rw [hg] at p
    exact p.elim
  · exact List.all_eq_true.mpr fun x hx => List.all_eq_true.mp hs x (List.mem_of_mem_drop hx)
/-- a def whose body is done -/
theorem lvlS {P : Program} {w : World} {K : PySem.W.Frag} {mg : Str → Option Value} {base : Heap} {n : Nat} {d : FD} {fn mk : Nat → List LV → LH → Out LV} {N : List Str} {i : FI} {name qual : Str} {st : Stmt} (T : FnT K mg i name qual st) (hs : i.dfl.all scalL = true)
    (S : FnScope N i.ps (defScope st)) (hp : d.np = i.ps.length) (hl : d.nl = N.length)
    (hb : ∀ (f : Addr) (cd : Value) (A : Around) (outer : List Env) (s : Shared) (H : Hp) (E : XK), Room n (CxF P w K mg base N qual (defScope st) f cd A outer s H E).A → SSs (CxF P w K mg base N qual (defScope st) f cd A outer s H E) (d.body fn mk) (defBody st)) :
    FnC P w K mg base (n + 1) (runF d fn mk) i := by
  obtain ⟨fd, F, hbi⟩ := T.fd
  have hne : ∀ xs h, xs.length ≠ i.ps.length → runF d fn mk xs h = .bad := fun xs h q => by
    unfold runF
    rw [if_neg (by rw [hp]; exact q)]
  have ok : FnOk P w K mg base (L2.CX P w) (n + 1) (He.fAd K i.path) fd i.ps (spOf K (runF d fn mk) i.ps.length) := by
    refine F.ok S (fun vs H Q E q => q.1) fun cdv A outer s H vs Q E hr q => ?_
    refine ⟨_, hb _ cdv A outer s H E hr _ (takes_of (E := E) rfl rfl rfl rfl) (passes_of rfl), ?_⟩
    obtain ⟨hlen, W, h, xs, r, rh, p⟩ := q
    have hx : xs.length = d.np := by rw [r.length, hp]; exact hlen
    refine ⟨W, _, h, start_repS r hl.symm hx, rh, ?_⟩
    unfold runF at p
    rw [if_pos hx] at p
    cases e : d.body fn mk (xs.map some ++ List.replicate (d.nl - d.np) none) h with
    | nx ρ h' => rw [e] at p; exact fun W' σ' H' l rs' rh' => p W' _ H' l rep_non' rh'
    | rt v h' => rw [e] at p; exact fun W' v' H' l rv rh' => p W' v' H' l rv rh'
    | exc c fs ρ h' => rw [e] at p; exact fun W' cls dd σ' H' l rx rs rh' => p W' cls dd H' l rx rh'
    | bk ρ h' => rw [e] at p; exact p.elim
    | ct ρ h' => rw [e] at p; exact p.elim
    | bad => rw [e] at p; exact p.elim
  refine ⟨fun j => ?_, hne⟩
  obtain ⟨ds, hd, hB⟩ := hbi j
  obtain ⟨oc, od, _, _, _, _, _, _, _, osl, _, lk, _⟩ := id F.ex
  exact ⟨⟨fd, ds, ok, hd, hB, oc, od, osl, lk⟩, F.kp, List.all_eq_true.mpr fun x hx => List.all_eq_true.mp hs x (List.mem_of_mem_drop hx), T.gl⟩

/-! ### classes by numbers -/
/-- a class that is called: its __init__ is the function number fi -/
structure ClsT (K : PySem.W.Frag) (mg : Str → Option Value) (c : Nat) : Prop where
  cls : ClsG K c
  gl : mg (cname c) = some (.ref (ca K c))
theorem mkG_of {P : Program} {w : World} {K : PySem.W.Frag} {mg : Str → Option Value} {base : Heap} {k : Nat} {g : List LV → LH → Out LV} {i : FI} {c : Nat} (C : ClsT K mg c) (M : Mk K (ca K c) (He.fAd K i.path)) (F : FnC P w K mg base k g i) (j : Nat) : MkG P w K mg base k g c i.path i.ps (i.dfl.drop j) :=
  ⟨C.cls, C.gl, M, F.at_ j⟩
end DD
end
section
set_option Elab.async false
set_option maxRecDepth 100000
set_option maxHeartbeats 4000000
namespace Hc
open PySem PySem.Spec PyProof.Rows L2
/-! the part of the heap that the facts speak of, reached by names, forced step by step -/
def fNats {α : Type} : List Nat → (List Nat → α) → α
  | [], k => k []
  | a :: r, k => HandSHeadRun.frNat a fun a => fNats r fun r => k (a :: r)
theorem fNats_eq {α : Type} : ∀ (l : List Nat) (k : List Nat → α), fNats l k = k l
  | [], _ => rfl
  | a :: r, k => by
    show HandSHeadRun.frNat a (fun a => fNats r fun r => k (a :: r)) = _
    rw [HandSHeadRun.frNat_eq, fNats_eq r]
def fEnts {α : Type} : List DictEntry → (List DictEntry → α) → α
  | [], k => k []
  | ⟨a, b, c⟩ :: r, k => fEnts r fun r => k (⟨a, b, c⟩ :: r)
theorem fEnts_eq {α : Type} : ∀ (l : List DictEntry) (k : List DictEntry → α), fEnts l k = k l
  | [], _ => rfl
  | ⟨a, b, c⟩ :: r, k => by
    show fEnts r (fun r => k (⟨a, b, c⟩ :: r)) = _
    rw [fEnts_eq r]
def fData {α : Type} (d : Data) (k : Data → α) : α := match d with
  | .dict ⟨l⟩ ep => fEnts l fun l => k (.dict ⟨l⟩ ep)
  | .cls ⟨a, b, c, d, e, f, g, h, i, j, l⟩ => HandSHeadRun.frNat d fun d => k (.cls ⟨a, b, c, d, e, f, g, h, i, j, l⟩)
  | .func ⟨a, b, c, d, e, f, g, h, i, j, l, m, n, o, p⟩ => k (.func ⟨a, b, c, d, e, f, g, h, i, j, l, m, n, o, p⟩)
  | d => k d
theorem fData_eq {α : Type} (d : Data) (k : Data → α) : fData d k = k d := by
  unfold fData
  split
  · rw [fEnts_eq]
  · rw [HandSHeadRun.frNat_eq]
  · rfl
  · rfl
def fObj {α : Type} (o : Obj) (k : Obj → α) : α := match o with
  | ⟨c, d, dt, sl⟩ => fData dt fun dt => k ⟨c, d, dt, sl⟩
theorem fObj_eq {α : Type} (o : Obj) (k : Obj → α) : fObj o k = k o := by
  obtain ⟨c, d, dt, sl⟩ := o
  show fData dt (fun dt => k ⟨c, d, dt, sl⟩) = _
  rw [fData_eq]
def fGet {α : Type} (g : Addr → Option Obj) : List Addr → (PySem.W.Frag → α) → α
  | [], k => k []
  | a :: r, k => match g a with
    | some o => fObj o fun o => fGet g r fun K => k ((a, o) :: K)
    | none => fGet g r k
theorem fGet_eq {α : Type} (g : Addr → Option Obj) : ∀ (l : List Addr) (k : PySem.W.Frag → α), fGet g l k = k (He.frG g l)
  | [], _ => rfl
  | a :: r, k => by
    show (match g a with
      | some o => fObj o fun o => fGet g r fun K => k ((a, o) :: K)
      | none => fGet g r k) = k ((a :: r).filterMap fun a => (g a).map fun o => (a, o))
    rw [List.filterMap_cons]
    cases g a with
    | none => exact fGet_eq g r k
    | some o =>
      show fObj o (fun o => fGet g r fun K => k ((a, o) :: K)) = _
      rw [fObj_eq, fGet_eq g r]
      rfl
def refs1 : Value → List Addr
  | .ref a => [a]
  | _ => []
def nsOf (p : Addr × Obj) : List Addr := match p.2.data with
  | .cls cd => [cd.ns]
  | _ => []
def inNs (p : Addr × Obj) : List Addr := match p.2.data with
  | .dict es _ => es.toList.flatMap fun e => refs1 e.val
  | _ => []
def ofFn (p : Addr × Obj) : List Addr := match p.2.data with
  | .func f => refs1 f.code ++ refs1 f.defaults
  | _ => []
section
variable {α : Type} (g : Addr → Option Obj) (fs cs : List Str)
def part (k : PySem.W.Frag → α) : α :=
  fGet g [mainGlobals, cStatics] fun K0 => fNats (fs.map (He.ga K0)) fun A1 => fNats (cs.map (He.ga K0)) fun A2 => fGet g A2 fun K2 => fNats (K2.flatMap nsOf) fun A3 => fGet g A3 fun K3 =>
    fNats (K3.flatMap inNs) fun A4 => fGet g (A1 ++ A4) fun K4 => fNats (K4.flatMap ofFn) fun A5 => fGet g A5 fun K5 => k (K0 ++ (K2 ++ (K3 ++ (K4 ++ K5))))
def partP : PySem.W.Frag :=
  let K0 := He.frG g [mainGlobals, cStatics]
  let K2 := He.frG g (cs.map (He.ga K0))
  let K3 := He.frG g (K2.flatMap nsOf)
  let K4 := He.frG g (fs.map (He.ga K0) ++ K3.flatMap inNs)
  K0 ++ (K2 ++ (K3 ++ (K4 ++ He.frG g (K4.flatMap ofFn))))
theorem part_eq (k : PySem.W.Frag → α) : part g fs cs k = k (partP g fs cs) := by
  unfold part partP
  simp only [fGet_eq, fNats_eq]
end
def Sub (g : Addr → Option Obj) (K : PySem.W.Frag) : Prop := ∀ a o, K.lookup a = some o → g a = some o
theorem sub_frG {g : Addr → Option Obj} {as : List Addr} : Sub g (He.frG g as) := fun _ _ e => He.frG_at as e
theorem sub_app {g : Addr → Option Obj} {K J : PySem.W.Frag} (a : Sub g K) (b : Sub g J) : Sub g (K ++ J) := fun x o e => by
  rw [List.lookup_append] at e
  cases h : K.lookup x with
  | some u =>
    rw [h] at e
    exact a x o (by rw [h]; exact e)
  | none =>
    rw [h] at e
    exact b x o e
theorem sub_part {g : Addr → Option Obj} {fs cs : List Str} : Sub g (partP g fs cs) :=
  sub_app sub_frG (sub_app sub_frG (sub_app sub_frG (sub_app sub_frG sub_frG)))
/-- the hook: what chk tells of the part, and each def as it stands -/
def obs (fs cs : List Str) (chk : PySem.W.Frag → Bool) (fn : List He.DefD) (g : Addr → Option Obj) : He.AlD := part g fs cs fun K => (chk K && fn.all fun d => d.ok K, fn.map fun d => He.fnW K d.at_)
def Says (chk : PySem.W.Frag → Bool) (fn : List He.DefD) (K : PySem.W.Frag) : Prop := (chk K && fn.all (fun d => d.ok K), fn.map fun d => He.fnW K d.at_) = He.valD fn
def hook (fs cs : List Str) (chk : PySem.W.Frag → Bool) (fn : List He.DefD) : PySem.W.Hook where
  α := He.AlD
  obs := fun s => obs fs cs chk fn s.heap.get?
  val := fun _ => He.valD fn
  says := fun _ h => ∃ K : PySem.W.Frag, K.In h ∧ Says chk fn K
  of := fun _ s e => by
    have e2 : obs fs cs chk fn s.heap.get? = He.valD fn := e
    unfold obs at e2
    rw [part_eq] at e2
    exact ⟨_, sub_part, e2⟩
  keeps := fun _ _ _ ⟨K, hK, c⟩ k => ⟨K, PySem.W.Frag.In.keeps hK k, c⟩
theorem obs_eq {fs cs : List Str} {chk : PySem.W.Frag → Bool} {fn : List He.DefD} {g : Addr → Option Obj} {s : Shared} (h : ∀ a, g a = s.heap.get? a) : obs fs cs chk fn g = (hook fs cs chk fn).obs s := by
  have e : g = s.heap.get? := funext h
  rw [e] <;> rfl
section
variable {chk : PySem.W.Frag → Bool} {fn : List He.DefD} {K : PySem.W.Frag}
theorem Says.fact (c : Says chk fn K) : chk K = true := (He.ba (congrArg (fun z : He.AlD => z.1) c)).1
theorem Says.def_ (c : Says chk fn K) (i : Nat) {d : He.DefD} (h : fn[i]? = some d) : ∃ fd, FunD K d.name d.qual d.params d.body d.scope (d.dvs K) (d.kws K) (He.fAd K d.at_) fd := by
  have c2 := (He.ba (congrArg (fun z : He.AlD => z.1) c)).2
  have e : fn.map (fun d => He.fnW K d.at_) = fn.map He.DefD.val := congrArg (fun z : He.AlD => z.2) c
  have e2 : (fn.map fun d => He.fnW K d.at_)[i]? = (fn.map He.DefD.val)[i]? := by rw [e]
  rw [List.getElem?_map, List.getElem?_map, h] at e2
  exact He.DefD.funD (Option.some.inj e2) (List.all_eq_true.mp c2 d (List.mem_of_getElem? h))
end
end Hc
end
section
set_option Elab.async false
set_option linter.all false
set_option maxRecDepth 100000
set_option maxHeartbeats 2000000
/-! D10: what the text gives, and how the head's check tells it. -/
namespace DD
open PySem PySem.Spec PyProof.Rows L2

def nM : Nat := 30
theorem mtab_lt : ∀ c m f, mtab c m = some f → m < nM ∧ f < 500 := by
  intro c m f h
  unfold mtab at h
  split at h <;> first | (cases h; exact ⟨by decide, by decide⟩) | cases h
/-! ### a class, checked -/
def eqv (a b : Option (Option Value)) : Bool := He.eqO a b
def clsB (K : PySem.W.Frag) (c : Nat) : Bool :=
  decide (c < nC) && (hereB K c && ((He.Fa.cls (cname c)).ok K && ((names c).all (fun f => (He.Fa.noat (cname c) f).ok K) && (decide (names c).Nodup && (decide ((names c).length ≤ 900) &&
  (eqv (PySem.W.findIn K (.ref (ca K c)) "__class__") (some (some (.builtin "object.__class__"))) && (eqv (PySem.W.specialIn K (.builtin "object.__class__") "__get__") (some (some (.builtin "getset_descriptor.__get__"))) &&
  (decide (PySem.W.takesIn K (.builtin "object.__class__") = some true) && (decide (PySem.W.mroIn K (ca K c) (.type "object") = some true) &&
  ((List.range nC).all (fun d => isexc d || (!hereB K d || decide (PySem.W.kitOne K (.ref (ca K c)) (.ref (ca K d)) = some (isub c d)))) &&
  (List.range nM).all (fun m => match mtab c m with
    | some f => (He.Fa.meth (cname c) (mname m)).ok K && (decide (He.ma K (ca K c) (mname m) = He.fAd K (fpath f)) && !(names c).contains (mname m))
    | none => true)))))))))))
theorem clsB_ok {K : PySem.W.Frag} {c : Nat} (h : clsB K c = true) : ClsG K c := by
  unfold clsB at h
  obtain ⟨h1, h⟩ := He.ba h
  obtain ⟨h2, h⟩ := He.ba h
  obtain ⟨h3, h⟩ := He.ba h
  obtain ⟨h4, h⟩ := He.ba h
  obtain ⟨h5, h⟩ := He.ba h
  obtain ⟨h6, h⟩ := He.ba h
  obtain ⟨h7, h⟩ := He.ba h
  obtain ⟨h8, h⟩ := He.ba h
  obtain ⟨h9, h⟩ := He.ba h
  obtain ⟨h10, h⟩ := He.ba h
  obtain ⟨h11, h12⟩ := He.ba h
  refine ⟨of_decide_eq_true h1, h2, He.cls_ok h3, fun f hf => He.noat_ok (List.all_eq_true.mp h4 f hf), of_decide_eq_true h5, of_decide_eq_true h6, He.eqO_ok h7, He.eqO_ok h8, of_decide_eq_true h9, of_decide_eq_true h10, fun d hd he hh => ?_, fun m f hm => ?_⟩
  · have q := List.all_eq_true.mp h11 d (List.mem_range.mpr hd)
    rw [he, hh] at q
    simp only [Bool.false_or, Bool.not_true, decide_eq_true_eq] at q
    exact q
  · have q := List.all_eq_true.mp h12 m (List.mem_range.mpr (mtab_lt c m f hm).1)
    rw [hm] at q
    obtain ⟨q1, q⟩ := He.ba q
    obtain ⟨q2, q3⟩ := He.ba q
    have q4 := He.meth_ok q1
    have q5 := of_decide_eq_true q2
    have q6 : Meth K (ca K c) (mname m) (He.fAd K (fpath f)) := by
      rw [← q5]
      exact q4
    refine ⟨q6, fun z => ?_⟩
    rw [List.contains_iff_mem.mpr z] at q3
    cases q3
def isgB (K : PySem.W.Frag) (d : Nat) : Bool := decide (d < nC) && (!isexc d && (hereB K d && ((He.Fa.glo (cname d)).ok K && dataTys.all fun t => decide (PySem.W.kitOne K (.type t) (.ref (ca K d)) = some false))))
theorem isgB_ok {K : PySem.W.Frag} {mg : Str → Option Value} {h : Heap} (X : K.In h) (G : h.Ns mainGlobals mg) {d : Nat} (e : isgB K d = true) : IsG K mg d := by
  unfold isgB at e
  obtain ⟨h1, e⟩ := He.ba e
  obtain ⟨h2, e⟩ := He.ba e
  obtain ⟨h3, e⟩ := He.ba e
  obtain ⟨h4, h5⟩ := He.ba e
  exact ⟨of_decide_eq_true h1, by simpa using h2, h3, He.glo_ok X G h4, fun t ht => of_decide_eq_true (List.all_eq_true.mp h5 t ht)⟩
def mkB (K : PySem.W.Frag) (c : Nat) (p : Str × Option Str) : Bool := (He.Fa.mkr (cname c)).ok K && decide (He.ma K (ca K c) "__init__" = He.fAd K p)
theorem mkB_ok {K : PySem.W.Frag} {c : Nat} {p : Str × Option Str} (e : mkB K c p = true) : Mk K (ca K c) (He.fAd K p) := by
  obtain ⟨h1, h2⟩ := He.ba e
  rw [← of_decide_eq_true h2]
  exact He.mkr_ok h1
def nwB (K : PySem.W.Frag) (c : Nat) : Bool := PySem.W.makesIn K (ca K c) && (eqv (PySem.W.findIn K (.ref (ca K c)) "__init__") (some (some (.builtin "object.__init__"))) && PySem.W.keepIn K (.ref (ca K c)))
theorem nwB_ok {K : PySem.W.Frag} {mg : Str → Option Value} {c : Nat} (T : ClsT K mg c) (e : nwB K c = true) : MkG0 K mg c := by
  obtain ⟨h1, e⟩ := He.ba e
  obtain ⟨h2, h3⟩ := He.ba e
  exact ⟨T.cls, T.gl, h1, He.eqO_ok h2, h3⟩
def rdB (K : PySem.W.Frag) (c : Nat) (m : Str) (p : Str × Option Str) : Bool := PySem.W.readsIn K (ca K c) (.type "type") && (eqv (PySem.W.specialIn K (.ref (ca K c)) "__getattribute__") (some (some (.builtin "type.__getattribute__"))) &&
  (match PySem.W.findCls K (.ref (ca K c)) (.type "type") m with
    | some (.val (.ref f)) => decide (f = He.fAd K p)
    | _ => false))
theorem rdB_ok {K : PySem.W.Frag} {c : Nat} {m : Str} {p : Str × Option Str} (e : rdB K c m p = true) : ClsRd K (ca K c) m (He.fAd K p) := by
  obtain ⟨h1, e⟩ := He.ba e
  obtain ⟨h2, h3⟩ := He.ba e
  refine ⟨h1, He.eqO_ok h2, ?_⟩
  split at h3
  · rename_i f q
    rw [q, of_decide_eq_true h3]
  · cases h3

/-! ### all that a body may lean on -/
structure TextG (K : PySem.W.Frag) (mg : Str → Option Value) (info : List (Nat × FI)) (cs : List Nat) (inits : List (Nat × Nat)) (news : List Nat) (frees : List Str) (nums : List (Str × Int)) (texts : List (Str × Str)) (rds : List (Nat × Nat)) : Prop where
  cls : ∀ c, cs.elem c = true → ClsT K mg c ∧ IsG K mg c
  ini : ∀ c f i, inits.lookup c = some f → info.lookup f = some i → Mk K (ca K c) (He.fAd K i.path)
  nw : ∀ c, news.elem c = true → MkG0 K mg c
  fr : ∀ x, frees.elem x = true → mg x = none
  ci : ∀ x i, nums.lookup x = some i → ∃ t, mg x = some (.int i t)
  cz : ∀ x i, texts.lookup x = some i → ∃ t, mg x = some (.str i t)
  rd : ∀ c f i, rds.lookup c = some f → info.lookup f = some i → ClsRd K (ca K c) "__init__" (He.fAd K i.path)
def textB (K : PySem.W.Frag) (info : List (Nat × FI)) (cs : List Nat) (inits : List (Nat × Nat)) (news : List Nat) (frees : List Str) (nums : List (Str × Int)) (texts : List (Str × Str)) (rds : List (Nat × Nat)) : Bool :=
  cs.all (fun c => clsB K c && ((He.Fa.glo (cname c)).ok K && isgB K c)) && (inits.all (fun q => match info.lookup q.2 with
    | some i => mkB K q.1 i.path
    | none => true) && (news.all (fun c => cs.elem c && nwB K c) && (frees.all (fun x => (He.Fa.free x).ok K) && (nums.all (fun q => (He.Fa.int q.1 q.2).ok K) && (texts.all (fun q => (He.Fa.str q.1 q.2).ok K) &&
    (rds.all (fun q => match info.lookup q.2 with
    | some i => rdB K q.1 "__init__" i.path
    | none => true) && info.all (fun q => match q.2.path.2 with
      | none => (He.Fa.glo q.2.path.1).ok K
      | some _ => true)))))))
theorem mem_lookup {A B : Type} [BEq A] [LawfulBEq A] : ∀ {l : List (A × B)} {a : A} {b : B}, l.lookup a = some b → (a, b) ∈ l
  | [], _, _, e => by cases e
  | (c, d) :: r, a, b, e => by
    rw [List.lookup_cons] at e
    split at e
    · rename_i hc
      cases e
      rw [beq_iff_eq] at hc
      rw [hc]
      exact List.mem_cons_self
    · exact List.mem_cons_of_mem _ (mem_lookup e)
theorem textB_ok {K : PySem.W.Frag} {mg : Str → Option Value} {h : Heap} {info : List (Nat × FI)} {cs : List Nat} {inits : List (Nat × Nat)} {news : List Nat} {frees : List Str} {nums : List (Str × Int)} {texts : List (Str × Str)} {rds : List (Nat × Nat)} (X : K.In h) (G : h.Ns mainGlobals mg)
    (e : textB K info cs inits news frees nums texts rds = true) : TextG K mg info cs inits news frees nums texts rds ∧ ∀ f i, info.lookup f = some i → i.path.2 = none → mg i.path.1 = some (.ref (He.fAd K i.path)) := by
  unfold textB at e
  obtain ⟨h1, e⟩ := He.ba e
  obtain ⟨h2, e⟩ := He.ba e
  obtain ⟨h3, e⟩ := He.ba e
  obtain ⟨h4, e⟩ := He.ba e
  obtain ⟨h5, e⟩ := He.ba e
  obtain ⟨h6, e⟩ := He.ba e
  obtain ⟨h7, h8⟩ := He.ba e
  have cls : ∀ c, cs.elem c = true → ClsT K mg c ∧ IsG K mg c := fun c hc => by
    obtain ⟨a, b⟩ := He.ba (List.all_eq_true.mp h1 c (List.mem_of_elem_eq_true hc))
    obtain ⟨b, d⟩ := He.ba b
    exact ⟨⟨clsB_ok a, He.glo_ok X G b⟩, isgB_ok X G d⟩
  refine ⟨⟨cls, fun c f i a b => ?_, fun c hc => ?_, fun x hx => He.free_ok X G (List.all_eq_true.mp h4 x (List.mem_of_elem_eq_true hx)), fun x i a => He.int_ok X G (List.all_eq_true.mp h5 (x, i) (mem_lookup a)), fun x i a => He.str_ok X G (List.all_eq_true.mp h6 (x, i) (mem_lookup a)), fun c f i a b => ?_⟩, fun f i a b => ?_⟩
  · have q := List.all_eq_true.mp h2 (c, f) (mem_lookup a)
    dsimp only at q
    rw [b] at q
    exact mkB_ok q
  · obtain ⟨a, b⟩ := He.ba (List.all_eq_true.mp h3 c (List.mem_of_elem_eq_true hc))
    exact nwB_ok (cls c a).1 b
  · have q := List.all_eq_true.mp h7 (c, f) (mem_lookup a)
    dsimp only at q
    rw [b] at q
    exact rdB_ok q
  · have q := List.all_eq_true.mp h8 (f, i) (mem_lookup a)
    dsimp only at q
    rw [b] at q
    have e2 : He.fAd K i.path = He.ga K i.path.1 := by
      unfold He.fAd
      rw [b]
    rw [e2]
    exact He.glo_ok X G q
structure Yv (P : Program) (w : World) (K : PySem.W.Frag) (mg : Str → Option Value) (base : Heap) (n : Nat) (fn mk : Nat → List LV → LH → Out LV) (info : List (Nat × FI)) : Prop where
  f : CallsG P w K mg base (n + 1) fn info
  m : CallsG P w K mg base n mk info
  mt : MtG P w K mg base (n + 1) fn
def onlyB (K : PySem.W.Frag) (cs : List Nat) : Bool := (List.range nC).all fun c => cs.elem c || (isexc c || !hereB K c)
def mtsB (info : List (Nat × FI)) (cs : List Nat) : Bool := cs.all fun c => (List.range nM).all fun m => match mtab c m with
  | some f => (match info.lookup f with
    | some i => decide (i.path = fpath f)
    | none => false)
  | none => true
theorem mtab_c : ∀ c m f, mtab c m = some f → c < nC ∧ isexc c = false := by
  intro c m f h
  unfold mtab at h
  split at h <;> first | (cases h; exact ⟨by decide, by decide⟩) | cases h
theorem mts_of {K : PySem.W.Frag} {info : List (Nat × FI)} {cs : List Nat} (h1 : onlyB K cs = true) (h2 : mtsB info cs = true) : ∀ c m f, hereB K c = true → mtab c m = some f → ∃ i, info.lookup f = some i ∧ i.path = fpath f := by
  intro c m f hc hm
  obtain ⟨a, b⟩ := mtab_c c m f hm
  have q := List.all_eq_true.mp h1 c (List.mem_range.mpr a)
  rw [b, hc] at q
  simp only [Bool.not_true, Bool.or_false] at q
  have r := List.all_eq_true.mp (List.all_eq_true.mp h2 c (List.mem_of_elem_eq_true q)) m (List.mem_range.mpr (mtab_lt c m f hm).1)
  rw [hm] at r
  dsimp only at r
  split at r
  · rename_i i hi
    exact ⟨i, hi, of_decide_eq_true r⟩
  · cases r
/-- methods by their class -/
theorem mtg_of {P : Program} {w : World} {K : PySem.W.Frag} {mg : Str → Option Value} {base : Heap} {k : Nat} {fn : Nat → List LV → LH → Out LV} {info : List (Nat × FI)} (G : CallsG P w K mg base k fn info)
    (hi : ∀ c m f, hereB K c = true → mtab c m = some f → ∃ i, info.lookup f = some i ∧ i.path = fpath f) : MtG P w K mg base k fn := by
  refine ⟨fun c m f hc hm => .inr ?_⟩
  obtain ⟨i, h1, h2⟩ := hi c m f hc hm
  have F := G f i h1
  have q := F.at_ i.dfl.length
  rw [List.drop_length, h2] at q
  exact ⟨i.ps, q, F.ne⟩
theorem units65 {k : Nat} {A : Around} (r : Room k A) : A.units + 65 < cLine := by have := r.un; omega
end DD
end
section
set_option Elab.async false
set_option linter.all false
set_option maxRecDepth 100000
set_option maxHeartbeats 2000000
/-! D11: from the head to the functions, from the functions to the law. -/
namespace DD
open PySem PySem.Spec PyProof.Rows L2

/-- a def of the hook is a function of the table -/
theorem fnT0 {K : PySem.W.Frag} {mg : Str → Option Value} {i : FI} {name qual : Str} {st : Stmt} (hd : i.dfl = []) (F : ∃ fd, FunD K name qual (defArgs st) (defBody st) (defScope st) [] [] (He.fAd K i.path) fd) (gl : i.path.2 = none → mg i.path.1 = some (.ref (He.fAd K i.path)))
    (hb : ∀ (kV doc pm : Value) (an : Option Addr) (cdv ct : Value) (us : List Value), us.length = i.ps.length → bindArgs (PySem.W.fnOf name qual (defArgs st) (defBody st) (defScope st) .none kV doc pm an cdv ct) ⟨us, []⟩ = pure (i.ps.zip us)) : FnT K mg i name qual st := by
  obtain ⟨fd, F⟩ := F
  refine ⟨⟨fd, by rw [hd]; exact F, fun j => ⟨[], by rw [hd, List.drop_nil]; exact .nil, F.bindsN hb⟩⟩, gl⟩
theorem fnT1 {K : PySem.W.Frag} {mg : Str → Option Value} {i : FI} {name qual : Str} {st : Stmt} (hd : i.dfl.map toV ≠ []) (F : ∃ fd, FunD K name qual (defArgs st) (defBody st) (defScope st) (i.dfl.map toV) [] (He.fAd K i.path) fd) (gl : i.path.2 = none → mg i.path.1 = some (.ref (He.fAd K i.path)))
    (hl : i.dfl.length ≤ i.ps.length)
    (hb : ∀ (j : Nat), j ≤ i.dfl.length → ∀ (T : Addr) (kV doc pm : Value) (an : Option Addr) (cdv ct : Value) (us its : List Value), us.length = i.ps.length - (i.dfl.length - j) → its.length = (i.dfl.map toV).length →
      ∃ k, bindArgs (PySem.W.fnOf name qual (defArgs st) (defBody st) (defScope st) (.ref T) kV doc pm an cdv ct) ⟨us, []⟩ = seqItems? (.ref T) >>= k ∧ k (some its.toArray) = pure (i.ps.zip (us ++ its.drop j))) : FnT K mg i name qual st := by
  obtain ⟨fd, F⟩ := F
  have key : ∀ j, j ≤ i.dfl.length → ∃ ds, Vals ((i.dfl.drop j).map toV) ds ∧ Binds K fd i.ps ds := fun j hj => by
    have := F.binds1 (ps := i.ps) (i.ps.length - (i.dfl.length - j)) j hd (by rw [List.length_map]; omega) (hb j hj)
    rwa [← List.map_drop] at this
  refine ⟨⟨fd, F, fun j => ?_⟩, gl⟩
  by_cases hj : j ≤ i.dfl.length
  · exact key j hj
  · have := key i.dfl.length (Nat.le_refl _)
    rw [List.drop_length] at this
    rw [List.drop_eq_nil_of_le (by omega)]
    exact this
/-- at the top nothing flies -/
theorem noexc {P : Program} {w : World} {K : PySem.W.Frag} {mg : Str → Option Value} {base : Heap} {k : Nat} {f : Addr} {fd : FuncData} {ps : List Str} {sp : Sp} (F : FnOk P w K mg base (L2.CX P w) k f fd ps sp) :
    FnOk P w K mg base CX0 k f fd ps (fun vs H Q _ => sp vs H Q fun _ _ _ => False) :=
  ⟨fun vs H Q E h => F.len _ _ _ _ h, fun A outer s H args us vs Q E hr e0 b r h => codeAny_mono (F.run A outer s H args us vs Q _ hr e0 b r h) fun r s' q => by
    cases r with
    | error e =>
      obtain ⟨_, _, _, _, _, _, _, _, _, _, _, _, z⟩ := q
      exact z.elim
    | ok fl =>
      cases fl with
      | ret u => exact q
      | next => exact q
      | brk => exact q
      | cont => exact q⟩
theorem binds_law {K : PySem.W.Frag} {name qual : Str} {st : Stmt} {f : Addr} {fd : FuncData} (F : FunD K name qual (defArgs st) (defBody st) (defScope st) [] [] f fd) (x : Str)
    (h : ∀ (kV doc pm : Value) (an : Option Addr) (cdv ct : Value) (us : List Value), us.length = [x].length → bindArgs (PySem.W.fnOf name qual (defArgs st) (defBody st) (defScope st) .none kV doc pm an cdv ct) ⟨us, []⟩ = pure ([x].zip us)) :
    ∀ (s : Shared) (u : Value), BindsTo s fd ⟨[u], []⟩ [(x, u)] := fun s u => F.bindsA h s [u] rfl
/-- the law's own list, known for good -/
theorem law_start {K : PySem.W.Frag} {H : Hp} {a : Addr} {ns : List Int} {g : List LV → LH → Out LV} {h' : LH} (hS : SqL K H a (ns.map V.int)) (hg : g [.lst (ns.map LV.int)] [] = .ok (.bl true) h') :
    spOf K g 1 [.ref a] H (fun v _ => v = .bl true) fun _ _ _ => False := by
  have ri : ∀ W : Wd, RepL K W (ns.map LV.int) (ns.map V.int) := fun W => by
    induction ns with
    | nil => exact .nil
    | cons i r ih =>
      exact .cons (rep_int' i) (by
        clear ih hS hg
        induction r with
        | nil => exact .nil
        | cons j r ih => exact .cons (rep_int' j) ih)
  refine ⟨rfl, ⟨[], H, fun _ => none⟩, [], [.lst (ns.map LV.int)], .cons (by unfold Rep; exact ⟨a, _, rfl, hS, ri _⟩) .nil, ⟨fun _ _ e => e, rfl, List.nodup_nil, fun n a e => (by simp at e), fun a o e => (by cases e), fun n a e => (by simp at e), fun n a mo e => (by simp at e)⟩, ?_⟩
  rw [hg]
  exact fun W' v H' l r rh => rep_bl r
end DD
end
section
set_option Elab.async false
set_option linter.all false
set_option maxRecDepth 100000
set_option maxHeartbeats 2000000
/-! D12: a call sees of the heap what its arguments reach. -/
namespace DD
open PySem PySem.Spec PyProof.Rows L2

mutual
def renV (f : Nat → Nat) : LV → LV
  | .tup xs => .tup (renL f xs)
  | .lst xs => .lst (renL f xs)
  | .obj c xs => .obj c (renL f xs)
  | .ptr n => .ptr (f n)
  | .non => .non
  | .bl b => .bl b
  | .int i => .int i
  | .str s => .str s
def renL (f : Nat → Nat) : List LV → List LV
  | [] => []
  | x :: r => renV f x :: renL f r
end
mutual
def okV (p : Nat → Bool) : LV → Bool
  | .tup xs => okL p xs
  | .lst xs => okL p xs
  | .obj _ xs => okL p xs
  | .ptr n => p n
  | .non => true
  | .bl _ => true
  | .int _ => true
  | .str _ => true
def okL (p : Nat → Bool) : List LV → Bool
  | [] => true
  | x :: r => okV p x && okL p r
end
def renM (f : Nat → Nat) : MO → MO
  | .lst xs => .lst (renL f xs)
  | .ins c xs => .ins c (renL f xs)
  | .dK kvs => .dK (kvs.map fun q => (q.1, renV f q.2))
  | .dT kvs => .dT (kvs.map fun q => (q.1, renV f q.2))
  | .dead => .dead
def okM (p : Nat → Bool) : MO → Bool
  | .lst xs => okL p xs
  | .ins _ xs => okL p xs
  | .dK kvs => kvs.all fun q => okV p q.2
  | .dT kvs => kvs.all fun q => okV p q.2
  | .dead => true
theorem renL_len (f : Nat → Nat) : ∀ xs, (renL f xs).length = xs.length
  | [] => by unfold renL; rfl
  | x :: r => by unfold renL; simp [renL_len f r]
section
variable {K : PySem.W.Frag} {W W' : Wd} {f : Nat → Nat} {p : Nat → Bool}
theorem Rep.ren (hα : ∀ n a, p n = true → W.α[n]? = some a → W'.α[f n]? = some a) (hf : ∀ a o, W.fz a = some o → W'.fz a = some o) {x : LV} : ∀ {v : V}, okV p x = true → Rep K W x v → Rep K W' (renV f x) v :=
  LV.rec (motive_1 := fun x => ∀ {v : V}, okV p x = true → Rep K W x v → Rep K W' (renV f x) v) (motive_2 := fun xs => ∀ {vs : List V}, okL p xs = true → RepL K W xs vs → RepL K W' (renL f xs) vs)
    (fun _ h => by unfold renV; unfold Rep at h ⊢; exact h) (fun _ _ _ h => by unfold renV; unfold Rep at h ⊢; exact h) (fun _ _ _ h => by unfold renV; unfold Rep at h ⊢; exact h) (fun _ _ _ h => by unfold renV; unfold Rep at h ⊢; exact h)
    (fun xs ih v hp h => by unfold renV; unfold okV at hp; unfold Rep at h ⊢; obtain ⟨a, vs, e, q, r⟩ := h; exact ⟨a, vs, e, hf _ _ q, ih hp r⟩)
    (fun xs ih v hp h => by unfold renV; unfold okV at hp; unfold Rep at h ⊢; obtain ⟨a, vs, e, q, r⟩ := h; exact ⟨a, vs, e, sqL_mono hf q, ih hp r⟩)
    (fun c fs ih v hp h => by unfold renV; unfold okV at hp; unfold Rep at h ⊢; obtain ⟨a, dx, vs, e, g, q, n, r⟩ := h; exact ⟨a, dx, vs, e, g, hf _ _ q, by rw [renL_len]; exact n, ih hp r⟩)
    (fun n v hp h => by unfold renV; unfold okV at hp; unfold Rep at h ⊢; obtain ⟨a, e, q⟩ := h; exact ⟨a, e, hα n a hp q⟩)
    (fun _ h => by unfold renL; unfold RepL at h ⊢; exact h)
    (fun x xs ih1 ih2 vs hp h => by
      unfold renL
      unfold okL at hp
      rw [Bool.and_eq_true] at hp
      unfold RepL at h ⊢
      obtain ⟨v, r, e, q, s⟩ := h
      exact ⟨v, r, e, ih1 hp.1 q, ih2 hp.2 s⟩) x
theorem RepL.ren (hα : ∀ n a, p n = true → W.α[n]? = some a → W'.α[f n]? = some a) (hf : ∀ a o, W.fz a = some o → W'.fz a = some o) : ∀ {xs : List LV} {vs : List V}, okL p xs = true → RepL K W xs vs → RepL K W' (renL f xs) vs
  | [], _, _, h => by unfold renL; unfold RepL at h ⊢; exact h
  | x :: xs, _, hp, h => by
    unfold renL
    unfold okL at hp
    rw [Bool.and_eq_true] at hp
    unfold RepL at h ⊢
    obtain ⟨v, r, e, q, s⟩ := h
    exact ⟨v, r, e, q.ren hα hf hp.1, RepL.ren hα hf hp.2 s⟩
mutual
theorem okV_true : ∀ x : LV, okV (fun _ => true) x = true
  | .tup xs => by unfold okV; exact okL_true xs
  | .lst xs => by unfold okV; exact okL_true xs
  | .obj _ xs => by unfold okV; exact okL_true xs
  | .ptr _ => by unfold okV; rfl
  | .non => by unfold okV; rfl
  | .bl _ => by unfold okV; rfl
  | .int _ => by unfold okV; rfl
  | .str _ => by unfold okV; rfl
theorem okL_true : ∀ xs : List LV, okL (fun _ => true) xs = true
  | [] => by unfold okL; rfl
  | x :: r => by unfold okL; rw [okV_true x, okL_true r]; rfl
end
theorem repl_mapsnd {A : Type} (hα : ∀ n a, p n = true → W.α[n]? = some a → W'.α[f n]? = some a) (hf : ∀ a o, W.fz a = some o → W'.fz a = some o) : ∀ {kvs : List (A × LV)} {vs : List V}, kvs.all (fun q => okV p q.2) = true → RepL K W (kvs.map (·.2)) vs → RepL K W' ((kvs.map fun q => (q.1, renV f q.2)).map (·.2)) vs
  | [], _, _, h => by unfold RepL at h; rw [h]; exact .nil
  | (k, x) :: r, _, hp, h => by
    rw [List.all_cons, Bool.and_eq_true] at hp
    rw [List.map_cons] at h
    unfold RepL at h
    obtain ⟨v, us, rfl, q, s⟩ := h
    rw [List.map_cons, List.map_cons]
    exact .cons (q.ren hα hf hp.1) (repl_mapsnd hα hf hp.2 s)
theorem RepM.ren (hα : ∀ n a, p n = true → W.α[n]? = some a → W'.α[f n]? = some a) (hf : ∀ a o, W.fz a = some o → W'.fz a = some o) {H H' : Hp} {a : Addr} (hH : H' a = H a) : ∀ {mo : MO}, okM p mo = true → RepM K W H a mo → RepM K W' H' a (renM f mo)
  | .lst _, hp, ⟨vs, e, r⟩ => ⟨vs, hH.trans e, r.ren hα hf hp⟩
  | .ins _ _, hp, ⟨dx, vs, e, n, r, g⟩ => ⟨dx, vs, hH.trans e, by rw [renL_len]; exact n, r.ren hα hf hp, g⟩
  | .dK kvs, hp, ⟨k, e, n, r⟩ => ⟨k, hH.trans e, by rw [n, List.map_map]; rfl, repl_mapsnd hα hf hp r⟩
  | .dT kvs, hp, ⟨k, e, n, r⟩ => ⟨k, hH.trans e, by rw [n, List.map_map]; rfl, repl_mapsnd hα hf hp r⟩
  | .dead, _, _ => trivial
theorem okM_true : ∀ mo : MO, okM (fun _ => true) mo = true
  | .lst xs => okL_true xs
  | .ins _ xs => okL_true xs
  | .dK kvs => List.all_eq_true.mpr fun q _ => okV_true q.2
  | .dT kvs => List.all_eq_true.mpr fun q _ => okV_true q.2
  | .dead => rfl
end
/-! ### the part that the arguments reach: a list of places -/
def rootsL : List LV → List Nat
  | [] => []
  | .ptr n :: r => if (rootsL r).contains n = true then rootsL r else n :: rootsL r
  | _ :: r => rootsL r
/-- place i of the part, in the whole -/
def outI (rs : List Nat) (n i : Nat) : Nat := if i < rs.length then rs.getD i 0 else n + (i - rs.length)
def putBack (f : Nat → Nat) (h1 : LH) : List Nat → Nat → LH → LH
  | [], _, h => h
  | q :: r, i, h => putBack f h1 r (i + 1) (h.set q (renM f (h1.getD i .dead)))
def outH (rs : List Nat) (h1 h : LH) : LH := putBack (outI rs h.length) h1 rs 0 h ++ (h1.drop rs.length).map (renM (outI rs h.length))
def inH (rs : List Nat) (h : LH) : LH := rs.map fun q => renM (fun n => rs.idxOf n) (h.getD q .dead)
def frP (g : List LV → LH → Out LV) (xs : List LV) (h : LH) : Out LV :=
  if (okL (fun n => (rootsL xs).contains n) xs && (rootsL xs).all fun q => decide (q < h.length) && okM (fun n => (rootsL xs).contains n) (h.getD q .dead)) = true then (match g (renL (fun n => (rootsL xs).idxOf n) xs) (inH (rootsL xs) h) with
  | .ok x h1 => .ok (renV (outI (rootsL xs) h.length) x) (outH (rootsL xs) h1 h)
  | .exc c fs h1 => .exc c (renL (outI (rootsL xs) h.length) fs) (outH (rootsL xs) h1 h)
  | .bad => .bad) else .bad
theorem rootsL_nodup : ∀ xs : List LV, (rootsL xs).Nodup
  | [] => List.nodup_nil
  | .ptr n :: r => by
    unfold rootsL
    split
    · exact rootsL_nodup r
    · rename_i h
      exact List.nodup_cons.mpr ⟨fun z => h (List.contains_iff_mem.mpr z), rootsL_nodup r⟩
  | .non :: r => by unfold rootsL; exact rootsL_nodup r
  | .bl _ :: r => by unfold rootsL; exact rootsL_nodup r
  | .int _ :: r => by unfold rootsL; exact rootsL_nodup r
  | .str _ :: r => by unfold rootsL; exact rootsL_nodup r
  | .tup _ :: r => by unfold rootsL; exact rootsL_nodup r
  | .lst _ :: r => by unfold rootsL; exact rootsL_nodup r
  | .obj _ _ :: r => by unfold rootsL; exact rootsL_nodup r
theorem putBack_len (f : Nat → Nat) (h1 : LH) : ∀ (rs : List Nat) (i : Nat) (h : LH), (putBack f h1 rs i h).length = h.length
  | [], _, _ => rfl
  | q :: r, i, h => by
    unfold putBack
    rw [putBack_len f h1 r, List.length_set]
theorem putBack_out (f : Nat → Nat) (h1 : LH) : ∀ (rs : List Nat) (i : Nat) (h : LH) (n : Nat), n ∉ rs → (putBack f h1 rs i h)[n]? = h[n]?
  | [], _, _, _, _ => rfl
  | q :: r, i, h, n, hn => by
    unfold putBack
    rw [putBack_out f h1 r _ _ n fun z => hn (List.mem_cons_of_mem _ z), List.getElem?_set_ne fun z => hn (by rw [← z]; exact List.mem_cons_self)]
theorem putBack_in (f : Nat → Nat) (h1 : LH) : ∀ (rs : List Nat) (i : Nat) (h : LH) (j n : Nat), rs.Nodup → rs[j]? = some n → n < h.length → (putBack f h1 rs i h)[n]? = some (renM f (h1.getD (i + j) .dead))
  | [], _, _, _, _, _, e, _ => by simp at e
  | q :: r, i, h, 0, n, nd, e, hl => by
    simp at e
    subst e
    rw [List.nodup_cons] at nd
    unfold putBack
    rw [putBack_out f h1 r _ _ q nd.1, List.getElem?_set_self hl]
    rfl
  | q :: r, i, h, j + 1, n, nd, e, hl => by
    rw [List.nodup_cons] at nd
    unfold putBack
    rw [putBack_in f h1 r (i + 1) _ j n nd.2 (by simpa using e) (by rw [List.length_set]; exact hl)]
    rw [show i + 1 + j = i + (j + 1) by omega]
theorem idx_get : ∀ {rs : List Nat} {n : Nat}, n ∈ rs → rs[rs.idxOf n]? = some n := fun {rs n} h => by
  have := List.idxOf_lt_length_of_mem h
  rw [List.getElem?_eq_getElem this, List.getElem_idxOf]
theorem spOf_frP {K : PySem.W.Frag} {g : List LV → LH → Out LV} {np : Nat} {vs : List V} {H : Hp} {Q : VK} {E : XK} (q : spOf K (frP g) np vs H Q E) : spOf K g np vs H Q E := by
  classical
  obtain ⟨hl, W, h, xs, r, rh, p⟩ := q
  refine ⟨hl, ?_⟩
  unfold frP at p
  split at p
  · rename_i hc
    rw [Bool.and_eq_true] at hc
    obtain ⟨hx, hr⟩ := hc
    generalize hrs : rootsL xs = rs at *
    have nd : rs.Nodup := hrs ▸ rootsL_nodup xs
    have hlt : ∀ q ∈ rs, q < h.length := fun q hq => by
      have := List.all_eq_true.mp hr q hq
      rw [Bool.and_eq_true] at this
      exact of_decide_eq_true this.1
    have hok : ∀ q ∈ rs, okM (fun n => rs.contains n) (h.getD q .dead) = true := fun q hq => by
      have := List.all_eq_true.mp hr q hq
      rw [Bool.and_eq_true] at this
      exact this.2
    -- the addresses of the part
    let A : List Addr := rs.map fun q => W.α.getD q 0
    have hA : ∀ (j q : Nat), rs[j]? = some q → A[j]? = W.α[q]? := fun j q e => by
      have hq : q < W.α.length := by rw [rh.len]; exact hlt q (List.mem_of_getElem? e)
      show (rs.map fun q => W.α.getD q 0)[j]? = _
      rw [List.getElem?_map, e, List.getElem?_eq_getElem hq]
      simp [List.getD, List.getElem?_eq_getElem hq]
    let lk0 : Hp := fun a => if a ∈ W.α ∧ a ∉ A then H a else W.lk a
    let W0 : Wd := ⟨A, W.fz, lk0⟩
    have toA : ∀ n a, rs.contains n = true → W.α[n]? = some a → W0.α[rs.idxOf n]? = some a := fun n a hn e => by
      have := hA (rs.idxOf n) n (idx_get (List.contains_iff_mem.mp hn))
      exact this.trans e
    have A_mem : ∀ a ∈ A, a ∈ W.α := fun a ha => by
      obtain ⟨j, hj⟩ := List.getElem?_of_mem ha
      obtain ⟨q, hq, _⟩ := Option.map_eq_some_iff.mp (by rw [← List.getElem?_map]; exact hj)
      rw [hA j q hq] at hj
      exact List.mem_of_getElem? hj
    have A_nd : A.Nodup := by
      rw [List.nodup_iff_pairwise_ne, List.pairwise_iff_getElem]
      intro i j hi hj hij e
      have hi' : i < rs.length := by simpa [A] using hi
      have hj' : j < rs.length := by simpa [A] using hj
      have e1 := hA i _ (List.getElem?_eq_getElem hi')
      have e2 := hA j _ (List.getElem?_eq_getElem hj')
      rw [List.getElem?_eq_getElem hi] at e1
      rw [List.getElem?_eq_getElem hj, ← e, e1] at e2
      have q1 : rs[i] < W.α.length := by rw [rh.len]; exact hlt _ (List.getElem_mem hi')
      have q2 : rs[j] < W.α.length := by rw [rh.len]; exact hlt _ (List.getElem_mem hj')
      rw [List.getElem?_eq_getElem q1, List.getElem?_eq_getElem q2] at e2
      have e3 := (List.getElem_inj rh.nd).mp (Option.some.inj e2)
      have e4 := (List.getElem_inj nd).mp e3
      omega
    have there' : ∀ a ∈ W.α, ∃ o, H a = some o := fun a ha => by
      obtain ⟨n, e⟩ := List.getElem?_of_mem ha
      exact rh.there n a e
    have lkd' : ∀ a ∈ W.α, W.lk a = none := fun a ha => by
      obtain ⟨n, e⟩ := List.getElem?_of_mem ha
      exact rh.lkd n a e
    have rh0 : RepH K W0 H (inH rs h) := by
      refine ⟨rh.sub, by show A.length = (inH rs h).length; simp [A, inH], A_nd, fun n a e => there' a (A_mem a (List.mem_of_getElem? e)), fun a o e => ?_, fun n a e => ?_, fun n a mo e1 e2 e3 => ?_⟩
      · have e : (if a ∈ W.α ∧ a ∉ A then H a else W.lk a) = some o := e
        split at e
        · exact e
        · exact rh.lks a o e
      · show (if a ∈ W.α ∧ a ∉ A then H a else W.lk a) = none
        have ha := List.mem_of_getElem? e
        rw [if_neg fun z => z.2 ha]
        exact lkd' a (A_mem a ha)
      · have e2 : (rs.map fun q => renM (fun n => rs.idxOf n) (h.getD q .dead))[n]? = some mo := e2
        rw [List.getElem?_map] at e2
        obtain ⟨q, hq, rfl⟩ := Option.map_eq_some_iff.mp e2
        have hqm := List.mem_of_getElem? hq
        have hql := hlt q hqm
        have e4 : W.α[q]? = some a := (hA n q hq).symm.trans e1
        have e5 : h[q]? = some (h.getD q .dead) := by simp [List.getD, List.getElem?_eq_getElem hql]
        obtain ⟨z1, z2⟩ := rh.at_ q a _ e4 e5 fun z => e3 (by rw [z]; rfl)
        exact ⟨z1, z2.ren (W' := W0) toA (fun _ _ z => z) rfl (hok q hqm)⟩
    refine ⟨W0, inH rs h, _, r.ren (W' := W0) toA (fun _ _ z => z) hx, rh0, ?_⟩
    -- and back
    have back : ∀ (W1 : Wd) (H1 : Hp) (h1 : LH), W0.le W1 → RepH K W1 H1 h1 → ∃ W', W.le W' ∧ RepH K W' H1 (outH rs h1 h) ∧ (∀ n a, (fun _ => true) n = true → W1.α[n]? = some a → W'.α[outI rs h.length n]? = some a) ∧ ∀ a o, W1.fz a = some o → W'.fz a = some o := by
      intro W1 H1 h1 l rh1
      obtain ⟨⟨L, eα⟩, lfz, llk, lfk⟩ := l
      have eα : W1.α = A ++ L := eα
      have hAl : A.length = rs.length := by simp [A]
      have old : ∀ a ∈ W.α, a ∉ A → W1.fz a = W.fz a ∧ H1 a = H a := fun a ha hn => by
        obtain ⟨o, ho⟩ := there' a ha
        have e : W0.lk a = some o := by
          show (if a ∈ W.α ∧ a ∉ A then H a else W.lk a) = some o
          rw [if_pos ⟨ha, hn⟩]; exact ho
        exact ⟨lfk a o e, (rh1.lks a o (by rw [llk]; exact e)).trans ho.symm⟩
      have newL : ∀ a ∈ L, a ∉ W.α := fun a ha hm => by
        have hnd : (A ++ L).Nodup := by rw [← eα]; exact rh1.nd
        have hnA : a ∉ A := fun z => (List.nodup_append.mp hnd).2.2 a z a ha rfl
        obtain ⟨o, ho⟩ := there' a hm
        have e : W1.lk a = some o := by
          rw [llk]
          show (if a ∈ W.α ∧ a ∉ A then H a else W.lk a) = some o
          rw [if_pos ⟨hm, hnA⟩]; exact ho
        obtain ⟨n, hn⟩ := List.getElem?_of_mem (show a ∈ W1.α by rw [eα]; exact List.mem_append_right _ ha)
        rw [rh1.lkd n a hn] at e
        cases e
      have map1 : ∀ n a, (fun _ => true) n = true → W1.α[n]? = some a → (W.α ++ L)[outI rs h.length n]? = some a := fun n a _ e => by
        rw [eα] at e
        unfold outI
        split
        · rename_i hn
          rw [List.getElem?_append_left (by rw [hAl]; exact hn)] at e
          have e1 := hA n _ (List.getElem?_eq_getElem hn)
          have hq : rs[n] < W.α.length := by rw [rh.len]; exact hlt _ (List.getElem_mem hn)
          rw [show rs.getD n 0 = rs[n] by simp [List.getD, List.getElem?_eq_getElem hn], List.getElem?_append_left hq, ← e1]
          exact e
        · rename_i hn
          rw [List.getElem?_append_right (by rw [hAl]; omega)] at e
          rw [List.getElem?_append_right (by rw [rh.len]; omega), rh.len, show h.length + (n - rs.length) - h.length = n - A.length by rw [hAl]; omega]
          exact e
      have hle : W.le ⟨W.α ++ L, W1.fz, W.lk⟩ := ⟨⟨L, rfl⟩, lfz, rfl, fun a o e => by
        have hm : a ∉ W.α := fun z => by rw [lkd' a z] at e; cases e
        exact lfk a o (by show (if a ∈ W.α ∧ a ∉ A then H a else W.lk a) = some o; rw [if_neg fun z => hm z.1]; exact e)⟩
      refine ⟨⟨W.α ++ L, W1.fz, W.lk⟩, hle, ?_, map1, fun _ _ z => z⟩
      have h1l : h1.length = rs.length + L.length := by rw [← rh1.len, eα, List.length_append, hAl]
      refine ⟨rh1.sub, ?_, ?_, fun n a e => ?_, fun a o e => ?_, fun n a e => ?_, fun n a mo e1 e2 e3 => ?_⟩
      · unfold outH
        rw [List.length_append, List.length_append, putBack_len, List.length_map, List.length_drop, rh.len, h1l]
        omega
      · refine List.nodup_append.mpr ⟨rh.nd, ?_, fun a ha b hb e => newL b hb (e ▸ ha)⟩
        have hnd : (A ++ L).Nodup := by rw [← eα]; exact rh1.nd
        exact (List.nodup_append.mp hnd).2.1
      · rcases List.mem_append.mp (List.mem_of_getElem? e) with ha | ha
        · by_cases hn : a ∈ A
          · obtain ⟨j, hj⟩ := List.getElem?_of_mem (show a ∈ W1.α by rw [eα]; exact List.mem_append_left _ hn)
            exact rh1.there j a hj
          · rw [(old a ha hn).2]
            exact there' a ha
        · obtain ⟨j, hj⟩ := List.getElem?_of_mem (show a ∈ W1.α by rw [eα]; exact List.mem_append_right _ ha)
          exact rh1.there j a hj
      · have hm : a ∉ W.α := fun z => by rw [lkd' a z] at e; cases e
        exact rh1.lks a o (by rw [llk]; show (if a ∈ W.α ∧ a ∉ A then H a else W.lk a) = some o; rw [if_neg fun z => hm z.1]; exact e)
      · rcases List.mem_append.mp (List.mem_of_getElem? e) with ha | ha
        · exact lkd' a ha
        · obtain ⟨j, hj⟩ := List.getElem?_of_mem (show a ∈ W1.α by rw [eα]; exact List.mem_append_right _ ha)
          have e4 := rh1.lkd j a hj
          rw [llk] at e4
          have e4 : (if a ∈ W.α ∧ a ∉ A then H a else W.lk a) = none := e4
          rw [if_neg fun z => newL a ha z.1] at e4
          exact e4
      · have e1 : (W.α ++ L)[n]? = some a := e1
        unfold outH at e2
        by_cases hn : n < W.α.length
        · rw [List.getElem?_append_left hn] at e1
          rw [List.getElem?_append_left (by rw [putBack_len, ← rh.len]; exact hn)] at e2
          by_cases hnr : n ∈ rs
          · obtain ⟨j, hj⟩ := List.getElem?_of_mem hnr
            have hjl : j < rs.length := (List.getElem?_eq_some_iff.mp hj).1
            rw [putBack_in _ _ rs 0 h j n nd hj (by rw [← rh.len]; exact hn), Nat.zero_add] at e2
            cases e2
            have hj1 : j < h1.length := by omega
            have e5 : h1[j]? = some (h1.getD j .dead) := by simp [List.getD, List.getElem?_eq_getElem hj1]
            have e6 : W1.α[j]? = some a := by
              rw [eα, List.getElem?_append_left (by rw [hAl]; exact hjl), hA j n hj]
              exact e1
            obtain ⟨z1, z2⟩ := rh1.at_ j a _ e6 e5 fun z => e3 (by rw [z]; rfl)
            exact ⟨z1, z2.ren (W := W1) (W' := ⟨W.α ++ L, W1.fz, W.lk⟩) (p := fun _ => true) map1 (fun _ _ z => z) rfl (okM_true _)⟩
          · rw [putBack_out _ _ rs 0 h n hnr] at e2
            have ha := List.mem_of_getElem? e1
            have hnA : a ∉ A := fun z => by
              obtain ⟨j, hj⟩ := List.getElem?_of_mem z
              obtain ⟨q, hq, _⟩ := Option.map_eq_some_iff.mp (by rw [← List.getElem?_map]; exact hj)
              rw [hA j q hq] at hj
              have q1 := (List.getElem?_eq_some_iff.mp hj)
              have q2 := (List.getElem?_eq_some_iff.mp e1)
              have := (List.getElem_inj rh.nd).mp (q1.2.trans q2.2.symm)
              exact hnr (this ▸ List.mem_of_getElem? hq)
            obtain ⟨z1, z2⟩ := rh.at_ n a mo e1 e2 e3
            obtain ⟨o1, o2⟩ := old a ha hnA
            exact ⟨o1.trans z1, (z2.mono hle).heap o2⟩
        · rw [List.getElem?_append_right (Nat.le_of_not_lt hn)] at e1
          rw [List.getElem?_append_right (by rw [putBack_len, ← rh.len]; exact Nat.le_of_not_lt hn), putBack_len, List.getElem?_map] at e2
          obtain ⟨m1, e5, rfl⟩ := Option.map_eq_some_iff.mp e2
          rw [List.getElem?_drop] at e5
          have e6 : W1.α[rs.length + (n - h.length)]? = some a := by
            rw [eα, List.getElem?_append_right (by rw [hAl]; omega), show rs.length + (n - h.length) - A.length = n - W.α.length by rw [hAl, rh.len]; omega]
            exact e1
          obtain ⟨z1, z2⟩ := rh1.at_ _ a _ e6 e5 fun z => e3 (by rw [z]; rfl)
          exact ⟨z1, z2.ren (W := W1) (W' := ⟨W.α ++ L, W1.fz, W.lk⟩) (p := fun _ => true) map1 (fun _ _ z => z) rfl (okM_true _)⟩
    cases e : g (renL (fun n => rs.idxOf n) xs) (inH rs h) with
    | bad => rw [e] at p; exact p
    | ok x h1 =>
      rw [e] at p
      intro W1 v H1 l r1 rh1
      obtain ⟨W', l', rh', m1, m2⟩ := back W1 H1 h1 l rh1
      exact p W' v H1 l' (r1.ren (p := fun _ => true) m1 m2 (okV_true x)) rh'
    | exc c fs h1 =>
      rw [e] at p
      intro W1 cls d H1 l rx rh1
      obtain ⟨W', l', rh', m1, m2⟩ := back W1 H1 h1 l rh1
      refine p W' cls d H1 l' ⟨rx.1, ?_⟩ rh'
      rcases rx.2 with ⟨a, b⟩ | ⟨dx, vs, a, b, c1, d1⟩
      · exact .inl ⟨by rw [a]; unfold renL; rfl, b⟩
      · exact .inr ⟨dx, vs, a, b, by rw [renL_len]; exact c1, d1.ren (p := fun _ => true) m1 m2 (okL_true fs)⟩
  · exact p.elim
theorem frG {P : Program} {w : World} {K : PySem.W.Frag} {mg : Str → Option Value} {base : Heap} {k : Nat} {g : List LV → LH → Out LV} {p : Str × Option Str} {ps : List Str} {dfl : List LV} (F : FnG P w K mg base k g p ps dfl) : FnG P w K mg base k (frP g) p ps dfl := by
  obtain ⟨⟨fd, ds, F1, a, b, c⟩, kp, sc, gl⟩ := F
  exact ⟨⟨fd, ds, ⟨fun vs H Q E q => q.1, fun A outer s H args us vs Q E hr e0 bd rv q => F1.run A outer s H args us vs Q E hr e0 bd rv (spOf_frP q)⟩, a, b, c⟩, kp, sc, gl⟩
theorem frN {g : List LV → LH → Out LV} {n : Nat} (hg : ∀ xs h, xs.length ≠ n → g xs h = .bad) : ∀ xs h, xs.length ≠ n → frP g xs h = .bad := fun xs h hl => by
  unfold frP
  split
  · rw [hg _ _ (by rw [renL_len]; exact hl)]
  · rfl
end DD
end
section
set_option Elab.async false
set_option linter.all false
set_option maxRecDepth 100000
set_option maxHeartbeats 2000000

/-! P78: the bodies, as combinators, printed by gen.py. -/
namespace DD
open PySem PySem.Spec PyProof.Rows L2
/- 0 kept: number -/
def b_kept (fn mk : Nat → List LV → LH → Out LV) : MS :=
  (sRet (eB fSub (eB fMod (eB fAdd (eV 0) (eC (.int 9223372036854775808))) (eB fMul (eC (.int 2)) (eC (.int 9223372036854775808)))) (eC (.int 9223372036854775808))))
def d_kept : FD := ⟨1, 1, b_kept⟩
/- 1 divided: sign, left, right, quotient, rest -/
def b_divided (fn mk : Nat → List LV → LH → Out LV) : MS :=
  (sSeq (sIf (eB fEq (eV 2) (eC (.int 0))) sBad sNop)
    (sSeq (sAsg (tgT [3, 4]) (eCB fDivmod (aC (eV 1) (aC (eV 2) aN))))
    (sSeq (sIf (eB fEq (eV 0) (eC (.str "/"))) (sRet (eCall (fn 0) (aC (eV 3) aN) [])) sNop)
    (sRet (eV 4)))))
def d_divided : FD := ⟨3, 5, b_divided⟩
/- 2 by_bits: sign, left, right -/
def b_by_bits (fn mk : Nat → List LV → LH → Out LV) : MS :=
  (sSeq (sIf (eB fEq (eV 0) (eC (.str "&"))) (sRet (eB fAnd (eV 1) (eV 2))) sNop)
    (sSeq (sIf (eB fEq (eV 0) (eC (.str "|"))) (sRet (eB fOr (eV 1) (eV 2))) sNop)
    (sRet (eB fXor (eV 1) (eV 2)))))
def d_by_bits : FD := ⟨3, 3, b_by_bits⟩
/- 3 done: sign, left, right -/
def b_done (fn mk : Nat → List LV → LH → Out LV) : MS :=
  (sSeq (sIf (eB fEq (eV 0) (eC (.str "+"))) (sRet (eCall (fn 0) (aC (eB fAdd (eV 1) (eV 2)) aN) [])) sNop)
    (sSeq (sIf (eB fEq (eV 0) (eC (.str "-"))) (sRet (eCall (fn 0) (aC (eB fSub (eV 1) (eV 2)) aN) [])) sNop)
    (sSeq (sIf (eB fEq (eV 0) (eC (.str "*"))) (sRet (eCall (fn 0) (aC (eB fMul (eV 1) (eV 2)) aN) [])) sNop)
    (sSeq (sIf (eOr (eB fEq (eV 0) (eC (.str "/"))) (eB fEq (eV 0) (eC (.str "rest")))) (sRet (eCall (fn 1) (aC (eV 0) (aC (eV 1) (aC (eV 2) aN))) [])) sNop)
    (sSeq (sIf (eB fEq (eV 0) (eC (.str "least"))) (sRet (eCB fMin2 (aC (eV 1) (aC (eV 2) aN)))) sNop)
    (sSeq (sIf (eB fEq (eV 0) (eC (.str "most"))) (sRet (eCB fMax2 (aC (eV 1) (aC (eV 2) aN)))) sNop)
    (sSeq (sIf (eB fEq (eV 0) (eC (.str "<"))) (sRet (eIf (eB fLt (eV 1) (eV 2)) (eC (.int 1)) (eC (.int 0)))) sNop)
    (sSeq (sIf (eB fEq (eV 0) (eC (.str "="))) (sRet (eIf (eB fEq (eV 1) (eV 2)) (eC (.int 1)) (eC (.int 0)))) sNop)
    (sRet (eCall (fn 2) (aC (eV 0) (aC (eV 1) (aC (eV 2) aN))) []))))))))))
def d_done : FD := ⟨3, 3, b_done⟩
/- 4 start_of: lengths, row -/
def b_start_of (fn mk : Nat → List LV → LH → Out LV) : MS :=
  (sRet (eCB (fInts gSum) (aC (eSl (eV 0) oN (oS (eV 1))) aN)))
def d_start_of : FD := ⟨2, 2, b_start_of⟩
/- 5 row_cell: spot, row, place -/
def b_row_cell (fn mk : Nat → List LV → LH → Out LV) : MS :=
  (sRet (eB fIx (eU (fFld 6) (eV 0)) (eB fAdd (eCall (fn 4) (aC (eU (fFld 4) (eV 0)) (aC (eV 1) aN)) []) (eV 2))))
def d_row_cell : FD := ⟨3, 3, b_row_cell⟩
/- 6 words_of: line, words, word, sign -/
def b_words_of (fn mk : Nat → List LV → LH → Out LV) : MS :=
  (sSeq (sSet 1 (eLst aN))
    (sSeq (sSet 2 (eC (.str "")))
    (sSeq (sFor (tgN 3) (iS (eV 0)) (sIf (eOr (eB fEq (eV 3) (eC (.str " "))) (eOr (eB fEq (eV 3) (eC (.str "("))) (eB fEq (eV 3) (eC (.str ")"))))) (sSeq (sIf (eB fNe (eV 2) (eC (.str ""))) (sExpr (eBM "list" fAppend (eV 1) (aC (eV 2) aN))) sNop)
    (sSeq (sSet 2 (eC (.str "")))
    (sIf (eB fNe (eV 3) (eC (.str " "))) (sExpr (eBM "list" fAppend (eV 1) (aC (eV 3) aN))) sNop))) (sAug 2 fIAdd (eV 3))))
    (sSeq (sIf (eB fNe (eV 2) (eC (.str ""))) (sExpr (eBM "list" fAppend (eV 1) (aC (eV 2) aN))) sNop)
    (sRet (eV 1))))))
def d_words_of : FD := ⟨1, 4, b_words_of⟩
/- 7 sign_word: word -/
def b_sign_word (fn mk : Nat → List LV → LH → Out LV) : MS :=
  (sRet (eB fIn (eV 0) (eTup (aC (eC (.str "+")) (aC (eC (.str "-")) (aC (eC (.str "*")) (aC (eC (.str "/")) (aC (eC (.str "rest")) (aC (eC (.str "least")) (aC (eC (.str "most")) (aC (eC (.str "<")) (aC (eC (.str "=")) (aC (eC (.str "&")) (aC (eC (.str "|")) (aC (eC (.str "^")) aN)))))))))))))))
def d_sign_word : FD := ⟨1, 1, b_sign_word⟩
/- 8 fold_word: word -/
def b_fold_word (fn mk : Nat → List LV → LH → Out LV) : MS :=
  (sRet (eB fIn (eV 0) (eTup (aC (eC (.str "sum")) (aC (eC (.str "product")) (aC (eC (.str "least")) (aC (eC (.str "most")) (aC (eC (.str "both")) (aC (eC (.str "either")) (aC (eC (.str "odd")) (aC (eC (.str "chain")) (aC (eC (.str "capped")) aN))))))))))))
def d_fold_word : FD := ⟨1, 1, b_fold_word⟩
/- 9 kept_word: word -/
def b_kept_word (fn mk : Nat → List LV → LH → Out LV) : MS :=
  (sSeq (sIf (eB fIn (eV 0) (eTup (aC (eC (.str "row")) (aC (eC (.str "def")) (aC (eC (.str "let")) (aC (eC (.str "put")) (aC (eC (.str "fold")) (aC (eC (.str "run")) (aC (eC (.str "till")) (aC (eC (.str "end")) aN)))))))))) (sRet (eC (.bl true))) sNop)
    (sSeq (sIf (eB fIn (eV 0) (eTup (aC (eC (.str "at")) (aC (eC (.str "in")) (aC (eC (.str "of")) (aC (eC (.str "into")) (aC (eC (.str "where")) (aC (eC (.str "here")) (aC (eC (.str "shift")) (aC (eC (.str "if")) (aC (eC (.str "rest")) aN))))))))))) (sRet (eC (.bl true))) sNop)
    (sRet (eCall (fn 8) (aC (eV 0) aN) []))))
def d_kept_word : FD := ⟨1, 1, b_kept_word⟩
/- 10 name_like: word, sign -/
def b_name_like (fn mk : Nat → List LV → LH → Out LV) : MS :=
  (sSeq (sIf (eOr (eB fEq (eV 0) (eC (.str ""))) (eOr (eB fGt (eCB fLen (aC (eV 0) aN)) (eC (.int 12))) (eCall (fn 9) (aC (eV 0) aN) []))) (sRet (eC (.bl false))) sNop)
    (sSeq (sFor (tgN 1) (iS (eV 0)) (sIf (eB fNotIn (eV 1) (eC (.str "abcdefghijklmnopqrstuvwxyz"))) (sRet (eC (.bl false))) sNop))
    (sRet (eC (.bl true)))))
def d_name_like : FD := ⟨1, 2, b_name_like⟩
/- 11 number_of: word, figures, sign, number -/
def b_number_of (fn mk : Nat → List LV → LH → Out LV) : MS :=
  (sSeq (sSet 1 (eV 0))
    (sSeq (sIf (eB fEq (eSl (eV 0) oN (oS (eC (.int 1)))) (eC (.str "-"))) (sSet 1 (eSl (eV 0) (oS (eC (.int 1))) oN)) sNop)
    (sSeq (sIf (eOr (eB fEq (eV 1) (eC (.str ""))) (eB fGt (eCB fLen (aC (eV 1) aN)) (eC (.int 19)))) (sRet (eC .non)) sNop)
    (sSeq (sFor (tgN 2) (iS (eV 1)) (sIf (eB fNotIn (eV 2) (eC (.str "0123456789"))) (sRet (eC .non)) sNop))
    (sSeq (sIf (eAnd (eB fEq (eB fIx (eV 1) (eC (.int 0))) (eC (.str "0"))) (eB fNe (eV 0) (eC (.str "0")))) (sRet (eC .non)) sNop)
    (sSeq (sSet 3 (eCB fInt (aC (eV 1) aN)))
    (sSeq (sIf (eB fNe (eV 1) (eV 0)) (sSet 3 (eU fNeg (eV 3))) sNop)
    (sSeq (sIf (eOr (eB fLt (eV 3) (eU fNeg (eC (.int 9223372036854775808)))) (eB fGe (eV 3) (eC (.int 9223372036854775808)))) (sRet (eC .non)) sNop)
    (sRet (eV 3))))))))))
def d_number_of : FD := ⟨1, 4, b_number_of⟩
/- 12 take_number: taker, low, high, number -/
def b_take_number (fn mk : Nat → List LV → LH → Out LV) : MS :=
  (sSeq (sSet 3 (eCall (fn 11) (aC (eMeth fn 1 (eV 0) aN) aN) []))
    (sSeq (sIf (eOr (eB fIs (eV 3) (eC .non)) (eOr (eB fLt (eV 3) (eV 1)) (eB fGt (eV 3) (eV 2)))) sBad sNop)
    (sSeq (sExpr (eMeth fn 2 (eV 0) aN))
    (sRet (eV 3)))))
def d_take_number : FD := ⟨3, 4, b_take_number⟩
/- 13 take_name: taker, names, word -/
def b_take_name (fn mk : Nat → List LV → LH → Out LV) : MS :=
  (sSeq (sSet 2 (eMeth fn 1 (eV 0) aN))
    (sSeq (sIf (eNot (eCall (fn 10) (aC (eV 2) aN) [])) sBad sNop)
    (sSeq (sIf (eB fNotIn (eV 2) (eV 1)) sBad sNop)
    (sSeq (sExpr (eMeth fn 2 (eV 0) aN))
    (sRet (eBM "list" fIndex (eV 1) (aC (eV 2) aN)))))))
def d_take_name : FD := ⟨2, 3, b_take_name⟩
/- 14 take_new: taker, names, word -/
def b_take_new (fn mk : Nat → List LV → LH → Out LV) : MS :=
  (sSeq (sSet 2 (eMeth fn 1 (eV 0) aN))
    (sSeq (sIf (eNot (eCall (fn 10) (aC (eV 2) aN) [])) sBad sNop)
    (sSeq (sIf (eB fIn (eV 2) (eV 1)) sBad sNop)
    (sSeq (sExpr (eMeth fn 2 (eV 0) aN))
    (sRet (eV 2))))))
def d_take_new : FD := ⟨2, 3, b_take_new⟩
/- 15 take_fold: taker, word -/
def b_take_fold (fn mk : Nat → List LV → LH → Out LV) : MS :=
  (sSeq (sSet 1 (eMeth fn 1 (eV 0) aN))
    (sSeq (sIf (eNot (eCall (fn 8) (aC (eV 1) aN) [])) sBad sNop)
    (sSeq (sExpr (eMeth fn 2 (eV 0) aN))
    (sRet (eV 1)))))
def d_take_fold : FD := ⟨1, 2, b_take_fold⟩
/- 16 take_form: taker, known, word, form, number -/
def b_take_form (fn mk : Nat → List LV → LH → Out LV) : MS :=
  (sSeq (sSet 2 (eMeth fn 1 (eV 0) aN))
    (sSeq (sIf (eB fEq (eV 2) (eC (.str "("))) (sSeq (sExpr (eMeth fn 4 (eV 0) aN))
    (sSeq (sSet 3 (eCall (fn 17) (aC (eV 0) (aC (eV 1) aN)) []))
    (sSeq (sExpr (eMeth fn 5 (eV 0) aN))
    (sRet (eV 3))))) sNop)
    (sSeq (sIf (eB fEq (eV 2) (eC (.str "here"))) (sSeq (sExpr (eMeth fn 2 (eV 0) aN))
    (sRet (eFrz (eNew 16)))) sNop)
    (sSeq (sSet 4 (eCall (fn 11) (aC (eV 2) aN) []))
    (sSeq (sIf (eB fIsNot (eV 4) (eC .non)) (sSeq (sExpr (eMeth fn 2 (eV 0) aN))
    (sRet (eFrz (eMake (mk 126) 15 (aC (eV 4) aN) [])))) sNop)
    (sSeq (sIf (eB fIs (eU (fFld 20) (eV 1)) (eC .non)) (sRet (eFrz (eMake (mk 129) 17 (aC (eCall (fn 13) (aC (eV 0) (aC (eU (fFld 18) (eV 1)) aN)) []) aN) []))) sNop)
    (sRet (eFrz (eMake (mk 133) 19 (aC (eCall (fn 13) (aC (eV 0) (aC (eU (fFld 20) (eV 1)) aN)) []) aN) [])))))))))
def d_take_form : FD := ⟨2, 5, b_take_form⟩
/- 17 take_inner: taker, known, word, left, test, row, by, at, handed, k -/
def b_take_inner (fn mk : Nat → List LV → LH → Out LV) : MS :=
  (sSeq (sSet 2 (eMeth fn 1 (eV 0) aN))
    (sSeq (sIf (eCall (fn 7) (aC (eV 2) aN) []) (sSeq (sExpr (eMeth fn 2 (eV 0) aN))
    (sSeq (sSet 3 (eCall (fn 16) (aC (eV 0) (aC (eV 1) aN)) []))
    (sRet (eFrz (eMake (mk 137) 21 (aC (eV 2) (aC (eV 3) (aC (eCall (fn 16) (aC (eV 0) (aC (eV 1) aN)) []) aN))) []))))) sNop)
    (sSeq (sIf (eB fEq (eV 2) (eC (.str "if"))) (sSeq (sExpr (eMeth fn 2 (eV 0) aN))
    (sSeq (sSet 4 (eCall (fn 16) (aC (eV 0) (aC (eV 1) aN)) []))
    (sSeq (sSet 3 (eCall (fn 16) (aC (eV 0) (aC (eV 1) aN)) []))
    (sRet (eFrz (eMake (mk 139) 22 (aC (eV 4) (aC (eV 3) (aC (eCall (fn 16) (aC (eV 0) (aC (eV 1) aN)) []) aN))) [])))))) sNop)
    (sSeq (sIf (eAnd (eB fEq (eV 2) (eC (.str "at"))) (eB fIs (eU (fFld 20) (eV 1)) (eC .non))) (sSeq (sExpr (eMeth fn 2 (eV 0) aN))
    (sSeq (sSet 5 (eCall (fn 13) (aC (eV 0) (aC (eU (fFld 18) (eV 1)) aN)) []))
    (sRet (eFrz (eMake (mk 135) 20 (aC (eV 5) (aC (eCall (fn 16) (aC (eV 0) (aC (eV 1) aN)) []) aN)) []))))) sNop)
    (sSeq (sIf (eAnd (eB fEq (eV 2) (eC (.str "shift"))) (eB fIs (eU (fFld 20) (eV 1)) (eC .non))) (sSeq (sExpr (eMeth fn 2 (eV 0) aN))
    (sSeq (sSet 5 (eCall (fn 13) (aC (eV 0) (aC (eU (fFld 18) (eV 1)) aN)) []))
    (sSeq (sSet 6 (eCall (fn 12) (aC (eV 0) (aC (eU fNeg (eC (.int 400))) (aC (eC (.int 400)) aN))) []))
    (sRet (eFrz (eMake (mk 131) 18 (aC (eV 5) (aC (eV 6) (aC (eCall (fn 12) (aC (eV 0) (aC (eU fNeg (eC (.int 9223372036854775808))) (aC (eB fSub (eC (.int 9223372036854775808)) (eC (.int 1))) aN))) []) aN))) [])))))) sNop)
    (sSeq (sSet 7 (eCall (fn 13) (aC (eV 0) (aC (eU (fFld 19) (eV 1)) aN)) []))
    (sSeq (sSet 8 (eLst aN))
    (sSeq (sFor (tgN 9) (iR1 (eB fIx (eB fIx (eU (fFld 5) (eV 1)) (eV 7)) (eC (.int 0)))) (sExpr (eBM "list" fAppend (eV 8) (aC (eCall (fn 16) (aC (eV 0) (aC (eV 1) aN)) []) aN))))
    (sRet (eFrz (eMake (mk 141) 23 (aC (eV 7) (aC (eV 8) aN)) [])))))))))))
def d_take_inner : FD := ⟨2, 10, b_take_inner⟩
/- 18 parts_of: form -/
def b_parts_of (fn mk : Nat → List LV → LH → Out LV) : MS :=
  (sSeq (sIf (eIsi (eV 0) [.own 20]) (sRet (eLst (aC (eU (fFld 2) (eV 0)) aN))) sNop)
    (sSeq (sIf (eIsi (eV 0) [.own 21]) (sRet (eLst (aC (eU (fFld 14) (eV 0)) (aC (eU (fFld 15) (eV 0)) aN)))) sNop)
    (sSeq (sIf (eIsi (eV 0) [.own 22]) (sRet (eLst (aC (eU (fFld 16) (eV 0)) (aC (eU (fFld 14) (eV 0)) (aC (eU (fFld 15) (eV 0)) aN))))) sNop)
    (sSeq (sIf (eIsi (eV 0) [.own 23]) (sRet (eCB fList (aC (eU (fFld 17) (eV 0)) aN))) sNop)
    (sRet (eLst aN))))))
def d_parts_of : FD := ⟨1, 1, b_parts_of⟩
/- 19 size_of: form, functions, size, part -/
def b_size_of (fn mk : Nat → List LV → LH → Out LV) : MS :=
  (sSeq (sSet 2 (eC (.int 1)))
    (sSeq (sFor (tgN 3) (iL (eCall (fn 18) (aC (eV 0) aN) [])) (sAug 2 fIAdd (eCall (fn 19) (aC (eV 3) (aC (eV 1) aN)) [])))
    (sSeq (sIf (eIsi (eV 0) [.own 23]) (sAug 2 fIAdd (eCall (fn 19) (aC (eB fIx (eB fIx (eV 1) (eU (fFld 12) (eV 0))) (eC (.int 1))) (aC (eV 1) aN)) [])) sNop)
    (sRet (eV 2)))))
def d_size_of : FD := ⟨2, 4, b_size_of⟩
/- 20 depth_of: form, functions, depth, part -/
def b_depth_of (fn mk : Nat → List LV → LH → Out LV) : MS :=
  (sSeq (sSet 2 (eC (.int 0)))
    (sSeq (sFor (tgN 3) (iL (eCall (fn 18) (aC (eV 0) aN) [])) (sSet 2 (eCB fMax2 (aC (eV 2) (aC (eCall (fn 20) (aC (eV 3) (aC (eV 1) aN)) []) aN)))))
    (sSeq (sIf (eIsi (eV 0) [.own 23]) (sSet 2 (eCB fMax2 (aC (eV 2) (aC (eCall (fn 20) (aC (eB fIx (eB fIx (eV 1) (eU (fFld 12) (eV 0))) (eC (.int 1))) (aC (eV 1) aN)) []) aN)))) sNop)
    (sSeq (sIf (eIsi (eV 0) [.own 22]) (sAug 2 fIAdd (eC (.int 1))) sNop)
    (sRet (eV 2))))))
def d_depth_of : FD := ⟨2, 4, b_depth_of⟩
/- 21 forms_in: step, found -/
def b_forms_in (fn mk : Nat → List LV → LH → Out LV) : MS :=
  (sSeq (sIf (eIsi (eV 0) [.own 31]) (sRet (eLst aN)) sNop)
    (sSeq (sSet 1 (eLst (aC (eU (fFld 24) (eV 0)) aN)))
    (sSeq (sIf (eIsi (eV 0) [.own 28]) (sExpr (eBM "list" fAppend (eV 1) (aC (eU (fFld 2) (eV 0)) aN))) sNop)
    (sSeq (sIf (eB fIsNot (eU (fFld 16) (eV 0)) (eC .non)) (sExpr (eBM "list" fAppend (eV 1) (aC (eU (fFld 16) (eV 0)) aN))) sNop)
    (sRet (eV 1))))))
def d_forms_in : FD := ⟨1, 2, b_forms_in⟩
/- 22 all_within: form, found, part -/
def b_all_within (fn mk : Nat → List LV → LH → Out LV) : MS :=
  (sSeq (sSet 1 (eLst (aC (eV 0) aN)))
    (sSeq (sFor (tgN 2) (iL (eCall (fn 18) (aC (eV 0) aN) [])) (sExpr (eBM "list" fExtend (eV 1) (aC (eCall (fn 22) (aC (eV 2) aN) []) aN))))
    (sRet (eV 1))))
def d_all_within : FD := ⟨1, 3, b_all_within⟩
/- 23 uneven: step, lengths, many, form, part -/
def b_uneven (fn mk : Nat → List LV → LH → Out LV) : MS :=
  (sSeq (sIf (eIsi (eV 0) [.own 31]) (sRet (eC (.bl false))) sNop)
    (sSeq (sIf (eAnd (eIsi (eV 0) [.own 29]) (eB fNe (eB fIx (eV 1) (eU (fFld 23) (eV 0))) (eC (.int 1)))) (sRet (eC (.bl true))) sNop)
    (sSeq (sSet 2 (eMeth fn 8 (eV 0) (aC (eV 1) aN)))
    (sSeq (sFor (tgN 3) (iL (eCall (fn 21) (aC (eV 0) aN) [])) (sFor (tgN 4) (iL (eCall (fn 22) (aC (eV 3) aN) [])) (sIf (eAnd (eIsi (eV 4) [.own 17]) (eAnd (eB fNe (eB fIx (eV 1) (eU (fFld 9) (eV 4))) (eV 2)) (eB fNe (eB fIx (eV 1) (eU (fFld 9) (eV 4))) (eC (.int 1))))) (sRet (eC (.bl true))) sNop)))
    (sRet (eC (.bl false)))))))
def d_uneven : FD := ⟨2, 5, b_uneven⟩
/- 24 crossed: step, narrow, form, part, far -/
def b_crossed (fn mk : Nat → List LV → LH → Out LV) : MS :=
  (sSeq (sSet 1 (eOr (eIsi (eV 0) [.own 28]) (eIsi (eV 0) [.own 29])))
    (sSeq (sFor (tgN 2) (iL (eCall (fn 21) (aC (eV 0) aN) [])) (sFor (tgN 3) (iL (eCall (fn 22) (aC (eV 2) aN) [])) (sSeq (sSet 4 (eOr (eIsi (eV 3) [.own 18]) (eIsi (eV 3) [.own 20])))
    (sIf (eAnd (eOr (eV 4) (eAnd (eV 1) (eIsi (eV 3) [.own 17]))) (eB fEq (eU (fFld 9) (eV 3)) (eU (fFld 23) (eV 0)))) (sRet (eC (.bl true))) sNop))))
    (sRet (eC (.bl false)))))
def d_crossed : FD := ⟨1, 5, b_crossed⟩
/- 25 hold_forms: line, forms, functions, form -/
def b_hold_forms (fn mk : Nat → List LV → LH → Out LV) : MS :=
  (sSeq (sFor (tgN 3) (iL (eV 1)) (sIf (eB fGt (eCall (fn 19) (aC (eV 3) (aC (eV 2) aN)) []) (eC (.int 60))) sBad sNop))
    (sFor (tgN 3) (iL (eV 1)) (sIf (eB fGt (eCall (fn 20) (aC (eV 3) (aC (eV 2) aN)) []) (eC (.int 7))) sBad sNop)))
def d_hold_forms : FD := ⟨3, 4, b_hold_forms⟩
/- 26 read_row: reading, taker, name, many -/
def b_read_row (fn mk : Nat → List LV → LH → Out LV) : MS :=
  (sSeq (sSet 2 (eCall (fn 14) (aC (eV 1) (aC (eB fAdd (eU (fFld 30) (eV 0)) (eU (fFld 19) (eV 0))) aN)) []))
    (sSeq (sSet 3 (eCall (fn 12) (aC (eV 1) (aC (eC (.int 1)) (aC (eC (.int 400)) aN))) []))
    (sSeq (sExpr (eMeth fn 7 (eV 1) aN))
    (sSeq (sIf (eB fEq (eCB fLen (aC (eU (fFld 30) (eV 0)) aN)) (eC (.int 12))) sBad sNop)
    (sSeq (sExpr (eBM "list" fAppend (eU (fFld 30) (eV 0)) (aC (eV 2) aN)))
    (sExpr (eBM "list" fAppend (eU (fFld 4) (eV 0)) (aC (eV 3) aN))))))))
def d_read_row : FD := ⟨2, 4, b_read_row⟩
/- 27 read_def: reading, taker, others, name, own, body -/
def b_read_def (fn mk : Nat → List LV → LH → Out LV) : MS :=
  (sSeq (sSet 2 (eB fAdd (eU (fFld 30) (eV 0)) (eU (fFld 19) (eV 0))))
    (sSeq (sSet 3 (eCall (fn 14) (aC (eV 1) (aC (eV 2) aN)) []))
    (sSeq (sSet 4 (eLst aN))
    (sSeq (sWhile (eB fNe (eMeth fn 1 (eV 1) aN) (eC (.str "="))) (sSeq (sIf (eB fEq (eCB fLen (aC (eV 4) aN)) (eC (.int 6))) sBad sNop)
    (sExpr (eBM "list" fAppend (eV 4) (aC (eCall (fn 14) (aC (eV 1) (aC (eB fAdd (eB fAdd (eV 2) (eLst (aC (eV 3) aN))) (eV 4)) aN)) []) aN)))))
    (sSeq (sExpr (eMeth fn 2 (eV 1) aN))
    (sSeq (sSet 5 (eCall (fn 16) (aC (eV 1) (aC (eMake (mk 143) 24 (aC (eU (fFld 30) (eV 0)) (aC (eU (fFld 19) (eV 0)) (aC (eU (fFld 5) (eV 0)) (aC (eV 4) aN)))) []) aN)) []))
    (sSeq (sExpr (eMeth fn 7 (eV 1) aN))
    (sSeq (sIf (eB fEq (eCB fLen (aC (eU (fFld 19) (eV 0)) aN)) (eC (.int 8))) sBad sNop)
    (sSeq (sExpr (eCall (fn 25) (aC (eU (fFld 0) (eV 1)) (aC (eLst (aC (eV 5) aN)) (aC (eU (fFld 5) (eV 0)) aN))) []))
    (sSeq (sExpr (eBM "list" fAppend (eU (fFld 19) (eV 0)) (aC (eV 3) aN)))
    (sExpr (eBM "list" fAppend (eU (fFld 5) (eV 0)) (aC (eTup (aC (eCB fLen (aC (eV 4) aN)) (aC (eV 5) aN))) aN)))))))))))))
def d_read_def : FD := ⟨2, 6, b_read_def⟩
/- 28 read_till: reading, taker, target, most -/
def b_read_till (fn mk : Nat → List LV → LH → Out LV) : MS :=
  (sSeq (sSet 2 (eCall (fn 13) (aC (eV 1) (aC (eU (fFld 30) (eV 0)) aN)) []))
    (sSeq (sExpr (eMeth fn 3 (eV 1) (aC (eC (.str "most")) aN)))
    (sSeq (sSet 3 (eCall (fn 12) (aC (eV 1) (aC (eC (.int 1)) (aC (eC (.int 1000)) aN))) []))
    (sSeq (sExpr (eMeth fn 7 (eV 1) aN))
    (sSeq (sIf (eOr (eB fEq (eCB fLen (aC (eU (fFld 31) (eV 0)) aN)) (eC (.int 40))) (eB fEq (eCB fLen (aC (eU (fFld 33) (eV 0)) aN)) (eC (.int 3)))) sBad sNop)
    (sSeq (sExpr (eBM "list" fAppend (eU (fFld 31) (eV 0)) (aC (eU (fFld 0) (eV 1)) aN)))
    (sSeq (sExpr (eBM "list" fAppend (eU (fFld 33) (eV 0)) (aC (eTup (aC (eV 2) (aC (eV 3) aN))) aN)))
    (sExpr (eBM "list" fAppend (eU (fFld 32) (eV 0)) (aC (eLst aN) aN))))))))))
def d_read_till : FD := ⟨2, 4, b_read_till⟩
/- 29 read_end: reading, taker, head, steps -/
def b_read_end (fn mk : Nat → List LV → LH → Out LV) : MS :=
  (sSeq (sExpr (eMeth fn 7 (eV 1) aN))
    (sSeq (sSet 2 (eBM "list" fPop (eU (fFld 33) (eV 0)) aN))
    (sSeq (sSet 3 (eBM "list" fPop (eU (fFld 32) (eV 0)) aN))
    (sExpr (eBM "list" fAppend (eB fIx (eU (fFld 32) (eV 0)) (eU fNeg (eC (.int 1)))) (aC (eFrz (eMake (mk 160) 31 (aC (eB fIx (eV 2) (eC (.int 0))) (aC (eB fIx (eV 2) (eC (.int 1))) (aC (eV 3) aN))) [])) aN))))))
def d_read_end : FD := ⟨2, 4, b_read_end⟩
/- 30 take_test: taker, known -/
def b_take_test (fn mk : Nat → List LV → LH → Out LV) : MS :=
  (sSeq (sIf (eMeth fn 6 (eV 0) aN) (sRet (eC .non)) sNop)
    (sSeq (sExpr (eMeth fn 3 (eV 0) (aC (eC (.str "where")) aN)))
    (sRet (eCall (fn 16) (aC (eV 0) (aC (eV 1) aN)) []))))
def d_take_test : FD := ⟨2, 2, b_take_test⟩
/- 31 take_let: taker, known, target, value -/
def b_take_let (fn mk : Nat → List LV → LH → Out LV) : MS :=
  (sSeq (sSet 2 (eCall (fn 13) (aC (eV 0) (aC (eU (fFld 18) (eV 1)) aN)) []))
    (sSeq (sSet 3 (eCall (fn 16) (aC (eV 0) (aC (eV 1) aN)) []))
    (sRet (eFrz (eMake (mk 154) 27 (aC (eV 2) (aC (eV 3) (aC (eCall (fn 30) (aC (eV 0) (aC (eV 1) aN)) []) aN))) [])))))
def d_take_let : FD := ⟨2, 4, b_take_let⟩
/- 32 take_put: taker, known, value, place, target, many -/
def b_take_put (fn mk : Nat → List LV → LH → Out LV) : MS :=
  (sSeq (sSet 2 (eCall (fn 16) (aC (eV 0) (aC (eV 1) aN)) []))
    (sSeq (sExpr (eMeth fn 3 (eV 0) (aC (eC (.str "at")) aN)))
    (sSeq (sSet 3 (eCall (fn 16) (aC (eV 0) (aC (eV 1) aN)) []))
    (sSeq (sExpr (eMeth fn 3 (eV 0) (aC (eC (.str "in")) aN)))
    (sSeq (sSet 4 (eCall (fn 13) (aC (eV 0) (aC (eU (fFld 18) (eV 1)) aN)) []))
    (sSeq (sExpr (eMeth fn 3 (eV 0) (aC (eC (.str "of")) aN)))
    (sSeq (sSet 5 (eCall (fn 12) (aC (eV 0) (aC (eC (.int 1)) (aC (eC (.int 400)) aN))) []))
    (sRet (eFrz (eMake (mk 155) 28 (aC (eV 4) (aC (eV 2) (aC (eV 3) (aC (eV 5) (aC (eCall (fn 30) (aC (eV 0) (aC (eV 1) aN)) []) aN))))) []))))))))))
def d_take_put : FD := ⟨2, 6, b_take_put⟩
/- 33 take_folded: taker, known, fold, value, target, many -/
def b_take_folded (fn mk : Nat → List LV → LH → Out LV) : MS :=
  (sSeq (sSet 2 (eCall (fn 15) (aC (eV 0) aN) []))
    (sSeq (sSet 3 (eCall (fn 16) (aC (eV 0) (aC (eV 1) aN)) []))
    (sSeq (sExpr (eMeth fn 3 (eV 0) (aC (eC (.str "into")) aN)))
    (sSeq (sSet 4 (eCall (fn 13) (aC (eV 0) (aC (eU (fFld 18) (eV 1)) aN)) []))
    (sSeq (sExpr (eMeth fn 3 (eV 0) (aC (eC (.str "of")) aN)))
    (sSeq (sSet 5 (eCall (fn 12) (aC (eV 0) (aC (eC (.int 1)) (aC (eC (.int 400)) aN))) []))
    (sRet (eFrz (eMake (mk 157) 29 (aC (eV 4) (aC (eV 2) (aC (eV 3) (aC (eV 5) (aC (eCall (fn 30) (aC (eV 0) (aC (eV 1) aN)) []) aN))))) [])))))))))
def d_take_folded : FD := ⟨2, 6, b_take_folded⟩
/- 34 take_running: taker, known, fold, value, target -/
def b_take_running (fn mk : Nat → List LV → LH → Out LV) : MS :=
  (sSeq (sSet 2 (eCall (fn 15) (aC (eV 0) aN) []))
    (sSeq (sSet 3 (eCall (fn 16) (aC (eV 0) (aC (eV 1) aN)) []))
    (sSeq (sExpr (eMeth fn 3 (eV 0) (aC (eC (.str "into")) aN)))
    (sSeq (sSet 4 (eCall (fn 13) (aC (eV 0) (aC (eU (fFld 18) (eV 1)) aN)) []))
    (sRet (eFrz (eMake (mk 159) 30 (aC (eV 4) (aC (eV 2) (aC (eV 3) (aC (eCall (fn 30) (aC (eV 0) (aC (eV 1) aN)) []) aN)))) [])))))))
def d_take_running : FD := ⟨2, 5, b_take_running⟩
/- 35 read_step: reading, taker, word, known, step -/
def b_read_step (fn mk : Nat → List LV → LH → Out LV) : MS :=
  (sSeq (sSet 3 (eMake (mk 143) 24 (aC (eU (fFld 30) (eV 0)) (aC (eU (fFld 19) (eV 0)) (aC (eU (fFld 5) (eV 0)) aN))) [.non]))
    (sSeq (sIf (eB fEq (eV 2) (eC (.str "let"))) (sSet 4 (eCall (fn 31) (aC (eV 1) (aC (eV 3) aN)) [])) (sIf (eB fEq (eV 2) (eC (.str "put"))) (sSet 4 (eCall (fn 32) (aC (eV 1) (aC (eV 3) aN)) [])) (sIf (eB fEq (eV 2) (eC (.str "fold"))) (sSet 4 (eCall (fn 33) (aC (eV 1) (aC (eV 3) aN)) [])) (sIf (eB fEq (eV 2) (eC (.str "run"))) (sSet 4 (eCall (fn 34) (aC (eV 1) (aC (eV 3) aN)) [])) sBad))))
    (sSeq (sExpr (eMeth fn 7 (eV 1) aN))
    (sSeq (sIf (eB fEq (eCB fLen (aC (eU (fFld 31) (eV 0)) aN)) (eC (.int 40))) sBad sNop)
    (sSeq (sExpr (eCall (fn 25) (aC (eU (fFld 0) (eV 1)) (aC (eCall (fn 21) (aC (eV 4) aN) []) (aC (eU (fFld 5) (eV 0)) aN))) []))
    (sSeq (sIf (eCall (fn 23) (aC (eV 4) (aC (eU (fFld 4) (eV 0)) aN)) []) sBad sNop)
    (sSeq (sIf (eCall (fn 24) (aC (eV 4) aN) []) sBad sNop)
    (sSeq (sExpr (eBM "list" fAppend (eU (fFld 31) (eV 0)) (aC (eU (fFld 0) (eV 1)) aN)))
    (sExpr (eBM "list" fAppend (eB fIx (eU (fFld 32) (eV 0)) (eU fNeg (eC (.int 1)))) (aC (eV 4) aN)))))))))))
def d_read_step : FD := ⟨3, 5, b_read_step⟩
/- 36 read_line: reading, taker, within, word -/
def b_read_line (fn mk : Nat → List LV → LH → Out LV) : MS :=
  (sSeq (sSet 2 (eB fGt (eCB fLen (aC (eU (fFld 33) (eV 0)) aN)) (eC (.int 0))))
    (sSeq (sSet 3 (eMeth fn 1 (eV 1) aN))
    (sSeq (sExpr (eMeth fn 2 (eV 1) aN))
    (sIf (eAnd (eB fEq (eV 3) (eC (.str "row"))) (eNot (eV 2))) (sExpr (eCall (fn 26) (aC (eV 0) (aC (eV 1) aN)) [])) (sIf (eAnd (eB fEq (eV 3) (eC (.str "def"))) (eNot (eV 2))) (sExpr (eCall (fn 27) (aC (eV 0) (aC (eV 1) aN)) [])) (sIf (eB fEq (eV 3) (eC (.str "till"))) (sExpr (eCall (fn 28) (aC (eV 0) (aC (eV 1) aN)) [])) (sIf (eAnd (eB fEq (eV 3) (eC (.str "end"))) (eV 2)) (sExpr (eCall (fn 29) (aC (eV 0) (aC (eV 1) aN)) [])) (sExpr (eCall (fn 35) (aC (eV 0) (aC (eV 1) (aC (eV 3) aN))) [])))))))))
def d_read_line : FD := ⟨2, 4, b_read_line⟩
/- 37 read: text, reading, count, line, words, program -/
def b_read (fn mk : Nat → List LV → LH → Out LV) : MS :=
  (sSeq (sSet 1 (eMake (mk 163) 34 aN []))
    (sSeq (sSet 2 (eC (.int 0)))
    (sSeq (sFor (tgN 3) (iL (eBM "str" fSplit (eV 0) (aC (eC (.str "\n")) aN))) (sSeq (sAug 2 fIAdd (eC (.int 1)))
    (sSeq (sSet 4 (eCall (fn 6) (aC (eV 3) aN) []))
    (sIf (eB fGt (eCB fLen (aC (eV 4) aN)) (eC (.int 0))) (sExpr (eCall (fn 36) (aC (eV 1) (aC (eMake (mk 144) 25 (aC (eV 2) (aC (eV 4) aN)) []) aN)) [])) sNop))))
    (sSeq (sIf (eB fGt (eCB fLen (aC (eU (fFld 33) (eV 1)) aN)) (eC (.int 0))) sBad sNop)
    (sSeq (sSet 5 (eFrz (eMake (mk 161) 32 (aC (eU (fFld 4) (eV 1)) (aC (eU (fFld 5) (eV 1)) (aC (eB fIx (eU (fFld 32) (eV 1)) (eC (.int 0))) aN))) [])))
    (sRet (eMake (mk 162) 33 (aC (eV 5) (aC (eU (fFld 30) (eV 1)) (aC (eU (fFld 31) (eV 1)) aN))) [])))))))
def d_read : FD := ⟨1, 6, b_read⟩
/- 122 LineError.__init__: self, line -/
def b_LineError_init (fn mk : Nat → List LV → LH → Out LV) : MS :=
  (sFld (eV 0) 0 (eV 1))
def d_LineError_init : FD := ⟨2, 2, b_LineError_init⟩
/- 124 Spot.__init__: self, lengths, functions, cells, place, own -/
def b_Spot_init (fn mk : Nat → List LV → LH → Out LV) : MS :=
  (sSeq (sFld (eV 0) 4 (eV 1))
    (sSeq (sFld (eV 0) 5 (eV 2))
    (sSeq (sFld (eV 0) 6 (eV 3))
    (sSeq (sFld (eV 0) 2 (eV 4))
    (sFld (eV 0) 7 (eV 5))))))
def d_Spot_init : FD := ⟨6, 6, b_Spot_init⟩
/- 125 Form.worth: self, spot -/
def b_Form_worth (fn mk : Nat → List LV → LH → Out LV) : MS :=
  (sRet (eC (.int 0)))
def d_Form_worth : FD := ⟨2, 2, b_Form_worth⟩
/- 126 Number.__init__: self, number -/
def b_Number_init (fn mk : Nat → List LV → LH → Out LV) : MS :=
  (sFld (eV 0) 8 (eV 1))
def d_Number_init : FD := ⟨2, 2, b_Number_init⟩
/- 127 Number.worth: self, spot -/
def b_Number_worth (fn mk : Nat → List LV → LH → Out LV) : MS :=
  (sRet (eU (fFld 8) (eV 0)))
def d_Number_worth : FD := ⟨2, 2, b_Number_worth⟩
/- 128 Here.worth: self, spot -/
def b_Here_worth (fn mk : Nat → List LV → LH → Out LV) : MS :=
  (sRet (eU (fFld 2) (eV 1)))
def d_Here_worth : FD := ⟨2, 2, b_Here_worth⟩
/- 129 Cell.__init__: self, row -/
def b_Cell_init (fn mk : Nat → List LV → LH → Out LV) : MS :=
  (sFld (eV 0) 9 (eV 1))
def d_Cell_init : FD := ⟨2, 2, b_Cell_init⟩
/- 130 Cell.worth: self, spot -/
def b_Cell_worth (fn mk : Nat → List LV → LH → Out LV) : MS :=
  (sSeq (sIf (eB fEq (eB fIx (eU (fFld 4) (eV 1)) (eU (fFld 9) (eV 0))) (eC (.int 1))) (sRet (eCall (fn 5) (aC (eV 1) (aC (eU (fFld 9) (eV 0)) (aC (eC (.int 0)) aN))) [])) sNop)
    (sRet (eCall (fn 5) (aC (eV 1) (aC (eU (fFld 9) (eV 0)) (aC (eU (fFld 2) (eV 1)) aN))) [])))
def d_Cell_worth : FD := ⟨2, 2, b_Cell_worth⟩
/- 131 Shifted.__init__: self, row, by, other -/
def b_Shifted_init (fn mk : Nat → List LV → LH → Out LV) : MS :=
  (sSeq (sFld (eV 0) 9 (eV 1))
    (sSeq (sFld (eV 0) 10 (eV 2))
    (sFld (eV 0) 11 (eV 3))))
def d_Shifted_init : FD := ⟨4, 4, b_Shifted_init⟩
/- 132 Shifted.worth: self, spot, place -/
def b_Shifted_worth (fn mk : Nat → List LV → LH → Out LV) : MS :=
  (sSeq (sSet 2 (eB fAdd (eU (fFld 2) (eV 1)) (eU (fFld 10) (eV 0))))
    (sSeq (sIf (eChain fLe fLt (eC (.int 0)) (eV 2) (eB fIx (eU (fFld 4) (eV 1)) (eU (fFld 9) (eV 0)))) (sRet (eCall (fn 5) (aC (eV 1) (aC (eU (fFld 9) (eV 0)) (aC (eV 2) aN))) [])) sNop)
    (sRet (eU (fFld 11) (eV 0)))))
def d_Shifted_worth : FD := ⟨2, 3, b_Shifted_worth⟩
/- 133 Local.__init__: self, at -/
def b_Local_init (fn mk : Nat → List LV → LH → Out LV) : MS :=
  (sFld (eV 0) 12 (eV 1))
def d_Local_init : FD := ⟨2, 2, b_Local_init⟩
/- 134 Local.worth: self, spot -/
def b_Local_worth (fn mk : Nat → List LV → LH → Out LV) : MS :=
  (sRet (eB fIx (eU (fFld 7) (eV 1)) (eU (fFld 12) (eV 0))))
def d_Local_worth : FD := ⟨2, 2, b_Local_worth⟩
/- 135 At.__init__: self, row, place -/
def b_At_init (fn mk : Nat → List LV → LH → Out LV) : MS :=
  (sSeq (sFld (eV 0) 9 (eV 1))
    (sFld (eV 0) 2 (eV 2)))
def d_At_init : FD := ⟨3, 3, b_At_init⟩
/- 136 At.worth: self, spot, place -/
def b_At_worth (fn mk : Nat → List LV → LH → Out LV) : MS :=
  (sSeq (sSet 2 (eMeth fn 0 (eU (fFld 2) (eV 0)) (aC (eV 1) aN)))
    (sSeq (sIf (eNot (eChain fLe fLt (eC (.int 0)) (eV 2) (eB fIx (eU (fFld 4) (eV 1)) (eU (fFld 9) (eV 0))))) sBad sNop)
    (sRet (eCall (fn 5) (aC (eV 1) (aC (eU (fFld 9) (eV 0)) (aC (eV 2) aN))) []))))
def d_At_worth : FD := ⟨2, 3, b_At_worth⟩
/- 137 Pair.__init__: self, sign, left, right -/
def b_Pair_init (fn mk : Nat → List LV → LH → Out LV) : MS :=
  (sSeq (sFld (eV 0) 13 (eV 1))
    (sSeq (sFld (eV 0) 14 (eV 2))
    (sFld (eV 0) 15 (eV 3))))
def d_Pair_init : FD := ⟨4, 4, b_Pair_init⟩
/- 138 Pair.worth: self, spot, left, right -/
def b_Pair_worth (fn mk : Nat → List LV → LH → Out LV) : MS :=
  (sSeq (sSet 2 (eMeth fn 0 (eU (fFld 14) (eV 0)) (aC (eV 1) aN)))
    (sSeq (sSet 3 (eMeth fn 0 (eU (fFld 15) (eV 0)) (aC (eV 1) aN)))
    (sRet (eCall (fn 3) (aC (eU (fFld 13) (eV 0)) (aC (eV 2) (aC (eV 3) aN))) []))))
def d_Pair_worth : FD := ⟨2, 4, b_Pair_worth⟩
/- 139 Choice.__init__: self, test, left, right -/
def b_Choice_init (fn mk : Nat → List LV → LH → Out LV) : MS :=
  (sSeq (sFld (eV 0) 16 (eV 1))
    (sSeq (sFld (eV 0) 14 (eV 2))
    (sFld (eV 0) 15 (eV 3))))
def d_Choice_init : FD := ⟨4, 4, b_Choice_init⟩
/- 140 Choice.worth: self, spot -/
def b_Choice_worth (fn mk : Nat → List LV → LH → Out LV) : MS :=
  (sSeq (sIf (eB fNe (eMeth fn 0 (eU (fFld 16) (eV 0)) (aC (eV 1) aN)) (eC (.int 0))) (sRet (eMeth fn 0 (eU (fFld 14) (eV 0)) (aC (eV 1) aN))) sNop)
    (sRet (eMeth fn 0 (eU (fFld 15) (eV 0)) (aC (eV 1) aN))))
def d_Choice_worth : FD := ⟨2, 2, b_Choice_worth⟩
/- 141 Call.__init__: self, at, handed -/
def b_Call_init (fn mk : Nat → List LV → LH → Out LV) : MS :=
  (sSeq (sFld (eV 0) 12 (eV 1))
    (sFld (eV 0) 17 (eFrz (eCB fList (aC (eV 2) aN)))))
def d_Call_init : FD := ⟨3, 3, b_Call_init⟩
/- 142 Call.worth: self, spot, own, form, body -/
def b_Call_worth (fn mk : Nat → List LV → LH → Out LV) : MS :=
  (sSeq (sSet 2 (eLst aN))
    (sSeq (sFor (tgN 3) (iL (eU (fFld 17) (eV 0))) (sExpr (eBM "list" fAppend (eV 2) (aC (eMeth fn 0 (eV 3) (aC (eV 1) aN)) aN))))
    (sSeq (sSet 4 (eB fIx (eB fIx (eU (fFld 5) (eV 1)) (eU (fFld 12) (eV 0))) (eC (.int 1))))
    (sRet (eMeth fn 0 (eV 4) (aC (eFrz (eMake (mk 124) 13 (aC (eU (fFld 4) (eV 1)) (aC (eU (fFld 5) (eV 1)) (aC (eU (fFld 6) (eV 1)) (aC (eU (fFld 2) (eV 1)) (aC (eFrz (eV 2)) aN))))) [])) aN))))))
def d_Call_worth : FD := ⟨2, 5, b_Call_worth⟩
/- 143 Known.__init__: self, rows, calls, functions, parameters -/
def b_Known_init (fn mk : Nat → List LV → LH → Out LV) : MS :=
  (sSeq (sFld (eV 0) 18 (eV 1))
    (sSeq (sFld (eV 0) 19 (eV 2))
    (sSeq (sFld (eV 0) 5 (eV 3))
    (sFld (eV 0) 20 (eV 4)))))
def d_Known_init : FD := ⟨5, 5, b_Known_init⟩
/- 144 Taker.__init__: self, line, words -/
def b_Taker_init (fn mk : Nat → List LV → LH → Out LV) : MS :=
  (sSeq (sFld (eV 0) 0 (eV 1))
    (sSeq (sFld (eV 0) 21 (eV 2))
    (sSeq (sFld (eV 0) 12 (eC (.int 0)))
    (sFld (eV 0) 22 (eC (.int 0))))))
def d_Taker_init : FD := ⟨3, 3, b_Taker_init⟩
/- 145 Taker.word: self -/
def b_Taker_word (fn mk : Nat → List LV → LH → Out LV) : MS :=
  (sSeq (sIf (eB fGe (eU (fFld 12) (eV 0)) (eCB fLen (aC (eU (fFld 21) (eV 0)) aN))) sBad sNop)
    (sRet (eB fIx (eU (fFld 21) (eV 0)) (eU (fFld 12) (eV 0)))))
def d_Taker_word : FD := ⟨1, 1, b_Taker_word⟩
/- 146 Taker.pass_on: self -/
def b_Taker_pass_on (fn mk : Nat → List LV → LH → Out LV) : MS :=
  (sFldAug (eV 0) 12 fIAdd (eC (.int 1)))
def d_Taker_pass_on : FD := ⟨1, 1, b_Taker_pass_on⟩
/- 147 Taker.meet: self, due -/
def b_Taker_meet (fn mk : Nat → List LV → LH → Out LV) : MS :=
  (sSeq (sIf (eB fNe (eMeth fn 1 (eV 0) aN) (eV 1)) sBad sNop)
    (sFldAug (eV 0) 12 fIAdd (eC (.int 1))))
def d_Taker_meet : FD := ⟨2, 2, b_Taker_meet⟩
/- 148 Taker.go_in: self -/
def b_Taker_go_in (fn mk : Nat → List LV → LH → Out LV) : MS :=
  (sSeq (sIf (eB fEq (eU (fFld 22) (eV 0)) (eC (.int 30))) sBad sNop)
    (sSeq (sFldAug (eV 0) 12 fIAdd (eC (.int 1)))
    (sFldAug (eV 0) 22 fIAdd (eC (.int 1)))))
def d_Taker_go_in : FD := ⟨1, 1, b_Taker_go_in⟩
/- 149 Taker.go_out: self -/
def b_Taker_go_out (fn mk : Nat → List LV → LH → Out LV) : MS :=
  (sSeq (sExpr (eMeth fn 3 (eV 0) (aC (eC (.str ")")) aN)))
    (sFldAug (eV 0) 22 fSub (eC (.int 1))))
def d_Taker_go_out : FD := ⟨1, 1, b_Taker_go_out⟩
/- 150 Taker.ended: self -/
def b_Taker_ended (fn mk : Nat → List LV → LH → Out LV) : MS :=
  (sRet (eB fEq (eU (fFld 12) (eV 0)) (eCB fLen (aC (eU (fFld 21) (eV 0)) aN))))
def d_Taker_ended : FD := ⟨1, 1, b_Taker_ended⟩
/- 151 Taker.finish: self -/
def b_Taker_finish (fn mk : Nat → List LV → LH → Out LV) : MS :=
  (sIf (eNot (eMeth fn 6 (eV 0) aN)) sBad sNop)
def d_Taker_finish : FD := ⟨1, 1, b_Taker_finish⟩
/- 152 Step.__init__: self, target -/
def b_Step_init (fn mk : Nat → List LV → LH → Out LV) : MS :=
  (sFld (eV 0) 23 (eV 1))
def d_Step_init : FD := ⟨2, 2, b_Step_init⟩
/- 153 Step.many_of: self, lengths -/
def b_Step_many_of (fn mk : Nat → List LV → LH → Out LV) : MS :=
  (sRet (eB fIx (eV 1) (eU (fFld 23) (eV 0))))
def d_Step_many_of : FD := ⟨2, 2, b_Step_many_of⟩
/- 154 Let.__init__: self, target, value, test -/
def b_Let_init (fn mk : Nat → List LV → LH → Out LV) : MS :=
  (sSeq (sExpr (eCall (fn 152) (aC (eV 0) (aC (eV 1) aN)) []))
    (sSeq (sFld (eV 0) 24 (eV 2))
    (sFld (eV 0) 16 (eV 3))))
def d_Let_init : FD := ⟨4, 4, b_Let_init⟩
/- 155 Put.__init__: self, target, value, place, many, test -/
def b_Put_init (fn mk : Nat → List LV → LH → Out LV) : MS :=
  (sSeq (sExpr (eCall (fn 152) (aC (eV 0) (aC (eV 1) aN)) []))
    (sSeq (sFld (eV 0) 24 (eV 2))
    (sSeq (sFld (eV 0) 2 (eV 3))
    (sSeq (sFld (eV 0) 25 (eV 4))
    (sFld (eV 0) 16 (eV 5))))))
def d_Put_init : FD := ⟨6, 6, b_Put_init⟩
/- 156 Put.many_of: self, lengths -/
def b_Put_many_of (fn mk : Nat → List LV → LH → Out LV) : MS :=
  (sRet (eU (fFld 25) (eV 0)))
def d_Put_many_of : FD := ⟨2, 2, b_Put_many_of⟩
/- 157 Fold.__init__: self, target, fold, value, many, test -/
def b_Fold_init (fn mk : Nat → List LV → LH → Out LV) : MS :=
  (sSeq (sExpr (eCall (fn 152) (aC (eV 0) (aC (eV 1) aN)) []))
    (sSeq (sFld (eV 0) 26 (eV 2))
    (sSeq (sFld (eV 0) 24 (eV 3))
    (sSeq (sFld (eV 0) 25 (eV 4))
    (sFld (eV 0) 16 (eV 5))))))
def d_Fold_init : FD := ⟨6, 6, b_Fold_init⟩
/- 158 Fold.many_of: self, lengths -/
def b_Fold_many_of (fn mk : Nat → List LV → LH → Out LV) : MS :=
  (sRet (eU (fFld 25) (eV 0)))
def d_Fold_many_of : FD := ⟨2, 2, b_Fold_many_of⟩
/- 159 Running.__init__: self, target, fold, value, test -/
def b_Running_init (fn mk : Nat → List LV → LH → Out LV) : MS :=
  (sSeq (sExpr (eCall (fn 152) (aC (eV 0) (aC (eV 1) aN)) []))
    (sSeq (sFld (eV 0) 26 (eV 2))
    (sSeq (sFld (eV 0) 24 (eV 3))
    (sFld (eV 0) 16 (eV 4)))))
def d_Running_init : FD := ⟨5, 5, b_Running_init⟩
/- 160 Till.__init__: self, target, most, steps -/
def b_Till_init (fn mk : Nat → List LV → LH → Out LV) : MS :=
  (sSeq (sExpr (eCall (fn 152) (aC (eV 0) (aC (eV 1) aN)) []))
    (sSeq (sFld (eV 0) 27 (eV 2))
    (sFld (eV 0) 28 (eFrz (eCB fList (aC (eV 3) aN))))))
def d_Till_init : FD := ⟨4, 4, b_Till_init⟩
/- 161 Program.__init__: self, lengths, functions, steps -/
def b_Program_init (fn mk : Nat → List LV → LH → Out LV) : MS :=
  (sSeq (sFld (eV 0) 4 (eFrz (eCB fList (aC (eV 1) aN))))
    (sSeq (sFld (eV 0) 5 (eFrz (eCB fList (aC (eV 2) aN))))
    (sFld (eV 0) 28 (eFrz (eCB fList (aC (eV 3) aN))))))
def d_Program_init : FD := ⟨4, 4, b_Program_init⟩
/- 162 Source.__init__: self, program, names, lines -/
def b_Source_init (fn mk : Nat → List LV → LH → Out LV) : MS :=
  (sSeq (sFld (eV 0) 29 (eV 1))
    (sSeq (sFld (eV 0) 30 (eV 2))
    (sFld (eV 0) 31 (eV 3))))
def d_Source_init : FD := ⟨4, 4, b_Source_init⟩
/- 163 Reading.__init__: self -/
def b_Reading_init (fn mk : Nat → List LV → LH → Out LV) : MS :=
  (sSeq (sFld (eV 0) 30 (eLst aN))
    (sSeq (sFld (eV 0) 4 (eLst aN))
    (sSeq (sFld (eV 0) 19 (eLst aN))
    (sSeq (sFld (eV 0) 5 (eLst aN))
    (sSeq (sFld (eV 0) 31 (eLst aN))
    (sSeq (sFld (eV 0) 32 (eLst (aC (eLst aN) aN)))
    (sFld (eV 0) 33 (eLst aN))))))))
def d_Reading_init : FD := ⟨1, 1, b_Reading_init⟩
/- 500 _law_tape: script, k, cell -/
def b_law_tape (fn mk : Nat → List LV → LH → Out LV) : MS :=
  (sSeq (sSet 2 (eIf (eB fLt (eV 1) (eCB fLen (aC (eV 0) aN))) (eB fIx (eV 0) (eV 1)) (eC (.int 0))))
    (sRet (eLst (aC (eB fMul (eCB fAbs (aC (eV 2) aN)) (eCB fInt (aC (eB fGe (eCB fAbs (aC (eV 2) aN)) (eB fPow (eC (.int 10)) (eC (.int 18)))) aN))) (aC (eB fAdd (eB fAdd (eB fMod (eV 2) (eC (.int 2305843009213693951))) (eB fMul (eC (.int 39373)) (eV 1))) (eC (.int 17))) (aC (eC (.int 0)) aN))))))
def d_law_tape : FD := ⟨2, 3, b_law_tape⟩
/- 501 _law_draw: tape, many, found, once, twice -/
def b_law_draw (fn mk : Nat → List LV → LH → Out LV) : MS :=
  (sSeq (sIf (eB fGt (eB fIx (eV 0) (eC (.int 0))) (eC (.int 0))) (sSeq (sSet 2 (eB fMod (eB fIx (eV 0) (eC (.int 0))) (eV 1)))
    (sSeq (sSetIx (eV 0) (eC (.int 0)) (eB fDiv (eB fIx (eV 0) (eC (.int 0))) (eV 1)))
    (sRet (eV 2)))) sNop)
    (sSeq (sSetIx (eV 0) (eC (.int 2)) (eB fAdd (eB fIx (eV 0) (eC (.int 2))) (eC (.int 1))))
    (sSeq (sSet 3 (eB fMod (eB fPow (eB fAdd (eB fIx (eV 0) (eC (.int 1))) (eB fMul (eC (.int 39373)) (eB fIx (eV 0) (eC (.int 2))))) (eC (.int 5))) (eC (.int 2147483647))))
    (sSeq (sSet 4 (eB fMod (eB fMul (eB fAdd (eV 3) (eB fIx (eV 0) (eC (.int 2)))) (eB fAdd (eB fAdd (eB fMod (eV 3) (eC (.int 40009))) (eC (.int 7))) (eB fIx (eV 0) (eC (.int 2))))) (eC (.int 2147483629))))
    (sRet (eB fMod (eB fDiv (eB fMod (eB fAdd (eB fMul (eV 4) (eC (.int 48271))) (eV 3)) (eC (.int 2147483587))) (eC (.int 64))) (eV 1)))))))
def d_law_draw : FD := ⟨2, 5, b_law_draw⟩
/- 502 _law_is_one: form, at, some -/
def b_law_is_one (fn mk : Nat → List LV → LH → Out LV) : MS :=
  (sSeq (sSet 2 (eLst (aC (eIsi (eV 0) [.own 15]) (aC (eIsi (eV 0) [.own 16]) (aC (eIsi (eV 0) [.own 17]) (aC (eIsi (eV 0) [.own 18]) aN))))))
    (sSeq (sSet 2 (eB fAdd (eV 2) (eLst (aC (eIsi (eV 0) [.own 19]) (aC (eIsi (eV 0) [.own 20]) (aC (eIsi (eV 0) [.own 21]) aN))))))
    (sSeq (sSet 2 (eB fAdd (eV 2) (eLst (aC (eIsi (eV 0) [.own 22]) (aC (eIsi (eV 0) [.own 23]) aN)))))
    (sRet (eAnd (eIsi (eV 0) [.own 14]) (eAnd (eB fEq (eBM "list" fCount (eV 2) (aC (eC (.bl true)) aN)) (eC (.int 1))) (eB fEq (eBM "list" fIndex (eV 2) (aC (eC (.bl true)) aN)) (eV 1))))))))
def d_law_is_one : FD := ⟨2, 3, b_law_is_one⟩
/- 503 _law_by_hand: tape, n, row, by, forms, at, form -/
def b_law_by_hand (fn mk : Nat → List LV → LH → Out LV) : MS :=
  (sSeq (sPar3 1 2 3 (aC (eB fSub (eCall (frP (fn 501)) (aC (eV 0) (aC (eC (.int 99)) aN)) []) (eC (.int 9))) (aC (eCall (frP (fn 501)) (aC (eV 0) (aC (eC (.int 12)) aN)) []) (aC (eB fSub (eCall (frP (fn 501)) (aC (eV 0) (aC (eC (.int 801)) aN)) []) (eC (.int 400))) aN))))
    (sSeq (sSet 4 (eLst (aC (eFrz (eMake (mk 126) 15 (aC (eV 1) aN) [])) (aC (eFrz (eNew 16)) (aC (eFrz (eMake (mk 129) 17 (aC (eV 2) aN) [])) (aC (eFrz (eMake (mk 131) 18 (aC (eV 2) (aC (eV 3) (aC (eV 1) aN))) [])) (aC (eFrz (eMake (mk 133) 19 (aC (eB fMod (eV 2) (eC (.int 6))) aN) [])) (aC (eFrz (eMake (mk 135) 20 (aC (eV 2) (aC (eFrz (eNew 16)) aN)) [])) aN))))))))
    (sSeq (sSet 4 (eB fAdd (eV 4) (eLst (aC (eFrz (eMake (mk 137) 21 (aC (eC (.str "+")) (aC (eFrz (eMake (mk 126) 15 (aC (eV 1) aN) [])) (aC (eFrz (eMake (mk 129) 17 (aC (eV 2) aN) [])) aN))) [])) (aC (eFrz (eMake (mk 139) 22 (aC (eFrz (eNew 16)) (aC (eFrz (eMake (mk 126) 15 (aC (eV 1) aN) [])) (aC (eFrz (eMake (mk 129) 17 (aC (eV 2) aN) [])) aN))) [])) (aC (eFrz (eMake (mk 141) 23 (aC (eB fMod (eV 2) (eC (.int 8))) (aC (eLst aN) aN)) [])) aN))))))
    (sSeq (sIf (eNot (eCB (fBls gAll) (aC (eComp [5, 6] (tgT [5, 6]) (iE (eV 4)) mYes (eCall (frP (fn 502)) (aC (eV 6) (aC (eV 5) aN)) [])) aN))) (sRet (eC (.bl false))) sNop)
    (sSeq (sIf (eB fNe (eLst (aC (eU (fFld 8) (eB fIx (eV 4) (eC (.int 0)))) (aC (eU (fFld 9) (eB fIx (eV 4) (eC (.int 2)))) (aC (eU (fFld 12) (eB fIx (eV 4) (eC (.int 4)))) (aC (eU (fFld 9) (eB fIx (eV 4) (eC (.int 5)))) aN))))) (eLst (aC (eV 1) (aC (eV 2) (aC (eB fMod (eV 2) (eC (.int 6))) (aC (eV 2) aN)))))) (sRet (eC (.bl false))) sNop)
    (sSeq (sIf (eOr (eB fNe (eLst (aC (eU (fFld 9) (eB fIx (eV 4) (eC (.int 3)))) (aC (eU (fFld 10) (eB fIx (eV 4) (eC (.int 3)))) (aC (eU (fFld 11) (eB fIx (eV 4) (eC (.int 3)))) aN)))) (eLst (aC (eV 2) (aC (eV 3) (aC (eV 1) aN))))) (eB fNe (eU (fFld 13) (eB fIx (eV 4) (eC (.int 6)))) (eC (.str "+")))) (sRet (eC (.bl false))) sNop)
    (sSeq (sIf (eOr (eNot (eCall (frP (fn 502)) (aC (eU (fFld 2) (eB fIx (eV 4) (eC (.int 5)))) (aC (eC (.int 1)) aN)) [])) (eOr (eNot (eCall (frP (fn 502)) (aC (eU (fFld 14) (eB fIx (eV 4) (eC (.int 6)))) (aC (eC (.int 0)) aN)) [])) (eNot (eCall (frP (fn 502)) (aC (eU (fFld 15) (eB fIx (eV 4) (eC (.int 6)))) (aC (eC (.int 2)) aN)) [])))) (sRet (eC (.bl false))) sNop)
    (sSeq (sIf (eOr (eNot (eCall (frP (fn 502)) (aC (eU (fFld 16) (eB fIx (eV 4) (eC (.int 7)))) (aC (eC (.int 1)) aN)) [])) (eOr (eNot (eCall (frP (fn 502)) (aC (eU (fFld 14) (eB fIx (eV 4) (eC (.int 7)))) (aC (eC (.int 0)) aN)) [])) (eNot (eCall (frP (fn 502)) (aC (eU (fFld 15) (eB fIx (eV 4) (eC (.int 7)))) (aC (eC (.int 2)) aN)) [])))) (sRet (eC (.bl false))) sNop)
    (sRet (eAnd (eB fEq (eU (fFld 12) (eB fIx (eV 4) (eC (.int 8)))) (eB fMod (eV 2) (eC (.int 8)))) (eB fEq (eCB fLen (aC (eU (fFld 17) (eB fIx (eV 4) (eC (.int 8)))) aN)) (eC (.int 0)))))))))))))
def d_law_by_hand : FD := ⟨1, 7, b_law_by_hand⟩
/- 504 _law_read: tape, texts, kinds, at, lines, program, one, other, body -/
def b_law_read (fn mk : Nat → List LV → LH → Out LV) : MS :=
  (sSeq (sSet 1 (eLst (aC (eC (.str "7")) (aC (eC (.str "here")) (aC (eC (.str "b")) (aC (eC (.str "( shift b -1 3 )")) (aC (eC (.str "( at b here )")) (aC (eC (.str "( - b 4 )")) (aC (eC (.str "( if here b 2 )")) (aC (eC (.str "( f b )")) aN))))))))))
    (sSeq (sSet 2 (eLst (aC (eC (.int 0)) (aC (eC (.int 1)) (aC (eC (.int 2)) (aC (eC (.int 3)) (aC (eC (.int 5)) (aC (eC (.int 6)) (aC (eC (.int 7)) (aC (eC (.int 8)) aN))))))))))
    (sSeq (sSet 3 (eCall (frP (fn 501)) (aC (eV 0) (aC (eC (.int 8)) aN)) []))
    (sSeq (sSet 4 (eLst (aC (eC (.str "row a 3")) (aC (eC (.str "row b 3")) (aC (eC (.str "def f p = ( if p ( * p 3 ) p )")) (aC (eB fAdd (eC (.str "let a ")) (eB fIx (eV 1) (eV 3))) aN))))))
    (sSeq (sSet 5 (eU (fFld 29) (eCall (frP (fn 37)) (aC (eBM "str" fJoin (eC (.str "\n")) (aC (eB fAdd (eV 4) (eLst (aC (eB fAdd (eB fAdd (eC (.str "let a ( + 1 ")) (eB fIx (eV 1) (eV 3))) (eC (.str " )"))) aN))) aN)) aN) [])))
    (sSeq (sPar 6 7 (aC (eU (fFld 24) (eB fIx (eU (fFld 28) (eV 5)) (eC (.int 0)))) (aC (eU (fFld 24) (eB fIx (eU (fFld 28) (eV 5)) (eC (.int 1)))) aN)))
    (sSeq (sSet 8 (eB fIx (eB fIx (eU (fFld 5) (eV 5)) (eC (.int 0))) (eC (.int 1))))
    (sSeq (sIf (eOr (eNot (eCall (frP (fn 502)) (aC (eV 6) (aC (eB fIx (eV 2) (eV 3)) aN)) [])) (eOr (eNot (eCall (frP (fn 502)) (aC (eV 7) (aC (eC (.int 6)) aN)) [])) (eNot (eCall (frP (fn 502)) (aC (eU (fFld 15) (eV 7)) (aC (eB fIx (eV 2) (eV 3)) aN)) [])))) (sRet (eC (.bl false))) sNop)
    (sRet (eAnd (eCall (frP (fn 502)) (aC (eV 8) (aC (eC (.int 7)) aN)) []) (eAnd (eCall (frP (fn 502)) (aC (eU (fFld 16) (eV 8)) (aC (eC (.int 4)) aN)) []) (eCall (frP (fn 502)) (aC (eU (fFld 14) (eV 8)) (aC (eC (.int 6)) aN)) []))))))))))))
def d_law_read : FD := ⟨1, 9, b_law_read⟩
/- 505 law: script, k, tape, turn -/
def b_law (fn mk : Nat → List LV → LH → Out LV) : MS :=
  (sSeq (sFor (tgN 1) (iR1 (eB fAdd (eC (.int 1)) (eCB fMin2 (aC (eC (.int 4)) (aC (eCB fLen (aC (eV 0) aN)) aN))))) (sSeq (sSet 2 (eCall (frP (fn 500)) (aC (eV 0) (aC (eV 1) aN)) []))
    (sIf (eNot (eCB (fBls gAll) (aC (eComp [3] (tgN 3) (iR1 (eC (.int 4))) mYes (eAnd (eCall (frP (fn 503)) (aC (eV 2) aN) []) (eCall (frP (fn 504)) (aC (eV 2) aN) []))) aN))) (sRet (eC (.bl false))) sNop)))
    (sRet (eC (.bl true))))
def d_law : FD := ⟨1, 4, b_law⟩
def tl78 : List (Nat × FD) := [(0, d_kept),
  (1, d_divided),
  (2, d_by_bits),
  (3, d_done),
  (4, d_start_of),
  (5, d_row_cell),
  (6, d_words_of),
  (7, d_sign_word),
  (8, d_fold_word),
  (9, d_kept_word),
  (10, d_name_like),
  (11, d_number_of),
  (12, d_take_number),
  (13, d_take_name),
  (14, d_take_new),
  (15, d_take_fold),
  (16, d_take_form),
  (17, d_take_inner),
  (18, d_parts_of),
  (19, d_size_of),
  (20, d_depth_of),
  (21, d_forms_in),
  (22, d_all_within),
  (23, d_uneven),
  (24, d_crossed),
  (25, d_hold_forms),
  (26, d_read_row),
  (27, d_read_def),
  (28, d_read_till),
  (29, d_read_end),
  (30, d_take_test),
  (31, d_take_let),
  (32, d_take_put),
  (33, d_take_folded),
  (34, d_take_running),
  (35, d_read_step),
  (36, d_read_line),
  (37, d_read),
  (122, d_LineError_init),
  (124, d_Spot_init),
  (125, d_Form_worth),
  (126, d_Number_init),
  (127, d_Number_worth),
  (128, d_Here_worth),
  (129, d_Cell_init),
  (130, d_Cell_worth),
  (131, d_Shifted_init),
  (132, d_Shifted_worth),
  (133, d_Local_init),
  (134, d_Local_worth),
  (135, d_At_init),
  (136, d_At_worth),
  (137, d_Pair_init),
  (138, d_Pair_worth),
  (139, d_Choice_init),
  (140, d_Choice_worth),
  (141, d_Call_init),
  (142, d_Call_worth),
  (143, d_Known_init),
  (144, d_Taker_init),
  (145, d_Taker_word),
  (146, d_Taker_pass_on),
  (147, d_Taker_meet),
  (148, d_Taker_go_in),
  (149, d_Taker_go_out),
  (150, d_Taker_ended),
  (151, d_Taker_finish),
  (152, d_Step_init),
  (153, d_Step_many_of),
  (154, d_Let_init),
  (155, d_Put_init),
  (156, d_Put_many_of),
  (157, d_Fold_init),
  (158, d_Fold_many_of),
  (159, d_Running_init),
  (160, d_Till_init),
  (161, d_Program_init),
  (162, d_Source_init),
  (163, d_Reading_init),
  (500, d_law_tape),
  (501, d_law_draw),
  (502, d_law_is_one),
  (503, d_law_by_hand),
  (504, d_law_read),
  (505, d_law)]
def tbl78 (f : Nat) : Option FD := tl78.lookup f
end DD
end
section
set_option Elab.async false
set_option linter.all false
set_option maxRecDepth 100000
set_option maxHeartbeats 2000000

/-! V78: each def keeps its body's promise, printed by gen.py. -/
namespace V78
open PySem PySem.Spec PyProof.Rows L2 DD
def top (i : Nat) : Stmt := PySem.Challenge.pw_rowbreadth_k78_forms_of_one_class.main.body.getD i (.Pass ⟨0, 0, 0, 0⟩)
abbrev s0 : Stmt := top 15
abbrev s1 : Stmt := top 16
abbrev s2 : Stmt := top 17
abbrev s3 : Stmt := top 18
abbrev s4 : Stmt := top 20
abbrev s5 : Stmt := top 23
abbrev s6 : Stmt := top 37
abbrev s7 : Stmt := top 38
abbrev s8 : Stmt := top 39
abbrev s9 : Stmt := top 40
abbrev s10 : Stmt := top 41
abbrev s11 : Stmt := top 42
abbrev s12 : Stmt := top 47
abbrev s13 : Stmt := top 48
abbrev s14 : Stmt := top 49
abbrev s15 : Stmt := top 50
abbrev s16 : Stmt := top 51
abbrev s17 : Stmt := top 52
abbrev s18 : Stmt := top 62
abbrev s19 : Stmt := top 63
abbrev s20 : Stmt := top 64
abbrev s21 : Stmt := top 65
abbrev s22 : Stmt := top 66
abbrev s23 : Stmt := top 67
abbrev s24 : Stmt := top 68
abbrev s25 : Stmt := top 72
abbrev s26 : Stmt := top 73
abbrev s27 : Stmt := top 74
abbrev s28 : Stmt := top 75
abbrev s29 : Stmt := top 76
abbrev s30 : Stmt := top 77
abbrev s31 : Stmt := top 78
abbrev s32 : Stmt := top 79
abbrev s33 : Stmt := top 80
abbrev s34 : Stmt := top 81
abbrev s35 : Stmt := top 82
abbrev s36 : Stmt := top 83
abbrev s37 : Stmt := top 84
abbrev s122 : Stmt := inClass (top 4) 0
abbrev s124 : Stmt := inClass (top 22) 0
abbrev s125 : Stmt := inClass (top 24) 0
abbrev s126 : Stmt := inClass (top 25) 0
abbrev s127 : Stmt := inClass (top 25) 1
abbrev s128 : Stmt := inClass (top 26) 0
abbrev s129 : Stmt := inClass (top 27) 0
abbrev s130 : Stmt := inClass (top 27) 1
abbrev s131 : Stmt := inClass (top 28) 0
abbrev s132 : Stmt := inClass (top 28) 1
abbrev s133 : Stmt := inClass (top 29) 0
abbrev s134 : Stmt := inClass (top 29) 1
abbrev s135 : Stmt := inClass (top 30) 0
abbrev s136 : Stmt := inClass (top 30) 1
abbrev s137 : Stmt := inClass (top 31) 0
abbrev s138 : Stmt := inClass (top 31) 1
abbrev s139 : Stmt := inClass (top 32) 0
abbrev s140 : Stmt := inClass (top 32) 1
abbrev s141 : Stmt := inClass (top 33) 0
abbrev s142 : Stmt := inClass (top 33) 1
abbrev s143 : Stmt := inClass (top 45) 0
abbrev s144 : Stmt := inClass (top 46) 0
abbrev s145 : Stmt := inClass (top 46) 1
abbrev s146 : Stmt := inClass (top 46) 2
abbrev s147 : Stmt := inClass (top 46) 3
abbrev s148 : Stmt := inClass (top 46) 4
abbrev s149 : Stmt := inClass (top 46) 5
abbrev s150 : Stmt := inClass (top 46) 6
abbrev s151 : Stmt := inClass (top 46) 7
abbrev s152 : Stmt := inClass (top 54) 0
abbrev s153 : Stmt := inClass (top 54) 1
abbrev s154 : Stmt := inClass (top 55) 0
abbrev s155 : Stmt := inClass (top 56) 0
abbrev s156 : Stmt := inClass (top 56) 1
abbrev s157 : Stmt := inClass (top 57) 0
abbrev s158 : Stmt := inClass (top 57) 1
abbrev s159 : Stmt := inClass (top 58) 0
abbrev s160 : Stmt := inClass (top 59) 0
abbrev s161 : Stmt := inClass (top 60) 0
abbrev s162 : Stmt := inClass (top 70) 0
abbrev s163 : Stmt := inClass (top 71) 0
abbrev s500 : Stmt := top 86
abbrev s501 : Stmt := top 87
abbrev s502 : Stmt := top 88
abbrev s503 : Stmt := top 89
abbrev s504 : Stmt := top 90
abbrev s505 : Stmt := top 91
def info : List (Nat × FI) := [(0, ⟨("kept", none), ["number"], []⟩),
  (1, ⟨("divided", none), ["sign", "left", "right"], []⟩),
  (2, ⟨("by_bits", none), ["sign", "left", "right"], []⟩),
  (3, ⟨("done", none), ["sign", "left", "right"], []⟩),
  (4, ⟨("start_of", none), ["lengths", "row"], []⟩),
  (5, ⟨("row_cell", none), ["spot", "row", "place"], []⟩),
  (6, ⟨("words_of", none), ["line"], []⟩),
  (7, ⟨("sign_word", none), ["word"], []⟩),
  (8, ⟨("fold_word", none), ["word"], []⟩),
  (9, ⟨("kept_word", none), ["word"], []⟩),
  (10, ⟨("name_like", none), ["word"], []⟩),
  (11, ⟨("number_of", none), ["word"], []⟩),
  (12, ⟨("take_number", none), ["taker", "low", "high"], []⟩),
  (13, ⟨("take_name", none), ["taker", "names"], []⟩),
  (14, ⟨("take_new", none), ["taker", "names"], []⟩),
  (15, ⟨("take_fold", none), ["taker"], []⟩),
  (16, ⟨("take_form", none), ["taker", "known"], []⟩),
  (17, ⟨("take_inner", none), ["taker", "known"], []⟩),
  (18, ⟨("parts_of", none), ["form"], []⟩),
  (19, ⟨("size_of", none), ["form", "functions"], []⟩),
  (20, ⟨("depth_of", none), ["form", "functions"], []⟩),
  (21, ⟨("forms_in", none), ["step"], []⟩),
  (22, ⟨("all_within", none), ["form"], []⟩),
  (23, ⟨("uneven", none), ["step", "lengths"], []⟩),
  (24, ⟨("crossed", none), ["step"], []⟩),
  (25, ⟨("hold_forms", none), ["line", "forms", "functions"], []⟩),
  (26, ⟨("read_row", none), ["reading", "taker"], []⟩),
  (27, ⟨("read_def", none), ["reading", "taker"], []⟩),
  (28, ⟨("read_till", none), ["reading", "taker"], []⟩),
  (29, ⟨("read_end", none), ["reading", "taker"], []⟩),
  (30, ⟨("take_test", none), ["taker", "known"], []⟩),
  (31, ⟨("take_let", none), ["taker", "known"], []⟩),
  (32, ⟨("take_put", none), ["taker", "known"], []⟩),
  (33, ⟨("take_folded", none), ["taker", "known"], []⟩),
  (34, ⟨("take_running", none), ["taker", "known"], []⟩),
  (35, ⟨("read_step", none), ["reading", "taker", "word"], []⟩),
  (36, ⟨("read_line", none), ["reading", "taker"], []⟩),
  (37, ⟨("read", none), ["text"], []⟩),
  (122, ⟨("LineError", some "__init__"), ["self", "line"], []⟩),
  (124, ⟨("Spot", some "__init__"), ["self", "lengths", "functions", "cells", "place", "own"], []⟩),
  (125, ⟨("Form", some "worth"), ["self", "spot"], []⟩),
  (126, ⟨("Number", some "__init__"), ["self", "number"], []⟩),
  (127, ⟨("Number", some "worth"), ["self", "spot"], []⟩),
  (128, ⟨("Here", some "worth"), ["self", "spot"], []⟩),
  (129, ⟨("Cell", some "__init__"), ["self", "row"], []⟩),
  (130, ⟨("Cell", some "worth"), ["self", "spot"], []⟩),
  (131, ⟨("Shifted", some "__init__"), ["self", "row", "by", "other"], []⟩),
  (132, ⟨("Shifted", some "worth"), ["self", "spot"], []⟩),
  (133, ⟨("Local", some "__init__"), ["self", "at"], []⟩),
  (134, ⟨("Local", some "worth"), ["self", "spot"], []⟩),
  (135, ⟨("At", some "__init__"), ["self", "row", "place"], []⟩),
  (136, ⟨("At", some "worth"), ["self", "spot"], []⟩),
  (137, ⟨("Pair", some "__init__"), ["self", "sign", "left", "right"], []⟩),
  (138, ⟨("Pair", some "worth"), ["self", "spot"], []⟩),
  (139, ⟨("Choice", some "__init__"), ["self", "test", "left", "right"], []⟩),
  (140, ⟨("Choice", some "worth"), ["self", "spot"], []⟩),
  (141, ⟨("Call", some "__init__"), ["self", "at", "handed"], []⟩),
  (142, ⟨("Call", some "worth"), ["self", "spot"], []⟩),
  (143, ⟨("Known", some "__init__"), ["self", "rows", "calls", "functions", "parameters"], [.non]⟩),
  (144, ⟨("Taker", some "__init__"), ["self", "line", "words"], []⟩),
  (145, ⟨("Taker", some "word"), ["self"], []⟩),
  (146, ⟨("Taker", some "pass_on"), ["self"], []⟩),
  (147, ⟨("Taker", some "meet"), ["self", "due"], []⟩),
  (148, ⟨("Taker", some "go_in"), ["self"], []⟩),
  (149, ⟨("Taker", some "go_out"), ["self"], []⟩),
  (150, ⟨("Taker", some "ended"), ["self"], []⟩),
  (151, ⟨("Taker", some "finish"), ["self"], []⟩),
  (152, ⟨("Step", some "__init__"), ["self", "target"], []⟩),
  (153, ⟨("Step", some "many_of"), ["self", "lengths"], []⟩),
  (154, ⟨("Let", some "__init__"), ["self", "target", "value", "test"], [.non]⟩),
  (155, ⟨("Put", some "__init__"), ["self", "target", "value", "place", "many", "test"], [.non]⟩),
  (156, ⟨("Put", some "many_of"), ["self", "lengths"], []⟩),
  (157, ⟨("Fold", some "__init__"), ["self", "target", "fold", "value", "many", "test"], [.non]⟩),
  (158, ⟨("Fold", some "many_of"), ["self", "lengths"], []⟩),
  (159, ⟨("Running", some "__init__"), ["self", "target", "fold", "value", "test"], [.non]⟩),
  (160, ⟨("Till", some "__init__"), ["self", "target", "most", "steps"], []⟩),
  (161, ⟨("Program", some "__init__"), ["self", "lengths", "functions", "steps"], []⟩),
  (162, ⟨("Source", some "__init__"), ["self", "program", "names", "lines"], []⟩),
  (163, ⟨("Reading", some "__init__"), ["self"], []⟩),
  (500, ⟨("_law_tape", none), ["script", "k"], []⟩),
  (501, ⟨("_law_draw", none), ["tape", "many"], []⟩),
  (502, ⟨("_law_is_one", none), ["form", "at"], []⟩),
  (503, ⟨("_law_by_hand", none), ["tape"], []⟩),
  (504, ⟨("_law_read", none), ["tape"], []⟩),
  (505, ⟨("law", none), ["script"], []⟩)]
def cs : List Nat := [13, 14, 15, 16, 17, 18, 19, 20, 21, 22, 23, 24, 25, 26, 27, 28, 29, 30, 31, 32, 33, 34]
def inits : List (Nat × Nat) := [(13, 124), (15, 126), (17, 129), (18, 131), (19, 133), (20, 135), (21, 137), (22, 139), (23, 141), (24, 143), (25, 144), (26, 152), (27, 154), (28, 155), (29, 157), (30, 159), (31, 160), (32, 161), (33, 162), (34, 163)]
def news : List Nat := [14, 16]
def frees : List Str := ["len", "isinstance", "range", "list", "min", "max", "abs", "int", "all", "any", "enumerate", "divmod", "sum", "tuple", "zip", "reversed", "str", "sorted", "dict"]
def nums : List (Str × Int) := [("HALF", 9223372036854775808), ("MOST_BRACKETS", 30)]
def texts : List (Str × Str) := [("FIGURES", "0123456789"), ("LETTERS", "abcdefghijklmnopqrstuvwxyz")]
def rds : List (Nat × Nat) := [(26, 152)]
section
variable {P : Program} {w : World} {K : PySem.W.Frag} {mg : Str → Option Value} {base : Heap} {n : Nat} {fn mk : Nat → List LV → LH → Out LV}
abbrev Tx (K : PySem.W.Frag) (mg : Str → Option Value) := TextG K mg info cs inits news frees nums texts rds
abbrev Yx (P : Program) (w : World) (K : PySem.W.Frag) (mg : Str → Option Value) (base : Heap) (n : Nat) (fn mk : Nat → List LV → LH → Out LV) := Yv P w K mg base n fn mk info
abbrev N0 : List Str := ["number"]
theorem nd0 : N0.Nodup := by decide +kernel
theorem sc0 : FnScope N0 ["number"] (defScope s0) := ⟨rfl, rfl, rfl, nd0, rfl, by decide +kernel, by decide +kernel⟩
theorem v0 (T : Tx K mg) (Y : Yx P w K mg base n fn mk) {f : Addr} {cd : Value} {A : Around} {outer : List Env} {s : Shared} {H : Hp} {E : XK} (hr : Room (n + 1) (CxF P w K mg base N0 "kept" (defScope s0) f cd A outer s H E).A) :
    SSs (CxF P w K mg base N0 "kept" (defScope s0) f cd A outer s H E) (b_kept fn mk) (defBody s0) :=
  (ss_one (s_ret (se_op o_sub (se_op o_mod (se_op o_add (se_v 0 (pv 0)) (se_gint rfl (T.ci _ _ rfl))) (se_op o_mul (se_c pe_int) (se_gint rfl (T.ci _ _ rfl)))) (se_gint rfl (T.ci _ _ rfl)))))
abbrev N1 : List Str := ["sign", "left", "right", "quotient", "rest"]
theorem nd1 : N1.Nodup := by decide +kernel
theorem sc1 : FnScope N1 ["sign", "left", "right"] (defScope s1) := ⟨rfl, rfl, rfl, nd1, rfl, by decide +kernel, by decide +kernel⟩
theorem v1 (T : Tx K mg) (Y : Yx P w K mg base n fn mk) {f : Addr} {cd : Value} {A : Around} {outer : List Env} {s : Shared} {H : Hp} {E : XK} (hr : Room (n + 1) (CxF P w K mg base N1 "divided" (defScope s1) f cd A outer s H E).A) :
    SSs (CxF P w K mg base N1 "divided" (defScope s1) f cd A outer s H E) (b_divided fn mk) (defBody s1) :=
  (ss_cons (s_if (sb_cmp (o_eq hr.units) (se_v 2 (pv 2)) (se_c pe_int) rfl) (ss_one s_bad) ss_nil)
    (ss_cons (s_asg (sg_tup rfl (sgs_cons nd1 rfl (by first | exact Or.inl rfl | exact Or.inr rfl) (sgs_cons nd1 rfl (by first | exact Or.inl rfl | exact Or.inr rfl) sgs_nil)) rfl) (se_cb c_divmod rfl (T.fr _ rfl) (by decide +kernel) (sa_cons (se_v 1 (pv 1)) (sa_cons (se_v 2 (pv 2)) sa_nil))))
    (ss_cons (s_if (sb_cmp (o_eq hr.units) (se_v 0 (pv 0)) (se_c pe_str) rfl) (ss_one (s_ret (se_call ((Y.f 0 _ rfl).at_ 0) (Y.f 0 _ rfl).ne hr rfl rfl (sa_cons (se_v 3 (pv 3)) sa_nil)))) ss_nil)
    (ss_one (s_ret (se_v 4 (pv 4)))))))
abbrev N2 : List Str := ["sign", "left", "right"]
theorem nd2 : N2.Nodup := by decide +kernel
theorem sc2 : FnScope N2 ["sign", "left", "right"] (defScope s2) := ⟨rfl, rfl, rfl, nd2, rfl, by decide +kernel, by decide +kernel⟩
theorem v2 (T : Tx K mg) (Y : Yx P w K mg base n fn mk) {f : Addr} {cd : Value} {A : Around} {outer : List Env} {s : Shared} {H : Hp} {E : XK} (hr : Room (n + 1) (CxF P w K mg base N2 "by_bits" (defScope s2) f cd A outer s H E).A) :
    SSs (CxF P w K mg base N2 "by_bits" (defScope s2) f cd A outer s H E) (b_by_bits fn mk) (defBody s2) :=
  (ss_cons (s_if (sb_cmp (o_eq hr.units) (se_v 0 (pv 0)) (se_c pe_str) rfl) (ss_one (s_ret (se_op o_and (se_v 1 (pv 1)) (se_v 2 (pv 2))))) ss_nil)
    (ss_cons (s_if (sb_cmp (o_eq hr.units) (se_v 0 (pv 0)) (se_c pe_str) rfl) (ss_one (s_ret (se_op o_or (se_v 1 (pv 1)) (se_v 2 (pv 2))))) ss_nil)
    (ss_one (s_ret (se_op o_xor (se_v 1 (pv 1)) (se_v 2 (pv 2)))))))
abbrev N3 : List Str := ["sign", "left", "right"]
theorem nd3 : N3.Nodup := by decide +kernel
theorem sc3 : FnScope N3 ["sign", "left", "right"] (defScope s3) := ⟨rfl, rfl, rfl, nd3, rfl, by decide +kernel, by decide +kernel⟩
theorem v3 (T : Tx K mg) (Y : Yx P w K mg base n fn mk) {f : Addr} {cd : Value} {A : Around} {outer : List Env} {s : Shared} {H : Hp} {E : XK} (hr : Room (n + 1) (CxF P w K mg base N3 "done" (defScope s3) f cd A outer s H E).A) :
    SSs (CxF P w K mg base N3 "done" (defScope s3) f cd A outer s H E) (b_done fn mk) (defBody s3) :=
  (ss_cons (s_if (sb_cmp (o_eq hr.units) (se_v 0 (pv 0)) (se_c pe_str) rfl) (ss_one (s_ret (se_call ((Y.f 0 _ rfl).at_ 0) (Y.f 0 _ rfl).ne hr rfl rfl (sa_cons (se_op o_add (se_v 1 (pv 1)) (se_v 2 (pv 2))) sa_nil)))) ss_nil)
    (ss_cons (s_if (sb_cmp (o_eq hr.units) (se_v 0 (pv 0)) (se_c pe_str) rfl) (ss_one (s_ret (se_call ((Y.f 0 _ rfl).at_ 0) (Y.f 0 _ rfl).ne hr rfl rfl (sa_cons (se_op o_sub (se_v 1 (pv 1)) (se_v 2 (pv 2))) sa_nil)))) ss_nil)
    (ss_cons (s_if (sb_cmp (o_eq hr.units) (se_v 0 (pv 0)) (se_c pe_str) rfl) (ss_one (s_ret (se_call ((Y.f 0 _ rfl).at_ 0) (Y.f 0 _ rfl).ne hr rfl rfl (sa_cons (se_op o_mul (se_v 1 (pv 1)) (se_v 2 (pv 2))) sa_nil)))) ss_nil)
    (ss_cons (s_if (sb_w (sw_or (sb_cmp (o_eq hr.units) (se_v 0 (pv 0)) (se_c pe_str) rfl) (sw_or1 (sb_cmp (o_eq hr.units) (se_v 0 (pv 0)) (se_c pe_str) rfl)))) (ss_one (s_ret (se_call ((Y.f 1 _ rfl).at_ 0) (Y.f 1 _ rfl).ne hr rfl rfl (sa_cons (se_v 0 (pv 0)) (sa_cons (se_v 1 (pv 1)) (sa_cons (se_v 2 (pv 2)) sa_nil)))))) ss_nil)
    (ss_cons (s_if (sb_cmp (o_eq hr.units) (se_v 0 (pv 0)) (se_c pe_str) rfl) (ss_one (s_ret (se_cb (c_min2 rfl) rfl (T.fr _ rfl) (by decide +kernel) (sa_cons (se_v 1 (pv 1)) (sa_cons (se_v 2 (pv 2)) sa_nil))))) ss_nil)
    (ss_cons (s_if (sb_cmp (o_eq hr.units) (se_v 0 (pv 0)) (se_c pe_str) rfl) (ss_one (s_ret (se_cb (c_max2 rfl) rfl (T.fr _ rfl) (by decide +kernel) (sa_cons (se_v 1 (pv 1)) (sa_cons (se_v 2 (pv 2)) sa_nil))))) ss_nil)
    (ss_cons (s_if (sb_cmp (o_eq hr.units) (se_v 0 (pv 0)) (se_c pe_str) rfl) (ss_one (s_ret (se_if (sb_cmp o_lt (se_v 1 (pv 1)) (se_v 2 (pv 2)) rfl) (se_c pe_int) (se_c pe_int)))) ss_nil)
    (ss_cons (s_if (sb_cmp (o_eq hr.units) (se_v 0 (pv 0)) (se_c pe_str) rfl) (ss_one (s_ret (se_if (sb_cmp (o_eq hr.units) (se_v 1 (pv 1)) (se_v 2 (pv 2)) rfl) (se_c pe_int) (se_c pe_int)))) ss_nil)
    (ss_one (s_ret (se_call ((Y.f 2 _ rfl).at_ 0) (Y.f 2 _ rfl).ne hr rfl rfl (sa_cons (se_v 0 (pv 0)) (sa_cons (se_v 1 (pv 1)) (sa_cons (se_v 2 (pv 2)) sa_nil))))))))))))))
abbrev N4 : List Str := ["lengths", "row"]
theorem nd4 : N4.Nodup := by decide +kernel
theorem sc4 : FnScope N4 ["lengths", "row"] (defScope s4) := ⟨rfl, rfl, rfl, nd4, rfl, by decide +kernel, by decide +kernel⟩
theorem v4 (T : Tx K mg) (Y : Yx P w K mg base n fn mk) {f : Addr} {cd : Value} {A : Around} {outer : List Env} {s : Shared} {H : Hp} {E : XK} (hr : Room (n + 1) (CxF P w K mg base N4 "start_of" (defScope s4) f cd A outer s H E).A) :
    SSs (CxF P w K mg base N4 "start_of" (defScope s4) f cd A outer s H E) (b_start_of fn mk) (defBody s4) :=
  (ss_one (s_ret (se_cb (c_sum rfl) rfl (T.fr _ rfl) (by decide +kernel) (sa_cons (se_sl (se_v 0 (pv 0)) so_none (so_some (se_v 1 (pv 1)))) sa_nil))))
abbrev N5 : List Str := ["spot", "row", "place"]
theorem nd5 : N5.Nodup := by decide +kernel
theorem sc5 : FnScope N5 ["spot", "row", "place"] (defScope s5) := ⟨rfl, rfl, rfl, nd5, rfl, by decide +kernel, by decide +kernel⟩
theorem v5 (T : Tx K mg) (Y : Yx P w K mg base n fn mk) {f : Addr} {cd : Value} {A : Around} {outer : List Env} {s : Shared} {H : Hp} {E : XK} (hr : Room (n + 1) (CxF P w K mg base N5 "row_cell" (defScope s5) f cd A outer s H E).A) :
    SSs (CxF P w K mg base N5 "row_cell" (defScope s5) f cd A outer s H E) (b_row_cell fn mk) (defBody s5) :=
  (ss_one (s_ret (se_ix (se_fld (se_v 0 (pv 0)) rfl) (se_op o_add (se_call ((Y.f 4 _ rfl).at_ 0) (Y.f 4 _ rfl).ne hr rfl rfl (sa_cons (se_fld (se_v 0 (pv 0)) rfl) (sa_cons (se_v 1 (pv 1)) sa_nil))) (se_v 2 (pv 2))) (fun _ _ => rfl))))
abbrev N6 : List Str := ["line", "words", "word", "sign"]
theorem nd6 : N6.Nodup := by decide +kernel
theorem sc6 : FnScope N6 ["line"] (defScope s6) := ⟨rfl, rfl, rfl, nd6, rfl, by decide +kernel, by decide +kernel⟩
theorem v6 (T : Tx K mg) (Y : Yx P w K mg base n fn mk) {f : Addr} {cd : Value} {A : Around} {outer : List Env} {s : Shared} {H : Hp} {E : XK} (hr : Room (n + 1) (CxF P w K mg base N6 "words_of" (defScope s6) f cd A outer s H E).A) :
    SSs (CxF P w K mg base N6 "words_of" (defScope s6) f cd A outer s H E) (b_words_of fn mk) (defBody s6) :=
  (ss_cons (s_set nd6 rfl (by first | exact Or.inl rfl | exact Or.inr rfl) (se_lst sa_nil))
    (ss_cons (s_set nd6 rfl (by first | exact Or.inl rfl | exact Or.inr rfl) (se_c pe_str))
    (ss_cons (s_for rfl (si_s (se_v 0 (pv 0))) (sg_name nd6 rfl (by first | exact Or.inl rfl | exact Or.inr rfl)) (ss_one (s_if (sb_w (sw_or (sb_cmp (o_eq hr.units) (se_v 3 (pv 3)) (se_c pe_str) rfl) (sw_or (sb_cmp (o_eq hr.units) (se_v 3 (pv 3)) (se_c pe_str) rfl) (sw_or1 (sb_cmp (o_eq hr.units) (se_v 3 (pv 3)) (se_c pe_str) rfl))))) (ss_cons (s_if (sb_cmp (o_ne hr.units) (se_v 2 (pv 2)) (se_c pe_str) rfl) (ss_one (s_expr (se_bm PySem.F.plainAttrs_list PySem.F.slot_list_append PySem.F.type_list_append m_append (se_v 1 (pv 1)) (sa_cons (se_v 2 (pv 2)) sa_nil)))) ss_nil)
    (ss_cons (s_set nd6 rfl (by first | exact Or.inl rfl | exact Or.inr rfl) (se_c pe_str))
    (ss_one (s_if (sb_cmp (o_ne hr.units) (se_v 3 (pv 3)) (se_c pe_str) rfl) (ss_one (s_expr (se_bm PySem.F.plainAttrs_list PySem.F.slot_list_append PySem.F.type_list_append m_append (se_v 1 (pv 1)) (sa_cons (se_v 3 (pv 3)) sa_nil)))) ss_nil)))) (ss_one (s_aug nd6 rfl (by first | exact Or.inl rfl | exact Or.inr rfl) (se_v 3 (pv 3)) oi_add)))))
    (ss_cons (s_if (sb_cmp (o_ne hr.units) (se_v 2 (pv 2)) (se_c pe_str) rfl) (ss_one (s_expr (se_bm PySem.F.plainAttrs_list PySem.F.slot_list_append PySem.F.type_list_append m_append (se_v 1 (pv 1)) (sa_cons (se_v 2 (pv 2)) sa_nil)))) ss_nil)
    (ss_one (s_ret (se_v 1 (pv 1))))))))
abbrev N7 : List Str := ["word"]
theorem nd7 : N7.Nodup := by decide +kernel
theorem sc7 : FnScope N7 ["word"] (defScope s7) := ⟨rfl, rfl, rfl, nd7, rfl, by decide +kernel, by decide +kernel⟩
theorem v7 (T : Tx K mg) (Y : Yx P w K mg base n fn mk) {f : Addr} {cd : Value} {A : Around} {outer : List Env} {s : Shared} {H : Hp} {E : XK} (hr : Room (n + 1) (CxF P w K mg base N7 "sign_word" (defScope s7) f cd A outer s H E).A) :
    SSs (CxF P w K mg base N7 "sign_word" (defScope s7) f cd A outer s H E) (b_sign_word fn mk) (defBody s7) :=
  (ss_one (s_ret (se_cmp o_in (se_v 0 (pv 0)) (se_tup (sa_cons (se_c pe_str) (sa_cons (se_c pe_str) (sa_cons (se_c pe_str) (sa_cons (se_c pe_str) (sa_cons (se_c pe_str) (sa_cons (se_c pe_str) (sa_cons (se_c pe_str) (sa_cons (se_c pe_str) (sa_cons (se_c pe_str) (sa_cons (se_c pe_str) (sa_cons (se_c pe_str) (sa_cons (se_c pe_str) sa_nil))))))))))))) rfl)))
abbrev N8 : List Str := ["word"]
theorem nd8 : N8.Nodup := by decide +kernel
theorem sc8 : FnScope N8 ["word"] (defScope s8) := ⟨rfl, rfl, rfl, nd8, rfl, by decide +kernel, by decide +kernel⟩
theorem v8 (T : Tx K mg) (Y : Yx P w K mg base n fn mk) {f : Addr} {cd : Value} {A : Around} {outer : List Env} {s : Shared} {H : Hp} {E : XK} (hr : Room (n + 1) (CxF P w K mg base N8 "fold_word" (defScope s8) f cd A outer s H E).A) :
    SSs (CxF P w K mg base N8 "fold_word" (defScope s8) f cd A outer s H E) (b_fold_word fn mk) (defBody s8) :=
  (ss_one (s_ret (se_cmp o_in (se_v 0 (pv 0)) (se_tup (sa_cons (se_c pe_str) (sa_cons (se_c pe_str) (sa_cons (se_c pe_str) (sa_cons (se_c pe_str) (sa_cons (se_c pe_str) (sa_cons (se_c pe_str) (sa_cons (se_c pe_str) (sa_cons (se_c pe_str) (sa_cons (se_c pe_str) sa_nil)))))))))) rfl)))
abbrev N9 : List Str := ["word"]
theorem nd9 : N9.Nodup := by decide +kernel
theorem sc9 : FnScope N9 ["word"] (defScope s9) := ⟨rfl, rfl, rfl, nd9, rfl, by decide +kernel, by decide +kernel⟩
theorem v9 (T : Tx K mg) (Y : Yx P w K mg base n fn mk) {f : Addr} {cd : Value} {A : Around} {outer : List Env} {s : Shared} {H : Hp} {E : XK} (hr : Room (n + 1) (CxF P w K mg base N9 "kept_word" (defScope s9) f cd A outer s H E).A) :
    SSs (CxF P w K mg base N9 "kept_word" (defScope s9) f cd A outer s H E) (b_kept_word fn mk) (defBody s9) :=
  (ss_cons (s_if (sb_cmp o_in (se_v 0 (pv 0)) (se_tup (sa_cons (se_c pe_str) (sa_cons (se_c pe_str) (sa_cons (se_c pe_str) (sa_cons (se_c pe_str) (sa_cons (se_c pe_str) (sa_cons (se_c pe_str) (sa_cons (se_c pe_str) (sa_cons (se_c pe_str) sa_nil))))))))) rfl) (ss_one (s_ret (se_c pe_bl))) ss_nil)
    (ss_cons (s_if (sb_cmp o_in (se_v 0 (pv 0)) (se_tup (sa_cons (se_c pe_str) (sa_cons (se_c pe_str) (sa_cons (se_c pe_str) (sa_cons (se_c pe_str) (sa_cons (se_c pe_str) (sa_cons (se_c pe_str) (sa_cons (se_c pe_str) (sa_cons (se_c pe_str) (sa_cons (se_c pe_str) sa_nil)))))))))) rfl) (ss_one (s_ret (se_c pe_bl))) ss_nil)
    (ss_one (s_ret (se_call ((Y.f 8 _ rfl).at_ 0) (Y.f 8 _ rfl).ne hr rfl rfl (sa_cons (se_v 0 (pv 0)) sa_nil))))))
abbrev N10 : List Str := ["word", "sign"]
theorem nd10 : N10.Nodup := by decide +kernel
theorem sc10 : FnScope N10 ["word"] (defScope s10) := ⟨rfl, rfl, rfl, nd10, rfl, by decide +kernel, by decide +kernel⟩
theorem v10 (T : Tx K mg) (Y : Yx P w K mg base n fn mk) {f : Addr} {cd : Value} {A : Around} {outer : List Env} {s : Shared} {H : Hp} {E : XK} (hr : Room (n + 1) (CxF P w K mg base N10 "name_like" (defScope s10) f cd A outer s H E).A) :
    SSs (CxF P w K mg base N10 "name_like" (defScope s10) f cd A outer s H E) (b_name_like fn mk) (defBody s10) :=
  (ss_cons (s_if (sb_w (sw_or (sb_cmp (o_eq hr.units) (se_v 0 (pv 0)) (se_c pe_str) rfl) (sw_or (sb_cmp o_gt (se_cb c_len rfl (T.fr _ rfl) (by decide +kernel) (sa_cons (se_v 0 (pv 0)) sa_nil)) (se_c pe_int) rfl) (sw_or1 (sb_of (se_call ((Y.f 9 _ rfl).at_ 0) (Y.f 9 _ rfl).ne hr rfl rfl (sa_cons (se_v 0 (pv 0)) sa_nil))))))) (ss_one (s_ret (se_c pe_bl))) ss_nil)
    (ss_cons (s_for rfl (si_s (se_v 0 (pv 0))) (sg_name nd10 rfl (by first | exact Or.inl rfl | exact Or.inr rfl)) (ss_one (s_if (sb_cmp o_notin (se_v 1 (pv 1)) (se_gstr rfl (T.cz _ _ rfl)) rfl) (ss_one (s_ret (se_c pe_bl))) ss_nil)))
    (ss_one (s_ret (se_c pe_bl)))))
abbrev N11 : List Str := ["word", "figures", "sign", "number"]
theorem nd11 : N11.Nodup := by decide +kernel
theorem sc11 : FnScope N11 ["word"] (defScope s11) := ⟨rfl, rfl, rfl, nd11, rfl, by decide +kernel, by decide +kernel⟩
theorem v11 (T : Tx K mg) (Y : Yx P w K mg base n fn mk) {f : Addr} {cd : Value} {A : Around} {outer : List Env} {s : Shared} {H : Hp} {E : XK} (hr : Room (n + 1) (CxF P w K mg base N11 "number_of" (defScope s11) f cd A outer s H E).A) :
    SSs (CxF P w K mg base N11 "number_of" (defScope s11) f cd A outer s H E) (b_number_of fn mk) (defBody s11) :=
  (ss_cons (s_set nd11 rfl (by first | exact Or.inl rfl | exact Or.inr rfl) (se_v 0 (pv 0)))
    (ss_cons (s_if (sb_cmp (o_eq hr.units) (se_sl (se_v 0 (pv 0)) so_none (so_some (se_c pe_int))) (se_c pe_str) rfl) (ss_one (s_set nd11 rfl (by first | exact Or.inl rfl | exact Or.inr rfl) (se_sl (se_v 0 (pv 0)) (so_some (se_c pe_int)) so_none))) ss_nil)
    (ss_cons (s_if (sb_w (sw_or (sb_cmp (o_eq hr.units) (se_v 1 (pv 1)) (se_c pe_str) rfl) (sw_or1 (sb_cmp o_gt (se_cb c_len rfl (T.fr _ rfl) (by decide +kernel) (sa_cons (se_v 1 (pv 1)) sa_nil)) (se_c pe_int) rfl)))) (ss_one (s_ret (se_c pe_non))) ss_nil)
    (ss_cons (s_for rfl (si_s (se_v 1 (pv 1))) (sg_name nd11 rfl (by first | exact Or.inl rfl | exact Or.inr rfl)) (ss_one (s_if (sb_cmp o_notin (se_v 2 (pv 2)) (se_gstr rfl (T.cz _ _ rfl)) rfl) (ss_one (s_ret (se_c pe_non))) ss_nil)))
    (ss_cons (s_if (sb_w (sw_and (sb_cmp (o_eq hr.units) (se_ix (se_v 1 (pv 1)) (se_c pe_int) (fun _ _ => rfl)) (se_c pe_str) rfl) (sw_and1 (sb_cmp (o_ne hr.units) (se_v 0 (pv 0)) (se_c pe_str) rfl)))) (ss_one (s_ret (se_c pe_non))) ss_nil)
    (ss_cons (s_set nd11 rfl (by first | exact Or.inl rfl | exact Or.inr rfl) (se_ct c_int rfl (T.fr _ rfl) (by decide +kernel) (sa_cons (se_v 1 (pv 1)) sa_nil)))
    (ss_cons (s_if (sb_cmp (o_ne hr.units) (se_v 1 (pv 1)) (se_v 0 (pv 0)) rfl) (ss_one (s_set nd11 rfl (by first | exact Or.inl rfl | exact Or.inr rfl) (se_un o_neg (se_v 3 (pv 3))))) ss_nil)
    (ss_cons (s_if (sb_w (sw_or (sb_cmp o_lt (se_v 3 (pv 3)) (se_un o_neg (se_gint rfl (T.ci _ _ rfl))) rfl) (sw_or1 (sb_cmp o_ge (se_v 3 (pv 3)) (se_gint rfl (T.ci _ _ rfl)) rfl)))) (ss_one (s_ret (se_c pe_non))) ss_nil)
    (ss_one (s_ret (se_v 3 (pv 3))))))))))))
abbrev N12 : List Str := ["taker", "low", "high", "number"]
theorem nd12 : N12.Nodup := by decide +kernel
theorem sc12 : FnScope N12 ["taker", "low", "high"] (defScope s12) := ⟨rfl, rfl, rfl, nd12, rfl, by decide +kernel, by decide +kernel⟩
theorem v12 (T : Tx K mg) (Y : Yx P w K mg base n fn mk) {f : Addr} {cd : Value} {A : Around} {outer : List Env} {s : Shared} {H : Hp} {E : XK} (hr : Room (n + 1) (CxF P w K mg base N12 "take_number" (defScope s12) f cd A outer s H E).A) :
    SSs (CxF P w K mg base N12 "take_number" (defScope s12) f cd A outer s H E) (b_take_number fn mk) (defBody s12) :=
  (ss_cons (s_set nd12 rfl (by first | exact Or.inl rfl | exact Or.inr rfl) (se_call ((Y.f 11 _ rfl).at_ 0) (Y.f 11 _ rfl).ne hr rfl rfl (sa_cons (se_meth0 Y.mt hr rfl (se_v 0 (pv 0))) sa_nil)))
    (ss_cons (s_if (sb_w (sw_or (sb_cmp o_is (se_v 3 (pv 3)) (se_c pe_non) rfl) (sw_or (sb_cmp o_lt (se_v 3 (pv 3)) (se_v 1 (pv 1)) rfl) (sw_or1 (sb_cmp o_gt (se_v 3 (pv 3)) (se_v 2 (pv 2)) rfl))))) (ss_one s_bad) ss_nil)
    (ss_cons (s_expr (se_meth0 Y.mt hr rfl (se_v 0 (pv 0))))
    (ss_one (s_ret (se_v 3 (pv 3)))))))
abbrev N13 : List Str := ["taker", "names", "word"]
theorem nd13 : N13.Nodup := by decide +kernel
theorem sc13 : FnScope N13 ["taker", "names"] (defScope s13) := ⟨rfl, rfl, rfl, nd13, rfl, by decide +kernel, by decide +kernel⟩
theorem v13 (T : Tx K mg) (Y : Yx P w K mg base n fn mk) {f : Addr} {cd : Value} {A : Around} {outer : List Env} {s : Shared} {H : Hp} {E : XK} (hr : Room (n + 1) (CxF P w K mg base N13 "take_name" (defScope s13) f cd A outer s H E).A) :
    SSs (CxF P w K mg base N13 "take_name" (defScope s13) f cd A outer s H E) (b_take_name fn mk) (defBody s13) :=
  (ss_cons (s_set nd13 rfl (by first | exact Or.inl rfl | exact Or.inr rfl) (se_meth0 Y.mt hr rfl (se_v 0 (pv 0))))
    (ss_cons (s_if (sb_not (sb_of (se_call ((Y.f 10 _ rfl).at_ 0) (Y.f 10 _ rfl).ne hr rfl rfl (sa_cons (se_v 2 (pv 2)) sa_nil)))) (ss_one s_bad) ss_nil)
    (ss_cons (s_if (sb_cmp o_notin (se_v 2 (pv 2)) (se_v 1 (pv 1)) rfl) (ss_one s_bad) ss_nil)
    (ss_cons (s_expr (se_meth0 Y.mt hr rfl (se_v 0 (pv 0))))
    (ss_one (s_ret (se_bm PySem.F.plainAttrs_list PySem.F.slot_list_index PySem.F.type_list_index m_index (se_v 1 (pv 1)) (sa_cons (se_v 2 (pv 2)) sa_nil))))))))
abbrev N14 : List Str := ["taker", "names", "word"]
theorem nd14 : N14.Nodup := by decide +kernel
theorem sc14 : FnScope N14 ["taker", "names"] (defScope s14) := ⟨rfl, rfl, rfl, nd14, rfl, by decide +kernel, by decide +kernel⟩
theorem v14 (T : Tx K mg) (Y : Yx P w K mg base n fn mk) {f : Addr} {cd : Value} {A : Around} {outer : List Env} {s : Shared} {H : Hp} {E : XK} (hr : Room (n + 1) (CxF P w K mg base N14 "take_new" (defScope s14) f cd A outer s H E).A) :
    SSs (CxF P w K mg base N14 "take_new" (defScope s14) f cd A outer s H E) (b_take_new fn mk) (defBody s14) :=
  (ss_cons (s_set nd14 rfl (by first | exact Or.inl rfl | exact Or.inr rfl) (se_meth0 Y.mt hr rfl (se_v 0 (pv 0))))
    (ss_cons (s_if (sb_not (sb_of (se_call ((Y.f 10 _ rfl).at_ 0) (Y.f 10 _ rfl).ne hr rfl rfl (sa_cons (se_v 2 (pv 2)) sa_nil)))) (ss_one s_bad) ss_nil)
    (ss_cons (s_if (sb_cmp o_in (se_v 2 (pv 2)) (se_v 1 (pv 1)) rfl) (ss_one s_bad) ss_nil)
    (ss_cons (s_expr (se_meth0 Y.mt hr rfl (se_v 0 (pv 0))))
    (ss_one (s_ret (se_v 2 (pv 2))))))))
abbrev N15 : List Str := ["taker", "word"]
theorem nd15 : N15.Nodup := by decide +kernel
theorem sc15 : FnScope N15 ["taker"] (defScope s15) := ⟨rfl, rfl, rfl, nd15, rfl, by decide +kernel, by decide +kernel⟩
theorem v15 (T : Tx K mg) (Y : Yx P w K mg base n fn mk) {f : Addr} {cd : Value} {A : Around} {outer : List Env} {s : Shared} {H : Hp} {E : XK} (hr : Room (n + 1) (CxF P w K mg base N15 "take_fold" (defScope s15) f cd A outer s H E).A) :
    SSs (CxF P w K mg base N15 "take_fold" (defScope s15) f cd A outer s H E) (b_take_fold fn mk) (defBody s15) :=
  (ss_cons (s_set nd15 rfl (by first | exact Or.inl rfl | exact Or.inr rfl) (se_meth0 Y.mt hr rfl (se_v 0 (pv 0))))
    (ss_cons (s_if (sb_not (sb_of (se_call ((Y.f 8 _ rfl).at_ 0) (Y.f 8 _ rfl).ne hr rfl rfl (sa_cons (se_v 1 (pv 1)) sa_nil)))) (ss_one s_bad) ss_nil)
    (ss_cons (s_expr (se_meth0 Y.mt hr rfl (se_v 0 (pv 0))))
    (ss_one (s_ret (se_v 1 (pv 1)))))))
abbrev N16 : List Str := ["taker", "known", "word", "form", "number"]
theorem nd16 : N16.Nodup := by decide +kernel
theorem sc16 : FnScope N16 ["taker", "known"] (defScope s16) := ⟨rfl, rfl, rfl, nd16, rfl, by decide +kernel, by decide +kernel⟩
theorem v16 (T : Tx K mg) (Y : Yx P w K mg base n fn mk) {f : Addr} {cd : Value} {A : Around} {outer : List Env} {s : Shared} {H : Hp} {E : XK} (hr : Room (n + 1) (CxF P w K mg base N16 "take_form" (defScope s16) f cd A outer s H E).A) :
    SSs (CxF P w K mg base N16 "take_form" (defScope s16) f cd A outer s H E) (b_take_form fn mk) (defBody s16) :=
  (ss_cons (s_set nd16 rfl (by first | exact Or.inl rfl | exact Or.inr rfl) (se_meth0 Y.mt hr rfl (se_v 0 (pv 0))))
    (ss_cons (s_if (sb_cmp (o_eq hr.units) (se_v 2 (pv 2)) (se_c pe_str) rfl) (ss_cons (s_expr (se_meth0 Y.mt hr rfl (se_v 0 (pv 0))))
    (ss_cons (s_set nd16 rfl (by first | exact Or.inl rfl | exact Or.inr rfl) (se_call ((Y.f 17 _ rfl).at_ 0) (Y.f 17 _ rfl).ne hr rfl rfl (sa_cons (se_v 0 (pv 0)) (sa_cons (se_v 1 (pv 1)) sa_nil))))
    (ss_cons (s_expr (se_meth0 Y.mt hr rfl (se_v 0 (pv 0))))
    (ss_one (s_ret (se_v 3 (pv 3))))))) ss_nil)
    (ss_cons (s_if (sb_cmp (o_eq hr.units) (se_v 2 (pv 2)) (se_c pe_str) rfl) (ss_cons (s_expr (se_meth0 Y.mt hr rfl (se_v 0 (pv 0))))
    (ss_one (s_ret (se_frz (se_new (T.nw 16 rfl) rfl rfl))))) ss_nil)
    (ss_cons (s_set nd16 rfl (by first | exact Or.inl rfl | exact Or.inr rfl) (se_call ((Y.f 11 _ rfl).at_ 0) (Y.f 11 _ rfl).ne hr rfl rfl (sa_cons (se_v 2 (pv 2)) sa_nil)))
    (ss_cons (s_if (sb_cmp o_isnot (se_v 4 (pv 4)) (se_c pe_non) rfl) (ss_cons (s_expr (se_meth0 Y.mt hr rfl (se_v 0 (pv 0))))
    (ss_one (s_ret (se_frz (se_make (mkG_of (T.cls 15 rfl).1 (T.ini 15 126 _ rfl rfl) (Y.m 126 _ rfl) 0) (Y.m 126 _ rfl).ne hr rfl rfl (sa_cons (se_v 4 (pv 4)) sa_nil)))))) ss_nil)
    (ss_cons (s_if (sb_cmp o_is (se_fld (se_v 1 (pv 1)) rfl) (se_c pe_non) rfl) (ss_one (s_ret (se_frz (se_make (mkG_of (T.cls 17 rfl).1 (T.ini 17 129 _ rfl rfl) (Y.m 129 _ rfl) 0) (Y.m 129 _ rfl).ne hr rfl rfl (sa_cons (se_call ((Y.f 13 _ rfl).at_ 0) (Y.f 13 _ rfl).ne hr rfl rfl (sa_cons (se_v 0 (pv 0)) (sa_cons (se_fld (se_v 1 (pv 1)) rfl) sa_nil))) sa_nil))))) ss_nil)
    (ss_one (s_ret (se_frz (se_make (mkG_of (T.cls 19 rfl).1 (T.ini 19 133 _ rfl rfl) (Y.m 133 _ rfl) 0) (Y.m 133 _ rfl).ne hr rfl rfl (sa_cons (se_call ((Y.f 13 _ rfl).at_ 0) (Y.f 13 _ rfl).ne hr rfl rfl (sa_cons (se_v 0 (pv 0)) (sa_cons (se_fld (se_v 1 (pv 1)) rfl) sa_nil))) sa_nil)))))))))))
abbrev N17 : List Str := ["taker", "known", "word", "left", "test", "row", "by", "at", "handed", "k"]
theorem nd17 : N17.Nodup := by decide +kernel
theorem sc17 : FnScope N17 ["taker", "known"] (defScope s17) := ⟨rfl, rfl, rfl, nd17, rfl, by decide +kernel, by decide +kernel⟩
theorem v17 (T : Tx K mg) (Y : Yx P w K mg base n fn mk) {f : Addr} {cd : Value} {A : Around} {outer : List Env} {s : Shared} {H : Hp} {E : XK} (hr : Room (n + 1) (CxF P w K mg base N17 "take_inner" (defScope s17) f cd A outer s H E).A) :
    SSs (CxF P w K mg base N17 "take_inner" (defScope s17) f cd A outer s H E) (b_take_inner fn mk) (defBody s17) :=
  (ss_cons (s_set nd17 rfl (by first | exact Or.inl rfl | exact Or.inr rfl) (se_meth0 Y.mt hr rfl (se_v 0 (pv 0))))
    (ss_cons (s_if (sb_of (se_call ((Y.f 7 _ rfl).at_ 0) (Y.f 7 _ rfl).ne hr rfl rfl (sa_cons (se_v 2 (pv 2)) sa_nil))) (ss_cons (s_expr (se_meth0 Y.mt hr rfl (se_v 0 (pv 0))))
    (ss_cons (s_set nd17 rfl (by first | exact Or.inl rfl | exact Or.inr rfl) (se_call ((Y.f 16 _ rfl).at_ 0) (Y.f 16 _ rfl).ne hr rfl rfl (sa_cons (se_v 0 (pv 0)) (sa_cons (se_v 1 (pv 1)) sa_nil))))
    (ss_one (s_ret (se_frz (se_make (mkG_of (T.cls 21 rfl).1 (T.ini 21 137 _ rfl rfl) (Y.m 137 _ rfl) 0) (Y.m 137 _ rfl).ne hr rfl rfl (sa_cons (se_v 2 (pv 2)) (sa_cons (se_v 3 (pv 3)) (sa_cons (se_call ((Y.f 16 _ rfl).at_ 0) (Y.f 16 _ rfl).ne hr rfl rfl (sa_cons (se_v 0 (pv 0)) (sa_cons (se_v 1 (pv 1)) sa_nil))) sa_nil))))))))) ss_nil)
    (ss_cons (s_if (sb_cmp (o_eq hr.units) (se_v 2 (pv 2)) (se_c pe_str) rfl) (ss_cons (s_expr (se_meth0 Y.mt hr rfl (se_v 0 (pv 0))))
    (ss_cons (s_set nd17 rfl (by first | exact Or.inl rfl | exact Or.inr rfl) (se_call ((Y.f 16 _ rfl).at_ 0) (Y.f 16 _ rfl).ne hr rfl rfl (sa_cons (se_v 0 (pv 0)) (sa_cons (se_v 1 (pv 1)) sa_nil))))
    (ss_cons (s_set nd17 rfl (by first | exact Or.inl rfl | exact Or.inr rfl) (se_call ((Y.f 16 _ rfl).at_ 0) (Y.f 16 _ rfl).ne hr rfl rfl (sa_cons (se_v 0 (pv 0)) (sa_cons (se_v 1 (pv 1)) sa_nil))))
    (ss_one (s_ret (se_frz (se_make (mkG_of (T.cls 22 rfl).1 (T.ini 22 139 _ rfl rfl) (Y.m 139 _ rfl) 0) (Y.m 139 _ rfl).ne hr rfl rfl (sa_cons (se_v 4 (pv 4)) (sa_cons (se_v 3 (pv 3)) (sa_cons (se_call ((Y.f 16 _ rfl).at_ 0) (Y.f 16 _ rfl).ne hr rfl rfl (sa_cons (se_v 0 (pv 0)) (sa_cons (se_v 1 (pv 1)) sa_nil))) sa_nil)))))))))) ss_nil)
    (ss_cons (s_if (sb_w (sw_and (sb_cmp (o_eq hr.units) (se_v 2 (pv 2)) (se_c pe_str) rfl) (sw_and1 (sb_cmp o_is (se_fld (se_v 1 (pv 1)) rfl) (se_c pe_non) rfl)))) (ss_cons (s_expr (se_meth0 Y.mt hr rfl (se_v 0 (pv 0))))
    (ss_cons (s_set nd17 rfl (by first | exact Or.inl rfl | exact Or.inr rfl) (se_call ((Y.f 13 _ rfl).at_ 0) (Y.f 13 _ rfl).ne hr rfl rfl (sa_cons (se_v 0 (pv 0)) (sa_cons (se_fld (se_v 1 (pv 1)) rfl) sa_nil))))
    (ss_one (s_ret (se_frz (se_make (mkG_of (T.cls 20 rfl).1 (T.ini 20 135 _ rfl rfl) (Y.m 135 _ rfl) 0) (Y.m 135 _ rfl).ne hr rfl rfl (sa_cons (se_v 5 (pv 5)) (sa_cons (se_call ((Y.f 16 _ rfl).at_ 0) (Y.f 16 _ rfl).ne hr rfl rfl (sa_cons (se_v 0 (pv 0)) (sa_cons (se_v 1 (pv 1)) sa_nil))) sa_nil)))))))) ss_nil)
    (ss_cons (s_if (sb_w (sw_and (sb_cmp (o_eq hr.units) (se_v 2 (pv 2)) (se_c pe_str) rfl) (sw_and1 (sb_cmp o_is (se_fld (se_v 1 (pv 1)) rfl) (se_c pe_non) rfl)))) (ss_cons (s_expr (se_meth0 Y.mt hr rfl (se_v 0 (pv 0))))
    (ss_cons (s_set nd17 rfl (by first | exact Or.inl rfl | exact Or.inr rfl) (se_call ((Y.f 13 _ rfl).at_ 0) (Y.f 13 _ rfl).ne hr rfl rfl (sa_cons (se_v 0 (pv 0)) (sa_cons (se_fld (se_v 1 (pv 1)) rfl) sa_nil))))
    (ss_cons (s_set nd17 rfl (by first | exact Or.inl rfl | exact Or.inr rfl) (se_call ((Y.f 12 _ rfl).at_ 0) (Y.f 12 _ rfl).ne hr rfl rfl (sa_cons (se_v 0 (pv 0)) (sa_cons (se_un o_neg (se_c pe_int)) (sa_cons (se_c pe_int) sa_nil)))))
    (ss_one (s_ret (se_frz (se_make (mkG_of (T.cls 18 rfl).1 (T.ini 18 131 _ rfl rfl) (Y.m 131 _ rfl) 0) (Y.m 131 _ rfl).ne hr rfl rfl (sa_cons (se_v 5 (pv 5)) (sa_cons (se_v 6 (pv 6)) (sa_cons (se_call ((Y.f 12 _ rfl).at_ 0) (Y.f 12 _ rfl).ne hr rfl rfl (sa_cons (se_v 0 (pv 0)) (sa_cons (se_un o_neg (se_gint rfl (T.ci _ _ rfl))) (sa_cons (se_op o_sub (se_gint rfl (T.ci _ _ rfl)) (se_c pe_int)) sa_nil)))) sa_nil)))))))))) ss_nil)
    (ss_cons (s_set nd17 rfl (by first | exact Or.inl rfl | exact Or.inr rfl) (se_call ((Y.f 13 _ rfl).at_ 0) (Y.f 13 _ rfl).ne hr rfl rfl (sa_cons (se_v 0 (pv 0)) (sa_cons (se_fld (se_v 1 (pv 1)) rfl) sa_nil))))
    (ss_cons (s_set nd17 rfl (by first | exact Or.inl rfl | exact Or.inr rfl) (se_lst sa_nil))
    (ss_cons (s_for rfl (si_r1 (se_ix (se_ix (se_fld (se_v 1 (pv 1)) rfl) (se_v 7 (pv 7)) (fun _ _ => rfl)) (se_c pe_int) (fun _ _ => rfl)) rfl (T.fr _ rfl)) (sg_name nd17 rfl (by first | exact Or.inl rfl | exact Or.inr rfl)) (ss_one (s_expr (se_bm PySem.F.plainAttrs_list PySem.F.slot_list_append PySem.F.type_list_append m_append (se_v 8 (pv 8)) (sa_cons (se_call ((Y.f 16 _ rfl).at_ 0) (Y.f 16 _ rfl).ne hr rfl rfl (sa_cons (se_v 0 (pv 0)) (sa_cons (se_v 1 (pv 1)) sa_nil))) sa_nil)))))
    (ss_one (s_ret (se_frz (se_make (mkG_of (T.cls 23 rfl).1 (T.ini 23 141 _ rfl rfl) (Y.m 141 _ rfl) 0) (Y.m 141 _ rfl).ne hr rfl rfl (sa_cons (se_v 7 (pv 7)) (sa_cons (se_v 8 (pv 8)) sa_nil))))))))))))))
abbrev N18 : List Str := ["form"]
theorem nd18 : N18.Nodup := by decide +kernel
theorem sc18 : FnScope N18 ["form"] (defScope s18) := ⟨rfl, rfl, rfl, nd18, rfl, by decide +kernel, by decide +kernel⟩
theorem v18 (T : Tx K mg) (Y : Yx P w K mg base n fn mk) {f : Addr} {cd : Value} {A : Around} {outer : List Env} {s : Shared} {H : Hp} {E : XK} (hr : Room (n + 1) (CxF P w K mg base N18 "parts_of" (defScope s18) f cd A outer s H E).A) :
    SSs (CxF P w K mg base N18 "parts_of" (defScope s18) f cd A outer s H E) (b_parts_of fn mk) (defBody s18) :=
  (ss_cons (s_if (sb_of (se_isi (se_v 0 (pv 0)) (fun _ q => by cases q; exact (T.cls 20 rfl).2) (ic_own (T.cls 20 rfl).2 rfl rfl) rfl (T.fr _ rfl))) (ss_one (s_ret (se_lst (sa_cons (se_fld (se_v 0 (pv 0)) rfl) sa_nil)))) ss_nil)
    (ss_cons (s_if (sb_of (se_isi (se_v 0 (pv 0)) (fun _ q => by cases q; exact (T.cls 21 rfl).2) (ic_own (T.cls 21 rfl).2 rfl rfl) rfl (T.fr _ rfl))) (ss_one (s_ret (se_lst (sa_cons (se_fld (se_v 0 (pv 0)) rfl) (sa_cons (se_fld (se_v 0 (pv 0)) rfl) sa_nil))))) ss_nil)
    (ss_cons (s_if (sb_of (se_isi (se_v 0 (pv 0)) (fun _ q => by cases q; exact (T.cls 22 rfl).2) (ic_own (T.cls 22 rfl).2 rfl rfl) rfl (T.fr _ rfl))) (ss_one (s_ret (se_lst (sa_cons (se_fld (se_v 0 (pv 0)) rfl) (sa_cons (se_fld (se_v 0 (pv 0)) rfl) (sa_cons (se_fld (se_v 0 (pv 0)) rfl) sa_nil)))))) ss_nil)
    (ss_cons (s_if (sb_of (se_isi (se_v 0 (pv 0)) (fun _ q => by cases q; exact (T.cls 23 rfl).2) (ic_own (T.cls 23 rfl).2 rfl rfl) rfl (T.fr _ rfl))) (ss_one (s_ret (se_ct c_list rfl (T.fr _ rfl) (by decide +kernel) (sa_cons (se_fld (se_v 0 (pv 0)) rfl) sa_nil)))) ss_nil)
    (ss_one (s_ret (se_lst sa_nil)))))))
abbrev N19 : List Str := ["form", "functions", "size", "part"]
theorem nd19 : N19.Nodup := by decide +kernel
theorem sc19 : FnScope N19 ["form", "functions"] (defScope s19) := ⟨rfl, rfl, rfl, nd19, rfl, by decide +kernel, by decide +kernel⟩
theorem v19 (T : Tx K mg) (Y : Yx P w K mg base n fn mk) {f : Addr} {cd : Value} {A : Around} {outer : List Env} {s : Shared} {H : Hp} {E : XK} (hr : Room (n + 1) (CxF P w K mg base N19 "size_of" (defScope s19) f cd A outer s H E).A) :
    SSs (CxF P w K mg base N19 "size_of" (defScope s19) f cd A outer s H E) (b_size_of fn mk) (defBody s19) :=
  (ss_cons (s_set nd19 rfl (by first | exact Or.inl rfl | exact Or.inr rfl) (se_c pe_int))
    (ss_cons (s_for rfl (si_l (se_call ((Y.f 18 _ rfl).at_ 0) (Y.f 18 _ rfl).ne hr rfl rfl (sa_cons (se_v 0 (pv 0)) sa_nil))) (sg_name nd19 rfl (by first | exact Or.inl rfl | exact Or.inr rfl)) (ss_one (s_aug nd19 rfl (by first | exact Or.inl rfl | exact Or.inr rfl) (se_call ((Y.f 19 _ rfl).at_ 0) (Y.f 19 _ rfl).ne hr rfl rfl (sa_cons (se_v 3 (pv 3)) (sa_cons (se_v 1 (pv 1)) sa_nil))) oi_add)))
    (ss_cons (s_if (sb_of (se_isi (se_v 0 (pv 0)) (fun _ q => by cases q; exact (T.cls 23 rfl).2) (ic_own (T.cls 23 rfl).2 rfl rfl) rfl (T.fr _ rfl))) (ss_one (s_aug nd19 rfl (by first | exact Or.inl rfl | exact Or.inr rfl) (se_call ((Y.f 19 _ rfl).at_ 0) (Y.f 19 _ rfl).ne hr rfl rfl (sa_cons (se_ix (se_ix (se_v 1 (pv 1)) (se_fld (se_v 0 (pv 0)) rfl) (fun _ _ => rfl)) (se_c pe_int) (fun _ _ => rfl)) (sa_cons (se_v 1 (pv 1)) sa_nil))) oi_add)) ss_nil)
    (ss_one (s_ret (se_v 2 (pv 2)))))))
abbrev N20 : List Str := ["form", "functions", "depth", "part"]
theorem nd20 : N20.Nodup := by decide +kernel
theorem sc20 : FnScope N20 ["form", "functions"] (defScope s20) := ⟨rfl, rfl, rfl, nd20, rfl, by decide +kernel, by decide +kernel⟩
theorem v20 (T : Tx K mg) (Y : Yx P w K mg base n fn mk) {f : Addr} {cd : Value} {A : Around} {outer : List Env} {s : Shared} {H : Hp} {E : XK} (hr : Room (n + 1) (CxF P w K mg base N20 "depth_of" (defScope s20) f cd A outer s H E).A) :
    SSs (CxF P w K mg base N20 "depth_of" (defScope s20) f cd A outer s H E) (b_depth_of fn mk) (defBody s20) :=
  (ss_cons (s_set nd20 rfl (by first | exact Or.inl rfl | exact Or.inr rfl) (se_c pe_int))
    (ss_cons (s_for rfl (si_l (se_call ((Y.f 18 _ rfl).at_ 0) (Y.f 18 _ rfl).ne hr rfl rfl (sa_cons (se_v 0 (pv 0)) sa_nil))) (sg_name nd20 rfl (by first | exact Or.inl rfl | exact Or.inr rfl)) (ss_one (s_set nd20 rfl (by first | exact Or.inl rfl | exact Or.inr rfl) (se_cb (c_max2 rfl) rfl (T.fr _ rfl) (by decide +kernel) (sa_cons (se_v 2 (pv 2)) (sa_cons (se_call ((Y.f 20 _ rfl).at_ 0) (Y.f 20 _ rfl).ne hr rfl rfl (sa_cons (se_v 3 (pv 3)) (sa_cons (se_v 1 (pv 1)) sa_nil))) sa_nil))))))
    (ss_cons (s_if (sb_of (se_isi (se_v 0 (pv 0)) (fun _ q => by cases q; exact (T.cls 23 rfl).2) (ic_own (T.cls 23 rfl).2 rfl rfl) rfl (T.fr _ rfl))) (ss_one (s_set nd20 rfl (by first | exact Or.inl rfl | exact Or.inr rfl) (se_cb (c_max2 rfl) rfl (T.fr _ rfl) (by decide +kernel) (sa_cons (se_v 2 (pv 2)) (sa_cons (se_call ((Y.f 20 _ rfl).at_ 0) (Y.f 20 _ rfl).ne hr rfl rfl (sa_cons (se_ix (se_ix (se_v 1 (pv 1)) (se_fld (se_v 0 (pv 0)) rfl) (fun _ _ => rfl)) (se_c pe_int) (fun _ _ => rfl)) (sa_cons (se_v 1 (pv 1)) sa_nil))) sa_nil))))) ss_nil)
    (ss_cons (s_if (sb_of (se_isi (se_v 0 (pv 0)) (fun _ q => by cases q; exact (T.cls 22 rfl).2) (ic_own (T.cls 22 rfl).2 rfl rfl) rfl (T.fr _ rfl))) (ss_one (s_aug nd20 rfl (by first | exact Or.inl rfl | exact Or.inr rfl) (se_c pe_int) oi_add)) ss_nil)
    (ss_one (s_ret (se_v 2 (pv 2))))))))
abbrev N21 : List Str := ["step", "found"]
theorem nd21 : N21.Nodup := by decide +kernel
theorem sc21 : FnScope N21 ["step"] (defScope s21) := ⟨rfl, rfl, rfl, nd21, rfl, by decide +kernel, by decide +kernel⟩
theorem v21 (T : Tx K mg) (Y : Yx P w K mg base n fn mk) {f : Addr} {cd : Value} {A : Around} {outer : List Env} {s : Shared} {H : Hp} {E : XK} (hr : Room (n + 1) (CxF P w K mg base N21 "forms_in" (defScope s21) f cd A outer s H E).A) :
    SSs (CxF P w K mg base N21 "forms_in" (defScope s21) f cd A outer s H E) (b_forms_in fn mk) (defBody s21) :=
  (ss_cons (s_if (sb_of (se_isi (se_v 0 (pv 0)) (fun _ q => by cases q; exact (T.cls 31 rfl).2) (ic_own (T.cls 31 rfl).2 rfl rfl) rfl (T.fr _ rfl))) (ss_one (s_ret (se_lst sa_nil))) ss_nil)
    (ss_cons (s_set nd21 rfl (by first | exact Or.inl rfl | exact Or.inr rfl) (se_lst (sa_cons (se_fld (se_v 0 (pv 0)) rfl) sa_nil)))
    (ss_cons (s_if (sb_of (se_isi (se_v 0 (pv 0)) (fun _ q => by cases q; exact (T.cls 28 rfl).2) (ic_own (T.cls 28 rfl).2 rfl rfl) rfl (T.fr _ rfl))) (ss_one (s_expr (se_bm PySem.F.plainAttrs_list PySem.F.slot_list_append PySem.F.type_list_append m_append (se_v 1 (pv 1)) (sa_cons (se_fld (se_v 0 (pv 0)) rfl) sa_nil)))) ss_nil)
    (ss_cons (s_if (sb_cmp o_isnot (se_fld (se_v 0 (pv 0)) rfl) (se_c pe_non) rfl) (ss_one (s_expr (se_bm PySem.F.plainAttrs_list PySem.F.slot_list_append PySem.F.type_list_append m_append (se_v 1 (pv 1)) (sa_cons (se_fld (se_v 0 (pv 0)) rfl) sa_nil)))) ss_nil)
    (ss_one (s_ret (se_v 1 (pv 1))))))))
abbrev N22 : List Str := ["form", "found", "part"]
theorem nd22 : N22.Nodup := by decide +kernel
theorem sc22 : FnScope N22 ["form"] (defScope s22) := ⟨rfl, rfl, rfl, nd22, rfl, by decide +kernel, by decide +kernel⟩
theorem v22 (T : Tx K mg) (Y : Yx P w K mg base n fn mk) {f : Addr} {cd : Value} {A : Around} {outer : List Env} {s : Shared} {H : Hp} {E : XK} (hr : Room (n + 1) (CxF P w K mg base N22 "all_within" (defScope s22) f cd A outer s H E).A) :
    SSs (CxF P w K mg base N22 "all_within" (defScope s22) f cd A outer s H E) (b_all_within fn mk) (defBody s22) :=
  (ss_cons (s_set nd22 rfl (by first | exact Or.inl rfl | exact Or.inr rfl) (se_lst (sa_cons (se_v 0 (pv 0)) sa_nil)))
    (ss_cons (s_for rfl (si_l (se_call ((Y.f 18 _ rfl).at_ 0) (Y.f 18 _ rfl).ne hr rfl rfl (sa_cons (se_v 0 (pv 0)) sa_nil))) (sg_name nd22 rfl (by first | exact Or.inl rfl | exact Or.inr rfl)) (ss_one (s_expr (se_bm PySem.F.plainAttrs_list PySem.F.slot_list_extend PySem.F.type_list_extend m_extend (se_v 1 (pv 1)) (sa_cons (se_call ((Y.f 22 _ rfl).at_ 0) (Y.f 22 _ rfl).ne hr rfl rfl (sa_cons (se_v 2 (pv 2)) sa_nil)) sa_nil)))))
    (ss_one (s_ret (se_v 1 (pv 1))))))
abbrev N23 : List Str := ["step", "lengths", "many", "form", "part"]
theorem nd23 : N23.Nodup := by decide +kernel
theorem sc23 : FnScope N23 ["step", "lengths"] (defScope s23) := ⟨rfl, rfl, rfl, nd23, rfl, by decide +kernel, by decide +kernel⟩
theorem v23 (T : Tx K mg) (Y : Yx P w K mg base n fn mk) {f : Addr} {cd : Value} {A : Around} {outer : List Env} {s : Shared} {H : Hp} {E : XK} (hr : Room (n + 1) (CxF P w K mg base N23 "uneven" (defScope s23) f cd A outer s H E).A) :
    SSs (CxF P w K mg base N23 "uneven" (defScope s23) f cd A outer s H E) (b_uneven fn mk) (defBody s23) :=
  (ss_cons (s_if (sb_of (se_isi (se_v 0 (pv 0)) (fun _ q => by cases q; exact (T.cls 31 rfl).2) (ic_own (T.cls 31 rfl).2 rfl rfl) rfl (T.fr _ rfl))) (ss_one (s_ret (se_c pe_bl))) ss_nil)
    (ss_cons (s_if (sb_w (sw_and (sb_of (se_isi (se_v 0 (pv 0)) (fun _ q => by cases q; exact (T.cls 29 rfl).2) (ic_own (T.cls 29 rfl).2 rfl rfl) rfl (T.fr _ rfl))) (sw_and1 (sb_cmp (o_ne hr.units) (se_ix (se_v 1 (pv 1)) (se_fld (se_v 0 (pv 0)) rfl) (fun _ _ => rfl)) (se_c pe_int) rfl)))) (ss_one (s_ret (se_c pe_bl))) ss_nil)
    (ss_cons (s_set nd23 rfl (by first | exact Or.inl rfl | exact Or.inr rfl) (se_meth Y.mt hr rfl (se_v 0 (pv 0)) (sa_cons (se_v 1 (pv 1)) sa_nil)))
    (ss_cons (s_for rfl (si_l (se_call ((Y.f 21 _ rfl).at_ 0) (Y.f 21 _ rfl).ne hr rfl rfl (sa_cons (se_v 0 (pv 0)) sa_nil))) (sg_name nd23 rfl (by first | exact Or.inl rfl | exact Or.inr rfl)) (ss_one (s_for rfl (si_l (se_call ((Y.f 22 _ rfl).at_ 0) (Y.f 22 _ rfl).ne hr rfl rfl (sa_cons (se_v 3 (pv 3)) sa_nil))) (sg_name nd23 rfl (by first | exact Or.inl rfl | exact Or.inr rfl)) (ss_one (s_if (sb_w (sw_and (sb_of (se_isi (se_v 4 (pv 4)) (fun _ q => by cases q; exact (T.cls 17 rfl).2) (ic_own (T.cls 17 rfl).2 rfl rfl) rfl (T.fr _ rfl))) (sw_and (sb_cmp (o_ne hr.units) (se_ix (se_v 1 (pv 1)) (se_fld (se_v 4 (pv 4)) rfl) (fun _ _ => rfl)) (se_v 2 (pv 2)) rfl) (sw_and1 (sb_cmp (o_ne hr.units) (se_ix (se_v 1 (pv 1)) (se_fld (se_v 4 (pv 4)) rfl) (fun _ _ => rfl)) (se_c pe_int) rfl))))) (ss_one (s_ret (se_c pe_bl))) ss_nil)))))
    (ss_one (s_ret (se_c pe_bl)))))))
abbrev N24 : List Str := ["step", "narrow", "form", "part", "far"]
theorem nd24 : N24.Nodup := by decide +kernel
theorem sc24 : FnScope N24 ["step"] (defScope s24) := ⟨rfl, rfl, rfl, nd24, rfl, by decide +kernel, by decide +kernel⟩
theorem v24 (T : Tx K mg) (Y : Yx P w K mg base n fn mk) {f : Addr} {cd : Value} {A : Around} {outer : List Env} {s : Shared} {H : Hp} {E : XK} (hr : Room (n + 1) (CxF P w K mg base N24 "crossed" (defScope s24) f cd A outer s H E).A) :
    SSs (CxF P w K mg base N24 "crossed" (defScope s24) f cd A outer s H E) (b_crossed fn mk) (defBody s24) :=
  (ss_cons (s_set nd24 rfl (by first | exact Or.inl rfl | exact Or.inr rfl) (se_or (se_isi (se_v 0 (pv 0)) (fun _ q => by cases q; exact (T.cls 28 rfl).2) (ic_own (T.cls 28 rfl).2 rfl rfl) rfl (T.fr _ rfl)) (se_one (se_isi (se_v 0 (pv 0)) (fun _ q => by cases q; exact (T.cls 29 rfl).2) (ic_own (T.cls 29 rfl).2 rfl rfl) rfl (T.fr _ rfl)))))
    (ss_cons (s_for rfl (si_l (se_call ((Y.f 21 _ rfl).at_ 0) (Y.f 21 _ rfl).ne hr rfl rfl (sa_cons (se_v 0 (pv 0)) sa_nil))) (sg_name nd24 rfl (by first | exact Or.inl rfl | exact Or.inr rfl)) (ss_one (s_for rfl (si_l (se_call ((Y.f 22 _ rfl).at_ 0) (Y.f 22 _ rfl).ne hr rfl rfl (sa_cons (se_v 2 (pv 2)) sa_nil))) (sg_name nd24 rfl (by first | exact Or.inl rfl | exact Or.inr rfl)) (ss_cons (s_set nd24 rfl (by first | exact Or.inl rfl | exact Or.inr rfl) (se_or (se_isi (se_v 3 (pv 3)) (fun _ q => by cases q; exact (T.cls 18 rfl).2) (ic_own (T.cls 18 rfl).2 rfl rfl) rfl (T.fr _ rfl)) (se_one (se_isi (se_v 3 (pv 3)) (fun _ q => by cases q; exact (T.cls 20 rfl).2) (ic_own (T.cls 20 rfl).2 rfl rfl) rfl (T.fr _ rfl)))))
    (ss_one (s_if (sb_w (sw_and (sb_w (sw_or (sb_of (se_v 4 (pv 4))) (sw_or1 (sb_w (sw_and (sb_of (se_v 1 (pv 1))) (sw_and1 (sb_of (se_isi (se_v 3 (pv 3)) (fun _ q => by cases q; exact (T.cls 17 rfl).2) (ic_own (T.cls 17 rfl).2 rfl rfl) rfl (T.fr _ rfl))))))))) (sw_and1 (sb_cmp (o_eq hr.units) (se_fld (se_v 3 (pv 3)) rfl) (se_fld (se_v 0 (pv 0)) rfl) rfl)))) (ss_one (s_ret (se_c pe_bl))) ss_nil))))))
    (ss_one (s_ret (se_c pe_bl)))))
abbrev N25 : List Str := ["line", "forms", "functions", "form"]
theorem nd25 : N25.Nodup := by decide +kernel
theorem sc25 : FnScope N25 ["line", "forms", "functions"] (defScope s25) := ⟨rfl, rfl, rfl, nd25, rfl, by decide +kernel, by decide +kernel⟩
theorem v25 (T : Tx K mg) (Y : Yx P w K mg base n fn mk) {f : Addr} {cd : Value} {A : Around} {outer : List Env} {s : Shared} {H : Hp} {E : XK} (hr : Room (n + 1) (CxF P w K mg base N25 "hold_forms" (defScope s25) f cd A outer s H E).A) :
    SSs (CxF P w K mg base N25 "hold_forms" (defScope s25) f cd A outer s H E) (b_hold_forms fn mk) (defBody s25) :=
  (ss_cons (s_for rfl (si_l (se_v 1 (pv 1))) (sg_name nd25 rfl (by first | exact Or.inl rfl | exact Or.inr rfl)) (ss_one (s_if (sb_cmp o_gt (se_call ((Y.f 19 _ rfl).at_ 0) (Y.f 19 _ rfl).ne hr rfl rfl (sa_cons (se_v 3 (pv 3)) (sa_cons (se_v 2 (pv 2)) sa_nil))) (se_c pe_int) rfl) (ss_one s_bad) ss_nil)))
    (ss_one (s_for rfl (si_l (se_v 1 (pv 1))) (sg_name nd25 rfl (by first | exact Or.inl rfl | exact Or.inr rfl)) (ss_one (s_if (sb_cmp o_gt (se_call ((Y.f 20 _ rfl).at_ 0) (Y.f 20 _ rfl).ne hr rfl rfl (sa_cons (se_v 3 (pv 3)) (sa_cons (se_v 2 (pv 2)) sa_nil))) (se_c pe_int) rfl) (ss_one s_bad) ss_nil)))))
abbrev N26 : List Str := ["reading", "taker", "name", "many"]
theorem nd26 : N26.Nodup := by decide +kernel
theorem sc26 : FnScope N26 ["reading", "taker"] (defScope s26) := ⟨rfl, rfl, rfl, nd26, rfl, by decide +kernel, by decide +kernel⟩
theorem v26 (T : Tx K mg) (Y : Yx P w K mg base n fn mk) {f : Addr} {cd : Value} {A : Around} {outer : List Env} {s : Shared} {H : Hp} {E : XK} (hr : Room (n + 1) (CxF P w K mg base N26 "read_row" (defScope s26) f cd A outer s H E).A) :
    SSs (CxF P w K mg base N26 "read_row" (defScope s26) f cd A outer s H E) (b_read_row fn mk) (defBody s26) :=
  (ss_cons (s_set nd26 rfl (by first | exact Or.inl rfl | exact Or.inr rfl) (se_call ((Y.f 14 _ rfl).at_ 0) (Y.f 14 _ rfl).ne hr rfl rfl (sa_cons (se_v 1 (pv 1)) (sa_cons (se_op o_add (se_fld (se_v 0 (pv 0)) rfl) (se_fld (se_v 0 (pv 0)) rfl)) sa_nil))))
    (ss_cons (s_set nd26 rfl (by first | exact Or.inl rfl | exact Or.inr rfl) (se_call ((Y.f 12 _ rfl).at_ 0) (Y.f 12 _ rfl).ne hr rfl rfl (sa_cons (se_v 1 (pv 1)) (sa_cons (se_c pe_int) (sa_cons (se_c pe_int) sa_nil)))))
    (ss_cons (s_expr (se_meth0 Y.mt hr rfl (se_v 1 (pv 1))))
    (ss_cons (s_if (sb_cmp (o_eq hr.units) (se_cb c_len rfl (T.fr _ rfl) (by decide +kernel) (sa_cons (se_fld (se_v 0 (pv 0)) rfl) sa_nil)) (se_c pe_int) rfl) (ss_one s_bad) ss_nil)
    (ss_cons (s_expr (se_bm PySem.F.plainAttrs_list PySem.F.slot_list_append PySem.F.type_list_append m_append (se_fld (se_v 0 (pv 0)) rfl) (sa_cons (se_v 2 (pv 2)) sa_nil)))
    (ss_one (s_expr (se_bm PySem.F.plainAttrs_list PySem.F.slot_list_append PySem.F.type_list_append m_append (se_fld (se_v 0 (pv 0)) rfl) (sa_cons (se_v 3 (pv 3)) sa_nil)))))))))
abbrev N27 : List Str := ["reading", "taker", "others", "name", "own", "body"]
theorem nd27 : N27.Nodup := by decide +kernel
theorem sc27 : FnScope N27 ["reading", "taker"] (defScope s27) := ⟨rfl, rfl, rfl, nd27, rfl, by decide +kernel, by decide +kernel⟩
theorem v27 (T : Tx K mg) (Y : Yx P w K mg base n fn mk) {f : Addr} {cd : Value} {A : Around} {outer : List Env} {s : Shared} {H : Hp} {E : XK} (hr : Room (n + 1) (CxF P w K mg base N27 "read_def" (defScope s27) f cd A outer s H E).A) :
    SSs (CxF P w K mg base N27 "read_def" (defScope s27) f cd A outer s H E) (b_read_def fn mk) (defBody s27) :=
  (ss_cons (s_set nd27 rfl (by first | exact Or.inl rfl | exact Or.inr rfl) (se_op o_add (se_fld (se_v 0 (pv 0)) rfl) (se_fld (se_v 0 (pv 0)) rfl)))
    (ss_cons (s_set nd27 rfl (by first | exact Or.inl rfl | exact Or.inr rfl) (se_call ((Y.f 14 _ rfl).at_ 0) (Y.f 14 _ rfl).ne hr rfl rfl (sa_cons (se_v 1 (pv 1)) (sa_cons (se_v 2 (pv 2)) sa_nil))))
    (ss_cons (s_set nd27 rfl (by first | exact Or.inl rfl | exact Or.inr rfl) (se_lst sa_nil))
    (ss_cons (s_while (sb_cmp (o_ne hr.units) (se_meth0 Y.mt hr rfl (se_v 1 (pv 1))) (se_c pe_str) rfl) (ss_cons (s_if (sb_cmp (o_eq hr.units) (se_cb c_len rfl (T.fr _ rfl) (by decide +kernel) (sa_cons (se_v 4 (pv 4)) sa_nil)) (se_c pe_int) rfl) (ss_one s_bad) ss_nil)
    (ss_one (s_expr (se_bm PySem.F.plainAttrs_list PySem.F.slot_list_append PySem.F.type_list_append m_append (se_v 4 (pv 4)) (sa_cons (se_call ((Y.f 14 _ rfl).at_ 0) (Y.f 14 _ rfl).ne hr rfl rfl (sa_cons (se_v 1 (pv 1)) (sa_cons (se_op o_add (se_op o_add (se_v 2 (pv 2)) (se_lst (sa_cons (se_v 3 (pv 3)) sa_nil))) (se_v 4 (pv 4))) sa_nil))) sa_nil))))))
    (ss_cons (s_expr (se_meth0 Y.mt hr rfl (se_v 1 (pv 1))))
    (ss_cons (s_set nd27 rfl (by first | exact Or.inl rfl | exact Or.inr rfl) (se_call ((Y.f 16 _ rfl).at_ 0) (Y.f 16 _ rfl).ne hr rfl rfl (sa_cons (se_v 1 (pv 1)) (sa_cons (se_make (mkG_of (T.cls 24 rfl).1 (T.ini 24 143 _ rfl rfl) (Y.m 143 _ rfl) 1) (Y.m 143 _ rfl).ne hr rfl rfl (sa_cons (se_fld (se_v 0 (pv 0)) rfl) (sa_cons (se_fld (se_v 0 (pv 0)) rfl) (sa_cons (se_fld (se_v 0 (pv 0)) rfl) (sa_cons (se_v 4 (pv 4)) sa_nil))))) sa_nil))))
    (ss_cons (s_expr (se_meth0 Y.mt hr rfl (se_v 1 (pv 1))))
    (ss_cons (s_if (sb_cmp (o_eq hr.units) (se_cb c_len rfl (T.fr _ rfl) (by decide +kernel) (sa_cons (se_fld (se_v 0 (pv 0)) rfl) sa_nil)) (se_c pe_int) rfl) (ss_one s_bad) ss_nil)
    (ss_cons (s_expr (se_call ((Y.f 25 _ rfl).at_ 0) (Y.f 25 _ rfl).ne hr rfl rfl (sa_cons (se_fld (se_v 1 (pv 1)) rfl) (sa_cons (se_lst (sa_cons (se_v 5 (pv 5)) sa_nil)) (sa_cons (se_fld (se_v 0 (pv 0)) rfl) sa_nil)))))
    (ss_cons (s_expr (se_bm PySem.F.plainAttrs_list PySem.F.slot_list_append PySem.F.type_list_append m_append (se_fld (se_v 0 (pv 0)) rfl) (sa_cons (se_v 3 (pv 3)) sa_nil)))
    (ss_one (s_expr (se_bm PySem.F.plainAttrs_list PySem.F.slot_list_append PySem.F.type_list_append m_append (se_fld (se_v 0 (pv 0)) rfl) (sa_cons (se_tup (sa_cons (se_cb c_len rfl (T.fr _ rfl) (by decide +kernel) (sa_cons (se_v 4 (pv 4)) sa_nil)) (sa_cons (se_v 5 (pv 5)) sa_nil))) sa_nil))))))))))))))
abbrev N28 : List Str := ["reading", "taker", "target", "most"]
theorem nd28 : N28.Nodup := by decide +kernel
theorem sc28 : FnScope N28 ["reading", "taker"] (defScope s28) := ⟨rfl, rfl, rfl, nd28, rfl, by decide +kernel, by decide +kernel⟩
theorem v28 (T : Tx K mg) (Y : Yx P w K mg base n fn mk) {f : Addr} {cd : Value} {A : Around} {outer : List Env} {s : Shared} {H : Hp} {E : XK} (hr : Room (n + 1) (CxF P w K mg base N28 "read_till" (defScope s28) f cd A outer s H E).A) :
    SSs (CxF P w K mg base N28 "read_till" (defScope s28) f cd A outer s H E) (b_read_till fn mk) (defBody s28) :=
  (ss_cons (s_set nd28 rfl (by first | exact Or.inl rfl | exact Or.inr rfl) (se_call ((Y.f 13 _ rfl).at_ 0) (Y.f 13 _ rfl).ne hr rfl rfl (sa_cons (se_v 1 (pv 1)) (sa_cons (se_fld (se_v 0 (pv 0)) rfl) sa_nil))))
    (ss_cons (s_expr (se_meth Y.mt hr rfl (se_v 1 (pv 1)) (sa_cons (se_c pe_str) sa_nil)))
    (ss_cons (s_set nd28 rfl (by first | exact Or.inl rfl | exact Or.inr rfl) (se_call ((Y.f 12 _ rfl).at_ 0) (Y.f 12 _ rfl).ne hr rfl rfl (sa_cons (se_v 1 (pv 1)) (sa_cons (se_c pe_int) (sa_cons (se_c pe_int) sa_nil)))))
    (ss_cons (s_expr (se_meth0 Y.mt hr rfl (se_v 1 (pv 1))))
    (ss_cons (s_if (sb_w (sw_or (sb_cmp (o_eq hr.units) (se_cb c_len rfl (T.fr _ rfl) (by decide +kernel) (sa_cons (se_fld (se_v 0 (pv 0)) rfl) sa_nil)) (se_c pe_int) rfl) (sw_or1 (sb_cmp (o_eq hr.units) (se_cb c_len rfl (T.fr _ rfl) (by decide +kernel) (sa_cons (se_fld (se_v 0 (pv 0)) rfl) sa_nil)) (se_c pe_int) rfl)))) (ss_one s_bad) ss_nil)
    (ss_cons (s_expr (se_bm PySem.F.plainAttrs_list PySem.F.slot_list_append PySem.F.type_list_append m_append (se_fld (se_v 0 (pv 0)) rfl) (sa_cons (se_fld (se_v 1 (pv 1)) rfl) sa_nil)))
    (ss_cons (s_expr (se_bm PySem.F.plainAttrs_list PySem.F.slot_list_append PySem.F.type_list_append m_append (se_fld (se_v 0 (pv 0)) rfl) (sa_cons (se_tup (sa_cons (se_v 2 (pv 2)) (sa_cons (se_v 3 (pv 3)) sa_nil))) sa_nil)))
    (ss_one (s_expr (se_bm PySem.F.plainAttrs_list PySem.F.slot_list_append PySem.F.type_list_append m_append (se_fld (se_v 0 (pv 0)) rfl) (sa_cons (se_lst sa_nil) sa_nil)))))))))))
abbrev N29 : List Str := ["reading", "taker", "head", "steps"]
theorem nd29 : N29.Nodup := by decide +kernel
theorem sc29 : FnScope N29 ["reading", "taker"] (defScope s29) := ⟨rfl, rfl, rfl, nd29, rfl, by decide +kernel, by decide +kernel⟩
theorem v29 (T : Tx K mg) (Y : Yx P w K mg base n fn mk) {f : Addr} {cd : Value} {A : Around} {outer : List Env} {s : Shared} {H : Hp} {E : XK} (hr : Room (n + 1) (CxF P w K mg base N29 "read_end" (defScope s29) f cd A outer s H E).A) :
    SSs (CxF P w K mg base N29 "read_end" (defScope s29) f cd A outer s H E) (b_read_end fn mk) (defBody s29) :=
  (ss_cons (s_expr (se_meth0 Y.mt hr rfl (se_v 1 (pv 1))))
    (ss_cons (s_set nd29 rfl (by first | exact Or.inl rfl | exact Or.inr rfl) (se_bm0 PySem.F.plainAttrs_list PySem.F.slot_list_pop PySem.F.type_list_pop m_pop (se_fld (se_v 0 (pv 0)) rfl)))
    (ss_cons (s_set nd29 rfl (by first | exact Or.inl rfl | exact Or.inr rfl) (se_bm0 PySem.F.plainAttrs_list PySem.F.slot_list_pop PySem.F.type_list_pop m_pop (se_fld (se_v 0 (pv 0)) rfl)))
    (ss_one (s_expr (se_bm PySem.F.plainAttrs_list PySem.F.slot_list_append PySem.F.type_list_append m_append (se_ix (se_fld (se_v 0 (pv 0)) rfl) (se_un o_neg (se_c pe_int)) (fun _ _ => rfl)) (sa_cons (se_frz (se_make (mkG_of (T.cls 31 rfl).1 (T.ini 31 160 _ rfl rfl) (Y.m 160 _ rfl) 0) (Y.m 160 _ rfl).ne hr rfl rfl (sa_cons (se_ix (se_v 2 (pv 2)) (se_c pe_int) (fun _ _ => rfl)) (sa_cons (se_ix (se_v 2 (pv 2)) (se_c pe_int) (fun _ _ => rfl)) (sa_cons (se_v 3 (pv 3)) sa_nil))))) sa_nil)))))))
abbrev N30 : List Str := ["taker", "known"]
theorem nd30 : N30.Nodup := by decide +kernel
theorem sc30 : FnScope N30 ["taker", "known"] (defScope s30) := ⟨rfl, rfl, rfl, nd30, rfl, by decide +kernel, by decide +kernel⟩
theorem v30 (T : Tx K mg) (Y : Yx P w K mg base n fn mk) {f : Addr} {cd : Value} {A : Around} {outer : List Env} {s : Shared} {H : Hp} {E : XK} (hr : Room (n + 1) (CxF P w K mg base N30 "take_test" (defScope s30) f cd A outer s H E).A) :
    SSs (CxF P w K mg base N30 "take_test" (defScope s30) f cd A outer s H E) (b_take_test fn mk) (defBody s30) :=
  (ss_cons (s_if (sb_of (se_meth0 Y.mt hr rfl (se_v 0 (pv 0)))) (ss_one (s_ret (se_c pe_non))) ss_nil)
    (ss_cons (s_expr (se_meth Y.mt hr rfl (se_v 0 (pv 0)) (sa_cons (se_c pe_str) sa_nil)))
    (ss_one (s_ret (se_call ((Y.f 16 _ rfl).at_ 0) (Y.f 16 _ rfl).ne hr rfl rfl (sa_cons (se_v 0 (pv 0)) (sa_cons (se_v 1 (pv 1)) sa_nil)))))))
abbrev N31 : List Str := ["taker", "known", "target", "value"]
theorem nd31 : N31.Nodup := by decide +kernel
theorem sc31 : FnScope N31 ["taker", "known"] (defScope s31) := ⟨rfl, rfl, rfl, nd31, rfl, by decide +kernel, by decide +kernel⟩
theorem v31 (T : Tx K mg) (Y : Yx P w K mg base n fn mk) {f : Addr} {cd : Value} {A : Around} {outer : List Env} {s : Shared} {H : Hp} {E : XK} (hr : Room (n + 1) (CxF P w K mg base N31 "take_let" (defScope s31) f cd A outer s H E).A) :
    SSs (CxF P w K mg base N31 "take_let" (defScope s31) f cd A outer s H E) (b_take_let fn mk) (defBody s31) :=
  (ss_cons (s_set nd31 rfl (by first | exact Or.inl rfl | exact Or.inr rfl) (se_call ((Y.f 13 _ rfl).at_ 0) (Y.f 13 _ rfl).ne hr rfl rfl (sa_cons (se_v 0 (pv 0)) (sa_cons (se_fld (se_v 1 (pv 1)) rfl) sa_nil))))
    (ss_cons (s_set nd31 rfl (by first | exact Or.inl rfl | exact Or.inr rfl) (se_call ((Y.f 16 _ rfl).at_ 0) (Y.f 16 _ rfl).ne hr rfl rfl (sa_cons (se_v 0 (pv 0)) (sa_cons (se_v 1 (pv 1)) sa_nil))))
    (ss_one (s_ret (se_frz (se_make (mkG_of (T.cls 27 rfl).1 (T.ini 27 154 _ rfl rfl) (Y.m 154 _ rfl) 1) (Y.m 154 _ rfl).ne hr rfl rfl (sa_cons (se_v 2 (pv 2)) (sa_cons (se_v 3 (pv 3)) (sa_cons (se_call ((Y.f 30 _ rfl).at_ 0) (Y.f 30 _ rfl).ne hr rfl rfl (sa_cons (se_v 0 (pv 0)) (sa_cons (se_v 1 (pv 1)) sa_nil))) sa_nil)))))))))
abbrev N32 : List Str := ["taker", "known", "value", "place", "target", "many"]
theorem nd32 : N32.Nodup := by decide +kernel
theorem sc32 : FnScope N32 ["taker", "known"] (defScope s32) := ⟨rfl, rfl, rfl, nd32, rfl, by decide +kernel, by decide +kernel⟩
theorem v32 (T : Tx K mg) (Y : Yx P w K mg base n fn mk) {f : Addr} {cd : Value} {A : Around} {outer : List Env} {s : Shared} {H : Hp} {E : XK} (hr : Room (n + 1) (CxF P w K mg base N32 "take_put" (defScope s32) f cd A outer s H E).A) :
    SSs (CxF P w K mg base N32 "take_put" (defScope s32) f cd A outer s H E) (b_take_put fn mk) (defBody s32) :=
  (ss_cons (s_set nd32 rfl (by first | exact Or.inl rfl | exact Or.inr rfl) (se_call ((Y.f 16 _ rfl).at_ 0) (Y.f 16 _ rfl).ne hr rfl rfl (sa_cons (se_v 0 (pv 0)) (sa_cons (se_v 1 (pv 1)) sa_nil))))
    (ss_cons (s_expr (se_meth Y.mt hr rfl (se_v 0 (pv 0)) (sa_cons (se_c pe_str) sa_nil)))
    (ss_cons (s_set nd32 rfl (by first | exact Or.inl rfl | exact Or.inr rfl) (se_call ((Y.f 16 _ rfl).at_ 0) (Y.f 16 _ rfl).ne hr rfl rfl (sa_cons (se_v 0 (pv 0)) (sa_cons (se_v 1 (pv 1)) sa_nil))))
    (ss_cons (s_expr (se_meth Y.mt hr rfl (se_v 0 (pv 0)) (sa_cons (se_c pe_str) sa_nil)))
    (ss_cons (s_set nd32 rfl (by first | exact Or.inl rfl | exact Or.inr rfl) (se_call ((Y.f 13 _ rfl).at_ 0) (Y.f 13 _ rfl).ne hr rfl rfl (sa_cons (se_v 0 (pv 0)) (sa_cons (se_fld (se_v 1 (pv 1)) rfl) sa_nil))))
    (ss_cons (s_expr (se_meth Y.mt hr rfl (se_v 0 (pv 0)) (sa_cons (se_c pe_str) sa_nil)))
    (ss_cons (s_set nd32 rfl (by first | exact Or.inl rfl | exact Or.inr rfl) (se_call ((Y.f 12 _ rfl).at_ 0) (Y.f 12 _ rfl).ne hr rfl rfl (sa_cons (se_v 0 (pv 0)) (sa_cons (se_c pe_int) (sa_cons (se_c pe_int) sa_nil)))))
    (ss_one (s_ret (se_frz (se_make (mkG_of (T.cls 28 rfl).1 (T.ini 28 155 _ rfl rfl) (Y.m 155 _ rfl) 1) (Y.m 155 _ rfl).ne hr rfl rfl (sa_cons (se_v 4 (pv 4)) (sa_cons (se_v 2 (pv 2)) (sa_cons (se_v 3 (pv 3)) (sa_cons (se_v 5 (pv 5)) (sa_cons (se_call ((Y.f 30 _ rfl).at_ 0) (Y.f 30 _ rfl).ne hr rfl rfl (sa_cons (se_v 0 (pv 0)) (sa_cons (se_v 1 (pv 1)) sa_nil))) sa_nil))))))))))))))))
abbrev N33 : List Str := ["taker", "known", "fold", "value", "target", "many"]
theorem nd33 : N33.Nodup := by decide +kernel
theorem sc33 : FnScope N33 ["taker", "known"] (defScope s33) := ⟨rfl, rfl, rfl, nd33, rfl, by decide +kernel, by decide +kernel⟩
theorem v33 (T : Tx K mg) (Y : Yx P w K mg base n fn mk) {f : Addr} {cd : Value} {A : Around} {outer : List Env} {s : Shared} {H : Hp} {E : XK} (hr : Room (n + 1) (CxF P w K mg base N33 "take_folded" (defScope s33) f cd A outer s H E).A) :
    SSs (CxF P w K mg base N33 "take_folded" (defScope s33) f cd A outer s H E) (b_take_folded fn mk) (defBody s33) :=
  (ss_cons (s_set nd33 rfl (by first | exact Or.inl rfl | exact Or.inr rfl) (se_call ((Y.f 15 _ rfl).at_ 0) (Y.f 15 _ rfl).ne hr rfl rfl (sa_cons (se_v 0 (pv 0)) sa_nil)))
    (ss_cons (s_set nd33 rfl (by first | exact Or.inl rfl | exact Or.inr rfl) (se_call ((Y.f 16 _ rfl).at_ 0) (Y.f 16 _ rfl).ne hr rfl rfl (sa_cons (se_v 0 (pv 0)) (sa_cons (se_v 1 (pv 1)) sa_nil))))
    (ss_cons (s_expr (se_meth Y.mt hr rfl (se_v 0 (pv 0)) (sa_cons (se_c pe_str) sa_nil)))
    (ss_cons (s_set nd33 rfl (by first | exact Or.inl rfl | exact Or.inr rfl) (se_call ((Y.f 13 _ rfl).at_ 0) (Y.f 13 _ rfl).ne hr rfl rfl (sa_cons (se_v 0 (pv 0)) (sa_cons (se_fld (se_v 1 (pv 1)) rfl) sa_nil))))
    (ss_cons (s_expr (se_meth Y.mt hr rfl (se_v 0 (pv 0)) (sa_cons (se_c pe_str) sa_nil)))
    (ss_cons (s_set nd33 rfl (by first | exact Or.inl rfl | exact Or.inr rfl) (se_call ((Y.f 12 _ rfl).at_ 0) (Y.f 12 _ rfl).ne hr rfl rfl (sa_cons (se_v 0 (pv 0)) (sa_cons (se_c pe_int) (sa_cons (se_c pe_int) sa_nil)))))
    (ss_one (s_ret (se_frz (se_make (mkG_of (T.cls 29 rfl).1 (T.ini 29 157 _ rfl rfl) (Y.m 157 _ rfl) 1) (Y.m 157 _ rfl).ne hr rfl rfl (sa_cons (se_v 4 (pv 4)) (sa_cons (se_v 2 (pv 2)) (sa_cons (se_v 3 (pv 3)) (sa_cons (se_v 5 (pv 5)) (sa_cons (se_call ((Y.f 30 _ rfl).at_ 0) (Y.f 30 _ rfl).ne hr rfl rfl (sa_cons (se_v 0 (pv 0)) (sa_cons (se_v 1 (pv 1)) sa_nil))) sa_nil)))))))))))))))
abbrev N34 : List Str := ["taker", "known", "fold", "value", "target"]
theorem nd34 : N34.Nodup := by decide +kernel
theorem sc34 : FnScope N34 ["taker", "known"] (defScope s34) := ⟨rfl, rfl, rfl, nd34, rfl, by decide +kernel, by decide +kernel⟩
theorem v34 (T : Tx K mg) (Y : Yx P w K mg base n fn mk) {f : Addr} {cd : Value} {A : Around} {outer : List Env} {s : Shared} {H : Hp} {E : XK} (hr : Room (n + 1) (CxF P w K mg base N34 "take_running" (defScope s34) f cd A outer s H E).A) :
    SSs (CxF P w K mg base N34 "take_running" (defScope s34) f cd A outer s H E) (b_take_running fn mk) (defBody s34) :=
  (ss_cons (s_set nd34 rfl (by first | exact Or.inl rfl | exact Or.inr rfl) (se_call ((Y.f 15 _ rfl).at_ 0) (Y.f 15 _ rfl).ne hr rfl rfl (sa_cons (se_v 0 (pv 0)) sa_nil)))
    (ss_cons (s_set nd34 rfl (by first | exact Or.inl rfl | exact Or.inr rfl) (se_call ((Y.f 16 _ rfl).at_ 0) (Y.f 16 _ rfl).ne hr rfl rfl (sa_cons (se_v 0 (pv 0)) (sa_cons (se_v 1 (pv 1)) sa_nil))))
    (ss_cons (s_expr (se_meth Y.mt hr rfl (se_v 0 (pv 0)) (sa_cons (se_c pe_str) sa_nil)))
    (ss_cons (s_set nd34 rfl (by first | exact Or.inl rfl | exact Or.inr rfl) (se_call ((Y.f 13 _ rfl).at_ 0) (Y.f 13 _ rfl).ne hr rfl rfl (sa_cons (se_v 0 (pv 0)) (sa_cons (se_fld (se_v 1 (pv 1)) rfl) sa_nil))))
    (ss_one (s_ret (se_frz (se_make (mkG_of (T.cls 30 rfl).1 (T.ini 30 159 _ rfl rfl) (Y.m 159 _ rfl) 1) (Y.m 159 _ rfl).ne hr rfl rfl (sa_cons (se_v 4 (pv 4)) (sa_cons (se_v 2 (pv 2)) (sa_cons (se_v 3 (pv 3)) (sa_cons (se_call ((Y.f 30 _ rfl).at_ 0) (Y.f 30 _ rfl).ne hr rfl rfl (sa_cons (se_v 0 (pv 0)) (sa_cons (se_v 1 (pv 1)) sa_nil))) sa_nil))))))))))))
abbrev N35 : List Str := ["reading", "taker", "word", "known", "step"]
theorem nd35 : N35.Nodup := by decide +kernel
theorem sc35 : FnScope N35 ["reading", "taker", "word"] (defScope s35) := ⟨rfl, rfl, rfl, nd35, rfl, by decide +kernel, by decide +kernel⟩
theorem v35 (T : Tx K mg) (Y : Yx P w K mg base n fn mk) {f : Addr} {cd : Value} {A : Around} {outer : List Env} {s : Shared} {H : Hp} {E : XK} (hr : Room (n + 1) (CxF P w K mg base N35 "read_step" (defScope s35) f cd A outer s H E).A) :
    SSs (CxF P w K mg base N35 "read_step" (defScope s35) f cd A outer s H E) (b_read_step fn mk) (defBody s35) :=
  (ss_cons (s_set nd35 rfl (by first | exact Or.inl rfl | exact Or.inr rfl) (se_make (mkG_of (T.cls 24 rfl).1 (T.ini 24 143 _ rfl rfl) (Y.m 143 _ rfl) 0) (Y.m 143 _ rfl).ne hr rfl rfl (sa_cons (se_fld (se_v 0 (pv 0)) rfl) (sa_cons (se_fld (se_v 0 (pv 0)) rfl) (sa_cons (se_fld (se_v 0 (pv 0)) rfl) sa_nil)))))
    (ss_cons (s_if (sb_cmp (o_eq hr.units) (se_v 2 (pv 2)) (se_c pe_str) rfl) (ss_one (s_set nd35 rfl (by first | exact Or.inl rfl | exact Or.inr rfl) (se_call ((Y.f 31 _ rfl).at_ 0) (Y.f 31 _ rfl).ne hr rfl rfl (sa_cons (se_v 1 (pv 1)) (sa_cons (se_v 3 (pv 3)) sa_nil))))) (ss_one (s_if (sb_cmp (o_eq hr.units) (se_v 2 (pv 2)) (se_c pe_str) rfl) (ss_one (s_set nd35 rfl (by first | exact Or.inl rfl | exact Or.inr rfl) (se_call ((Y.f 32 _ rfl).at_ 0) (Y.f 32 _ rfl).ne hr rfl rfl (sa_cons (se_v 1 (pv 1)) (sa_cons (se_v 3 (pv 3)) sa_nil))))) (ss_one (s_if (sb_cmp (o_eq hr.units) (se_v 2 (pv 2)) (se_c pe_str) rfl) (ss_one (s_set nd35 rfl (by first | exact Or.inl rfl | exact Or.inr rfl) (se_call ((Y.f 33 _ rfl).at_ 0) (Y.f 33 _ rfl).ne hr rfl rfl (sa_cons (se_v 1 (pv 1)) (sa_cons (se_v 3 (pv 3)) sa_nil))))) (ss_one (s_if (sb_cmp (o_eq hr.units) (se_v 2 (pv 2)) (se_c pe_str) rfl) (ss_one (s_set nd35 rfl (by first | exact Or.inl rfl | exact Or.inr rfl) (se_call ((Y.f 34 _ rfl).at_ 0) (Y.f 34 _ rfl).ne hr rfl rfl (sa_cons (se_v 1 (pv 1)) (sa_cons (se_v 3 (pv 3)) sa_nil))))) (ss_one s_bad))))))))
    (ss_cons (s_expr (se_meth0 Y.mt hr rfl (se_v 1 (pv 1))))
    (ss_cons (s_if (sb_cmp (o_eq hr.units) (se_cb c_len rfl (T.fr _ rfl) (by decide +kernel) (sa_cons (se_fld (se_v 0 (pv 0)) rfl) sa_nil)) (se_c pe_int) rfl) (ss_one s_bad) ss_nil)
    (ss_cons (s_expr (se_call ((Y.f 25 _ rfl).at_ 0) (Y.f 25 _ rfl).ne hr rfl rfl (sa_cons (se_fld (se_v 1 (pv 1)) rfl) (sa_cons (se_call ((Y.f 21 _ rfl).at_ 0) (Y.f 21 _ rfl).ne hr rfl rfl (sa_cons (se_v 4 (pv 4)) sa_nil)) (sa_cons (se_fld (se_v 0 (pv 0)) rfl) sa_nil)))))
    (ss_cons (s_if (sb_of (se_call ((Y.f 23 _ rfl).at_ 0) (Y.f 23 _ rfl).ne hr rfl rfl (sa_cons (se_v 4 (pv 4)) (sa_cons (se_fld (se_v 0 (pv 0)) rfl) sa_nil)))) (ss_one s_bad) ss_nil)
    (ss_cons (s_if (sb_of (se_call ((Y.f 24 _ rfl).at_ 0) (Y.f 24 _ rfl).ne hr rfl rfl (sa_cons (se_v 4 (pv 4)) sa_nil))) (ss_one s_bad) ss_nil)
    (ss_cons (s_expr (se_bm PySem.F.plainAttrs_list PySem.F.slot_list_append PySem.F.type_list_append m_append (se_fld (se_v 0 (pv 0)) rfl) (sa_cons (se_fld (se_v 1 (pv 1)) rfl) sa_nil)))
    (ss_one (s_expr (se_bm PySem.F.plainAttrs_list PySem.F.slot_list_append PySem.F.type_list_append m_append (se_ix (se_fld (se_v 0 (pv 0)) rfl) (se_un o_neg (se_c pe_int)) (fun _ _ => rfl)) (sa_cons (se_v 4 (pv 4)) sa_nil))))))))))))
abbrev N36 : List Str := ["reading", "taker", "within", "word"]
theorem nd36 : N36.Nodup := by decide +kernel
theorem sc36 : FnScope N36 ["reading", "taker"] (defScope s36) := ⟨rfl, rfl, rfl, nd36, rfl, by decide +kernel, by decide +kernel⟩
theorem v36 (T : Tx K mg) (Y : Yx P w K mg base n fn mk) {f : Addr} {cd : Value} {A : Around} {outer : List Env} {s : Shared} {H : Hp} {E : XK} (hr : Room (n + 1) (CxF P w K mg base N36 "read_line" (defScope s36) f cd A outer s H E).A) :
    SSs (CxF P w K mg base N36 "read_line" (defScope s36) f cd A outer s H E) (b_read_line fn mk) (defBody s36) :=
  (ss_cons (s_set nd36 rfl (by first | exact Or.inl rfl | exact Or.inr rfl) (se_cmp o_gt (se_cb c_len rfl (T.fr _ rfl) (by decide +kernel) (sa_cons (se_fld (se_v 0 (pv 0)) rfl) sa_nil)) (se_c pe_int) rfl))
    (ss_cons (s_set nd36 rfl (by first | exact Or.inl rfl | exact Or.inr rfl) (se_meth0 Y.mt hr rfl (se_v 1 (pv 1))))
    (ss_cons (s_expr (se_meth0 Y.mt hr rfl (se_v 1 (pv 1))))
    (ss_one (s_if (sb_w (sw_and (sb_cmp (o_eq hr.units) (se_v 3 (pv 3)) (se_c pe_str) rfl) (sw_and1 (sb_not (sb_of (se_v 2 (pv 2))))))) (ss_one (s_expr (se_call ((Y.f 26 _ rfl).at_ 0) (Y.f 26 _ rfl).ne hr rfl rfl (sa_cons (se_v 0 (pv 0)) (sa_cons (se_v 1 (pv 1)) sa_nil))))) (ss_one (s_if (sb_w (sw_and (sb_cmp (o_eq hr.units) (se_v 3 (pv 3)) (se_c pe_str) rfl) (sw_and1 (sb_not (sb_of (se_v 2 (pv 2))))))) (ss_one (s_expr (se_call ((Y.f 27 _ rfl).at_ 0) (Y.f 27 _ rfl).ne hr rfl rfl (sa_cons (se_v 0 (pv 0)) (sa_cons (se_v 1 (pv 1)) sa_nil))))) (ss_one (s_if (sb_cmp (o_eq hr.units) (se_v 3 (pv 3)) (se_c pe_str) rfl) (ss_one (s_expr (se_call ((Y.f 28 _ rfl).at_ 0) (Y.f 28 _ rfl).ne hr rfl rfl (sa_cons (se_v 0 (pv 0)) (sa_cons (se_v 1 (pv 1)) sa_nil))))) (ss_one (s_if (sb_w (sw_and (sb_cmp (o_eq hr.units) (se_v 3 (pv 3)) (se_c pe_str) rfl) (sw_and1 (sb_of (se_v 2 (pv 2)))))) (ss_one (s_expr (se_call ((Y.f 29 _ rfl).at_ 0) (Y.f 29 _ rfl).ne hr rfl rfl (sa_cons (se_v 0 (pv 0)) (sa_cons (se_v 1 (pv 1)) sa_nil))))) (ss_one (s_expr (se_call ((Y.f 35 _ rfl).at_ 0) (Y.f 35 _ rfl).ne hr rfl rfl (sa_cons (se_v 0 (pv 0)) (sa_cons (se_v 1 (pv 1)) (sa_cons (se_v 3 (pv 3)) sa_nil)))))))))))))))))
abbrev N37 : List Str := ["text", "reading", "count", "line", "words", "program"]
theorem nd37 : N37.Nodup := by decide +kernel
theorem sc37 : FnScope N37 ["text"] (defScope s37) := ⟨rfl, rfl, rfl, nd37, rfl, by decide +kernel, by decide +kernel⟩
theorem v37 (T : Tx K mg) (Y : Yx P w K mg base n fn mk) {f : Addr} {cd : Value} {A : Around} {outer : List Env} {s : Shared} {H : Hp} {E : XK} (hr : Room (n + 1) (CxF P w K mg base N37 "read" (defScope s37) f cd A outer s H E).A) :
    SSs (CxF P w K mg base N37 "read" (defScope s37) f cd A outer s H E) (b_read fn mk) (defBody s37) :=
  (ss_cons (s_set nd37 rfl (by first | exact Or.inl rfl | exact Or.inr rfl) (se_make0 (mkG_of (T.cls 34 rfl).1 (T.ini 34 163 _ rfl rfl) (Y.m 163 _ rfl) 0) (Y.m 163 _ rfl).ne hr rfl rfl))
    (ss_cons (s_set nd37 rfl (by first | exact Or.inl rfl | exact Or.inr rfl) (se_c pe_int))
    (ss_cons (s_for rfl (si_l (se_bm PySem.F.plainAttrs_str PySem.F.slot_str_split PySem.F.type_str_split m_split (se_v 0 (pv 0)) (sa_cons (se_c pe_str) sa_nil))) (sg_name nd37 rfl (by first | exact Or.inl rfl | exact Or.inr rfl)) (ss_cons (s_aug nd37 rfl (by first | exact Or.inl rfl | exact Or.inr rfl) (se_c pe_int) oi_add)
    (ss_cons (s_set nd37 rfl (by first | exact Or.inl rfl | exact Or.inr rfl) (se_call ((Y.f 6 _ rfl).at_ 0) (Y.f 6 _ rfl).ne hr rfl rfl (sa_cons (se_v 3 (pv 3)) sa_nil)))
    (ss_one (s_if (sb_cmp o_gt (se_cb c_len rfl (T.fr _ rfl) (by decide +kernel) (sa_cons (se_v 4 (pv 4)) sa_nil)) (se_c pe_int) rfl) (ss_one (s_expr (se_call ((Y.f 36 _ rfl).at_ 0) (Y.f 36 _ rfl).ne hr rfl rfl (sa_cons (se_v 1 (pv 1)) (sa_cons (se_make (mkG_of (T.cls 25 rfl).1 (T.ini 25 144 _ rfl rfl) (Y.m 144 _ rfl) 0) (Y.m 144 _ rfl).ne hr rfl rfl (sa_cons (se_v 2 (pv 2)) (sa_cons (se_v 4 (pv 4)) sa_nil))) sa_nil))))) ss_nil)))))
    (ss_cons (s_if (sb_cmp o_gt (se_cb c_len rfl (T.fr _ rfl) (by decide +kernel) (sa_cons (se_fld (se_v 1 (pv 1)) rfl) sa_nil)) (se_c pe_int) rfl) (ss_one s_bad) ss_nil)
    (ss_cons (s_set nd37 rfl (by first | exact Or.inl rfl | exact Or.inr rfl) (se_frz (se_make (mkG_of (T.cls 32 rfl).1 (T.ini 32 161 _ rfl rfl) (Y.m 161 _ rfl) 0) (Y.m 161 _ rfl).ne hr rfl rfl (sa_cons (se_fld (se_v 1 (pv 1)) rfl) (sa_cons (se_fld (se_v 1 (pv 1)) rfl) (sa_cons (se_ix (se_fld (se_v 1 (pv 1)) rfl) (se_c pe_int) (fun _ _ => rfl)) sa_nil))))))
    (ss_one (s_ret (se_make (mkG_of (T.cls 33 rfl).1 (T.ini 33 162 _ rfl rfl) (Y.m 162 _ rfl) 0) (Y.m 162 _ rfl).ne hr rfl rfl (sa_cons (se_v 5 (pv 5)) (sa_cons (se_fld (se_v 1 (pv 1)) rfl) (sa_cons (se_fld (se_v 1 (pv 1)) rfl) sa_nil)))))))))))
abbrev N122 : List Str := ["self", "line"]
theorem nd122 : N122.Nodup := by decide +kernel
theorem sc122 : FnScope N122 ["self", "line"] (defScope s122) := ⟨rfl, rfl, rfl, nd122, rfl, by decide +kernel, by decide +kernel⟩
theorem v122 (T : Tx K mg) (Y : Yx P w K mg base n fn mk) {f : Addr} {cd : Value} {A : Around} {outer : List Env} {s : Shared} {H : Hp} {E : XK} (hr : Room (n + 1) (CxF P w K mg base N122 "LineError.__init__" (defScope s122) f cd A outer s H E).A) :
    SSs (CxF P w K mg base N122 "LineError.__init__" (defScope s122) f cd A outer s H E) (b_LineError_init fn mk) (defBody s122) :=
  (ss_one (s_fld (se_v 0 (pv 0)) (se_v 1 (pv 1)) rfl))
abbrev N124 : List Str := ["self", "lengths", "functions", "cells", "place", "own"]
theorem nd124 : N124.Nodup := by decide +kernel
theorem sc124 : FnScope N124 ["self", "lengths", "functions", "cells", "place", "own"] (defScope s124) := ⟨rfl, rfl, rfl, nd124, rfl, by decide +kernel, by decide +kernel⟩
theorem v124 (T : Tx K mg) (Y : Yx P w K mg base n fn mk) {f : Addr} {cd : Value} {A : Around} {outer : List Env} {s : Shared} {H : Hp} {E : XK} (hr : Room (n + 1) (CxF P w K mg base N124 "Spot.__init__" (defScope s124) f cd A outer s H E).A) :
    SSs (CxF P w K mg base N124 "Spot.__init__" (defScope s124) f cd A outer s H E) (b_Spot_init fn mk) (defBody s124) :=
  (ss_cons (s_fld (se_v 0 (pv 0)) (se_v 1 (pv 1)) rfl)
    (ss_cons (s_fld (se_v 0 (pv 0)) (se_v 2 (pv 2)) rfl)
    (ss_cons (s_fld (se_v 0 (pv 0)) (se_v 3 (pv 3)) rfl)
    (ss_cons (s_fld (se_v 0 (pv 0)) (se_v 4 (pv 4)) rfl)
    (ss_one (s_fld (se_v 0 (pv 0)) (se_v 5 (pv 5)) rfl))))))
abbrev N125 : List Str := ["self", "spot"]
theorem nd125 : N125.Nodup := by decide +kernel
theorem sc125 : FnScope N125 ["self", "spot"] (defScope s125) := ⟨rfl, rfl, rfl, nd125, rfl, by decide +kernel, by decide +kernel⟩
theorem v125 (T : Tx K mg) (Y : Yx P w K mg base n fn mk) {f : Addr} {cd : Value} {A : Around} {outer : List Env} {s : Shared} {H : Hp} {E : XK} (hr : Room (n + 1) (CxF P w K mg base N125 "Form.worth" (defScope s125) f cd A outer s H E).A) :
    SSs (CxF P w K mg base N125 "Form.worth" (defScope s125) f cd A outer s H E) (b_Form_worth fn mk) (defBody s125) :=
  (ss_one (s_ret (se_c pe_int)))
abbrev N126 : List Str := ["self", "number"]
theorem nd126 : N126.Nodup := by decide +kernel
theorem sc126 : FnScope N126 ["self", "number"] (defScope s126) := ⟨rfl, rfl, rfl, nd126, rfl, by decide +kernel, by decide +kernel⟩
theorem v126 (T : Tx K mg) (Y : Yx P w K mg base n fn mk) {f : Addr} {cd : Value} {A : Around} {outer : List Env} {s : Shared} {H : Hp} {E : XK} (hr : Room (n + 1) (CxF P w K mg base N126 "Number.__init__" (defScope s126) f cd A outer s H E).A) :
    SSs (CxF P w K mg base N126 "Number.__init__" (defScope s126) f cd A outer s H E) (b_Number_init fn mk) (defBody s126) :=
  (ss_one (s_fld (se_v 0 (pv 0)) (se_v 1 (pv 1)) rfl))
abbrev N127 : List Str := ["self", "spot"]
theorem nd127 : N127.Nodup := by decide +kernel
theorem sc127 : FnScope N127 ["self", "spot"] (defScope s127) := ⟨rfl, rfl, rfl, nd127, rfl, by decide +kernel, by decide +kernel⟩
theorem v127 (T : Tx K mg) (Y : Yx P w K mg base n fn mk) {f : Addr} {cd : Value} {A : Around} {outer : List Env} {s : Shared} {H : Hp} {E : XK} (hr : Room (n + 1) (CxF P w K mg base N127 "Number.worth" (defScope s127) f cd A outer s H E).A) :
    SSs (CxF P w K mg base N127 "Number.worth" (defScope s127) f cd A outer s H E) (b_Number_worth fn mk) (defBody s127) :=
  (ss_one (s_ret (se_fld (se_v 0 (pv 0)) rfl)))
abbrev N128 : List Str := ["self", "spot"]
theorem nd128 : N128.Nodup := by decide +kernel
theorem sc128 : FnScope N128 ["self", "spot"] (defScope s128) := ⟨rfl, rfl, rfl, nd128, rfl, by decide +kernel, by decide +kernel⟩
theorem v128 (T : Tx K mg) (Y : Yx P w K mg base n fn mk) {f : Addr} {cd : Value} {A : Around} {outer : List Env} {s : Shared} {H : Hp} {E : XK} (hr : Room (n + 1) (CxF P w K mg base N128 "Here.worth" (defScope s128) f cd A outer s H E).A) :
    SSs (CxF P w K mg base N128 "Here.worth" (defScope s128) f cd A outer s H E) (b_Here_worth fn mk) (defBody s128) :=
  (ss_one (s_ret (se_fld (se_v 1 (pv 1)) rfl)))
abbrev N129 : List Str := ["self", "row"]
theorem nd129 : N129.Nodup := by decide +kernel
theorem sc129 : FnScope N129 ["self", "row"] (defScope s129) := ⟨rfl, rfl, rfl, nd129, rfl, by decide +kernel, by decide +kernel⟩
theorem v129 (T : Tx K mg) (Y : Yx P w K mg base n fn mk) {f : Addr} {cd : Value} {A : Around} {outer : List Env} {s : Shared} {H : Hp} {E : XK} (hr : Room (n + 1) (CxF P w K mg base N129 "Cell.__init__" (defScope s129) f cd A outer s H E).A) :
    SSs (CxF P w K mg base N129 "Cell.__init__" (defScope s129) f cd A outer s H E) (b_Cell_init fn mk) (defBody s129) :=
  (ss_one (s_fld (se_v 0 (pv 0)) (se_v 1 (pv 1)) rfl))
abbrev N130 : List Str := ["self", "spot"]
theorem nd130 : N130.Nodup := by decide +kernel
theorem sc130 : FnScope N130 ["self", "spot"] (defScope s130) := ⟨rfl, rfl, rfl, nd130, rfl, by decide +kernel, by decide +kernel⟩
theorem v130 (T : Tx K mg) (Y : Yx P w K mg base n fn mk) {f : Addr} {cd : Value} {A : Around} {outer : List Env} {s : Shared} {H : Hp} {E : XK} (hr : Room (n + 1) (CxF P w K mg base N130 "Cell.worth" (defScope s130) f cd A outer s H E).A) :
    SSs (CxF P w K mg base N130 "Cell.worth" (defScope s130) f cd A outer s H E) (b_Cell_worth fn mk) (defBody s130) :=
  (ss_cons (s_if (sb_cmp (o_eq hr.units) (se_ix (se_fld (se_v 1 (pv 1)) rfl) (se_fld (se_v 0 (pv 0)) rfl) (fun _ _ => rfl)) (se_c pe_int) rfl) (ss_one (s_ret (se_call ((Y.f 5 _ rfl).at_ 0) (Y.f 5 _ rfl).ne hr rfl rfl (sa_cons (se_v 1 (pv 1)) (sa_cons (se_fld (se_v 0 (pv 0)) rfl) (sa_cons (se_c pe_int) sa_nil)))))) ss_nil)
    (ss_one (s_ret (se_call ((Y.f 5 _ rfl).at_ 0) (Y.f 5 _ rfl).ne hr rfl rfl (sa_cons (se_v 1 (pv 1)) (sa_cons (se_fld (se_v 0 (pv 0)) rfl) (sa_cons (se_fld (se_v 1 (pv 1)) rfl) sa_nil)))))))
abbrev N131 : List Str := ["self", "row", "by", "other"]
theorem nd131 : N131.Nodup := by decide +kernel
theorem sc131 : FnScope N131 ["self", "row", "by", "other"] (defScope s131) := ⟨rfl, rfl, rfl, nd131, rfl, by decide +kernel, by decide +kernel⟩
theorem v131 (T : Tx K mg) (Y : Yx P w K mg base n fn mk) {f : Addr} {cd : Value} {A : Around} {outer : List Env} {s : Shared} {H : Hp} {E : XK} (hr : Room (n + 1) (CxF P w K mg base N131 "Shifted.__init__" (defScope s131) f cd A outer s H E).A) :
    SSs (CxF P w K mg base N131 "Shifted.__init__" (defScope s131) f cd A outer s H E) (b_Shifted_init fn mk) (defBody s131) :=
  (ss_cons (s_fld (se_v 0 (pv 0)) (se_v 1 (pv 1)) rfl)
    (ss_cons (s_fld (se_v 0 (pv 0)) (se_v 2 (pv 2)) rfl)
    (ss_one (s_fld (se_v 0 (pv 0)) (se_v 3 (pv 3)) rfl))))
abbrev N132 : List Str := ["self", "spot", "place"]
theorem nd132 : N132.Nodup := by decide +kernel
theorem sc132 : FnScope N132 ["self", "spot"] (defScope s132) := ⟨rfl, rfl, rfl, nd132, rfl, by decide +kernel, by decide +kernel⟩
theorem v132 (T : Tx K mg) (Y : Yx P w K mg base n fn mk) {f : Addr} {cd : Value} {A : Around} {outer : List Env} {s : Shared} {H : Hp} {E : XK} (hr : Room (n + 1) (CxF P w K mg base N132 "Shifted.worth" (defScope s132) f cd A outer s H E).A) :
    SSs (CxF P w K mg base N132 "Shifted.worth" (defScope s132) f cd A outer s H E) (b_Shifted_worth fn mk) (defBody s132) :=
  (ss_cons (s_set nd132 rfl (by first | exact Or.inl rfl | exact Or.inr rfl) (se_op o_add (se_fld (se_v 1 (pv 1)) rfl) (se_fld (se_v 0 (pv 0)) rfl)))
    (ss_cons (s_if (sb_chain o_le o_lt (se_c pe_int) (se_v 2 (pv 2)) (se_ix (se_fld (se_v 1 (pv 1)) rfl) (se_fld (se_v 0 (pv 0)) rfl) (fun _ _ => rfl))) (ss_one (s_ret (se_call ((Y.f 5 _ rfl).at_ 0) (Y.f 5 _ rfl).ne hr rfl rfl (sa_cons (se_v 1 (pv 1)) (sa_cons (se_fld (se_v 0 (pv 0)) rfl) (sa_cons (se_v 2 (pv 2)) sa_nil)))))) ss_nil)
    (ss_one (s_ret (se_fld (se_v 0 (pv 0)) rfl)))))
abbrev N133 : List Str := ["self", "at"]
theorem nd133 : N133.Nodup := by decide +kernel
theorem sc133 : FnScope N133 ["self", "at"] (defScope s133) := ⟨rfl, rfl, rfl, nd133, rfl, by decide +kernel, by decide +kernel⟩
theorem v133 (T : Tx K mg) (Y : Yx P w K mg base n fn mk) {f : Addr} {cd : Value} {A : Around} {outer : List Env} {s : Shared} {H : Hp} {E : XK} (hr : Room (n + 1) (CxF P w K mg base N133 "Local.__init__" (defScope s133) f cd A outer s H E).A) :
    SSs (CxF P w K mg base N133 "Local.__init__" (defScope s133) f cd A outer s H E) (b_Local_init fn mk) (defBody s133) :=
  (ss_one (s_fld (se_v 0 (pv 0)) (se_v 1 (pv 1)) rfl))
abbrev N134 : List Str := ["self", "spot"]
theorem nd134 : N134.Nodup := by decide +kernel
theorem sc134 : FnScope N134 ["self", "spot"] (defScope s134) := ⟨rfl, rfl, rfl, nd134, rfl, by decide +kernel, by decide +kernel⟩
theorem v134 (T : Tx K mg) (Y : Yx P w K mg base n fn mk) {f : Addr} {cd : Value} {A : Around} {outer : List Env} {s : Shared} {H : Hp} {E : XK} (hr : Room (n + 1) (CxF P w K mg base N134 "Local.worth" (defScope s134) f cd A outer s H E).A) :
    SSs (CxF P w K mg base N134 "Local.worth" (defScope s134) f cd A outer s H E) (b_Local_worth fn mk) (defBody s134) :=
  (ss_one (s_ret (se_ix (se_fld (se_v 1 (pv 1)) rfl) (se_fld (se_v 0 (pv 0)) rfl) (fun _ _ => rfl))))
abbrev N135 : List Str := ["self", "row", "place"]
theorem nd135 : N135.Nodup := by decide +kernel
theorem sc135 : FnScope N135 ["self", "row", "place"] (defScope s135) := ⟨rfl, rfl, rfl, nd135, rfl, by decide +kernel, by decide +kernel⟩
theorem v135 (T : Tx K mg) (Y : Yx P w K mg base n fn mk) {f : Addr} {cd : Value} {A : Around} {outer : List Env} {s : Shared} {H : Hp} {E : XK} (hr : Room (n + 1) (CxF P w K mg base N135 "At.__init__" (defScope s135) f cd A outer s H E).A) :
    SSs (CxF P w K mg base N135 "At.__init__" (defScope s135) f cd A outer s H E) (b_At_init fn mk) (defBody s135) :=
  (ss_cons (s_fld (se_v 0 (pv 0)) (se_v 1 (pv 1)) rfl)
    (ss_one (s_fld (se_v 0 (pv 0)) (se_v 2 (pv 2)) rfl)))
abbrev N136 : List Str := ["self", "spot", "place"]
theorem nd136 : N136.Nodup := by decide +kernel
theorem sc136 : FnScope N136 ["self", "spot"] (defScope s136) := ⟨rfl, rfl, rfl, nd136, rfl, by decide +kernel, by decide +kernel⟩
theorem v136 (T : Tx K mg) (Y : Yx P w K mg base n fn mk) {f : Addr} {cd : Value} {A : Around} {outer : List Env} {s : Shared} {H : Hp} {E : XK} (hr : Room (n + 1) (CxF P w K mg base N136 "At.worth" (defScope s136) f cd A outer s H E).A) :
    SSs (CxF P w K mg base N136 "At.worth" (defScope s136) f cd A outer s H E) (b_At_worth fn mk) (defBody s136) :=
  (ss_cons (s_set nd136 rfl (by first | exact Or.inl rfl | exact Or.inr rfl) (se_meth Y.mt hr rfl (se_fld (se_v 0 (pv 0)) rfl) (sa_cons (se_v 1 (pv 1)) sa_nil)))
    (ss_cons (s_if (sb_not (sb_chain o_le o_lt (se_c pe_int) (se_v 2 (pv 2)) (se_ix (se_fld (se_v 1 (pv 1)) rfl) (se_fld (se_v 0 (pv 0)) rfl) (fun _ _ => rfl)))) (ss_one s_bad) ss_nil)
    (ss_one (s_ret (se_call ((Y.f 5 _ rfl).at_ 0) (Y.f 5 _ rfl).ne hr rfl rfl (sa_cons (se_v 1 (pv 1)) (sa_cons (se_fld (se_v 0 (pv 0)) rfl) (sa_cons (se_v 2 (pv 2)) sa_nil))))))))
abbrev N137 : List Str := ["self", "sign", "left", "right"]
theorem nd137 : N137.Nodup := by decide +kernel
theorem sc137 : FnScope N137 ["self", "sign", "left", "right"] (defScope s137) := ⟨rfl, rfl, rfl, nd137, rfl, by decide +kernel, by decide +kernel⟩
theorem v137 (T : Tx K mg) (Y : Yx P w K mg base n fn mk) {f : Addr} {cd : Value} {A : Around} {outer : List Env} {s : Shared} {H : Hp} {E : XK} (hr : Room (n + 1) (CxF P w K mg base N137 "Pair.__init__" (defScope s137) f cd A outer s H E).A) :
    SSs (CxF P w K mg base N137 "Pair.__init__" (defScope s137) f cd A outer s H E) (b_Pair_init fn mk) (defBody s137) :=
  (ss_cons (s_fld (se_v 0 (pv 0)) (se_v 1 (pv 1)) rfl)
    (ss_cons (s_fld (se_v 0 (pv 0)) (se_v 2 (pv 2)) rfl)
    (ss_one (s_fld (se_v 0 (pv 0)) (se_v 3 (pv 3)) rfl))))
abbrev N138 : List Str := ["self", "spot", "left", "right"]
theorem nd138 : N138.Nodup := by decide +kernel
theorem sc138 : FnScope N138 ["self", "spot"] (defScope s138) := ⟨rfl, rfl, rfl, nd138, rfl, by decide +kernel, by decide +kernel⟩
theorem v138 (T : Tx K mg) (Y : Yx P w K mg base n fn mk) {f : Addr} {cd : Value} {A : Around} {outer : List Env} {s : Shared} {H : Hp} {E : XK} (hr : Room (n + 1) (CxF P w K mg base N138 "Pair.worth" (defScope s138) f cd A outer s H E).A) :
    SSs (CxF P w K mg base N138 "Pair.worth" (defScope s138) f cd A outer s H E) (b_Pair_worth fn mk) (defBody s138) :=
  (ss_cons (s_set nd138 rfl (by first | exact Or.inl rfl | exact Or.inr rfl) (se_meth Y.mt hr rfl (se_fld (se_v 0 (pv 0)) rfl) (sa_cons (se_v 1 (pv 1)) sa_nil)))
    (ss_cons (s_set nd138 rfl (by first | exact Or.inl rfl | exact Or.inr rfl) (se_meth Y.mt hr rfl (se_fld (se_v 0 (pv 0)) rfl) (sa_cons (se_v 1 (pv 1)) sa_nil)))
    (ss_one (s_ret (se_call ((Y.f 3 _ rfl).at_ 0) (Y.f 3 _ rfl).ne hr rfl rfl (sa_cons (se_fld (se_v 0 (pv 0)) rfl) (sa_cons (se_v 2 (pv 2)) (sa_cons (se_v 3 (pv 3)) sa_nil))))))))
abbrev N139 : List Str := ["self", "test", "left", "right"]
theorem nd139 : N139.Nodup := by decide +kernel
theorem sc139 : FnScope N139 ["self", "test", "left", "right"] (defScope s139) := ⟨rfl, rfl, rfl, nd139, rfl, by decide +kernel, by decide +kernel⟩
theorem v139 (T : Tx K mg) (Y : Yx P w K mg base n fn mk) {f : Addr} {cd : Value} {A : Around} {outer : List Env} {s : Shared} {H : Hp} {E : XK} (hr : Room (n + 1) (CxF P w K mg base N139 "Choice.__init__" (defScope s139) f cd A outer s H E).A) :
    SSs (CxF P w K mg base N139 "Choice.__init__" (defScope s139) f cd A outer s H E) (b_Choice_init fn mk) (defBody s139) :=
  (ss_cons (s_fld (se_v 0 (pv 0)) (se_v 1 (pv 1)) rfl)
    (ss_cons (s_fld (se_v 0 (pv 0)) (se_v 2 (pv 2)) rfl)
    (ss_one (s_fld (se_v 0 (pv 0)) (se_v 3 (pv 3)) rfl))))
abbrev N140 : List Str := ["self", "spot"]
theorem nd140 : N140.Nodup := by decide +kernel
theorem sc140 : FnScope N140 ["self", "spot"] (defScope s140) := ⟨rfl, rfl, rfl, nd140, rfl, by decide +kernel, by decide +kernel⟩
theorem v140 (T : Tx K mg) (Y : Yx P w K mg base n fn mk) {f : Addr} {cd : Value} {A : Around} {outer : List Env} {s : Shared} {H : Hp} {E : XK} (hr : Room (n + 1) (CxF P w K mg base N140 "Choice.worth" (defScope s140) f cd A outer s H E).A) :
    SSs (CxF P w K mg base N140 "Choice.worth" (defScope s140) f cd A outer s H E) (b_Choice_worth fn mk) (defBody s140) :=
  (ss_cons (s_if (sb_cmp (o_ne hr.units) (se_meth Y.mt hr rfl (se_fld (se_v 0 (pv 0)) rfl) (sa_cons (se_v 1 (pv 1)) sa_nil)) (se_c pe_int) rfl) (ss_one (s_ret (se_meth Y.mt hr rfl (se_fld (se_v 0 (pv 0)) rfl) (sa_cons (se_v 1 (pv 1)) sa_nil)))) ss_nil)
    (ss_one (s_ret (se_meth Y.mt hr rfl (se_fld (se_v 0 (pv 0)) rfl) (sa_cons (se_v 1 (pv 1)) sa_nil)))))
abbrev N141 : List Str := ["self", "at", "handed"]
theorem nd141 : N141.Nodup := by decide +kernel
theorem sc141 : FnScope N141 ["self", "at", "handed"] (defScope s141) := ⟨rfl, rfl, rfl, nd141, rfl, by decide +kernel, by decide +kernel⟩
theorem v141 (T : Tx K mg) (Y : Yx P w K mg base n fn mk) {f : Addr} {cd : Value} {A : Around} {outer : List Env} {s : Shared} {H : Hp} {E : XK} (hr : Room (n + 1) (CxF P w K mg base N141 "Call.__init__" (defScope s141) f cd A outer s H E).A) :
    SSs (CxF P w K mg base N141 "Call.__init__" (defScope s141) f cd A outer s H E) (b_Call_init fn mk) (defBody s141) :=
  (ss_cons (s_fld (se_v 0 (pv 0)) (se_v 1 (pv 1)) rfl)
    (ss_one (s_fld (se_v 0 (pv 0)) (se_frz (se_ct c_list rfl (T.fr _ rfl) (by decide +kernel) (sa_cons (se_v 2 (pv 2)) sa_nil))) rfl)))
abbrev N142 : List Str := ["self", "spot", "own", "form", "body"]
theorem nd142 : N142.Nodup := by decide +kernel
theorem sc142 : FnScope N142 ["self", "spot"] (defScope s142) := ⟨rfl, rfl, rfl, nd142, rfl, by decide +kernel, by decide +kernel⟩
theorem v142 (T : Tx K mg) (Y : Yx P w K mg base n fn mk) {f : Addr} {cd : Value} {A : Around} {outer : List Env} {s : Shared} {H : Hp} {E : XK} (hr : Room (n + 1) (CxF P w K mg base N142 "Call.worth" (defScope s142) f cd A outer s H E).A) :
    SSs (CxF P w K mg base N142 "Call.worth" (defScope s142) f cd A outer s H E) (b_Call_worth fn mk) (defBody s142) :=
  (ss_cons (s_set nd142 rfl (by first | exact Or.inl rfl | exact Or.inr rfl) (se_lst sa_nil))
    (ss_cons (s_for rfl (si_l (se_fld (se_v 0 (pv 0)) rfl)) (sg_name nd142 rfl (by first | exact Or.inl rfl | exact Or.inr rfl)) (ss_one (s_expr (se_bm PySem.F.plainAttrs_list PySem.F.slot_list_append PySem.F.type_list_append m_append (se_v 2 (pv 2)) (sa_cons (se_meth Y.mt hr rfl (se_v 3 (pv 3)) (sa_cons (se_v 1 (pv 1)) sa_nil)) sa_nil)))))
    (ss_cons (s_set nd142 rfl (by first | exact Or.inl rfl | exact Or.inr rfl) (se_ix (se_ix (se_fld (se_v 1 (pv 1)) rfl) (se_fld (se_v 0 (pv 0)) rfl) (fun _ _ => rfl)) (se_c pe_int) (fun _ _ => rfl)))
    (ss_one (s_ret (se_meth Y.mt hr rfl (se_v 4 (pv 4)) (sa_cons (se_frz (se_make (mkG_of (T.cls 13 rfl).1 (T.ini 13 124 _ rfl rfl) (Y.m 124 _ rfl) 0) (Y.m 124 _ rfl).ne hr rfl rfl (sa_cons (se_fld (se_v 1 (pv 1)) rfl) (sa_cons (se_fld (se_v 1 (pv 1)) rfl) (sa_cons (se_fld (se_v 1 (pv 1)) rfl) (sa_cons (se_fld (se_v 1 (pv 1)) rfl) (sa_cons (se_frz (se_v 2 (pv 2))) sa_nil))))))) sa_nil)))))))
abbrev N143 : List Str := ["self", "rows", "calls", "functions", "parameters"]
theorem nd143 : N143.Nodup := by decide +kernel
theorem sc143 : FnScope N143 ["self", "rows", "calls", "functions", "parameters"] (defScope s143) := ⟨rfl, rfl, rfl, nd143, rfl, by decide +kernel, by decide +kernel⟩
theorem v143 (T : Tx K mg) (Y : Yx P w K mg base n fn mk) {f : Addr} {cd : Value} {A : Around} {outer : List Env} {s : Shared} {H : Hp} {E : XK} (hr : Room (n + 1) (CxF P w K mg base N143 "Known.__init__" (defScope s143) f cd A outer s H E).A) :
    SSs (CxF P w K mg base N143 "Known.__init__" (defScope s143) f cd A outer s H E) (b_Known_init fn mk) (defBody s143) :=
  (ss_cons (s_fld (se_v 0 (pv 0)) (se_v 1 (pv 1)) rfl)
    (ss_cons (s_fld (se_v 0 (pv 0)) (se_v 2 (pv 2)) rfl)
    (ss_cons (s_fld (se_v 0 (pv 0)) (se_v 3 (pv 3)) rfl)
    (ss_one (s_fld (se_v 0 (pv 0)) (se_v 4 (pv 4)) rfl)))))
abbrev N144 : List Str := ["self", "line", "words"]
theorem nd144 : N144.Nodup := by decide +kernel
theorem sc144 : FnScope N144 ["self", "line", "words"] (defScope s144) := ⟨rfl, rfl, rfl, nd144, rfl, by decide +kernel, by decide +kernel⟩
theorem v144 (T : Tx K mg) (Y : Yx P w K mg base n fn mk) {f : Addr} {cd : Value} {A : Around} {outer : List Env} {s : Shared} {H : Hp} {E : XK} (hr : Room (n + 1) (CxF P w K mg base N144 "Taker.__init__" (defScope s144) f cd A outer s H E).A) :
    SSs (CxF P w K mg base N144 "Taker.__init__" (defScope s144) f cd A outer s H E) (b_Taker_init fn mk) (defBody s144) :=
  (ss_cons (s_fld (se_v 0 (pv 0)) (se_v 1 (pv 1)) rfl)
    (ss_cons (s_fld (se_v 0 (pv 0)) (se_v 2 (pv 2)) rfl)
    (ss_cons (s_fld (se_v 0 (pv 0)) (se_c pe_int) rfl)
    (ss_one (s_fld (se_v 0 (pv 0)) (se_c pe_int) rfl)))))
abbrev N145 : List Str := ["self"]
theorem nd145 : N145.Nodup := by decide +kernel
theorem sc145 : FnScope N145 ["self"] (defScope s145) := ⟨rfl, rfl, rfl, nd145, rfl, by decide +kernel, by decide +kernel⟩
theorem v145 (T : Tx K mg) (Y : Yx P w K mg base n fn mk) {f : Addr} {cd : Value} {A : Around} {outer : List Env} {s : Shared} {H : Hp} {E : XK} (hr : Room (n + 1) (CxF P w K mg base N145 "Taker.word" (defScope s145) f cd A outer s H E).A) :
    SSs (CxF P w K mg base N145 "Taker.word" (defScope s145) f cd A outer s H E) (b_Taker_word fn mk) (defBody s145) :=
  (ss_cons (s_if (sb_cmp o_ge (se_fld (se_v 0 (pv 0)) rfl) (se_cb c_len rfl (T.fr _ rfl) (by decide +kernel) (sa_cons (se_fld (se_v 0 (pv 0)) rfl) sa_nil)) rfl) (ss_one s_bad) ss_nil)
    (ss_one (s_ret (se_ix (se_fld (se_v 0 (pv 0)) rfl) (se_fld (se_v 0 (pv 0)) rfl) (fun _ _ => rfl)))))
abbrev N146 : List Str := ["self"]
theorem nd146 : N146.Nodup := by decide +kernel
theorem sc146 : FnScope N146 ["self"] (defScope s146) := ⟨rfl, rfl, rfl, nd146, rfl, by decide +kernel, by decide +kernel⟩
theorem v146 (T : Tx K mg) (Y : Yx P w K mg base n fn mk) {f : Addr} {cd : Value} {A : Around} {outer : List Env} {s : Shared} {H : Hp} {E : XK} (hr : Room (n + 1) (CxF P w K mg base N146 "Taker.pass_on" (defScope s146) f cd A outer s H E).A) :
    SSs (CxF P w K mg base N146 "Taker.pass_on" (defScope s146) f cd A outer s H E) (b_Taker_pass_on fn mk) (defBody s146) :=
  (ss_one (s_fldaug (se_v 0 (pv 0)) (se_c pe_int) rfl oi_add))
abbrev N147 : List Str := ["self", "due"]
theorem nd147 : N147.Nodup := by decide +kernel
theorem sc147 : FnScope N147 ["self", "due"] (defScope s147) := ⟨rfl, rfl, rfl, nd147, rfl, by decide +kernel, by decide +kernel⟩
theorem v147 (T : Tx K mg) (Y : Yx P w K mg base n fn mk) {f : Addr} {cd : Value} {A : Around} {outer : List Env} {s : Shared} {H : Hp} {E : XK} (hr : Room (n + 1) (CxF P w K mg base N147 "Taker.meet" (defScope s147) f cd A outer s H E).A) :
    SSs (CxF P w K mg base N147 "Taker.meet" (defScope s147) f cd A outer s H E) (b_Taker_meet fn mk) (defBody s147) :=
  (ss_cons (s_if (sb_cmp (o_ne hr.units) (se_meth0 Y.mt hr rfl (se_v 0 (pv 0))) (se_v 1 (pv 1)) rfl) (ss_one s_bad) ss_nil)
    (ss_one (s_fldaug (se_v 0 (pv 0)) (se_c pe_int) rfl oi_add)))
abbrev N148 : List Str := ["self"]
theorem nd148 : N148.Nodup := by decide +kernel
theorem sc148 : FnScope N148 ["self"] (defScope s148) := ⟨rfl, rfl, rfl, nd148, rfl, by decide +kernel, by decide +kernel⟩
theorem v148 (T : Tx K mg) (Y : Yx P w K mg base n fn mk) {f : Addr} {cd : Value} {A : Around} {outer : List Env} {s : Shared} {H : Hp} {E : XK} (hr : Room (n + 1) (CxF P w K mg base N148 "Taker.go_in" (defScope s148) f cd A outer s H E).A) :
    SSs (CxF P w K mg base N148 "Taker.go_in" (defScope s148) f cd A outer s H E) (b_Taker_go_in fn mk) (defBody s148) :=
  (ss_cons (s_if (sb_cmp (o_eq hr.units) (se_fld (se_v 0 (pv 0)) rfl) (se_gint rfl (T.ci _ _ rfl)) rfl) (ss_one s_bad) ss_nil)
    (ss_cons (s_fldaug (se_v 0 (pv 0)) (se_c pe_int) rfl oi_add)
    (ss_one (s_fldaug (se_v 0 (pv 0)) (se_c pe_int) rfl oi_add))))
abbrev N149 : List Str := ["self"]
theorem nd149 : N149.Nodup := by decide +kernel
theorem sc149 : FnScope N149 ["self"] (defScope s149) := ⟨rfl, rfl, rfl, nd149, rfl, by decide +kernel, by decide +kernel⟩
theorem v149 (T : Tx K mg) (Y : Yx P w K mg base n fn mk) {f : Addr} {cd : Value} {A : Around} {outer : List Env} {s : Shared} {H : Hp} {E : XK} (hr : Room (n + 1) (CxF P w K mg base N149 "Taker.go_out" (defScope s149) f cd A outer s H E).A) :
    SSs (CxF P w K mg base N149 "Taker.go_out" (defScope s149) f cd A outer s H E) (b_Taker_go_out fn mk) (defBody s149) :=
  (ss_cons (s_expr (se_meth Y.mt hr rfl (se_v 0 (pv 0)) (sa_cons (se_c pe_str) sa_nil)))
    (ss_one (s_fldaug (se_v 0 (pv 0)) (se_c pe_int) rfl oi_sub)))
abbrev N150 : List Str := ["self"]
theorem nd150 : N150.Nodup := by decide +kernel
theorem sc150 : FnScope N150 ["self"] (defScope s150) := ⟨rfl, rfl, rfl, nd150, rfl, by decide +kernel, by decide +kernel⟩
theorem v150 (T : Tx K mg) (Y : Yx P w K mg base n fn mk) {f : Addr} {cd : Value} {A : Around} {outer : List Env} {s : Shared} {H : Hp} {E : XK} (hr : Room (n + 1) (CxF P w K mg base N150 "Taker.ended" (defScope s150) f cd A outer s H E).A) :
    SSs (CxF P w K mg base N150 "Taker.ended" (defScope s150) f cd A outer s H E) (b_Taker_ended fn mk) (defBody s150) :=
  (ss_one (s_ret (se_cmp (o_eq hr.units) (se_fld (se_v 0 (pv 0)) rfl) (se_cb c_len rfl (T.fr _ rfl) (by decide +kernel) (sa_cons (se_fld (se_v 0 (pv 0)) rfl) sa_nil)) rfl)))
abbrev N151 : List Str := ["self"]
theorem nd151 : N151.Nodup := by decide +kernel
theorem sc151 : FnScope N151 ["self"] (defScope s151) := ⟨rfl, rfl, rfl, nd151, rfl, by decide +kernel, by decide +kernel⟩
theorem v151 (T : Tx K mg) (Y : Yx P w K mg base n fn mk) {f : Addr} {cd : Value} {A : Around} {outer : List Env} {s : Shared} {H : Hp} {E : XK} (hr : Room (n + 1) (CxF P w K mg base N151 "Taker.finish" (defScope s151) f cd A outer s H E).A) :
    SSs (CxF P w K mg base N151 "Taker.finish" (defScope s151) f cd A outer s H E) (b_Taker_finish fn mk) (defBody s151) :=
  (ss_one (s_if (sb_not (sb_of (se_meth0 Y.mt hr rfl (se_v 0 (pv 0))))) (ss_one s_bad) ss_nil))
abbrev N152 : List Str := ["self", "target"]
theorem nd152 : N152.Nodup := by decide +kernel
theorem sc152 : FnScope N152 ["self", "target"] (defScope s152) := ⟨rfl, rfl, rfl, nd152, rfl, by decide +kernel, by decide +kernel⟩
theorem v152 (T : Tx K mg) (Y : Yx P w K mg base n fn mk) {f : Addr} {cd : Value} {A : Around} {outer : List Env} {s : Shared} {H : Hp} {E : XK} (hr : Room (n + 1) (CxF P w K mg base N152 "Step.__init__" (defScope s152) f cd A outer s H E).A) :
    SSs (CxF P w K mg base N152 "Step.__init__" (defScope s152) f cd A outer s H E) (b_Step_init fn mk) (defBody s152) :=
  (ss_one (s_fld (se_v 0 (pv 0)) (se_v 1 (pv 1)) rfl))
abbrev N153 : List Str := ["self", "lengths"]
theorem nd153 : N153.Nodup := by decide +kernel
theorem sc153 : FnScope N153 ["self", "lengths"] (defScope s153) := ⟨rfl, rfl, rfl, nd153, rfl, by decide +kernel, by decide +kernel⟩
theorem v153 (T : Tx K mg) (Y : Yx P w K mg base n fn mk) {f : Addr} {cd : Value} {A : Around} {outer : List Env} {s : Shared} {H : Hp} {E : XK} (hr : Room (n + 1) (CxF P w K mg base N153 "Step.many_of" (defScope s153) f cd A outer s H E).A) :
    SSs (CxF P w K mg base N153 "Step.many_of" (defScope s153) f cd A outer s H E) (b_Step_many_of fn mk) (defBody s153) :=
  (ss_one (s_ret (se_ix (se_v 1 (pv 1)) (se_fld (se_v 0 (pv 0)) rfl) (fun _ _ => rfl))))
abbrev N154 : List Str := ["self", "target", "value", "test"]
theorem nd154 : N154.Nodup := by decide +kernel
theorem sc154 : FnScope N154 ["self", "target", "value", "test"] (defScope s154) := ⟨rfl, rfl, rfl, nd154, rfl, by decide +kernel, by decide +kernel⟩
theorem v154 (T : Tx K mg) (Y : Yx P w K mg base n fn mk) {f : Addr} {cd : Value} {A : Around} {outer : List Env} {s : Shared} {H : Hp} {E : XK} (hr : Room (n + 1) (CxF P w K mg base N154 "Let.__init__" (defScope s154) f cd A outer s H E).A) :
    SSs (CxF P w K mg base N154 "Let.__init__" (defScope s154) f cd A outer s H E) (b_Let_init fn mk) (defBody s154) :=
  (ss_cons (s_expr (se_clsm ((Y.f 152 _ rfl).at_ 0) (Y.f 152 _ rfl).ne hr (pe_glob rfl (T.cls 26 rfl).1.gl rfl) (T.rd 26 152 _ rfl rfl) (sa_cons (se_v 0 (pv 0)) (sa_cons (se_v 1 (pv 1)) sa_nil))))
    (ss_cons (s_fld (se_v 0 (pv 0)) (se_v 2 (pv 2)) rfl)
    (ss_one (s_fld (se_v 0 (pv 0)) (se_v 3 (pv 3)) rfl))))
abbrev N155 : List Str := ["self", "target", "value", "place", "many", "test"]
theorem nd155 : N155.Nodup := by decide +kernel
theorem sc155 : FnScope N155 ["self", "target", "value", "place", "many", "test"] (defScope s155) := ⟨rfl, rfl, rfl, nd155, rfl, by decide +kernel, by decide +kernel⟩
theorem v155 (T : Tx K mg) (Y : Yx P w K mg base n fn mk) {f : Addr} {cd : Value} {A : Around} {outer : List Env} {s : Shared} {H : Hp} {E : XK} (hr : Room (n + 1) (CxF P w K mg base N155 "Put.__init__" (defScope s155) f cd A outer s H E).A) :
    SSs (CxF P w K mg base N155 "Put.__init__" (defScope s155) f cd A outer s H E) (b_Put_init fn mk) (defBody s155) :=
  (ss_cons (s_expr (se_clsm ((Y.f 152 _ rfl).at_ 0) (Y.f 152 _ rfl).ne hr (pe_glob rfl (T.cls 26 rfl).1.gl rfl) (T.rd 26 152 _ rfl rfl) (sa_cons (se_v 0 (pv 0)) (sa_cons (se_v 1 (pv 1)) sa_nil))))
    (ss_cons (s_fld (se_v 0 (pv 0)) (se_v 2 (pv 2)) rfl)
    (ss_cons (s_fld (se_v 0 (pv 0)) (se_v 3 (pv 3)) rfl)
    (ss_cons (s_fld (se_v 0 (pv 0)) (se_v 4 (pv 4)) rfl)
    (ss_one (s_fld (se_v 0 (pv 0)) (se_v 5 (pv 5)) rfl))))))
abbrev N156 : List Str := ["self", "lengths"]
theorem nd156 : N156.Nodup := by decide +kernel
theorem sc156 : FnScope N156 ["self", "lengths"] (defScope s156) := ⟨rfl, rfl, rfl, nd156, rfl, by decide +kernel, by decide +kernel⟩
theorem v156 (T : Tx K mg) (Y : Yx P w K mg base n fn mk) {f : Addr} {cd : Value} {A : Around} {outer : List Env} {s : Shared} {H : Hp} {E : XK} (hr : Room (n + 1) (CxF P w K mg base N156 "Put.many_of" (defScope s156) f cd A outer s H E).A) :
    SSs (CxF P w K mg base N156 "Put.many_of" (defScope s156) f cd A outer s H E) (b_Put_many_of fn mk) (defBody s156) :=
  (ss_one (s_ret (se_fld (se_v 0 (pv 0)) rfl)))
abbrev N157 : List Str := ["self", "target", "fold", "value", "many", "test"]
theorem nd157 : N157.Nodup := by decide +kernel
theorem sc157 : FnScope N157 ["self", "target", "fold", "value", "many", "test"] (defScope s157) := ⟨rfl, rfl, rfl, nd157, rfl, by decide +kernel, by decide +kernel⟩
theorem v157 (T : Tx K mg) (Y : Yx P w K mg base n fn mk) {f : Addr} {cd : Value} {A : Around} {outer : List Env} {s : Shared} {H : Hp} {E : XK} (hr : Room (n + 1) (CxF P w K mg base N157 "Fold.__init__" (defScope s157) f cd A outer s H E).A) :
    SSs (CxF P w K mg base N157 "Fold.__init__" (defScope s157) f cd A outer s H E) (b_Fold_init fn mk) (defBody s157) :=
  (ss_cons (s_expr (se_clsm ((Y.f 152 _ rfl).at_ 0) (Y.f 152 _ rfl).ne hr (pe_glob rfl (T.cls 26 rfl).1.gl rfl) (T.rd 26 152 _ rfl rfl) (sa_cons (se_v 0 (pv 0)) (sa_cons (se_v 1 (pv 1)) sa_nil))))
    (ss_cons (s_fld (se_v 0 (pv 0)) (se_v 2 (pv 2)) rfl)
    (ss_cons (s_fld (se_v 0 (pv 0)) (se_v 3 (pv 3)) rfl)
    (ss_cons (s_fld (se_v 0 (pv 0)) (se_v 4 (pv 4)) rfl)
    (ss_one (s_fld (se_v 0 (pv 0)) (se_v 5 (pv 5)) rfl))))))
abbrev N158 : List Str := ["self", "lengths"]
theorem nd158 : N158.Nodup := by decide +kernel
theorem sc158 : FnScope N158 ["self", "lengths"] (defScope s158) := ⟨rfl, rfl, rfl, nd158, rfl, by decide +kernel, by decide +kernel⟩
theorem v158 (T : Tx K mg) (Y : Yx P w K mg base n fn mk) {f : Addr} {cd : Value} {A : Around} {outer : List Env} {s : Shared} {H : Hp} {E : XK} (hr : Room (n + 1) (CxF P w K mg base N158 "Fold.many_of" (defScope s158) f cd A outer s H E).A) :
    SSs (CxF P w K mg base N158 "Fold.many_of" (defScope s158) f cd A outer s H E) (b_Fold_many_of fn mk) (defBody s158) :=
  (ss_one (s_ret (se_fld (se_v 0 (pv 0)) rfl)))
abbrev N159 : List Str := ["self", "target", "fold", "value", "test"]
theorem nd159 : N159.Nodup := by decide +kernel
theorem sc159 : FnScope N159 ["self", "target", "fold", "value", "test"] (defScope s159) := ⟨rfl, rfl, rfl, nd159, rfl, by decide +kernel, by decide +kernel⟩
theorem v159 (T : Tx K mg) (Y : Yx P w K mg base n fn mk) {f : Addr} {cd : Value} {A : Around} {outer : List Env} {s : Shared} {H : Hp} {E : XK} (hr : Room (n + 1) (CxF P w K mg base N159 "Running.__init__" (defScope s159) f cd A outer s H E).A) :
    SSs (CxF P w K mg base N159 "Running.__init__" (defScope s159) f cd A outer s H E) (b_Running_init fn mk) (defBody s159) :=
  (ss_cons (s_expr (se_clsm ((Y.f 152 _ rfl).at_ 0) (Y.f 152 _ rfl).ne hr (pe_glob rfl (T.cls 26 rfl).1.gl rfl) (T.rd 26 152 _ rfl rfl) (sa_cons (se_v 0 (pv 0)) (sa_cons (se_v 1 (pv 1)) sa_nil))))
    (ss_cons (s_fld (se_v 0 (pv 0)) (se_v 2 (pv 2)) rfl)
    (ss_cons (s_fld (se_v 0 (pv 0)) (se_v 3 (pv 3)) rfl)
    (ss_one (s_fld (se_v 0 (pv 0)) (se_v 4 (pv 4)) rfl)))))
abbrev N160 : List Str := ["self", "target", "most", "steps"]
theorem nd160 : N160.Nodup := by decide +kernel
theorem sc160 : FnScope N160 ["self", "target", "most", "steps"] (defScope s160) := ⟨rfl, rfl, rfl, nd160, rfl, by decide +kernel, by decide +kernel⟩
theorem v160 (T : Tx K mg) (Y : Yx P w K mg base n fn mk) {f : Addr} {cd : Value} {A : Around} {outer : List Env} {s : Shared} {H : Hp} {E : XK} (hr : Room (n + 1) (CxF P w K mg base N160 "Till.__init__" (defScope s160) f cd A outer s H E).A) :
    SSs (CxF P w K mg base N160 "Till.__init__" (defScope s160) f cd A outer s H E) (b_Till_init fn mk) (defBody s160) :=
  (ss_cons (s_expr (se_clsm ((Y.f 152 _ rfl).at_ 0) (Y.f 152 _ rfl).ne hr (pe_glob rfl (T.cls 26 rfl).1.gl rfl) (T.rd 26 152 _ rfl rfl) (sa_cons (se_v 0 (pv 0)) (sa_cons (se_v 1 (pv 1)) sa_nil))))
    (ss_cons (s_fld (se_v 0 (pv 0)) (se_v 2 (pv 2)) rfl)
    (ss_one (s_fld (se_v 0 (pv 0)) (se_frz (se_ct c_list rfl (T.fr _ rfl) (by decide +kernel) (sa_cons (se_v 3 (pv 3)) sa_nil))) rfl))))
abbrev N161 : List Str := ["self", "lengths", "functions", "steps"]
theorem nd161 : N161.Nodup := by decide +kernel
theorem sc161 : FnScope N161 ["self", "lengths", "functions", "steps"] (defScope s161) := ⟨rfl, rfl, rfl, nd161, rfl, by decide +kernel, by decide +kernel⟩
theorem v161 (T : Tx K mg) (Y : Yx P w K mg base n fn mk) {f : Addr} {cd : Value} {A : Around} {outer : List Env} {s : Shared} {H : Hp} {E : XK} (hr : Room (n + 1) (CxF P w K mg base N161 "Program.__init__" (defScope s161) f cd A outer s H E).A) :
    SSs (CxF P w K mg base N161 "Program.__init__" (defScope s161) f cd A outer s H E) (b_Program_init fn mk) (defBody s161) :=
  (ss_cons (s_fld (se_v 0 (pv 0)) (se_frz (se_ct c_list rfl (T.fr _ rfl) (by decide +kernel) (sa_cons (se_v 1 (pv 1)) sa_nil))) rfl)
    (ss_cons (s_fld (se_v 0 (pv 0)) (se_frz (se_ct c_list rfl (T.fr _ rfl) (by decide +kernel) (sa_cons (se_v 2 (pv 2)) sa_nil))) rfl)
    (ss_one (s_fld (se_v 0 (pv 0)) (se_frz (se_ct c_list rfl (T.fr _ rfl) (by decide +kernel) (sa_cons (se_v 3 (pv 3)) sa_nil))) rfl))))
abbrev N162 : List Str := ["self", "program", "names", "lines"]
theorem nd162 : N162.Nodup := by decide +kernel
theorem sc162 : FnScope N162 ["self", "program", "names", "lines"] (defScope s162) := ⟨rfl, rfl, rfl, nd162, rfl, by decide +kernel, by decide +kernel⟩
theorem v162 (T : Tx K mg) (Y : Yx P w K mg base n fn mk) {f : Addr} {cd : Value} {A : Around} {outer : List Env} {s : Shared} {H : Hp} {E : XK} (hr : Room (n + 1) (CxF P w K mg base N162 "Source.__init__" (defScope s162) f cd A outer s H E).A) :
    SSs (CxF P w K mg base N162 "Source.__init__" (defScope s162) f cd A outer s H E) (b_Source_init fn mk) (defBody s162) :=
  (ss_cons (s_fld (se_v 0 (pv 0)) (se_v 1 (pv 1)) rfl)
    (ss_cons (s_fld (se_v 0 (pv 0)) (se_v 2 (pv 2)) rfl)
    (ss_one (s_fld (se_v 0 (pv 0)) (se_v 3 (pv 3)) rfl))))
abbrev N163 : List Str := ["self"]
theorem nd163 : N163.Nodup := by decide +kernel
theorem sc163 : FnScope N163 ["self"] (defScope s163) := ⟨rfl, rfl, rfl, nd163, rfl, by decide +kernel, by decide +kernel⟩
theorem v163 (T : Tx K mg) (Y : Yx P w K mg base n fn mk) {f : Addr} {cd : Value} {A : Around} {outer : List Env} {s : Shared} {H : Hp} {E : XK} (hr : Room (n + 1) (CxF P w K mg base N163 "Reading.__init__" (defScope s163) f cd A outer s H E).A) :
    SSs (CxF P w K mg base N163 "Reading.__init__" (defScope s163) f cd A outer s H E) (b_Reading_init fn mk) (defBody s163) :=
  (ss_cons (s_fld (se_v 0 (pv 0)) (se_lst sa_nil) rfl)
    (ss_cons (s_fld (se_v 0 (pv 0)) (se_lst sa_nil) rfl)
    (ss_cons (s_fld (se_v 0 (pv 0)) (se_lst sa_nil) rfl)
    (ss_cons (s_fld (se_v 0 (pv 0)) (se_lst sa_nil) rfl)
    (ss_cons (s_fld (se_v 0 (pv 0)) (se_lst sa_nil) rfl)
    (ss_cons (s_fld (se_v 0 (pv 0)) (se_lst (sa_cons (se_lst sa_nil) sa_nil)) rfl)
    (ss_one (s_fld (se_v 0 (pv 0)) (se_lst sa_nil) rfl))))))))
abbrev N500 : List Str := ["script", "k", "cell"]
theorem nd500 : N500.Nodup := by decide +kernel
theorem sc500 : FnScope N500 ["script", "k"] (defScope s500) := ⟨rfl, rfl, rfl, nd500, rfl, by decide +kernel, by decide +kernel⟩
theorem v500 (T : Tx K mg) (Y : Yx P w K mg base n fn mk) {f : Addr} {cd : Value} {A : Around} {outer : List Env} {s : Shared} {H : Hp} {E : XK} (hr : Room (n + 1) (CxF P w K mg base N500 "_law_tape" (defScope s500) f cd A outer s H E).A) :
    SSs (CxF P w K mg base N500 "_law_tape" (defScope s500) f cd A outer s H E) (b_law_tape fn mk) (defBody s500) :=
  (ss_cons (s_set nd500 rfl (by first | exact Or.inl rfl | exact Or.inr rfl) (se_if (sb_cmp o_lt (se_v 1 (pv 1)) (se_cb c_len rfl (T.fr _ rfl) (by decide +kernel) (sa_cons (se_v 0 (pv 0)) sa_nil)) rfl) (se_ix (se_v 0 (pv 0)) (se_v 1 (pv 1)) (fun _ _ => rfl)) (se_c pe_int)))
    (ss_one (s_ret (se_lst (sa_cons (se_op o_mul (se_cb c_abs rfl (T.fr _ rfl) (by decide +kernel) (sa_cons (se_v 2 (pv 2)) sa_nil)) (se_ct c_int rfl (T.fr _ rfl) (by decide +kernel) (sa_cons (se_cmp o_ge (se_cb c_abs rfl (T.fr _ rfl) (by decide +kernel) (sa_cons (se_v 2 (pv 2)) sa_nil)) (se_op o_pow (se_c pe_int) (se_c pe_int)) rfl) sa_nil))) (sa_cons (se_op o_add (se_op o_add (se_op o_mod (se_v 2 (pv 2)) (se_c pe_int)) (se_op o_mul (se_c pe_int) (se_v 1 (pv 1)))) (se_c pe_int)) (sa_cons (se_c pe_int) sa_nil)))))))
abbrev N501 : List Str := ["tape", "many", "found", "once", "twice"]
theorem nd501 : N501.Nodup := by decide +kernel
theorem sc501 : FnScope N501 ["tape", "many"] (defScope s501) := ⟨rfl, rfl, rfl, nd501, rfl, by decide +kernel, by decide +kernel⟩
theorem v501 (T : Tx K mg) (Y : Yx P w K mg base n fn mk) {f : Addr} {cd : Value} {A : Around} {outer : List Env} {s : Shared} {H : Hp} {E : XK} (hr : Room (n + 1) (CxF P w K mg base N501 "_law_draw" (defScope s501) f cd A outer s H E).A) :
    SSs (CxF P w K mg base N501 "_law_draw" (defScope s501) f cd A outer s H E) (b_law_draw fn mk) (defBody s501) :=
  (ss_cons (s_if (sb_cmp o_gt (se_ix (se_v 0 (pv 0)) (se_c pe_int) (fun _ _ => rfl)) (se_c pe_int) rfl) (ss_cons (s_set nd501 rfl (by first | exact Or.inl rfl | exact Or.inr rfl) (se_op o_mod (se_ix (se_v 0 (pv 0)) (se_c pe_int) (fun _ _ => rfl)) (se_v 1 (pv 1))))
    (ss_cons (s_setix (se_v 0 (pv 0)) (se_c pe_int) (se_op o_div (se_ix (se_v 0 (pv 0)) (se_c pe_int) (fun _ _ => rfl)) (se_v 1 (pv 1))))
    (ss_one (s_ret (se_v 2 (pv 2)))))) ss_nil)
    (ss_cons (s_setix (se_v 0 (pv 0)) (se_c pe_int) (se_op o_add (se_ix (se_v 0 (pv 0)) (se_c pe_int) (fun _ _ => rfl)) (se_c pe_int)))
    (ss_cons (s_set nd501 rfl (by first | exact Or.inl rfl | exact Or.inr rfl) (se_op o_mod (se_op o_pow (se_op o_add (se_ix (se_v 0 (pv 0)) (se_c pe_int) (fun _ _ => rfl)) (se_op o_mul (se_c pe_int) (se_ix (se_v 0 (pv 0)) (se_c pe_int) (fun _ _ => rfl)))) (se_c pe_int)) (se_c pe_int)))
    (ss_cons (s_set nd501 rfl (by first | exact Or.inl rfl | exact Or.inr rfl) (se_op o_mod (se_op o_mul (se_op o_add (se_v 3 (pv 3)) (se_ix (se_v 0 (pv 0)) (se_c pe_int) (fun _ _ => rfl))) (se_op o_add (se_op o_add (se_op o_mod (se_v 3 (pv 3)) (se_c pe_int)) (se_c pe_int)) (se_ix (se_v 0 (pv 0)) (se_c pe_int) (fun _ _ => rfl)))) (se_c pe_int)))
    (ss_one (s_ret (se_op o_mod (se_op o_div (se_op o_mod (se_op o_add (se_op o_mul (se_v 4 (pv 4)) (se_c pe_int)) (se_v 3 (pv 3))) (se_c pe_int)) (se_c pe_int)) (se_v 1 (pv 1)))))))))
abbrev N502 : List Str := ["form", "at", "some"]
theorem nd502 : N502.Nodup := by decide +kernel
theorem sc502 : FnScope N502 ["form", "at"] (defScope s502) := ⟨rfl, rfl, rfl, nd502, rfl, by decide +kernel, by decide +kernel⟩
theorem v502 (T : Tx K mg) (Y : Yx P w K mg base n fn mk) {f : Addr} {cd : Value} {A : Around} {outer : List Env} {s : Shared} {H : Hp} {E : XK} (hr : Room (n + 1) (CxF P w K mg base N502 "_law_is_one" (defScope s502) f cd A outer s H E).A) :
    SSs (CxF P w K mg base N502 "_law_is_one" (defScope s502) f cd A outer s H E) (b_law_is_one fn mk) (defBody s502) :=
  (ss_cons (s_set nd502 rfl (by first | exact Or.inl rfl | exact Or.inr rfl) (se_lst (sa_cons (se_isi (se_v 0 (pv 0)) (fun _ q => by cases q; exact (T.cls 15 rfl).2) (ic_own (T.cls 15 rfl).2 rfl rfl) rfl (T.fr _ rfl)) (sa_cons (se_isi (se_v 0 (pv 0)) (fun _ q => by cases q; exact (T.cls 16 rfl).2) (ic_own (T.cls 16 rfl).2 rfl rfl) rfl (T.fr _ rfl)) (sa_cons (se_isi (se_v 0 (pv 0)) (fun _ q => by cases q; exact (T.cls 17 rfl).2) (ic_own (T.cls 17 rfl).2 rfl rfl) rfl (T.fr _ rfl)) (sa_cons (se_isi (se_v 0 (pv 0)) (fun _ q => by cases q; exact (T.cls 18 rfl).2) (ic_own (T.cls 18 rfl).2 rfl rfl) rfl (T.fr _ rfl)) sa_nil))))))
    (ss_cons (s_set nd502 rfl (by first | exact Or.inl rfl | exact Or.inr rfl) (se_op o_add (se_v 2 (pv 2)) (se_lst (sa_cons (se_isi (se_v 0 (pv 0)) (fun _ q => by cases q; exact (T.cls 19 rfl).2) (ic_own (T.cls 19 rfl).2 rfl rfl) rfl (T.fr _ rfl)) (sa_cons (se_isi (se_v 0 (pv 0)) (fun _ q => by cases q; exact (T.cls 20 rfl).2) (ic_own (T.cls 20 rfl).2 rfl rfl) rfl (T.fr _ rfl)) (sa_cons (se_isi (se_v 0 (pv 0)) (fun _ q => by cases q; exact (T.cls 21 rfl).2) (ic_own (T.cls 21 rfl).2 rfl rfl) rfl (T.fr _ rfl)) sa_nil))))))
    (ss_cons (s_set nd502 rfl (by first | exact Or.inl rfl | exact Or.inr rfl) (se_op o_add (se_v 2 (pv 2)) (se_lst (sa_cons (se_isi (se_v 0 (pv 0)) (fun _ q => by cases q; exact (T.cls 22 rfl).2) (ic_own (T.cls 22 rfl).2 rfl rfl) rfl (T.fr _ rfl)) (sa_cons (se_isi (se_v 0 (pv 0)) (fun _ q => by cases q; exact (T.cls 23 rfl).2) (ic_own (T.cls 23 rfl).2 rfl rfl) rfl (T.fr _ rfl)) sa_nil)))))
    (ss_one (s_ret (se_and (se_isi (se_v 0 (pv 0)) (fun _ q => by cases q; exact (T.cls 14 rfl).2) (ic_own (T.cls 14 rfl).2 rfl rfl) rfl (T.fr _ rfl)) (se_and (se_cmp (o_eq hr.units) (se_bm PySem.F.plainAttrs_list PySem.F.slot_list_count PySem.F.type_list_count (m_count (units65 hr)) (se_v 2 (pv 2)) (sa_cons (se_c pe_bl) sa_nil)) (se_c pe_int) rfl) (se_one (se_cmp (o_eq hr.units) (se_bm PySem.F.plainAttrs_list PySem.F.slot_list_index PySem.F.type_list_index m_index (se_v 2 (pv 2)) (sa_cons (se_c pe_bl) sa_nil)) (se_v 1 (pv 1)) rfl)))))))))
abbrev N503 : List Str := ["tape", "n", "row", "by", "forms", "at", "form"]
theorem nd503 : N503.Nodup := by decide +kernel
theorem sc503 : FnScope N503 ["tape"] (defScope s503) := ⟨rfl, rfl, rfl, nd503, rfl, by decide +kernel, by decide +kernel⟩
theorem v503 (T : Tx K mg) (Y : Yx P w K mg base n fn mk) {f : Addr} {cd : Value} {A : Around} {outer : List Env} {s : Shared} {H : Hp} {E : XK} (hr : Room (n + 1) (CxF P w K mg base N503 "_law_by_hand" (defScope s503) f cd A outer s H E).A) :
    SSs (CxF P w K mg base N503 "_law_by_hand" (defScope s503) f cd A outer s H E) (b_law_by_hand fn mk) (defBody s503) :=
  (ss_cons (s_par3 rfl nd503 rfl rfl rfl (by decide) (by decide) (by decide) rfl rfl rfl (sa_cons (se_op o_sub (se_call (frG ((Y.f 501 _ rfl).at_ 0)) (frN (Y.f 501 _ rfl).ne) hr rfl rfl (sa_cons (se_v 0 (pv 0)) (sa_cons (se_c pe_int) sa_nil))) (se_c pe_int)) (sa_cons (se_call (frG ((Y.f 501 _ rfl).at_ 0)) (frN (Y.f 501 _ rfl).ne) hr rfl rfl (sa_cons (se_v 0 (pv 0)) (sa_cons (se_c pe_int) sa_nil))) (sa_cons (se_op o_sub (se_call (frG ((Y.f 501 _ rfl).at_ 0)) (frN (Y.f 501 _ rfl).ne) hr rfl rfl (sa_cons (se_v 0 (pv 0)) (sa_cons (se_c pe_int) sa_nil))) (se_c pe_int)) sa_nil))) rfl)
    (ss_cons (s_set nd503 rfl (by first | exact Or.inl rfl | exact Or.inr rfl) (se_lst (sa_cons (se_frz (se_make (mkG_of (T.cls 15 rfl).1 (T.ini 15 126 _ rfl rfl) (Y.m 126 _ rfl) 0) (Y.m 126 _ rfl).ne hr rfl rfl (sa_cons (se_v 1 (pv 1)) sa_nil))) (sa_cons (se_frz (se_new (T.nw 16 rfl) rfl rfl)) (sa_cons (se_frz (se_make (mkG_of (T.cls 17 rfl).1 (T.ini 17 129 _ rfl rfl) (Y.m 129 _ rfl) 0) (Y.m 129 _ rfl).ne hr rfl rfl (sa_cons (se_v 2 (pv 2)) sa_nil))) (sa_cons (se_frz (se_make (mkG_of (T.cls 18 rfl).1 (T.ini 18 131 _ rfl rfl) (Y.m 131 _ rfl) 0) (Y.m 131 _ rfl).ne hr rfl rfl (sa_cons (se_v 2 (pv 2)) (sa_cons (se_v 3 (pv 3)) (sa_cons (se_v 1 (pv 1)) sa_nil))))) (sa_cons (se_frz (se_make (mkG_of (T.cls 19 rfl).1 (T.ini 19 133 _ rfl rfl) (Y.m 133 _ rfl) 0) (Y.m 133 _ rfl).ne hr rfl rfl (sa_cons (se_op o_mod (se_v 2 (pv 2)) (se_c pe_int)) sa_nil))) (sa_cons (se_frz (se_make (mkG_of (T.cls 20 rfl).1 (T.ini 20 135 _ rfl rfl) (Y.m 135 _ rfl) 0) (Y.m 135 _ rfl).ne hr rfl rfl (sa_cons (se_v 2 (pv 2)) (sa_cons (se_frz (se_new (T.nw 16 rfl) rfl rfl)) sa_nil)))) sa_nil))))))))
    (ss_cons (s_set nd503 rfl (by first | exact Or.inl rfl | exact Or.inr rfl) (se_op o_add (se_v 4 (pv 4)) (se_lst (sa_cons (se_frz (se_make (mkG_of (T.cls 21 rfl).1 (T.ini 21 137 _ rfl rfl) (Y.m 137 _ rfl) 0) (Y.m 137 _ rfl).ne hr rfl rfl (sa_cons (se_c pe_str) (sa_cons (se_frz (se_make (mkG_of (T.cls 15 rfl).1 (T.ini 15 126 _ rfl rfl) (Y.m 126 _ rfl) 0) (Y.m 126 _ rfl).ne hr rfl rfl (sa_cons (se_v 1 (pv 1)) sa_nil))) (sa_cons (se_frz (se_make (mkG_of (T.cls 17 rfl).1 (T.ini 17 129 _ rfl rfl) (Y.m 129 _ rfl) 0) (Y.m 129 _ rfl).ne hr rfl rfl (sa_cons (se_v 2 (pv 2)) sa_nil))) sa_nil))))) (sa_cons (se_frz (se_make (mkG_of (T.cls 22 rfl).1 (T.ini 22 139 _ rfl rfl) (Y.m 139 _ rfl) 0) (Y.m 139 _ rfl).ne hr rfl rfl (sa_cons (se_frz (se_new (T.nw 16 rfl) rfl rfl)) (sa_cons (se_frz (se_make (mkG_of (T.cls 15 rfl).1 (T.ini 15 126 _ rfl rfl) (Y.m 126 _ rfl) 0) (Y.m 126 _ rfl).ne hr rfl rfl (sa_cons (se_v 1 (pv 1)) sa_nil))) (sa_cons (se_frz (se_make (mkG_of (T.cls 17 rfl).1 (T.ini 17 129 _ rfl rfl) (Y.m 129 _ rfl) 0) (Y.m 129 _ rfl).ne hr rfl rfl (sa_cons (se_v 2 (pv 2)) sa_nil))) sa_nil))))) (sa_cons (se_frz (se_make (mkG_of (T.cls 23 rfl).1 (T.ini 23 141 _ rfl rfl) (Y.m 141 _ rfl) 0) (Y.m 141 _ rfl).ne hr rfl rfl (sa_cons (se_op o_mod (se_v 2 (pv 2)) (se_c pe_int)) (sa_cons (se_lst sa_nil) sa_nil)))) sa_nil))))))
    (ss_cons (s_if (sb_not (sb_of (se_cb (c_all rfl) rfl (T.fr _ rfl) (by decide +kernel) (sa_cons (se_lc (own := [("at", 5), ("form", 6)]) rfl nd503 (si_e (se_v 4 (pv 4)) rfl (T.fr _ rfl)) (blkOk_by (by kernel_rfl)) (tgc_tup (n := 2) rfl (by decide)) (fun _ _ _ _ _ => pg_tup rfl (pgs_names nd503 rfl (by first | exact Or.inl rfl | exact Or.inr rfl) (pgs_names nd503 rfl (by first | exact Or.inl rfl | exact Or.inr rfl) pgs_nil)) rfl rfl) (fun _ _ _ _ _ => st_nil) (fun _ _ _ _ _ => (se_call (frG ((Y.f 502 _ rfl).at_ 0)) (frN (Y.f 502 _ rfl).ne) hr rfl rfl (sa_cons (se_v 6 (pv 6)) (sa_cons (se_v 5 (pv 5)) sa_nil))))) sa_nil)))) (ss_one (s_ret (se_c pe_bl))) ss_nil)
    (ss_cons (s_if (sb_cmp (o_ne hr.units) (se_lst (sa_cons (se_fld (se_ix (se_v 4 (pv 4)) (se_c pe_int) (fun _ _ => rfl)) rfl) (sa_cons (se_fld (se_ix (se_v 4 (pv 4)) (se_c pe_int) (fun _ _ => rfl)) rfl) (sa_cons (se_fld (se_ix (se_v 4 (pv 4)) (se_c pe_int) (fun _ _ => rfl)) rfl) (sa_cons (se_fld (se_ix (se_v 4 (pv 4)) (se_c pe_int) (fun _ _ => rfl)) rfl) sa_nil))))) (se_lst (sa_cons (se_v 1 (pv 1)) (sa_cons (se_v 2 (pv 2)) (sa_cons (se_op o_mod (se_v 2 (pv 2)) (se_c pe_int)) (sa_cons (se_v 2 (pv 2)) sa_nil))))) rfl) (ss_one (s_ret (se_c pe_bl))) ss_nil)
    (ss_cons (s_if (sb_w (sw_or (sb_cmp (o_ne hr.units) (se_lst (sa_cons (se_fld (se_ix (se_v 4 (pv 4)) (se_c pe_int) (fun _ _ => rfl)) rfl) (sa_cons (se_fld (se_ix (se_v 4 (pv 4)) (se_c pe_int) (fun _ _ => rfl)) rfl) (sa_cons (se_fld (se_ix (se_v 4 (pv 4)) (se_c pe_int) (fun _ _ => rfl)) rfl) sa_nil)))) (se_lst (sa_cons (se_v 2 (pv 2)) (sa_cons (se_v 3 (pv 3)) (sa_cons (se_v 1 (pv 1)) sa_nil)))) rfl) (sw_or1 (sb_cmp (o_ne hr.units) (se_fld (se_ix (se_v 4 (pv 4)) (se_c pe_int) (fun _ _ => rfl)) rfl) (se_c pe_str) rfl)))) (ss_one (s_ret (se_c pe_bl))) ss_nil)
    (ss_cons (s_if (sb_w (sw_or (sb_not (sb_of (se_call (frG ((Y.f 502 _ rfl).at_ 0)) (frN (Y.f 502 _ rfl).ne) hr rfl rfl (sa_cons (se_fld (se_ix (se_v 4 (pv 4)) (se_c pe_int) (fun _ _ => rfl)) rfl) (sa_cons (se_c pe_int) sa_nil))))) (sw_or (sb_not (sb_of (se_call (frG ((Y.f 502 _ rfl).at_ 0)) (frN (Y.f 502 _ rfl).ne) hr rfl rfl (sa_cons (se_fld (se_ix (se_v 4 (pv 4)) (se_c pe_int) (fun _ _ => rfl)) rfl) (sa_cons (se_c pe_int) sa_nil))))) (sw_or1 (sb_not (sb_of (se_call (frG ((Y.f 502 _ rfl).at_ 0)) (frN (Y.f 502 _ rfl).ne) hr rfl rfl (sa_cons (se_fld (se_ix (se_v 4 (pv 4)) (se_c pe_int) (fun _ _ => rfl)) rfl) (sa_cons (se_c pe_int) sa_nil))))))))) (ss_one (s_ret (se_c pe_bl))) ss_nil)
    (ss_cons (s_if (sb_w (sw_or (sb_not (sb_of (se_call (frG ((Y.f 502 _ rfl).at_ 0)) (frN (Y.f 502 _ rfl).ne) hr rfl rfl (sa_cons (se_fld (se_ix (se_v 4 (pv 4)) (se_c pe_int) (fun _ _ => rfl)) rfl) (sa_cons (se_c pe_int) sa_nil))))) (sw_or (sb_not (sb_of (se_call (frG ((Y.f 502 _ rfl).at_ 0)) (frN (Y.f 502 _ rfl).ne) hr rfl rfl (sa_cons (se_fld (se_ix (se_v 4 (pv 4)) (se_c pe_int) (fun _ _ => rfl)) rfl) (sa_cons (se_c pe_int) sa_nil))))) (sw_or1 (sb_not (sb_of (se_call (frG ((Y.f 502 _ rfl).at_ 0)) (frN (Y.f 502 _ rfl).ne) hr rfl rfl (sa_cons (se_fld (se_ix (se_v 4 (pv 4)) (se_c pe_int) (fun _ _ => rfl)) rfl) (sa_cons (se_c pe_int) sa_nil))))))))) (ss_one (s_ret (se_c pe_bl))) ss_nil)
    (ss_one (s_ret (se_and (se_cmp (o_eq hr.units) (se_fld (se_ix (se_v 4 (pv 4)) (se_c pe_int) (fun _ _ => rfl)) rfl) (se_op o_mod (se_v 2 (pv 2)) (se_c pe_int)) rfl) (se_one (se_cmp (o_eq hr.units) (se_cb c_len rfl (T.fr _ rfl) (by decide +kernel) (sa_cons (se_fld (se_ix (se_v 4 (pv 4)) (se_c pe_int) (fun _ _ => rfl)) rfl) sa_nil)) (se_c pe_int) rfl)))))))))))))
abbrev N504 : List Str := ["tape", "texts", "kinds", "at", "lines", "program", "one", "other", "body"]
theorem nd504 : N504.Nodup := by decide +kernel
theorem sc504 : FnScope N504 ["tape"] (defScope s504) := ⟨rfl, rfl, rfl, nd504, rfl, by decide +kernel, by decide +kernel⟩
theorem v504 (T : Tx K mg) (Y : Yx P w K mg base n fn mk) {f : Addr} {cd : Value} {A : Around} {outer : List Env} {s : Shared} {H : Hp} {E : XK} (hr : Room (n + 1) (CxF P w K mg base N504 "_law_read" (defScope s504) f cd A outer s H E).A) :
    SSs (CxF P w K mg base N504 "_law_read" (defScope s504) f cd A outer s H E) (b_law_read fn mk) (defBody s504) :=
  (ss_cons (s_set nd504 rfl (by first | exact Or.inl rfl | exact Or.inr rfl) (se_lst (sa_cons (se_c pe_str) (sa_cons (se_c pe_str) (sa_cons (se_c pe_str) (sa_cons (se_c pe_str) (sa_cons (se_c pe_str) (sa_cons (se_c pe_str) (sa_cons (se_c pe_str) (sa_cons (se_c pe_str) sa_nil))))))))))
    (ss_cons (s_set nd504 rfl (by first | exact Or.inl rfl | exact Or.inr rfl) (se_lst (sa_cons (se_c pe_int) (sa_cons (se_c pe_int) (sa_cons (se_c pe_int) (sa_cons (se_c pe_int) (sa_cons (se_c pe_int) (sa_cons (se_c pe_int) (sa_cons (se_c pe_int) (sa_cons (se_c pe_int) sa_nil))))))))))
    (ss_cons (s_set nd504 rfl (by first | exact Or.inl rfl | exact Or.inr rfl) (se_call (frG ((Y.f 501 _ rfl).at_ 0)) (frN (Y.f 501 _ rfl).ne) hr rfl rfl (sa_cons (se_v 0 (pv 0)) (sa_cons (se_c pe_int) sa_nil))))
    (ss_cons (s_set nd504 rfl (by first | exact Or.inl rfl | exact Or.inr rfl) (se_lst (sa_cons (se_c pe_str) (sa_cons (se_c pe_str) (sa_cons (se_c pe_str) (sa_cons (se_op o_add (se_c pe_str) (se_ix (se_v 1 (pv 1)) (se_v 3 (pv 3)) (fun _ _ => rfl))) sa_nil))))))
    (ss_cons (s_set nd504 rfl (by first | exact Or.inl rfl | exact Or.inr rfl) (se_fld (se_call (frG ((Y.f 37 _ rfl).at_ 0)) (frN (Y.f 37 _ rfl).ne) hr rfl rfl (sa_cons (se_bm PySem.F.plainAttrs_str PySem.F.slot_str_join PySem.F.type_str_join m_join (se_c pe_str) (sa_cons (se_op o_add (se_v 4 (pv 4)) (se_lst (sa_cons (se_op o_add (se_op o_add (se_c pe_str) (se_ix (se_v 1 (pv 1)) (se_v 3 (pv 3)) (fun _ _ => rfl))) (se_c pe_str)) sa_nil))) sa_nil)) sa_nil)) rfl))
    (ss_cons (s_par rfl nd504 rfl rfl (by decide) rfl rfl (sa_cons (se_fld (se_ix (se_fld (se_v 5 (pv 5)) rfl) (se_c pe_int) (fun _ _ => rfl)) rfl) (sa_cons (se_fld (se_ix (se_fld (se_v 5 (pv 5)) rfl) (se_c pe_int) (fun _ _ => rfl)) rfl) sa_nil)) rfl)
    (ss_cons (s_set nd504 rfl (by first | exact Or.inl rfl | exact Or.inr rfl) (se_ix (se_ix (se_fld (se_v 5 (pv 5)) rfl) (se_c pe_int) (fun _ _ => rfl)) (se_c pe_int) (fun _ _ => rfl)))
    (ss_cons (s_if (sb_w (sw_or (sb_not (sb_of (se_call (frG ((Y.f 502 _ rfl).at_ 0)) (frN (Y.f 502 _ rfl).ne) hr rfl rfl (sa_cons (se_v 6 (pv 6)) (sa_cons (se_ix (se_v 2 (pv 2)) (se_v 3 (pv 3)) (fun _ _ => rfl)) sa_nil))))) (sw_or (sb_not (sb_of (se_call (frG ((Y.f 502 _ rfl).at_ 0)) (frN (Y.f 502 _ rfl).ne) hr rfl rfl (sa_cons (se_v 7 (pv 7)) (sa_cons (se_c pe_int) sa_nil))))) (sw_or1 (sb_not (sb_of (se_call (frG ((Y.f 502 _ rfl).at_ 0)) (frN (Y.f 502 _ rfl).ne) hr rfl rfl (sa_cons (se_fld (se_v 7 (pv 7)) rfl) (sa_cons (se_ix (se_v 2 (pv 2)) (se_v 3 (pv 3)) (fun _ _ => rfl)) sa_nil))))))))) (ss_one (s_ret (se_c pe_bl))) ss_nil)
    (ss_one (s_ret (se_and (se_call (frG ((Y.f 502 _ rfl).at_ 0)) (frN (Y.f 502 _ rfl).ne) hr rfl rfl (sa_cons (se_v 8 (pv 8)) (sa_cons (se_c pe_int) sa_nil))) (se_and (se_call (frG ((Y.f 502 _ rfl).at_ 0)) (frN (Y.f 502 _ rfl).ne) hr rfl rfl (sa_cons (se_fld (se_v 8 (pv 8)) rfl) (sa_cons (se_c pe_int) sa_nil))) (se_one (se_call (frG ((Y.f 502 _ rfl).at_ 0)) (frN (Y.f 502 _ rfl).ne) hr rfl rfl (sa_cons (se_fld (se_v 8 (pv 8)) rfl) (sa_cons (se_c pe_int) sa_nil))))))))))))))))
abbrev N505 : List Str := ["script", "k", "tape", "turn"]
theorem nd505 : N505.Nodup := by decide +kernel
theorem sc505 : FnScope N505 ["script"] (defScope s505) := ⟨rfl, rfl, rfl, nd505, rfl, by decide +kernel, by decide +kernel⟩
theorem v505 (T : Tx K mg) (Y : Yx P w K mg base n fn mk) {f : Addr} {cd : Value} {A : Around} {outer : List Env} {s : Shared} {H : Hp} {E : XK} (hr : Room (n + 1) (CxF P w K mg base N505 "law" (defScope s505) f cd A outer s H E).A) :
    SSs (CxF P w K mg base N505 "law" (defScope s505) f cd A outer s H E) (b_law fn mk) (defBody s505) :=
  (ss_cons (s_for rfl (si_r1 (se_op o_add (se_c pe_int) (se_cb (c_min2 rfl) rfl (T.fr _ rfl) (by decide +kernel) (sa_cons (se_c pe_int) (sa_cons (se_cb c_len rfl (T.fr _ rfl) (by decide +kernel) (sa_cons (se_v 0 (pv 0)) sa_nil)) sa_nil)))) rfl (T.fr _ rfl)) (sg_name nd505 rfl (by first | exact Or.inl rfl | exact Or.inr rfl)) (ss_cons (s_set nd505 rfl (by first | exact Or.inl rfl | exact Or.inr rfl) (se_call (frG ((Y.f 500 _ rfl).at_ 0)) (frN (Y.f 500 _ rfl).ne) hr rfl rfl (sa_cons (se_v 0 (pv 0)) (sa_cons (se_v 1 (pv 1)) sa_nil))))
    (ss_one (s_if (sb_not (sb_of (se_cb (c_all rfl) rfl (T.fr _ rfl) (by decide +kernel) (sa_cons (se_lc (own := [("turn", 3)]) rfl nd505 (si_r1 (se_c pe_int) rfl (T.fr _ rfl)) (blkOk_by (by kernel_rfl)) (tgc_name (by decide)) (fun _ _ _ _ _ => pg_name nd505 rfl (by first | exact Or.inl rfl | exact Or.inr rfl)) (fun _ _ _ _ _ => st_nil) (fun _ _ _ _ _ => (se_and (se_call (frG ((Y.f 503 _ rfl).at_ 0)) (frN (Y.f 503 _ rfl).ne) hr rfl rfl (sa_cons (se_v 2 (pv 2)) sa_nil)) (se_one (se_call (frG ((Y.f 504 _ rfl).at_ 0)) (frN (Y.f 504 _ rfl).ne) hr rfl rfl (sa_cons (se_v 2 (pv 2)) sa_nil)))))) sa_nil)))) (ss_one (s_ret (se_c pe_bl))) ss_nil))))
    (ss_one (s_ret (se_c pe_bl))))
end
end V78
end
section
set_option Elab.async false
set_option maxRecDepth 100000
set_option maxHeartbeats 0
/-! F78: the head and the levels, printed by gen. -/
namespace V78
open PySem PySem.Spec PyProof.Rows L2 DD
abbrev R : PySem.W.OpenRow := PySem.W.OpenLaw.row PySem.Challenge.rw_rowbreadth_k78_forms_of_one_class
def loose0 : List PySem.Str := ["__name__", "RowError", "ByNought", "Outside", "LineError", "BadText", "NoName", "Twice", "TooMany", "TooLong", "TooDeep", "Uneven", "Crossed", "HALF", "kept", "divided", "by_bits", "done", "start_of", "Spot", "row_cell", "Form", "Number", "Here", "Cell", "Shifted", "Local", "At", "Pair", "Choice"]
def loose1 : List PySem.Str := ["Call", "FIGURES", "LETTERS", "words_of", "sign_word", "fold_word", "kept_word", "name_like", "number_of", "MOST_BRACKETS", "Known", "Taker", "take_number", "take_name", "take_new", "take_fold", "take_form", "take_inner", "Step", "Let", "Put", "Fold", "Running", "Till", "Program", "parts_of", "size_of", "depth_of", "forms_in", "all_within"]
def loose2 : List PySem.Str := ["uneven", "crossed", "Source", "Reading", "hold_forms", "read_row", "read_def", "read_till", "read_end", "take_test", "take_let", "take_put", "take_folded", "take_running", "read_step", "read_line", "read", "_law_tape", "_law_draw", "_law_is_one", "_law_by_hand", "_law_read"]
def loose : List PySem.Str := loose0 ++ loose1 ++ loose2
def fs0 : List PySem.Str := ["kept", "divided", "by_bits", "done", "start_of", "row_cell", "words_of", "sign_word", "fold_word", "kept_word", "name_like", "number_of", "take_number", "take_name", "take_new", "take_fold", "take_form", "take_inner", "parts_of", "size_of", "depth_of", "forms_in", "all_within", "uneven", "crossed", "hold_forms", "read_row", "read_def", "read_till", "read_end"]
def fs1 : List PySem.Str := ["take_test", "take_let", "take_put", "take_folded", "take_running", "read_step", "read_line", "read", "_law_tape", "_law_draw", "_law_is_one", "_law_by_hand", "_law_read", "law"]
def fs : List PySem.Str := fs0 ++ fs1
def hcs0 : List PySem.Str := ["RowError", "ByNought", "Outside", "LineError", "BadText", "NoName", "Twice", "TooMany", "TooLong", "TooDeep", "Uneven", "Crossed", "Spot", "Form", "Number", "Here", "Cell", "Shifted", "Local", "At", "Pair", "Choice", "Call", "Known", "Taker", "Step", "Let", "Put", "Fold", "Running"]
def hcs1 : List PySem.Str := ["Till", "Program", "Source", "Reading"]
def hcs : List PySem.Str := hcs0 ++ hcs1
def e0 : He.DefD := ⟨("kept", none), "kept", "kept", defArgs s0, defBody s0, defScope s0, [], []⟩
def e1 : He.DefD := ⟨("divided", none), "divided", "divided", defArgs s1, defBody s1, defScope s1, [], []⟩
def e2 : He.DefD := ⟨("by_bits", none), "by_bits", "by_bits", defArgs s2, defBody s2, defScope s2, [], []⟩
def e3 : He.DefD := ⟨("done", none), "done", "done", defArgs s3, defBody s3, defScope s3, [], []⟩
def e4 : He.DefD := ⟨("start_of", none), "start_of", "start_of", defArgs s4, defBody s4, defScope s4, [], []⟩
def e5 : He.DefD := ⟨("row_cell", none), "row_cell", "row_cell", defArgs s5, defBody s5, defScope s5, [], []⟩
def e6 : He.DefD := ⟨("words_of", none), "words_of", "words_of", defArgs s6, defBody s6, defScope s6, [], []⟩
def e7 : He.DefD := ⟨("sign_word", none), "sign_word", "sign_word", defArgs s7, defBody s7, defScope s7, [], []⟩
def e8 : He.DefD := ⟨("fold_word", none), "fold_word", "fold_word", defArgs s8, defBody s8, defScope s8, [], []⟩
def e9 : He.DefD := ⟨("kept_word", none), "kept_word", "kept_word", defArgs s9, defBody s9, defScope s9, [], []⟩
def e10 : He.DefD := ⟨("name_like", none), "name_like", "name_like", defArgs s10, defBody s10, defScope s10, [], []⟩
def e11 : He.DefD := ⟨("number_of", none), "number_of", "number_of", defArgs s11, defBody s11, defScope s11, [], []⟩
def e12 : He.DefD := ⟨("take_number", none), "take_number", "take_number", defArgs s12, defBody s12, defScope s12, [], []⟩
def e13 : He.DefD := ⟨("take_name", none), "take_name", "take_name", defArgs s13, defBody s13, defScope s13, [], []⟩
def e14 : He.DefD := ⟨("take_new", none), "take_new", "take_new", defArgs s14, defBody s14, defScope s14, [], []⟩
def e15 : He.DefD := ⟨("take_fold", none), "take_fold", "take_fold", defArgs s15, defBody s15, defScope s15, [], []⟩
def e16 : He.DefD := ⟨("take_form", none), "take_form", "take_form", defArgs s16, defBody s16, defScope s16, [], []⟩
def e17 : He.DefD := ⟨("take_inner", none), "take_inner", "take_inner", defArgs s17, defBody s17, defScope s17, [], []⟩
def e18 : He.DefD := ⟨("parts_of", none), "parts_of", "parts_of", defArgs s18, defBody s18, defScope s18, [], []⟩
def e19 : He.DefD := ⟨("size_of", none), "size_of", "size_of", defArgs s19, defBody s19, defScope s19, [], []⟩
def e20 : He.DefD := ⟨("depth_of", none), "depth_of", "depth_of", defArgs s20, defBody s20, defScope s20, [], []⟩
def e21 : He.DefD := ⟨("forms_in", none), "forms_in", "forms_in", defArgs s21, defBody s21, defScope s21, [], []⟩
def e22 : He.DefD := ⟨("all_within", none), "all_within", "all_within", defArgs s22, defBody s22, defScope s22, [], []⟩
def e23 : He.DefD := ⟨("uneven", none), "uneven", "uneven", defArgs s23, defBody s23, defScope s23, [], []⟩
def e24 : He.DefD := ⟨("crossed", none), "crossed", "crossed", defArgs s24, defBody s24, defScope s24, [], []⟩
def e25 : He.DefD := ⟨("hold_forms", none), "hold_forms", "hold_forms", defArgs s25, defBody s25, defScope s25, [], []⟩
def e26 : He.DefD := ⟨("read_row", none), "read_row", "read_row", defArgs s26, defBody s26, defScope s26, [], []⟩
def e27 : He.DefD := ⟨("read_def", none), "read_def", "read_def", defArgs s27, defBody s27, defScope s27, [], []⟩
def e28 : He.DefD := ⟨("read_till", none), "read_till", "read_till", defArgs s28, defBody s28, defScope s28, [], []⟩
def e29 : He.DefD := ⟨("read_end", none), "read_end", "read_end", defArgs s29, defBody s29, defScope s29, [], []⟩
def e30 : He.DefD := ⟨("take_test", none), "take_test", "take_test", defArgs s30, defBody s30, defScope s30, [], []⟩
def e31 : He.DefD := ⟨("take_let", none), "take_let", "take_let", defArgs s31, defBody s31, defScope s31, [], []⟩
def e32 : He.DefD := ⟨("take_put", none), "take_put", "take_put", defArgs s32, defBody s32, defScope s32, [], []⟩
def e33 : He.DefD := ⟨("take_folded", none), "take_folded", "take_folded", defArgs s33, defBody s33, defScope s33, [], []⟩
def e34 : He.DefD := ⟨("take_running", none), "take_running", "take_running", defArgs s34, defBody s34, defScope s34, [], []⟩
def e35 : He.DefD := ⟨("read_step", none), "read_step", "read_step", defArgs s35, defBody s35, defScope s35, [], []⟩
def e36 : He.DefD := ⟨("read_line", none), "read_line", "read_line", defArgs s36, defBody s36, defScope s36, [], []⟩
def e37 : He.DefD := ⟨("read", none), "read", "read", defArgs s37, defBody s37, defScope s37, [], []⟩
def e122 : He.DefD := ⟨("LineError", some "__init__"), "__init__", "LineError.__init__", defArgs s122, defBody s122, defScope s122, [], []⟩
def e124 : He.DefD := ⟨("Spot", some "__init__"), "__init__", "Spot.__init__", defArgs s124, defBody s124, defScope s124, [], []⟩
def e125 : He.DefD := ⟨("Form", some "worth"), "worth", "Form.worth", defArgs s125, defBody s125, defScope s125, [], []⟩
def e126 : He.DefD := ⟨("Number", some "__init__"), "__init__", "Number.__init__", defArgs s126, defBody s126, defScope s126, [], []⟩
def e127 : He.DefD := ⟨("Number", some "worth"), "worth", "Number.worth", defArgs s127, defBody s127, defScope s127, [], []⟩
def e128 : He.DefD := ⟨("Here", some "worth"), "worth", "Here.worth", defArgs s128, defBody s128, defScope s128, [], []⟩
def e129 : He.DefD := ⟨("Cell", some "__init__"), "__init__", "Cell.__init__", defArgs s129, defBody s129, defScope s129, [], []⟩
def e130 : He.DefD := ⟨("Cell", some "worth"), "worth", "Cell.worth", defArgs s130, defBody s130, defScope s130, [], []⟩
def e131 : He.DefD := ⟨("Shifted", some "__init__"), "__init__", "Shifted.__init__", defArgs s131, defBody s131, defScope s131, [], []⟩
def e132 : He.DefD := ⟨("Shifted", some "worth"), "worth", "Shifted.worth", defArgs s132, defBody s132, defScope s132, [], []⟩
def e133 : He.DefD := ⟨("Local", some "__init__"), "__init__", "Local.__init__", defArgs s133, defBody s133, defScope s133, [], []⟩
def e134 : He.DefD := ⟨("Local", some "worth"), "worth", "Local.worth", defArgs s134, defBody s134, defScope s134, [], []⟩
def e135 : He.DefD := ⟨("At", some "__init__"), "__init__", "At.__init__", defArgs s135, defBody s135, defScope s135, [], []⟩
def e136 : He.DefD := ⟨("At", some "worth"), "worth", "At.worth", defArgs s136, defBody s136, defScope s136, [], []⟩
def e137 : He.DefD := ⟨("Pair", some "__init__"), "__init__", "Pair.__init__", defArgs s137, defBody s137, defScope s137, [], []⟩
def e138 : He.DefD := ⟨("Pair", some "worth"), "worth", "Pair.worth", defArgs s138, defBody s138, defScope s138, [], []⟩
def e139 : He.DefD := ⟨("Choice", some "__init__"), "__init__", "Choice.__init__", defArgs s139, defBody s139, defScope s139, [], []⟩
def e140 : He.DefD := ⟨("Choice", some "worth"), "worth", "Choice.worth", defArgs s140, defBody s140, defScope s140, [], []⟩
def e141 : He.DefD := ⟨("Call", some "__init__"), "__init__", "Call.__init__", defArgs s141, defBody s141, defScope s141, [], []⟩
def e142 : He.DefD := ⟨("Call", some "worth"), "worth", "Call.worth", defArgs s142, defBody s142, defScope s142, [], []⟩
def e143 : He.DefD := ⟨("Known", some "__init__"), "__init__", "Known.__init__", defArgs s143, defBody s143, defScope s143, [.non], []⟩
def e144 : He.DefD := ⟨("Taker", some "__init__"), "__init__", "Taker.__init__", defArgs s144, defBody s144, defScope s144, [], []⟩
def e145 : He.DefD := ⟨("Taker", some "word"), "word", "Taker.word", defArgs s145, defBody s145, defScope s145, [], []⟩
def e146 : He.DefD := ⟨("Taker", some "pass_on"), "pass_on", "Taker.pass_on", defArgs s146, defBody s146, defScope s146, [], []⟩
def e147 : He.DefD := ⟨("Taker", some "meet"), "meet", "Taker.meet", defArgs s147, defBody s147, defScope s147, [], []⟩
def e148 : He.DefD := ⟨("Taker", some "go_in"), "go_in", "Taker.go_in", defArgs s148, defBody s148, defScope s148, [], []⟩
def e149 : He.DefD := ⟨("Taker", some "go_out"), "go_out", "Taker.go_out", defArgs s149, defBody s149, defScope s149, [], []⟩
def e150 : He.DefD := ⟨("Taker", some "ended"), "ended", "Taker.ended", defArgs s150, defBody s150, defScope s150, [], []⟩
def e151 : He.DefD := ⟨("Taker", some "finish"), "finish", "Taker.finish", defArgs s151, defBody s151, defScope s151, [], []⟩
def e152 : He.DefD := ⟨("Step", some "__init__"), "__init__", "Step.__init__", defArgs s152, defBody s152, defScope s152, [], []⟩
def e153 : He.DefD := ⟨("Step", some "many_of"), "many_of", "Step.many_of", defArgs s153, defBody s153, defScope s153, [], []⟩
def e154 : He.DefD := ⟨("Let", some "__init__"), "__init__", "Let.__init__", defArgs s154, defBody s154, defScope s154, [.non], []⟩
def e155 : He.DefD := ⟨("Put", some "__init__"), "__init__", "Put.__init__", defArgs s155, defBody s155, defScope s155, [.non], []⟩
def e156 : He.DefD := ⟨("Put", some "many_of"), "many_of", "Put.many_of", defArgs s156, defBody s156, defScope s156, [], []⟩
def e157 : He.DefD := ⟨("Fold", some "__init__"), "__init__", "Fold.__init__", defArgs s157, defBody s157, defScope s157, [.non], []⟩
def e158 : He.DefD := ⟨("Fold", some "many_of"), "many_of", "Fold.many_of", defArgs s158, defBody s158, defScope s158, [], []⟩
def e159 : He.DefD := ⟨("Running", some "__init__"), "__init__", "Running.__init__", defArgs s159, defBody s159, defScope s159, [.non], []⟩
def e160 : He.DefD := ⟨("Till", some "__init__"), "__init__", "Till.__init__", defArgs s160, defBody s160, defScope s160, [], []⟩
def e161 : He.DefD := ⟨("Program", some "__init__"), "__init__", "Program.__init__", defArgs s161, defBody s161, defScope s161, [], []⟩
def e162 : He.DefD := ⟨("Source", some "__init__"), "__init__", "Source.__init__", defArgs s162, defBody s162, defScope s162, [], []⟩
def e163 : He.DefD := ⟨("Reading", some "__init__"), "__init__", "Reading.__init__", defArgs s163, defBody s163, defScope s163, [], []⟩
def e500 : He.DefD := ⟨("_law_tape", none), "_law_tape", "_law_tape", defArgs s500, defBody s500, defScope s500, [], []⟩
def e501 : He.DefD := ⟨("_law_draw", none), "_law_draw", "_law_draw", defArgs s501, defBody s501, defScope s501, [], []⟩
def e502 : He.DefD := ⟨("_law_is_one", none), "_law_is_one", "_law_is_one", defArgs s502, defBody s502, defScope s502, [], []⟩
def e503 : He.DefD := ⟨("_law_by_hand", none), "_law_by_hand", "_law_by_hand", defArgs s503, defBody s503, defScope s503, [], []⟩
def e504 : He.DefD := ⟨("_law_read", none), "_law_read", "_law_read", defArgs s504, defBody s504, defScope s504, [], []⟩
def e505 : He.DefD := ⟨("law", none), "law", "law", defArgs s505, defBody s505, defScope s505, [], []⟩
def hf0 : List He.DefD := [e0, e1, e2, e3, e4, e5, e6, e7, e8, e9, e10, e11, e12, e13, e14, e15, e16, e17, e18, e19, e20, e21, e22, e23, e24, e25, e26, e27, e28, e29]
def hf1 : List He.DefD := [e30, e31, e32, e33, e34, e35, e36, e37, e122, e124, e125, e126, e127, e128, e129, e130, e131, e132, e133, e134, e135, e136, e137, e138, e139, e140, e141, e142, e143, e144]
def hf2 : List He.DefD := [e145, e146, e147, e148, e149, e150, e151, e152, e153, e154, e155, e156, e157, e158, e159, e160, e161, e162, e163, e500, e501, e502, e503, e504, e505]
def hfn : List He.DefD := hf0 ++ hf1 ++ hf2
def chk (K : PySem.W.Frag) : Bool := textB K info cs inits news frees nums texts rds && onlyB K cs
abbrev hk : PySem.W.Hook := Hc.hook fs hcs chk hfn
def ob (s : PySem.W.SharedT) : He.AlD := Hc.obs fs hcs chk hfn (HandSHeadRun.getT s)
theorem ob_eq (s : PySem.W.SharedT) : ob s = hk.obs s.abs := Hc.obs_eq (HandSHeadRun.getT_eq s)
theorem run (w : World) : HandSHeadRun.RunEq R (PySem.W.view R.prog [91]) hk ob 20000 loose w := by
  intro os
  kernel_rfl
theorem mts : mtsB info cs = true := by decide +kernel
section
variable {P : Program} {w : World} {K : PySem.W.Frag} {mg : Str → Option Value} {base : Heap}
theorem t0 (c : Hc.Says chk hfn K) (G : ∀ f i, info.lookup f = some i → i.path.2 = none → mg i.path.1 = some (.ref (He.fAd K i.path))) : FnT K mg ⟨("kept", none), ["number"], []⟩ "kept" "kept" s0 :=
  fnT0 rfl (c.def_ 0 (d := e0) rfl) (G 0 _ rfl) fun _ _ _ _ _ _ us hl => match us, hl with | [_], _ => rfl
theorem t1 (c : Hc.Says chk hfn K) (G : ∀ f i, info.lookup f = some i → i.path.2 = none → mg i.path.1 = some (.ref (He.fAd K i.path))) : FnT K mg ⟨("divided", none), ["sign", "left", "right"], []⟩ "divided" "divided" s1 :=
  fnT0 rfl (c.def_ 1 (d := e1) rfl) (G 1 _ rfl) fun _ _ _ _ _ _ us hl => match us, hl with | [_, _, _], _ => rfl
theorem t2 (c : Hc.Says chk hfn K) (G : ∀ f i, info.lookup f = some i → i.path.2 = none → mg i.path.1 = some (.ref (He.fAd K i.path))) : FnT K mg ⟨("by_bits", none), ["sign", "left", "right"], []⟩ "by_bits" "by_bits" s2 :=
  fnT0 rfl (c.def_ 2 (d := e2) rfl) (G 2 _ rfl) fun _ _ _ _ _ _ us hl => match us, hl with | [_, _, _], _ => rfl
theorem t3 (c : Hc.Says chk hfn K) (G : ∀ f i, info.lookup f = some i → i.path.2 = none → mg i.path.1 = some (.ref (He.fAd K i.path))) : FnT K mg ⟨("done", none), ["sign", "left", "right"], []⟩ "done" "done" s3 :=
  fnT0 rfl (c.def_ 3 (d := e3) rfl) (G 3 _ rfl) fun _ _ _ _ _ _ us hl => match us, hl with | [_, _, _], _ => rfl
theorem t4 (c : Hc.Says chk hfn K) (G : ∀ f i, info.lookup f = some i → i.path.2 = none → mg i.path.1 = some (.ref (He.fAd K i.path))) : FnT K mg ⟨("start_of", none), ["lengths", "row"], []⟩ "start_of" "start_of" s4 :=
  fnT0 rfl (c.def_ 4 (d := e4) rfl) (G 4 _ rfl) fun _ _ _ _ _ _ us hl => match us, hl with | [_, _], _ => rfl
theorem t5 (c : Hc.Says chk hfn K) (G : ∀ f i, info.lookup f = some i → i.path.2 = none → mg i.path.1 = some (.ref (He.fAd K i.path))) : FnT K mg ⟨("row_cell", none), ["spot", "row", "place"], []⟩ "row_cell" "row_cell" s5 :=
  fnT0 rfl (c.def_ 5 (d := e5) rfl) (G 5 _ rfl) fun _ _ _ _ _ _ us hl => match us, hl with | [_, _, _], _ => rfl
theorem t6 (c : Hc.Says chk hfn K) (G : ∀ f i, info.lookup f = some i → i.path.2 = none → mg i.path.1 = some (.ref (He.fAd K i.path))) : FnT K mg ⟨("words_of", none), ["line"], []⟩ "words_of" "words_of" s6 :=
  fnT0 rfl (c.def_ 6 (d := e6) rfl) (G 6 _ rfl) fun _ _ _ _ _ _ us hl => match us, hl with | [_], _ => rfl
theorem t7 (c : Hc.Says chk hfn K) (G : ∀ f i, info.lookup f = some i → i.path.2 = none → mg i.path.1 = some (.ref (He.fAd K i.path))) : FnT K mg ⟨("sign_word", none), ["word"], []⟩ "sign_word" "sign_word" s7 :=
  fnT0 rfl (c.def_ 7 (d := e7) rfl) (G 7 _ rfl) fun _ _ _ _ _ _ us hl => match us, hl with | [_], _ => rfl
theorem t8 (c : Hc.Says chk hfn K) (G : ∀ f i, info.lookup f = some i → i.path.2 = none → mg i.path.1 = some (.ref (He.fAd K i.path))) : FnT K mg ⟨("fold_word", none), ["word"], []⟩ "fold_word" "fold_word" s8 :=
  fnT0 rfl (c.def_ 8 (d := e8) rfl) (G 8 _ rfl) fun _ _ _ _ _ _ us hl => match us, hl with | [_], _ => rfl
theorem t9 (c : Hc.Says chk hfn K) (G : ∀ f i, info.lookup f = some i → i.path.2 = none → mg i.path.1 = some (.ref (He.fAd K i.path))) : FnT K mg ⟨("kept_word", none), ["word"], []⟩ "kept_word" "kept_word" s9 :=
  fnT0 rfl (c.def_ 9 (d := e9) rfl) (G 9 _ rfl) fun _ _ _ _ _ _ us hl => match us, hl with | [_], _ => rfl
theorem t10 (c : Hc.Says chk hfn K) (G : ∀ f i, info.lookup f = some i → i.path.2 = none → mg i.path.1 = some (.ref (He.fAd K i.path))) : FnT K mg ⟨("name_like", none), ["word"], []⟩ "name_like" "name_like" s10 :=
  fnT0 rfl (c.def_ 10 (d := e10) rfl) (G 10 _ rfl) fun _ _ _ _ _ _ us hl => match us, hl with | [_], _ => rfl
theorem t11 (c : Hc.Says chk hfn K) (G : ∀ f i, info.lookup f = some i → i.path.2 = none → mg i.path.1 = some (.ref (He.fAd K i.path))) : FnT K mg ⟨("number_of", none), ["word"], []⟩ "number_of" "number_of" s11 :=
  fnT0 rfl (c.def_ 11 (d := e11) rfl) (G 11 _ rfl) fun _ _ _ _ _ _ us hl => match us, hl with | [_], _ => rfl
theorem t12 (c : Hc.Says chk hfn K) (G : ∀ f i, info.lookup f = some i → i.path.2 = none → mg i.path.1 = some (.ref (He.fAd K i.path))) : FnT K mg ⟨("take_number", none), ["taker", "low", "high"], []⟩ "take_number" "take_number" s12 :=
  fnT0 rfl (c.def_ 12 (d := e12) rfl) (G 12 _ rfl) fun _ _ _ _ _ _ us hl => match us, hl with | [_, _, _], _ => rfl
theorem t13 (c : Hc.Says chk hfn K) (G : ∀ f i, info.lookup f = some i → i.path.2 = none → mg i.path.1 = some (.ref (He.fAd K i.path))) : FnT K mg ⟨("take_name", none), ["taker", "names"], []⟩ "take_name" "take_name" s13 :=
  fnT0 rfl (c.def_ 13 (d := e13) rfl) (G 13 _ rfl) fun _ _ _ _ _ _ us hl => match us, hl with | [_, _], _ => rfl
theorem t14 (c : Hc.Says chk hfn K) (G : ∀ f i, info.lookup f = some i → i.path.2 = none → mg i.path.1 = some (.ref (He.fAd K i.path))) : FnT K mg ⟨("take_new", none), ["taker", "names"], []⟩ "take_new" "take_new" s14 :=
  fnT0 rfl (c.def_ 14 (d := e14) rfl) (G 14 _ rfl) fun _ _ _ _ _ _ us hl => match us, hl with | [_, _], _ => rfl
theorem t15 (c : Hc.Says chk hfn K) (G : ∀ f i, info.lookup f = some i → i.path.2 = none → mg i.path.1 = some (.ref (He.fAd K i.path))) : FnT K mg ⟨("take_fold", none), ["taker"], []⟩ "take_fold" "take_fold" s15 :=
  fnT0 rfl (c.def_ 15 (d := e15) rfl) (G 15 _ rfl) fun _ _ _ _ _ _ us hl => match us, hl with | [_], _ => rfl
theorem t16 (c : Hc.Says chk hfn K) (G : ∀ f i, info.lookup f = some i → i.path.2 = none → mg i.path.1 = some (.ref (He.fAd K i.path))) : FnT K mg ⟨("take_form", none), ["taker", "known"], []⟩ "take_form" "take_form" s16 :=
  fnT0 rfl (c.def_ 16 (d := e16) rfl) (G 16 _ rfl) fun _ _ _ _ _ _ us hl => match us, hl with | [_, _], _ => rfl
theorem t17 (c : Hc.Says chk hfn K) (G : ∀ f i, info.lookup f = some i → i.path.2 = none → mg i.path.1 = some (.ref (He.fAd K i.path))) : FnT K mg ⟨("take_inner", none), ["taker", "known"], []⟩ "take_inner" "take_inner" s17 :=
  fnT0 rfl (c.def_ 17 (d := e17) rfl) (G 17 _ rfl) fun _ _ _ _ _ _ us hl => match us, hl with | [_, _], _ => rfl
theorem t18 (c : Hc.Says chk hfn K) (G : ∀ f i, info.lookup f = some i → i.path.2 = none → mg i.path.1 = some (.ref (He.fAd K i.path))) : FnT K mg ⟨("parts_of", none), ["form"], []⟩ "parts_of" "parts_of" s18 :=
  fnT0 rfl (c.def_ 18 (d := e18) rfl) (G 18 _ rfl) fun _ _ _ _ _ _ us hl => match us, hl with | [_], _ => rfl
theorem t19 (c : Hc.Says chk hfn K) (G : ∀ f i, info.lookup f = some i → i.path.2 = none → mg i.path.1 = some (.ref (He.fAd K i.path))) : FnT K mg ⟨("size_of", none), ["form", "functions"], []⟩ "size_of" "size_of" s19 :=
  fnT0 rfl (c.def_ 19 (d := e19) rfl) (G 19 _ rfl) fun _ _ _ _ _ _ us hl => match us, hl with | [_, _], _ => rfl
theorem t20 (c : Hc.Says chk hfn K) (G : ∀ f i, info.lookup f = some i → i.path.2 = none → mg i.path.1 = some (.ref (He.fAd K i.path))) : FnT K mg ⟨("depth_of", none), ["form", "functions"], []⟩ "depth_of" "depth_of" s20 :=
  fnT0 rfl (c.def_ 20 (d := e20) rfl) (G 20 _ rfl) fun _ _ _ _ _ _ us hl => match us, hl with | [_, _], _ => rfl
theorem t21 (c : Hc.Says chk hfn K) (G : ∀ f i, info.lookup f = some i → i.path.2 = none → mg i.path.1 = some (.ref (He.fAd K i.path))) : FnT K mg ⟨("forms_in", none), ["step"], []⟩ "forms_in" "forms_in" s21 :=
  fnT0 rfl (c.def_ 21 (d := e21) rfl) (G 21 _ rfl) fun _ _ _ _ _ _ us hl => match us, hl with | [_], _ => rfl
theorem t22 (c : Hc.Says chk hfn K) (G : ∀ f i, info.lookup f = some i → i.path.2 = none → mg i.path.1 = some (.ref (He.fAd K i.path))) : FnT K mg ⟨("all_within", none), ["form"], []⟩ "all_within" "all_within" s22 :=
  fnT0 rfl (c.def_ 22 (d := e22) rfl) (G 22 _ rfl) fun _ _ _ _ _ _ us hl => match us, hl with | [_], _ => rfl
theorem t23 (c : Hc.Says chk hfn K) (G : ∀ f i, info.lookup f = some i → i.path.2 = none → mg i.path.1 = some (.ref (He.fAd K i.path))) : FnT K mg ⟨("uneven", none), ["step", "lengths"], []⟩ "uneven" "uneven" s23 :=
  fnT0 rfl (c.def_ 23 (d := e23) rfl) (G 23 _ rfl) fun _ _ _ _ _ _ us hl => match us, hl with | [_, _], _ => rfl
theorem t24 (c : Hc.Says chk hfn K) (G : ∀ f i, info.lookup f = some i → i.path.2 = none → mg i.path.1 = some (.ref (He.fAd K i.path))) : FnT K mg ⟨("crossed", none), ["step"], []⟩ "crossed" "crossed" s24 :=
  fnT0 rfl (c.def_ 24 (d := e24) rfl) (G 24 _ rfl) fun _ _ _ _ _ _ us hl => match us, hl with | [_], _ => rfl
theorem t25 (c : Hc.Says chk hfn K) (G : ∀ f i, info.lookup f = some i → i.path.2 = none → mg i.path.1 = some (.ref (He.fAd K i.path))) : FnT K mg ⟨("hold_forms", none), ["line", "forms", "functions"], []⟩ "hold_forms" "hold_forms" s25 :=
  fnT0 rfl (c.def_ 25 (d := e25) rfl) (G 25 _ rfl) fun _ _ _ _ _ _ us hl => match us, hl with | [_, _, _], _ => rfl
theorem t26 (c : Hc.Says chk hfn K) (G : ∀ f i, info.lookup f = some i → i.path.2 = none → mg i.path.1 = some (.ref (He.fAd K i.path))) : FnT K mg ⟨("read_row", none), ["reading", "taker"], []⟩ "read_row" "read_row" s26 :=
  fnT0 rfl (c.def_ 26 (d := e26) rfl) (G 26 _ rfl) fun _ _ _ _ _ _ us hl => match us, hl with | [_, _], _ => rfl
theorem t27 (c : Hc.Says chk hfn K) (G : ∀ f i, info.lookup f = some i → i.path.2 = none → mg i.path.1 = some (.ref (He.fAd K i.path))) : FnT K mg ⟨("read_def", none), ["reading", "taker"], []⟩ "read_def" "read_def" s27 :=
  fnT0 rfl (c.def_ 27 (d := e27) rfl) (G 27 _ rfl) fun _ _ _ _ _ _ us hl => match us, hl with | [_, _], _ => rfl
theorem t28 (c : Hc.Says chk hfn K) (G : ∀ f i, info.lookup f = some i → i.path.2 = none → mg i.path.1 = some (.ref (He.fAd K i.path))) : FnT K mg ⟨("read_till", none), ["reading", "taker"], []⟩ "read_till" "read_till" s28 :=
  fnT0 rfl (c.def_ 28 (d := e28) rfl) (G 28 _ rfl) fun _ _ _ _ _ _ us hl => match us, hl with | [_, _], _ => rfl
theorem t29 (c : Hc.Says chk hfn K) (G : ∀ f i, info.lookup f = some i → i.path.2 = none → mg i.path.1 = some (.ref (He.fAd K i.path))) : FnT K mg ⟨("read_end", none), ["reading", "taker"], []⟩ "read_end" "read_end" s29 :=
  fnT0 rfl (c.def_ 29 (d := e29) rfl) (G 29 _ rfl) fun _ _ _ _ _ _ us hl => match us, hl with | [_, _], _ => rfl
theorem t30 (c : Hc.Says chk hfn K) (G : ∀ f i, info.lookup f = some i → i.path.2 = none → mg i.path.1 = some (.ref (He.fAd K i.path))) : FnT K mg ⟨("take_test", none), ["taker", "known"], []⟩ "take_test" "take_test" s30 :=
  fnT0 rfl (c.def_ 30 (d := e30) rfl) (G 30 _ rfl) fun _ _ _ _ _ _ us hl => match us, hl with | [_, _], _ => rfl
theorem t31 (c : Hc.Says chk hfn K) (G : ∀ f i, info.lookup f = some i → i.path.2 = none → mg i.path.1 = some (.ref (He.fAd K i.path))) : FnT K mg ⟨("take_let", none), ["taker", "known"], []⟩ "take_let" "take_let" s31 :=
  fnT0 rfl (c.def_ 31 (d := e31) rfl) (G 31 _ rfl) fun _ _ _ _ _ _ us hl => match us, hl with | [_, _], _ => rfl
theorem t32 (c : Hc.Says chk hfn K) (G : ∀ f i, info.lookup f = some i → i.path.2 = none → mg i.path.1 = some (.ref (He.fAd K i.path))) : FnT K mg ⟨("take_put", none), ["taker", "known"], []⟩ "take_put" "take_put" s32 :=
  fnT0 rfl (c.def_ 32 (d := e32) rfl) (G 32 _ rfl) fun _ _ _ _ _ _ us hl => match us, hl with | [_, _], _ => rfl
theorem t33 (c : Hc.Says chk hfn K) (G : ∀ f i, info.lookup f = some i → i.path.2 = none → mg i.path.1 = some (.ref (He.fAd K i.path))) : FnT K mg ⟨("take_folded", none), ["taker", "known"], []⟩ "take_folded" "take_folded" s33 :=
  fnT0 rfl (c.def_ 33 (d := e33) rfl) (G 33 _ rfl) fun _ _ _ _ _ _ us hl => match us, hl with | [_, _], _ => rfl
theorem t34 (c : Hc.Says chk hfn K) (G : ∀ f i, info.lookup f = some i → i.path.2 = none → mg i.path.1 = some (.ref (He.fAd K i.path))) : FnT K mg ⟨("take_running", none), ["taker", "known"], []⟩ "take_running" "take_running" s34 :=
  fnT0 rfl (c.def_ 34 (d := e34) rfl) (G 34 _ rfl) fun _ _ _ _ _ _ us hl => match us, hl with | [_, _], _ => rfl
theorem t35 (c : Hc.Says chk hfn K) (G : ∀ f i, info.lookup f = some i → i.path.2 = none → mg i.path.1 = some (.ref (He.fAd K i.path))) : FnT K mg ⟨("read_step", none), ["reading", "taker", "word"], []⟩ "read_step" "read_step" s35 :=
  fnT0 rfl (c.def_ 35 (d := e35) rfl) (G 35 _ rfl) fun _ _ _ _ _ _ us hl => match us, hl with | [_, _, _], _ => rfl
theorem t36 (c : Hc.Says chk hfn K) (G : ∀ f i, info.lookup f = some i → i.path.2 = none → mg i.path.1 = some (.ref (He.fAd K i.path))) : FnT K mg ⟨("read_line", none), ["reading", "taker"], []⟩ "read_line" "read_line" s36 :=
  fnT0 rfl (c.def_ 36 (d := e36) rfl) (G 36 _ rfl) fun _ _ _ _ _ _ us hl => match us, hl with | [_, _], _ => rfl
theorem t37 (c : Hc.Says chk hfn K) (G : ∀ f i, info.lookup f = some i → i.path.2 = none → mg i.path.1 = some (.ref (He.fAd K i.path))) : FnT K mg ⟨("read", none), ["text"], []⟩ "read" "read" s37 :=
  fnT0 rfl (c.def_ 37 (d := e37) rfl) (G 37 _ rfl) fun _ _ _ _ _ _ us hl => match us, hl with | [_], _ => rfl
theorem t122 (c : Hc.Says chk hfn K) (G : ∀ f i, info.lookup f = some i → i.path.2 = none → mg i.path.1 = some (.ref (He.fAd K i.path))) : FnT K mg ⟨("LineError", some "__init__"), ["self", "line"], []⟩ "__init__" "LineError.__init__" s122 :=
  fnT0 rfl (c.def_ 38 (d := e122) rfl) (G 122 _ rfl) fun _ _ _ _ _ _ us hl => match us, hl with | [_, _], _ => rfl
theorem t124 (c : Hc.Says chk hfn K) (G : ∀ f i, info.lookup f = some i → i.path.2 = none → mg i.path.1 = some (.ref (He.fAd K i.path))) : FnT K mg ⟨("Spot", some "__init__"), ["self", "lengths", "functions", "cells", "place", "own"], []⟩ "__init__" "Spot.__init__" s124 :=
  fnT0 rfl (c.def_ 39 (d := e124) rfl) (G 124 _ rfl) fun _ _ _ _ _ _ us hl => match us, hl with | [_, _, _, _, _, _], _ => rfl
theorem t125 (c : Hc.Says chk hfn K) (G : ∀ f i, info.lookup f = some i → i.path.2 = none → mg i.path.1 = some (.ref (He.fAd K i.path))) : FnT K mg ⟨("Form", some "worth"), ["self", "spot"], []⟩ "worth" "Form.worth" s125 :=
  fnT0 rfl (c.def_ 40 (d := e125) rfl) (G 125 _ rfl) fun _ _ _ _ _ _ us hl => match us, hl with | [_, _], _ => rfl
theorem t126 (c : Hc.Says chk hfn K) (G : ∀ f i, info.lookup f = some i → i.path.2 = none → mg i.path.1 = some (.ref (He.fAd K i.path))) : FnT K mg ⟨("Number", some "__init__"), ["self", "number"], []⟩ "__init__" "Number.__init__" s126 :=
  fnT0 rfl (c.def_ 41 (d := e126) rfl) (G 126 _ rfl) fun _ _ _ _ _ _ us hl => match us, hl with | [_, _], _ => rfl
theorem t127 (c : Hc.Says chk hfn K) (G : ∀ f i, info.lookup f = some i → i.path.2 = none → mg i.path.1 = some (.ref (He.fAd K i.path))) : FnT K mg ⟨("Number", some "worth"), ["self", "spot"], []⟩ "worth" "Number.worth" s127 :=
  fnT0 rfl (c.def_ 42 (d := e127) rfl) (G 127 _ rfl) fun _ _ _ _ _ _ us hl => match us, hl with | [_, _], _ => rfl
theorem t128 (c : Hc.Says chk hfn K) (G : ∀ f i, info.lookup f = some i → i.path.2 = none → mg i.path.1 = some (.ref (He.fAd K i.path))) : FnT K mg ⟨("Here", some "worth"), ["self", "spot"], []⟩ "worth" "Here.worth" s128 :=
  fnT0 rfl (c.def_ 43 (d := e128) rfl) (G 128 _ rfl) fun _ _ _ _ _ _ us hl => match us, hl with | [_, _], _ => rfl
theorem t129 (c : Hc.Says chk hfn K) (G : ∀ f i, info.lookup f = some i → i.path.2 = none → mg i.path.1 = some (.ref (He.fAd K i.path))) : FnT K mg ⟨("Cell", some "__init__"), ["self", "row"], []⟩ "__init__" "Cell.__init__" s129 :=
  fnT0 rfl (c.def_ 44 (d := e129) rfl) (G 129 _ rfl) fun _ _ _ _ _ _ us hl => match us, hl with | [_, _], _ => rfl
theorem t130 (c : Hc.Says chk hfn K) (G : ∀ f i, info.lookup f = some i → i.path.2 = none → mg i.path.1 = some (.ref (He.fAd K i.path))) : FnT K mg ⟨("Cell", some "worth"), ["self", "spot"], []⟩ "worth" "Cell.worth" s130 :=
  fnT0 rfl (c.def_ 45 (d := e130) rfl) (G 130 _ rfl) fun _ _ _ _ _ _ us hl => match us, hl with | [_, _], _ => rfl
theorem t131 (c : Hc.Says chk hfn K) (G : ∀ f i, info.lookup f = some i → i.path.2 = none → mg i.path.1 = some (.ref (He.fAd K i.path))) : FnT K mg ⟨("Shifted", some "__init__"), ["self", "row", "by", "other"], []⟩ "__init__" "Shifted.__init__" s131 :=
  fnT0 rfl (c.def_ 46 (d := e131) rfl) (G 131 _ rfl) fun _ _ _ _ _ _ us hl => match us, hl with | [_, _, _, _], _ => rfl
theorem t132 (c : Hc.Says chk hfn K) (G : ∀ f i, info.lookup f = some i → i.path.2 = none → mg i.path.1 = some (.ref (He.fAd K i.path))) : FnT K mg ⟨("Shifted", some "worth"), ["self", "spot"], []⟩ "worth" "Shifted.worth" s132 :=
  fnT0 rfl (c.def_ 47 (d := e132) rfl) (G 132 _ rfl) fun _ _ _ _ _ _ us hl => match us, hl with | [_, _], _ => rfl
theorem t133 (c : Hc.Says chk hfn K) (G : ∀ f i, info.lookup f = some i → i.path.2 = none → mg i.path.1 = some (.ref (He.fAd K i.path))) : FnT K mg ⟨("Local", some "__init__"), ["self", "at"], []⟩ "__init__" "Local.__init__" s133 :=
  fnT0 rfl (c.def_ 48 (d := e133) rfl) (G 133 _ rfl) fun _ _ _ _ _ _ us hl => match us, hl with | [_, _], _ => rfl
theorem t134 (c : Hc.Says chk hfn K) (G : ∀ f i, info.lookup f = some i → i.path.2 = none → mg i.path.1 = some (.ref (He.fAd K i.path))) : FnT K mg ⟨("Local", some "worth"), ["self", "spot"], []⟩ "worth" "Local.worth" s134 :=
  fnT0 rfl (c.def_ 49 (d := e134) rfl) (G 134 _ rfl) fun _ _ _ _ _ _ us hl => match us, hl with | [_, _], _ => rfl
theorem t135 (c : Hc.Says chk hfn K) (G : ∀ f i, info.lookup f = some i → i.path.2 = none → mg i.path.1 = some (.ref (He.fAd K i.path))) : FnT K mg ⟨("At", some "__init__"), ["self", "row", "place"], []⟩ "__init__" "At.__init__" s135 :=
  fnT0 rfl (c.def_ 50 (d := e135) rfl) (G 135 _ rfl) fun _ _ _ _ _ _ us hl => match us, hl with | [_, _, _], _ => rfl
theorem t136 (c : Hc.Says chk hfn K) (G : ∀ f i, info.lookup f = some i → i.path.2 = none → mg i.path.1 = some (.ref (He.fAd K i.path))) : FnT K mg ⟨("At", some "worth"), ["self", "spot"], []⟩ "worth" "At.worth" s136 :=
  fnT0 rfl (c.def_ 51 (d := e136) rfl) (G 136 _ rfl) fun _ _ _ _ _ _ us hl => match us, hl with | [_, _], _ => rfl
theorem t137 (c : Hc.Says chk hfn K) (G : ∀ f i, info.lookup f = some i → i.path.2 = none → mg i.path.1 = some (.ref (He.fAd K i.path))) : FnT K mg ⟨("Pair", some "__init__"), ["self", "sign", "left", "right"], []⟩ "__init__" "Pair.__init__" s137 :=
  fnT0 rfl (c.def_ 52 (d := e137) rfl) (G 137 _ rfl) fun _ _ _ _ _ _ us hl => match us, hl with | [_, _, _, _], _ => rfl
theorem t138 (c : Hc.Says chk hfn K) (G : ∀ f i, info.lookup f = some i → i.path.2 = none → mg i.path.1 = some (.ref (He.fAd K i.path))) : FnT K mg ⟨("Pair", some "worth"), ["self", "spot"], []⟩ "worth" "Pair.worth" s138 :=
  fnT0 rfl (c.def_ 53 (d := e138) rfl) (G 138 _ rfl) fun _ _ _ _ _ _ us hl => match us, hl with | [_, _], _ => rfl
theorem t139 (c : Hc.Says chk hfn K) (G : ∀ f i, info.lookup f = some i → i.path.2 = none → mg i.path.1 = some (.ref (He.fAd K i.path))) : FnT K mg ⟨("Choice", some "__init__"), ["self", "test", "left", "right"], []⟩ "__init__" "Choice.__init__" s139 :=
  fnT0 rfl (c.def_ 54 (d := e139) rfl) (G 139 _ rfl) fun _ _ _ _ _ _ us hl => match us, hl with | [_, _, _, _], _ => rfl
theorem t140 (c : Hc.Says chk hfn K) (G : ∀ f i, info.lookup f = some i → i.path.2 = none → mg i.path.1 = some (.ref (He.fAd K i.path))) : FnT K mg ⟨("Choice", some "worth"), ["self", "spot"], []⟩ "worth" "Choice.worth" s140 :=
  fnT0 rfl (c.def_ 55 (d := e140) rfl) (G 140 _ rfl) fun _ _ _ _ _ _ us hl => match us, hl with | [_, _], _ => rfl
theorem t141 (c : Hc.Says chk hfn K) (G : ∀ f i, info.lookup f = some i → i.path.2 = none → mg i.path.1 = some (.ref (He.fAd K i.path))) : FnT K mg ⟨("Call", some "__init__"), ["self", "at", "handed"], []⟩ "__init__" "Call.__init__" s141 :=
  fnT0 rfl (c.def_ 56 (d := e141) rfl) (G 141 _ rfl) fun _ _ _ _ _ _ us hl => match us, hl with | [_, _, _], _ => rfl
theorem t142 (c : Hc.Says chk hfn K) (G : ∀ f i, info.lookup f = some i → i.path.2 = none → mg i.path.1 = some (.ref (He.fAd K i.path))) : FnT K mg ⟨("Call", some "worth"), ["self", "spot"], []⟩ "worth" "Call.worth" s142 :=
  fnT0 rfl (c.def_ 57 (d := e142) rfl) (G 142 _ rfl) fun _ _ _ _ _ _ us hl => match us, hl with | [_, _], _ => rfl
theorem t143 (c : Hc.Says chk hfn K) (G : ∀ f i, info.lookup f = some i → i.path.2 = none → mg i.path.1 = some (.ref (He.fAd K i.path))) : FnT K mg ⟨("Known", some "__init__"), ["self", "rows", "calls", "functions", "parameters"], [.non]⟩ "__init__" "Known.__init__" s143 :=
  fnT1 (List.cons_ne_nil _ _) (c.def_ 58 (d := e143) rfl) (G 143 _ rfl) (by decide) fun j hj T kV doc pm an cdv ct us its h1 h2 => match j, hj, us, its, h1, h2 with
    | 0, _, [_, _, _, _], [_], _, _ => ⟨_, rfl, rfl⟩
    | 1, _, [_, _, _, _, _], [_], _, _ => ⟨_, rfl, rfl⟩
theorem t144 (c : Hc.Says chk hfn K) (G : ∀ f i, info.lookup f = some i → i.path.2 = none → mg i.path.1 = some (.ref (He.fAd K i.path))) : FnT K mg ⟨("Taker", some "__init__"), ["self", "line", "words"], []⟩ "__init__" "Taker.__init__" s144 :=
  fnT0 rfl (c.def_ 59 (d := e144) rfl) (G 144 _ rfl) fun _ _ _ _ _ _ us hl => match us, hl with | [_, _, _], _ => rfl
theorem t145 (c : Hc.Says chk hfn K) (G : ∀ f i, info.lookup f = some i → i.path.2 = none → mg i.path.1 = some (.ref (He.fAd K i.path))) : FnT K mg ⟨("Taker", some "word"), ["self"], []⟩ "word" "Taker.word" s145 :=
  fnT0 rfl (c.def_ 60 (d := e145) rfl) (G 145 _ rfl) fun _ _ _ _ _ _ us hl => match us, hl with | [_], _ => rfl
theorem t146 (c : Hc.Says chk hfn K) (G : ∀ f i, info.lookup f = some i → i.path.2 = none → mg i.path.1 = some (.ref (He.fAd K i.path))) : FnT K mg ⟨("Taker", some "pass_on"), ["self"], []⟩ "pass_on" "Taker.pass_on" s146 :=
  fnT0 rfl (c.def_ 61 (d := e146) rfl) (G 146 _ rfl) fun _ _ _ _ _ _ us hl => match us, hl with | [_], _ => rfl
theorem t147 (c : Hc.Says chk hfn K) (G : ∀ f i, info.lookup f = some i → i.path.2 = none → mg i.path.1 = some (.ref (He.fAd K i.path))) : FnT K mg ⟨("Taker", some "meet"), ["self", "due"], []⟩ "meet" "Taker.meet" s147 :=
  fnT0 rfl (c.def_ 62 (d := e147) rfl) (G 147 _ rfl) fun _ _ _ _ _ _ us hl => match us, hl with | [_, _], _ => rfl
theorem t148 (c : Hc.Says chk hfn K) (G : ∀ f i, info.lookup f = some i → i.path.2 = none → mg i.path.1 = some (.ref (He.fAd K i.path))) : FnT K mg ⟨("Taker", some "go_in"), ["self"], []⟩ "go_in" "Taker.go_in" s148 :=
  fnT0 rfl (c.def_ 63 (d := e148) rfl) (G 148 _ rfl) fun _ _ _ _ _ _ us hl => match us, hl with | [_], _ => rfl
theorem t149 (c : Hc.Says chk hfn K) (G : ∀ f i, info.lookup f = some i → i.path.2 = none → mg i.path.1 = some (.ref (He.fAd K i.path))) : FnT K mg ⟨("Taker", some "go_out"), ["self"], []⟩ "go_out" "Taker.go_out" s149 :=
  fnT0 rfl (c.def_ 64 (d := e149) rfl) (G 149 _ rfl) fun _ _ _ _ _ _ us hl => match us, hl with | [_], _ => rfl
theorem t150 (c : Hc.Says chk hfn K) (G : ∀ f i, info.lookup f = some i → i.path.2 = none → mg i.path.1 = some (.ref (He.fAd K i.path))) : FnT K mg ⟨("Taker", some "ended"), ["self"], []⟩ "ended" "Taker.ended" s150 :=
  fnT0 rfl (c.def_ 65 (d := e150) rfl) (G 150 _ rfl) fun _ _ _ _ _ _ us hl => match us, hl with | [_], _ => rfl
theorem t151 (c : Hc.Says chk hfn K) (G : ∀ f i, info.lookup f = some i → i.path.2 = none → mg i.path.1 = some (.ref (He.fAd K i.path))) : FnT K mg ⟨("Taker", some "finish"), ["self"], []⟩ "finish" "Taker.finish" s151 :=
  fnT0 rfl (c.def_ 66 (d := e151) rfl) (G 151 _ rfl) fun _ _ _ _ _ _ us hl => match us, hl with | [_], _ => rfl
theorem t152 (c : Hc.Says chk hfn K) (G : ∀ f i, info.lookup f = some i → i.path.2 = none → mg i.path.1 = some (.ref (He.fAd K i.path))) : FnT K mg ⟨("Step", some "__init__"), ["self", "target"], []⟩ "__init__" "Step.__init__" s152 :=
  fnT0 rfl (c.def_ 67 (d := e152) rfl) (G 152 _ rfl) fun _ _ _ _ _ _ us hl => match us, hl with | [_, _], _ => rfl
theorem t153 (c : Hc.Says chk hfn K) (G : ∀ f i, info.lookup f = some i → i.path.2 = none → mg i.path.1 = some (.ref (He.fAd K i.path))) : FnT K mg ⟨("Step", some "many_of"), ["self", "lengths"], []⟩ "many_of" "Step.many_of" s153 :=
  fnT0 rfl (c.def_ 68 (d := e153) rfl) (G 153 _ rfl) fun _ _ _ _ _ _ us hl => match us, hl with | [_, _], _ => rfl
theorem t154 (c : Hc.Says chk hfn K) (G : ∀ f i, info.lookup f = some i → i.path.2 = none → mg i.path.1 = some (.ref (He.fAd K i.path))) : FnT K mg ⟨("Let", some "__init__"), ["self", "target", "value", "test"], [.non]⟩ "__init__" "Let.__init__" s154 :=
  fnT1 (List.cons_ne_nil _ _) (c.def_ 69 (d := e154) rfl) (G 154 _ rfl) (by decide) fun j hj T kV doc pm an cdv ct us its h1 h2 => match j, hj, us, its, h1, h2 with
    | 0, _, [_, _, _], [_], _, _ => ⟨_, rfl, rfl⟩
    | 1, _, [_, _, _, _], [_], _, _ => ⟨_, rfl, rfl⟩
theorem t155 (c : Hc.Says chk hfn K) (G : ∀ f i, info.lookup f = some i → i.path.2 = none → mg i.path.1 = some (.ref (He.fAd K i.path))) : FnT K mg ⟨("Put", some "__init__"), ["self", "target", "value", "place", "many", "test"], [.non]⟩ "__init__" "Put.__init__" s155 :=
  fnT1 (List.cons_ne_nil _ _) (c.def_ 70 (d := e155) rfl) (G 155 _ rfl) (by decide) fun j hj T kV doc pm an cdv ct us its h1 h2 => match j, hj, us, its, h1, h2 with
    | 0, _, [_, _, _, _, _], [_], _, _ => ⟨_, rfl, rfl⟩
    | 1, _, [_, _, _, _, _, _], [_], _, _ => ⟨_, rfl, rfl⟩
theorem t156 (c : Hc.Says chk hfn K) (G : ∀ f i, info.lookup f = some i → i.path.2 = none → mg i.path.1 = some (.ref (He.fAd K i.path))) : FnT K mg ⟨("Put", some "many_of"), ["self", "lengths"], []⟩ "many_of" "Put.many_of" s156 :=
  fnT0 rfl (c.def_ 71 (d := e156) rfl) (G 156 _ rfl) fun _ _ _ _ _ _ us hl => match us, hl with | [_, _], _ => rfl
theorem t157 (c : Hc.Says chk hfn K) (G : ∀ f i, info.lookup f = some i → i.path.2 = none → mg i.path.1 = some (.ref (He.fAd K i.path))) : FnT K mg ⟨("Fold", some "__init__"), ["self", "target", "fold", "value", "many", "test"], [.non]⟩ "__init__" "Fold.__init__" s157 :=
  fnT1 (List.cons_ne_nil _ _) (c.def_ 72 (d := e157) rfl) (G 157 _ rfl) (by decide) fun j hj T kV doc pm an cdv ct us its h1 h2 => match j, hj, us, its, h1, h2 with
    | 0, _, [_, _, _, _, _], [_], _, _ => ⟨_, rfl, rfl⟩
    | 1, _, [_, _, _, _, _, _], [_], _, _ => ⟨_, rfl, rfl⟩
theorem t158 (c : Hc.Says chk hfn K) (G : ∀ f i, info.lookup f = some i → i.path.2 = none → mg i.path.1 = some (.ref (He.fAd K i.path))) : FnT K mg ⟨("Fold", some "many_of"), ["self", "lengths"], []⟩ "many_of" "Fold.many_of" s158 :=
  fnT0 rfl (c.def_ 73 (d := e158) rfl) (G 158 _ rfl) fun _ _ _ _ _ _ us hl => match us, hl with | [_, _], _ => rfl
theorem t159 (c : Hc.Says chk hfn K) (G : ∀ f i, info.lookup f = some i → i.path.2 = none → mg i.path.1 = some (.ref (He.fAd K i.path))) : FnT K mg ⟨("Running", some "__init__"), ["self", "target", "fold", "value", "test"], [.non]⟩ "__init__" "Running.__init__" s159 :=
  fnT1 (List.cons_ne_nil _ _) (c.def_ 74 (d := e159) rfl) (G 159 _ rfl) (by decide) fun j hj T kV doc pm an cdv ct us its h1 h2 => match j, hj, us, its, h1, h2 with
    | 0, _, [_, _, _, _], [_], _, _ => ⟨_, rfl, rfl⟩
    | 1, _, [_, _, _, _, _], [_], _, _ => ⟨_, rfl, rfl⟩
theorem t160 (c : Hc.Says chk hfn K) (G : ∀ f i, info.lookup f = some i → i.path.2 = none → mg i.path.1 = some (.ref (He.fAd K i.path))) : FnT K mg ⟨("Till", some "__init__"), ["self", "target", "most", "steps"], []⟩ "__init__" "Till.__init__" s160 :=
  fnT0 rfl (c.def_ 75 (d := e160) rfl) (G 160 _ rfl) fun _ _ _ _ _ _ us hl => match us, hl with | [_, _, _, _], _ => rfl
theorem t161 (c : Hc.Says chk hfn K) (G : ∀ f i, info.lookup f = some i → i.path.2 = none → mg i.path.1 = some (.ref (He.fAd K i.path))) : FnT K mg ⟨("Program", some "__init__"), ["self", "lengths", "functions", "steps"], []⟩ "__init__" "Program.__init__" s161 :=
  fnT0 rfl (c.def_ 76 (d := e161) rfl) (G 161 _ rfl) fun _ _ _ _ _ _ us hl => match us, hl with | [_, _, _, _], _ => rfl
theorem t162 (c : Hc.Says chk hfn K) (G : ∀ f i, info.lookup f = some i → i.path.2 = none → mg i.path.1 = some (.ref (He.fAd K i.path))) : FnT K mg ⟨("Source", some "__init__"), ["self", "program", "names", "lines"], []⟩ "__init__" "Source.__init__" s162 :=
  fnT0 rfl (c.def_ 77 (d := e162) rfl) (G 162 _ rfl) fun _ _ _ _ _ _ us hl => match us, hl with | [_, _, _, _], _ => rfl
theorem t163 (c : Hc.Says chk hfn K) (G : ∀ f i, info.lookup f = some i → i.path.2 = none → mg i.path.1 = some (.ref (He.fAd K i.path))) : FnT K mg ⟨("Reading", some "__init__"), ["self"], []⟩ "__init__" "Reading.__init__" s163 :=
  fnT0 rfl (c.def_ 78 (d := e163) rfl) (G 163 _ rfl) fun _ _ _ _ _ _ us hl => match us, hl with | [_], _ => rfl
theorem t500 (c : Hc.Says chk hfn K) (G : ∀ f i, info.lookup f = some i → i.path.2 = none → mg i.path.1 = some (.ref (He.fAd K i.path))) : FnT K mg ⟨("_law_tape", none), ["script", "k"], []⟩ "_law_tape" "_law_tape" s500 :=
  fnT0 rfl (c.def_ 79 (d := e500) rfl) (G 500 _ rfl) fun _ _ _ _ _ _ us hl => match us, hl with | [_, _], _ => rfl
theorem t501 (c : Hc.Says chk hfn K) (G : ∀ f i, info.lookup f = some i → i.path.2 = none → mg i.path.1 = some (.ref (He.fAd K i.path))) : FnT K mg ⟨("_law_draw", none), ["tape", "many"], []⟩ "_law_draw" "_law_draw" s501 :=
  fnT0 rfl (c.def_ 80 (d := e501) rfl) (G 501 _ rfl) fun _ _ _ _ _ _ us hl => match us, hl with | [_, _], _ => rfl
theorem t502 (c : Hc.Says chk hfn K) (G : ∀ f i, info.lookup f = some i → i.path.2 = none → mg i.path.1 = some (.ref (He.fAd K i.path))) : FnT K mg ⟨("_law_is_one", none), ["form", "at"], []⟩ "_law_is_one" "_law_is_one" s502 :=
  fnT0 rfl (c.def_ 81 (d := e502) rfl) (G 502 _ rfl) fun _ _ _ _ _ _ us hl => match us, hl with | [_, _], _ => rfl
theorem t503 (c : Hc.Says chk hfn K) (G : ∀ f i, info.lookup f = some i → i.path.2 = none → mg i.path.1 = some (.ref (He.fAd K i.path))) : FnT K mg ⟨("_law_by_hand", none), ["tape"], []⟩ "_law_by_hand" "_law_by_hand" s503 :=
  fnT0 rfl (c.def_ 82 (d := e503) rfl) (G 503 _ rfl) fun _ _ _ _ _ _ us hl => match us, hl with | [_], _ => rfl
theorem t504 (c : Hc.Says chk hfn K) (G : ∀ f i, info.lookup f = some i → i.path.2 = none → mg i.path.1 = some (.ref (He.fAd K i.path))) : FnT K mg ⟨("_law_read", none), ["tape"], []⟩ "_law_read" "_law_read" s504 :=
  fnT0 rfl (c.def_ 83 (d := e504) rfl) (G 504 _ rfl) fun _ _ _ _ _ _ us hl => match us, hl with | [_], _ => rfl
theorem t505 (c : Hc.Says chk hfn K) (G : ∀ f i, info.lookup f = some i → i.path.2 = none → mg i.path.1 = some (.ref (He.fAd K i.path))) : FnT K mg ⟨("law", none), ["script"], []⟩ "law" "law" s505 :=
  fnT0 rfl (c.def_ 84 (d := e505) rfl) (G 505 _ rfl) fun _ _ _ _ _ _ us hl => match us, hl with | [_], _ => rfl
theorem lvl (c : Hc.Says chk hfn K) (X : TextG K mg info cs inits news frees nums texts rds ∧ ∀ f i, info.lookup f = some i → i.path.2 = none → mg i.path.1 = some (.ref (He.fAd K i.path))) (hm : ∀ c m f, hereB K c = true → mtab c m = some f → ∃ i, info.lookup f = some i ∧ i.path = fpath f) :
    ∀ n, CallsG P w K mg base n (callF tbl78 n) info ∧ CallsG P w K mg base (n + 1) (callF tbl78 (n + 1)) info
  | 0 => by
    refine ⟨fun f i e => AllL.at (Q := fun f i => FnC P w K mg base 0 (callF tbl78 0 f) i) ?_ e, fun f i e => AllL.at (Q := fun f i => FnC P w K mg base 1 (callF tbl78 1 f) i) ?_ e⟩
    · exact ⟨lvl0 (fun _ _ => rfl) (t0 c X.2) rfl,
      lvl0 (fun _ _ => rfl) (t1 c X.2) rfl,
      lvl0 (fun _ _ => rfl) (t2 c X.2) rfl,
      lvl0 (fun _ _ => rfl) (t3 c X.2) rfl,
      lvl0 (fun _ _ => rfl) (t4 c X.2) rfl,
      lvl0 (fun _ _ => rfl) (t5 c X.2) rfl,
      lvl0 (fun _ _ => rfl) (t6 c X.2) rfl,
      lvl0 (fun _ _ => rfl) (t7 c X.2) rfl,
      lvl0 (fun _ _ => rfl) (t8 c X.2) rfl,
      lvl0 (fun _ _ => rfl) (t9 c X.2) rfl,
      lvl0 (fun _ _ => rfl) (t10 c X.2) rfl,
      lvl0 (fun _ _ => rfl) (t11 c X.2) rfl,
      lvl0 (fun _ _ => rfl) (t12 c X.2) rfl,
      lvl0 (fun _ _ => rfl) (t13 c X.2) rfl,
      lvl0 (fun _ _ => rfl) (t14 c X.2) rfl,
      lvl0 (fun _ _ => rfl) (t15 c X.2) rfl,
      lvl0 (fun _ _ => rfl) (t16 c X.2) rfl,
      lvl0 (fun _ _ => rfl) (t17 c X.2) rfl,
      lvl0 (fun _ _ => rfl) (t18 c X.2) rfl,
      lvl0 (fun _ _ => rfl) (t19 c X.2) rfl,
      lvl0 (fun _ _ => rfl) (t20 c X.2) rfl,
      lvl0 (fun _ _ => rfl) (t21 c X.2) rfl,
      lvl0 (fun _ _ => rfl) (t22 c X.2) rfl,
      lvl0 (fun _ _ => rfl) (t23 c X.2) rfl,
      lvl0 (fun _ _ => rfl) (t24 c X.2) rfl,
      lvl0 (fun _ _ => rfl) (t25 c X.2) rfl,
      lvl0 (fun _ _ => rfl) (t26 c X.2) rfl,
      lvl0 (fun _ _ => rfl) (t27 c X.2) rfl,
      lvl0 (fun _ _ => rfl) (t28 c X.2) rfl,
      lvl0 (fun _ _ => rfl) (t29 c X.2) rfl,
      lvl0 (fun _ _ => rfl) (t30 c X.2) rfl,
      lvl0 (fun _ _ => rfl) (t31 c X.2) rfl,
      lvl0 (fun _ _ => rfl) (t32 c X.2) rfl,
      lvl0 (fun _ _ => rfl) (t33 c X.2) rfl,
      lvl0 (fun _ _ => rfl) (t34 c X.2) rfl,
      lvl0 (fun _ _ => rfl) (t35 c X.2) rfl,
      lvl0 (fun _ _ => rfl) (t36 c X.2) rfl,
      lvl0 (fun _ _ => rfl) (t37 c X.2) rfl,
      lvl0 (fun _ _ => rfl) (t122 c X.2) rfl,
      lvl0 (fun _ _ => rfl) (t124 c X.2) rfl,
      lvl0 (fun _ _ => rfl) (t125 c X.2) rfl,
      lvl0 (fun _ _ => rfl) (t126 c X.2) rfl,
      lvl0 (fun _ _ => rfl) (t127 c X.2) rfl,
      lvl0 (fun _ _ => rfl) (t128 c X.2) rfl,
      lvl0 (fun _ _ => rfl) (t129 c X.2) rfl,
      lvl0 (fun _ _ => rfl) (t130 c X.2) rfl,
      lvl0 (fun _ _ => rfl) (t131 c X.2) rfl,
      lvl0 (fun _ _ => rfl) (t132 c X.2) rfl,
      lvl0 (fun _ _ => rfl) (t133 c X.2) rfl,
      lvl0 (fun _ _ => rfl) (t134 c X.2) rfl,
      lvl0 (fun _ _ => rfl) (t135 c X.2) rfl,
      lvl0 (fun _ _ => rfl) (t136 c X.2) rfl,
      lvl0 (fun _ _ => rfl) (t137 c X.2) rfl,
      lvl0 (fun _ _ => rfl) (t138 c X.2) rfl,
      lvl0 (fun _ _ => rfl) (t139 c X.2) rfl,
      lvl0 (fun _ _ => rfl) (t140 c X.2) rfl,
      lvl0 (fun _ _ => rfl) (t141 c X.2) rfl,
      lvl0 (fun _ _ => rfl) (t142 c X.2) rfl,
      lvl0 (fun _ _ => rfl) (t143 c X.2) rfl,
      lvl0 (fun _ _ => rfl) (t144 c X.2) rfl,
      lvl0 (fun _ _ => rfl) (t145 c X.2) rfl,
      lvl0 (fun _ _ => rfl) (t146 c X.2) rfl,
      lvl0 (fun _ _ => rfl) (t147 c X.2) rfl,
      lvl0 (fun _ _ => rfl) (t148 c X.2) rfl,
      lvl0 (fun _ _ => rfl) (t149 c X.2) rfl,
      lvl0 (fun _ _ => rfl) (t150 c X.2) rfl,
      lvl0 (fun _ _ => rfl) (t151 c X.2) rfl,
      lvl0 (fun _ _ => rfl) (t152 c X.2) rfl,
      lvl0 (fun _ _ => rfl) (t153 c X.2) rfl,
      lvl0 (fun _ _ => rfl) (t154 c X.2) rfl,
      lvl0 (fun _ _ => rfl) (t155 c X.2) rfl,
      lvl0 (fun _ _ => rfl) (t156 c X.2) rfl,
      lvl0 (fun _ _ => rfl) (t157 c X.2) rfl,
      lvl0 (fun _ _ => rfl) (t158 c X.2) rfl,
      lvl0 (fun _ _ => rfl) (t159 c X.2) rfl,
      lvl0 (fun _ _ => rfl) (t160 c X.2) rfl,
      lvl0 (fun _ _ => rfl) (t161 c X.2) rfl,
      lvl0 (fun _ _ => rfl) (t162 c X.2) rfl,
      lvl0 (fun _ _ => rfl) (t163 c X.2) rfl,
      lvl0 (fun _ _ => rfl) (t500 c X.2) rfl,
      lvl0 (fun _ _ => rfl) (t501 c X.2) rfl,
      lvl0 (fun _ _ => rfl) (t502 c X.2) rfl,
      lvl0 (fun _ _ => rfl) (t503 c X.2) rfl,
      lvl0 (fun _ _ => rfl) (t504 c X.2) rfl,
      lvl0 (fun _ _ => rfl) (t505 c X.2) rfl, trivial⟩
    · exact ⟨lvl0 (fun _ _ => rfl) (t0 c X.2) rfl,
      lvl0 (fun _ _ => rfl) (t1 c X.2) rfl,
      lvl0 (fun _ _ => rfl) (t2 c X.2) rfl,
      lvl0 (fun _ _ => rfl) (t3 c X.2) rfl,
      lvl0 (fun _ _ => rfl) (t4 c X.2) rfl,
      lvl0 (fun _ _ => rfl) (t5 c X.2) rfl,
      lvl0 (fun _ _ => rfl) (t6 c X.2) rfl,
      lvl0 (fun _ _ => rfl) (t7 c X.2) rfl,
      lvl0 (fun _ _ => rfl) (t8 c X.2) rfl,
      lvl0 (fun _ _ => rfl) (t9 c X.2) rfl,
      lvl0 (fun _ _ => rfl) (t10 c X.2) rfl,
      lvl0 (fun _ _ => rfl) (t11 c X.2) rfl,
      lvl0 (fun _ _ => rfl) (t12 c X.2) rfl,
      lvl0 (fun _ _ => rfl) (t13 c X.2) rfl,
      lvl0 (fun _ _ => rfl) (t14 c X.2) rfl,
      lvl0 (fun _ _ => rfl) (t15 c X.2) rfl,
      lvl0 (fun _ _ => rfl) (t16 c X.2) rfl,
      lvl0 (fun _ _ => rfl) (t17 c X.2) rfl,
      lvl0 (fun _ _ => rfl) (t18 c X.2) rfl,
      lvl0 (fun _ _ => rfl) (t19 c X.2) rfl,
      lvl0 (fun _ _ => rfl) (t20 c X.2) rfl,
      lvl0 (fun _ _ => rfl) (t21 c X.2) rfl,
      lvl0 (fun _ _ => rfl) (t22 c X.2) rfl,
      lvl0 (fun _ _ => rfl) (t23 c X.2) rfl,
      lvl0 (fun _ _ => rfl) (t24 c X.2) rfl,
      lvl0 (fun _ _ => rfl) (t25 c X.2) rfl,
      lvl0 (fun _ _ => rfl) (t26 c X.2) rfl,
      lvl0 (fun _ _ => rfl) (t27 c X.2) rfl,
      lvl0 (fun _ _ => rfl) (t28 c X.2) rfl,
      lvl0 (fun _ _ => rfl) (t29 c X.2) rfl,
      lvl0 (fun _ _ => rfl) (t30 c X.2) rfl,
      lvl0 (fun _ _ => rfl) (t31 c X.2) rfl,
      lvl0 (fun _ _ => rfl) (t32 c X.2) rfl,
      lvl0 (fun _ _ => rfl) (t33 c X.2) rfl,
      lvl0 (fun _ _ => rfl) (t34 c X.2) rfl,
      lvl0 (fun _ _ => rfl) (t35 c X.2) rfl,
      lvl0 (fun _ _ => rfl) (t36 c X.2) rfl,
      lvl0 (fun _ _ => rfl) (t37 c X.2) rfl,
      lvl0 (fun _ _ => rfl) (t122 c X.2) rfl,
      lvl0 (fun _ _ => rfl) (t124 c X.2) rfl,
      lvl0 (fun _ _ => rfl) (t125 c X.2) rfl,
      lvl0 (fun _ _ => rfl) (t126 c X.2) rfl,
      lvl0 (fun _ _ => rfl) (t127 c X.2) rfl,
      lvl0 (fun _ _ => rfl) (t128 c X.2) rfl,
      lvl0 (fun _ _ => rfl) (t129 c X.2) rfl,
      lvl0 (fun _ _ => rfl) (t130 c X.2) rfl,
      lvl0 (fun _ _ => rfl) (t131 c X.2) rfl,
      lvl0 (fun _ _ => rfl) (t132 c X.2) rfl,
      lvl0 (fun _ _ => rfl) (t133 c X.2) rfl,
      lvl0 (fun _ _ => rfl) (t134 c X.2) rfl,
      lvl0 (fun _ _ => rfl) (t135 c X.2) rfl,
      lvl0 (fun _ _ => rfl) (t136 c X.2) rfl,
      lvl0 (fun _ _ => rfl) (t137 c X.2) rfl,
      lvl0 (fun _ _ => rfl) (t138 c X.2) rfl,
      lvl0 (fun _ _ => rfl) (t139 c X.2) rfl,
      lvl0 (fun _ _ => rfl) (t140 c X.2) rfl,
      lvl0 (fun _ _ => rfl) (t141 c X.2) rfl,
      lvl0 (fun _ _ => rfl) (t142 c X.2) rfl,
      lvl0 (fun _ _ => rfl) (t143 c X.2) rfl,
      lvl0 (fun _ _ => rfl) (t144 c X.2) rfl,
      lvl0 (fun _ _ => rfl) (t145 c X.2) rfl,
      lvl0 (fun _ _ => rfl) (t146 c X.2) rfl,
      lvl0 (fun _ _ => rfl) (t147 c X.2) rfl,
      lvl0 (fun _ _ => rfl) (t148 c X.2) rfl,
      lvl0 (fun _ _ => rfl) (t149 c X.2) rfl,
      lvl0 (fun _ _ => rfl) (t150 c X.2) rfl,
      lvl0 (fun _ _ => rfl) (t151 c X.2) rfl,
      lvl0 (fun _ _ => rfl) (t152 c X.2) rfl,
      lvl0 (fun _ _ => rfl) (t153 c X.2) rfl,
      lvl0 (fun _ _ => rfl) (t154 c X.2) rfl,
      lvl0 (fun _ _ => rfl) (t155 c X.2) rfl,
      lvl0 (fun _ _ => rfl) (t156 c X.2) rfl,
      lvl0 (fun _ _ => rfl) (t157 c X.2) rfl,
      lvl0 (fun _ _ => rfl) (t158 c X.2) rfl,
      lvl0 (fun _ _ => rfl) (t159 c X.2) rfl,
      lvl0 (fun _ _ => rfl) (t160 c X.2) rfl,
      lvl0 (fun _ _ => rfl) (t161 c X.2) rfl,
      lvl0 (fun _ _ => rfl) (t162 c X.2) rfl,
      lvl0 (fun _ _ => rfl) (t163 c X.2) rfl,
      lvl0 (fun _ _ => rfl) (t500 c X.2) rfl,
      lvl0 (fun _ _ => rfl) (t501 c X.2) rfl,
      lvl0 (fun _ _ => rfl) (t502 c X.2) rfl,
      lvl0 (fun _ _ => rfl) (t503 c X.2) rfl,
      lvl0 (fun _ _ => rfl) (t504 c X.2) rfl,
      lvl0 (fun _ _ => rfl) (t505 c X.2) rfl, trivial⟩
  | n + 1 => by
    obtain ⟨G0, G1⟩ := lvl c X hm n
    have Y : Yx P w K mg base n (callF tbl78 (n + 1)) (callF tbl78 n) := ⟨G1, G0, mtg_of G1 hm⟩
    refine ⟨G1, fun f i e => AllL.at (Q := fun f i => FnC P w K mg base (n + 2) (callF tbl78 (n + 2) f) i) ?_ e⟩
    exact ⟨lvlS (d := d_kept) (t0 c X.2) rfl sc0 rfl rfl (fun f cd A outer s H E hr => v0 X.1 Y hr),
      lvlS (d := d_divided) (t1 c X.2) rfl sc1 rfl rfl (fun f cd A outer s H E hr => v1 X.1 Y hr),
      lvlS (d := d_by_bits) (t2 c X.2) rfl sc2 rfl rfl (fun f cd A outer s H E hr => v2 X.1 Y hr),
      lvlS (d := d_done) (t3 c X.2) rfl sc3 rfl rfl (fun f cd A outer s H E hr => v3 X.1 Y hr),
      lvlS (d := d_start_of) (t4 c X.2) rfl sc4 rfl rfl (fun f cd A outer s H E hr => v4 X.1 Y hr),
      lvlS (d := d_row_cell) (t5 c X.2) rfl sc5 rfl rfl (fun f cd A outer s H E hr => v5 X.1 Y hr),
      lvlS (d := d_words_of) (t6 c X.2) rfl sc6 rfl rfl (fun f cd A outer s H E hr => v6 X.1 Y hr),
      lvlS (d := d_sign_word) (t7 c X.2) rfl sc7 rfl rfl (fun f cd A outer s H E hr => v7 X.1 Y hr),
      lvlS (d := d_fold_word) (t8 c X.2) rfl sc8 rfl rfl (fun f cd A outer s H E hr => v8 X.1 Y hr),
      lvlS (d := d_kept_word) (t9 c X.2) rfl sc9 rfl rfl (fun f cd A outer s H E hr => v9 X.1 Y hr),
      lvlS (d := d_name_like) (t10 c X.2) rfl sc10 rfl rfl (fun f cd A outer s H E hr => v10 X.1 Y hr),
      lvlS (d := d_number_of) (t11 c X.2) rfl sc11 rfl rfl (fun f cd A outer s H E hr => v11 X.1 Y hr),
      lvlS (d := d_take_number) (t12 c X.2) rfl sc12 rfl rfl (fun f cd A outer s H E hr => v12 X.1 Y hr),
      lvlS (d := d_take_name) (t13 c X.2) rfl sc13 rfl rfl (fun f cd A outer s H E hr => v13 X.1 Y hr),
      lvlS (d := d_take_new) (t14 c X.2) rfl sc14 rfl rfl (fun f cd A outer s H E hr => v14 X.1 Y hr),
      lvlS (d := d_take_fold) (t15 c X.2) rfl sc15 rfl rfl (fun f cd A outer s H E hr => v15 X.1 Y hr),
      lvlS (d := d_take_form) (t16 c X.2) rfl sc16 rfl rfl (fun f cd A outer s H E hr => v16 X.1 Y hr),
      lvlS (d := d_take_inner) (t17 c X.2) rfl sc17 rfl rfl (fun f cd A outer s H E hr => v17 X.1 Y hr),
      lvlS (d := d_parts_of) (t18 c X.2) rfl sc18 rfl rfl (fun f cd A outer s H E hr => v18 X.1 Y hr),
      lvlS (d := d_size_of) (t19 c X.2) rfl sc19 rfl rfl (fun f cd A outer s H E hr => v19 X.1 Y hr),
      lvlS (d := d_depth_of) (t20 c X.2) rfl sc20 rfl rfl (fun f cd A outer s H E hr => v20 X.1 Y hr),
      lvlS (d := d_forms_in) (t21 c X.2) rfl sc21 rfl rfl (fun f cd A outer s H E hr => v21 X.1 Y hr),
      lvlS (d := d_all_within) (t22 c X.2) rfl sc22 rfl rfl (fun f cd A outer s H E hr => v22 X.1 Y hr),
      lvlS (d := d_uneven) (t23 c X.2) rfl sc23 rfl rfl (fun f cd A outer s H E hr => v23 X.1 Y hr),
      lvlS (d := d_crossed) (t24 c X.2) rfl sc24 rfl rfl (fun f cd A outer s H E hr => v24 X.1 Y hr),
      lvlS (d := d_hold_forms) (t25 c X.2) rfl sc25 rfl rfl (fun f cd A outer s H E hr => v25 X.1 Y hr),
      lvlS (d := d_read_row) (t26 c X.2) rfl sc26 rfl rfl (fun f cd A outer s H E hr => v26 X.1 Y hr),
      lvlS (d := d_read_def) (t27 c X.2) rfl sc27 rfl rfl (fun f cd A outer s H E hr => v27 X.1 Y hr),
      lvlS (d := d_read_till) (t28 c X.2) rfl sc28 rfl rfl (fun f cd A outer s H E hr => v28 X.1 Y hr),
      lvlS (d := d_read_end) (t29 c X.2) rfl sc29 rfl rfl (fun f cd A outer s H E hr => v29 X.1 Y hr),
      lvlS (d := d_take_test) (t30 c X.2) rfl sc30 rfl rfl (fun f cd A outer s H E hr => v30 X.1 Y hr),
      lvlS (d := d_take_let) (t31 c X.2) rfl sc31 rfl rfl (fun f cd A outer s H E hr => v31 X.1 Y hr),
      lvlS (d := d_take_put) (t32 c X.2) rfl sc32 rfl rfl (fun f cd A outer s H E hr => v32 X.1 Y hr),
      lvlS (d := d_take_folded) (t33 c X.2) rfl sc33 rfl rfl (fun f cd A outer s H E hr => v33 X.1 Y hr),
      lvlS (d := d_take_running) (t34 c X.2) rfl sc34 rfl rfl (fun f cd A outer s H E hr => v34 X.1 Y hr),
      lvlS (d := d_read_step) (t35 c X.2) rfl sc35 rfl rfl (fun f cd A outer s H E hr => v35 X.1 Y hr),
      lvlS (d := d_read_line) (t36 c X.2) rfl sc36 rfl rfl (fun f cd A outer s H E hr => v36 X.1 Y hr),
      lvlS (d := d_read) (t37 c X.2) rfl sc37 rfl rfl (fun f cd A outer s H E hr => v37 X.1 Y hr),
      lvlS (d := d_LineError_init) (t122 c X.2) rfl sc122 rfl rfl (fun f cd A outer s H E hr => v122 X.1 Y hr),
      lvlS (d := d_Spot_init) (t124 c X.2) rfl sc124 rfl rfl (fun f cd A outer s H E hr => v124 X.1 Y hr),
      lvlS (d := d_Form_worth) (t125 c X.2) rfl sc125 rfl rfl (fun f cd A outer s H E hr => v125 X.1 Y hr),
      lvlS (d := d_Number_init) (t126 c X.2) rfl sc126 rfl rfl (fun f cd A outer s H E hr => v126 X.1 Y hr),
      lvlS (d := d_Number_worth) (t127 c X.2) rfl sc127 rfl rfl (fun f cd A outer s H E hr => v127 X.1 Y hr),
      lvlS (d := d_Here_worth) (t128 c X.2) rfl sc128 rfl rfl (fun f cd A outer s H E hr => v128 X.1 Y hr),
      lvlS (d := d_Cell_init) (t129 c X.2) rfl sc129 rfl rfl (fun f cd A outer s H E hr => v129 X.1 Y hr),
      lvlS (d := d_Cell_worth) (t130 c X.2) rfl sc130 rfl rfl (fun f cd A outer s H E hr => v130 X.1 Y hr),
      lvlS (d := d_Shifted_init) (t131 c X.2) rfl sc131 rfl rfl (fun f cd A outer s H E hr => v131 X.1 Y hr),
      lvlS (d := d_Shifted_worth) (t132 c X.2) rfl sc132 rfl rfl (fun f cd A outer s H E hr => v132 X.1 Y hr),
      lvlS (d := d_Local_init) (t133 c X.2) rfl sc133 rfl rfl (fun f cd A outer s H E hr => v133 X.1 Y hr),
      lvlS (d := d_Local_worth) (t134 c X.2) rfl sc134 rfl rfl (fun f cd A outer s H E hr => v134 X.1 Y hr),
      lvlS (d := d_At_init) (t135 c X.2) rfl sc135 rfl rfl (fun f cd A outer s H E hr => v135 X.1 Y hr),
      lvlS (d := d_At_worth) (t136 c X.2) rfl sc136 rfl rfl (fun f cd A outer s H E hr => v136 X.1 Y hr),
      lvlS (d := d_Pair_init) (t137 c X.2) rfl sc137 rfl rfl (fun f cd A outer s H E hr => v137 X.1 Y hr),
      lvlS (d := d_Pair_worth) (t138 c X.2) rfl sc138 rfl rfl (fun f cd A outer s H E hr => v138 X.1 Y hr),
      lvlS (d := d_Choice_init) (t139 c X.2) rfl sc139 rfl rfl (fun f cd A outer s H E hr => v139 X.1 Y hr),
      lvlS (d := d_Choice_worth) (t140 c X.2) rfl sc140 rfl rfl (fun f cd A outer s H E hr => v140 X.1 Y hr),
      lvlS (d := d_Call_init) (t141 c X.2) rfl sc141 rfl rfl (fun f cd A outer s H E hr => v141 X.1 Y hr),
      lvlS (d := d_Call_worth) (t142 c X.2) rfl sc142 rfl rfl (fun f cd A outer s H E hr => v142 X.1 Y hr),
      lvlS (d := d_Known_init) (t143 c X.2) rfl sc143 rfl rfl (fun f cd A outer s H E hr => v143 X.1 Y hr),
      lvlS (d := d_Taker_init) (t144 c X.2) rfl sc144 rfl rfl (fun f cd A outer s H E hr => v144 X.1 Y hr),
      lvlS (d := d_Taker_word) (t145 c X.2) rfl sc145 rfl rfl (fun f cd A outer s H E hr => v145 X.1 Y hr),
      lvlS (d := d_Taker_pass_on) (t146 c X.2) rfl sc146 rfl rfl (fun f cd A outer s H E hr => v146 X.1 Y hr),
      lvlS (d := d_Taker_meet) (t147 c X.2) rfl sc147 rfl rfl (fun f cd A outer s H E hr => v147 X.1 Y hr),
      lvlS (d := d_Taker_go_in) (t148 c X.2) rfl sc148 rfl rfl (fun f cd A outer s H E hr => v148 X.1 Y hr),
      lvlS (d := d_Taker_go_out) (t149 c X.2) rfl sc149 rfl rfl (fun f cd A outer s H E hr => v149 X.1 Y hr),
      lvlS (d := d_Taker_ended) (t150 c X.2) rfl sc150 rfl rfl (fun f cd A outer s H E hr => v150 X.1 Y hr),
      lvlS (d := d_Taker_finish) (t151 c X.2) rfl sc151 rfl rfl (fun f cd A outer s H E hr => v151 X.1 Y hr),
      lvlS (d := d_Step_init) (t152 c X.2) rfl sc152 rfl rfl (fun f cd A outer s H E hr => v152 X.1 Y hr),
      lvlS (d := d_Step_many_of) (t153 c X.2) rfl sc153 rfl rfl (fun f cd A outer s H E hr => v153 X.1 Y hr),
      lvlS (d := d_Let_init) (t154 c X.2) rfl sc154 rfl rfl (fun f cd A outer s H E hr => v154 X.1 Y hr),
      lvlS (d := d_Put_init) (t155 c X.2) rfl sc155 rfl rfl (fun f cd A outer s H E hr => v155 X.1 Y hr),
      lvlS (d := d_Put_many_of) (t156 c X.2) rfl sc156 rfl rfl (fun f cd A outer s H E hr => v156 X.1 Y hr),
      lvlS (d := d_Fold_init) (t157 c X.2) rfl sc157 rfl rfl (fun f cd A outer s H E hr => v157 X.1 Y hr),
      lvlS (d := d_Fold_many_of) (t158 c X.2) rfl sc158 rfl rfl (fun f cd A outer s H E hr => v158 X.1 Y hr),
      lvlS (d := d_Running_init) (t159 c X.2) rfl sc159 rfl rfl (fun f cd A outer s H E hr => v159 X.1 Y hr),
      lvlS (d := d_Till_init) (t160 c X.2) rfl sc160 rfl rfl (fun f cd A outer s H E hr => v160 X.1 Y hr),
      lvlS (d := d_Program_init) (t161 c X.2) rfl sc161 rfl rfl (fun f cd A outer s H E hr => v161 X.1 Y hr),
      lvlS (d := d_Source_init) (t162 c X.2) rfl sc162 rfl rfl (fun f cd A outer s H E hr => v162 X.1 Y hr),
      lvlS (d := d_Reading_init) (t163 c X.2) rfl sc163 rfl rfl (fun f cd A outer s H E hr => v163 X.1 Y hr),
      lvlS (d := d_law_tape) (t500 c X.2) rfl sc500 rfl rfl (fun f cd A outer s H E hr => v500 X.1 Y hr),
      lvlS (d := d_law_draw) (t501 c X.2) rfl sc501 rfl rfl (fun f cd A outer s H E hr => v501 X.1 Y hr),
      lvlS (d := d_law_is_one) (t502 c X.2) rfl sc502 rfl rfl (fun f cd A outer s H E hr => v502 X.1 Y hr),
      lvlS (d := d_law_by_hand) (t503 c X.2) rfl sc503 rfl rfl (fun f cd A outer s H E hr => v503 X.1 Y hr),
      lvlS (d := d_law_read) (t504 c X.2) rfl sc504 rfl rfl (fun f cd A outer s H E hr => v504 X.1 Y hr),
      lvlS (d := d_law) (t505 c X.2) rfl sc505 rfl rfl (fun f cd A outer s H E hr => v505 X.1 Y hr), trivial⟩
end
theorem facts {P : Program} {w : World} {K : PySem.W.Frag} {h : Heap} {mg : Str → Option Value} {fa : Addr} (n : Nat) (X : K.In h) (G : h.Ns mainGlobals mg) (hfa : mg ("law" : Str) = some (.ref fa)) (c : Hc.Says chk hfn K) :
    ∃ fd : FuncData, (∀ (s : Shared) (u : Value), BindsTo s fd ⟨[u], []⟩ [("script", u)]) ∧ ∀ base : Heap, FnOk P w K mg base CX0 n fa fd ["script"] (fun vs H Q _ => spOf K (callF tbl78 n 505) 1 vs H Q fun _ _ _ => False) := by
  obtain ⟨c1, c2⟩ := He.ba c.fact
  have T := textB_ok X G c1
  have hm := mts_of c2 mts
  have e := (T.2 505 _ rfl rfl).symm.trans hfa
  have e2 : He.fAd K ("law", none) = fa := by
    have e3 := Option.some.inj e
    injection e3
  obtain ⟨fd, F0⟩ := c.def_ 84 (d := e505) rfl
  refine ⟨fd, binds_law (name := "law") (qual := "law") (st := s505) F0 "script" (fun _ _ _ _ _ _ us hl => match us, hl with | [_], _ => rfl), fun base => ?_⟩
  have C := (lvl (P := P) (w := w) (base := base) c T hm n).1 505 _ rfl
  obtain ⟨fd1, ds, F1, _, _, oc, od, osl, lk⟩ := (C.at_ 0).ex
  obtain ⟨oc2, od2, _, _, _, _, _, _, _, osl2, _, lk2, _⟩ := id F0.ex
  have e4 : some (⟨oc, od, .func fd1, osl⟩ : Obj) = some ⟨oc2, od2, .func fd, osl2⟩ := lk.symm.trans lk2
  have e5 : fd1 = fd := by
    injection e4 with e4
    injection e4 with _ _ e4 _
    injection e4
  subst e5 e2
  exact noexc F1
end V78
open PySem PySem.W PySem.Calls PyProof.Rows
theorem V78.holds (N : Nat) (hN : L2.Room N callerA) (hp : ∀ ns : List Int, ns.length ≤ 63 → ∃ h', DD.callF DD.tbl78 N 505 [.lst (ns.map DD.LV.int)] [] = .ok (.bl true) h') : PySem.Challenge.rw_rowbreadth_k78_forms_of_one_class.Holds := by
  w_on; o_law
  refine HandSHeadRun.head_any (r := OpenLaw.row PySem.Challenge.rw_rowbreadth_k78_forms_of_one_class) (q := view (OpenLaw.row PySem.Challenge.rw_rowbreadth_k78_forms_of_one_class).prog [91]) (H := V78.hk) (ob := V78.ob) (M := 20000) (loose := V78.loose) (d := HandSHeadRun.topDef (OpenLaw.row PySem.Challenge.rw_rowbreadth_k78_forms_of_one_class).prog 91) (kwd := []) V78.ob_eq
    (by kernel_rfl) (fun s => by kernel_rfl) V78.run (by kernel_rfl) (by kernel_rfl) (by kernel_rfl) (by rfl) (by first | assumption | decide +kernel) (by decide +kernel) ⟨rfl, rfl, rfl, rfl, rfl, by decide +kernel⟩ ?hw ?hc
  case hw => w_witness2
  case hc =>
    refine L2.walk_ofE (l := PySem.Challenge.rw_rowbreadth_k78_forms_of_one_class) (n := 63) (k := N) (x := "script") (CX := L2.CX0) rfl (by decide) (by kernel_rfl) hN ?F (fun _ _ _ _ z => z)
    intro w mg fa h Y G hmg0
    obtain ⟨K, KX, c⟩ := Y
    have hmg : mg ("law" : PySem.Str) = some (.ref fa) := by
      have e : (HandSHeadRun.topDef (OpenLaw.row PySem.Challenge.rw_rowbreadth_k78_forms_of_one_class).prog 91).name = ("law" : PySem.Str) := by kernel_rfl
      rw [← e]
      exact hmg0
    obtain ⟨fd, hb, hF⟩ := V78.facts (P := (PySem.Challenge.rw_rowbreadth_k78_forms_of_one_class).prog) (w := w) N KX G hmg c
    refine ⟨K, fd, _, KX, hb, fun H a ns hl _ hS => ?_, fun base _ _ => hF base⟩
    obtain ⟨h', e⟩ := hp ns hl
    exact DD.law_start hS e
end
section
set_option Elab.async false
set_option linter.all false
set_option maxRecDepth 1000000
set_option maxHeartbeats 4000000
namespace DD
open PySem PySem.Spec PyProof.Rows L2

theorem call2 {tbl : Nat → Option FD} {n f : Nat} {d : FD} (e : tbl f = some d) (xs : List LV) (h : LH) : callF tbl (n + 2) f xs h = runF d (callF tbl (n + 1)) (callF tbl n) xs h := by
  show (match tbl f with
    | some d => runF d (callF tbl (n + 1)) (callF tbl n) xs h
    | none => .bad) = _
  rw [e]
theorem atI0 {A : Type} (x : A) (r : List A) : L2.atI (x :: r) (0 : Int) = some x := by
  unfold L2.atI L2.ixN
  simp
/-- the three numbers that a tape holds -/
def tp (a b c : Int) : MO := .lst [.int a, .int b, .int c]
theorem atI_0 (x y z : LV) : L2.atI [x, y, z] (0 : Int) = some x := rfl
theorem atI_1 (x y z : LV) : L2.atI [x, y, z] (1 : Int) = some y := rfl
theorem atI_2 (x y z : LV) : L2.atI [x, y, z] (2 : Int) = some z := rfl
theorem ix_0 : L2.ixN 3 (0 : Int) = some 0 := rfl
theorem ix_2 : L2.ixN 3 (2 : Int) = some 2 := rfl
theorem divOk_s {j : Int} (h : 0 < j) (h2 : j < 2 ^ 30) : divOk j = true := by
  unfold divOk
  rw [Bool.and_eq_true]
  refine ⟨decide_eq_true h, decide_eq_true ?_⟩
  have : j.natAbs < 2 ^ 30 := by omega
  by_cases hz : j.natAbs = 0
  · rw [hz]; decide
  · have := (Nat.log2_lt hz).mpr this
    omega
theorem mulOk_r {i j : Int} (h : -(2 ^ 64) < j ∧ j < 2 ^ 64) : mulOk i j = true := by
  unfold mulOk
  rw [Bool.or_eq_true, Bool.or_eq_true]
  exact .inl (.inr (decide_eq_true h))
theorem mulOk_l {i j : Int} (h : -(2 ^ 64) < i ∧ i < 2 ^ 64) : mulOk i j = true := by
  unfold mulOk
  rw [Bool.or_eq_true, Bool.or_eq_true]
  exact .inl (.inl (decide_eq_true h))
theorem draw_run (n : Nat) (a b c m : Int) (ha : 0 ≤ a) (hb : 0 ≤ b) (hb2 : b < 2 ^ 62) (hc : 0 ≤ c) (hc2 : c < 2 ^ 40) (hm : 0 < m) (hm2 : m < 2 ^ 30) :
    ∃ r a' c', callF tbl78 (n + 2) 501 [.ptr 0, .int m] [tp a b c] = .ok (.int r) [tp a' b c'] ∧ 0 ≤ r ∧ r < m ∧ 0 ≤ a' ∧ c ≤ c' ∧ c' ≤ c + 1 := by
  rw [call2 (d := d_law_draw) rfl]
  by_cases h : 0 < a
  · refine ⟨a % m, a / m, c, ?_, Int.emod_nonneg _ (by omega), Int.emod_lt_of_pos _ hm, Int.ediv_nonneg ha (by omega), by omega, by omega⟩
    simp [runF, d_law_draw, b_law_draw, sSeq, sIf, onBS, sbn, eB, bnd, eV, eC, lft, fIx, seqOf, tp, atI_0, fGt, h, sSet, fMod, hm, sSetIx, fSetIx, ix_0, fDiv, divOk_s hm hm2, sRet, outOf]
  · have ha0 : a = 0 := by omega
    subst ha0
    have key : ∀ t : Int, 0 ≤ t % m ∧ t % m < m := fun t => ⟨Int.emod_nonneg _ (by omega), Int.emod_lt_of_pos _ hm⟩
    refine ⟨((((b + 39373 * (c + 1)) ^ 5 % 2147483647 + (c + 1)) * ((b + 39373 * (c + 1)) ^ 5 % 2147483647 % 40009 + 7 + (c + 1)) % 2147483629) * 48271 + (b + 39373 * (c + 1)) ^ 5 % 2147483647) % 2147483587 / 64 % m, 0, c + 1, ?_, (key _).1, (key _).2, by omega, by omega, by omega⟩
    have e1 : (b + 39373 * (c + 1)).natAbs < 2 ^ 64 := by omega
    have e2 : mulOk 39373 (c + 1) = true := mulOk_l (by decide)
    have e3 : ∀ z : Int, mulOk (z % 2147483647 + (c + 1)) (z % 2147483647 % 40009 + 7 + (c + 1)) = true := fun z => mulOk_l (by omega)
    have e4 : ∀ z : Int, mulOk z 48271 = true := fun z => mulOk_r (by decide)
    have e5 : divOk 64 = true := divOk_s (by decide) (by decide)
    simp [runF, d_law_draw, b_law_draw, sSeq, sIf, onBS, sbn, eB, bnd, eV, eC, lft, fIx, seqOf, tp, atI_0, atI_1, atI_2, fGt, sSet, fMod, hm, sSetIx, fSetIx, ix_2, fDiv, e5, sRet, outOf, sNop, fAdd, fMul, e2, e3, e4, fPow, e1]
end DD
end
section
set_option Elab.async false
set_option linter.all false
set_option maxRecDepth 1000000
set_option maxHeartbeats 4000000
namespace DD
open PySem PySem.Spec PyProof.Rows L2

theorem frP_tp2 {g : List LV → LH → Out LV} {t : Nat} {m r a b c a' b' c' : Int} {h : LH} (e : h[t]? = some (tp a b c)) (eg : g [.ptr 0, .int m] [tp a b c] = .ok (.int r) [tp a' b' c']) : frP g [.ptr t, .int m] h = .ok (.int r) (h.set t (tp a' b' c')) := by
  have hl : t < h.length := (List.getElem?_eq_some_iff.mp e).1
  have he : h[t] = .lst [.int a, .int b, .int c] := (List.getElem?_eq_some_iff.mp e).2
  have eg2 := eg
  unfold tp at eg2
  simp [he, frP, rootsL, okL, okV, hl, e, inH, renL, renV, renM, tp, okM, eg2, outH, putBack, outI]
theorem frP_tp1 {g : List LV → LH → Out LV} {t : Nat} {v : Bool} {a b c a' b' c' : Int} {h junk : LH} (e : h[t]? = some (tp a b c)) (eg : g [.ptr 0] [tp a b c] = .ok (.bl v) (tp a' b' c' :: junk)) : frP g [.ptr t] h = .ok (.bl v) (h.set t (tp a' b' c') ++ junk.map (renM (outI [t] h.length))) := by
  have hl : t < h.length := (List.getElem?_eq_some_iff.mp e).1
  have he : h[t] = .lst [.int a, .int b, .int c] := (List.getElem?_eq_some_iff.mp e).2
  have eg2 := eg
  unfold tp at eg2
  simp [he, frP, rootsL, okL, okV, hl, e, inH, renL, renV, renM, tp, okM, eg2, outH, putBack, outI]
mutual
theorem renV_ok (f : Nat → Nat) : ∀ x : LV, okV (fun _ => false) x = true → renV f x = x
  | .tup xs, h => by unfold okV at h; unfold renV; rw [renL_ok f xs h]
  | .lst xs, h => by unfold okV at h; unfold renV; rw [renL_ok f xs h]
  | .obj _ xs, h => by unfold okV at h; unfold renV; rw [renL_ok f xs h]
  | .ptr _, h => by unfold okV at h; cases h
  | .non, _ => by unfold renV; rfl
  | .bl _, _ => by unfold renV; rfl
  | .int _, _ => by unfold renV; rfl
  | .str _, _ => by unfold renV; rfl
theorem renL_ok (f : Nat → Nat) : ∀ xs : List LV, okL (fun _ => false) xs = true → renL f xs = xs
  | [], _ => by unfold renL; rfl
  | x :: r, h => by
    unfold okL at h
    rw [Bool.and_eq_true] at h
    unfold renL
    rw [renV_ok f x h.1, renL_ok f r h.2]
end
theorem roots_ok : ∀ xs : List LV, okL (fun _ => false) xs = true → rootsL xs = []
  | [], _ => rfl
  | x :: r, h => by
    unfold okL at h
    rw [Bool.and_eq_true] at h
    have ih := roots_ok r h.2
    cases x with
    | ptr n =>
      have h1 := h.1
      unfold okV at h1
      cases h1
    | _ => unfold rootsL; exact ih
/-- a call that sees nothing of the heap -/
theorem frP_0 {g : List LV → LH → Out LV} {xs : List LV} {x : LV} {h h1 : LH} (ho : okL (fun _ => false) xs = true) (eg : g xs [] = .ok x h1) : frP g xs h = .ok (renV (outI [] h.length) x) (h ++ h1.map (renM (outI [] h.length))) := by
  unfold frP
  rw [roots_ok xs ho]
  have e1 : (okL (fun n => ([] : List Nat).contains n) xs && ([] : List Nat).all fun q => decide (q < h.length) && okM (fun n => ([] : List Nat).contains n) (h.getD q .dead)) = true := by
    simp only [List.all_nil, Bool.and_true, List.contains_nil]
    exact ho
  rw [if_pos e1, renL_ok _ xs ho, show inH [] h = [] from rfl, eg]
  simp [outH, putBack]
/-- _law_is_one of a form that is known -/
theorem one_run (n : Nat) (c : Nat) (fs : List LV) (k : Int) (b : Bool) (h1 : LH) (e : runF d_law_is_one (fun _ _ _ => .bad) (fun _ _ _ => .bad) [.obj c fs, .int k] [] = .ok (.bl b) h1) : callF tbl78 (n + 2) 502 [.obj c fs, .int k] [] = .ok (.bl b) h1 := by
  rw [call2 (d := d_law_is_one) rfl]
  exact e
end DD
end
section
set_option Elab.async false
set_option linter.all false
set_option maxRecDepth 1000000
set_option maxHeartbeats 4000000
namespace DD
open PySem PySem.Spec PyProof.Rows L2

def mkObj (c np : Nat) (xs : List LV) (h : LH) : Out LV := if xs.length = np then .ok (.obj c xs) (h ++ [.dead]) else .bad
theorem frz_make {fi : List LV → LH → Out LV} {c np : Nat} (hi : ∀ xs h p, xs.length = np → h[p]? = some (.ins c []) → fi (.ptr p :: xs) h = .ok .non (h.set p (.ins c xs))) (hb : ∀ x xs h, xs.length ≠ np → fi (x :: xs) h = .bad) (ms : MA) (ρ : Rho) (h : LH) :
    eFrz (eMake fi c ms []) ρ h = bnd (ms ρ h) fun xs h1 => mkObj c np xs h1 := by
  unfold eFrz eU eMake
  cases e : ms ρ h with
  | bad => rfl
  | exc c fs h1 => rfl
  | ok xs h1 =>
    simp only [bnd_ok, List.append_nil]
    unfold mkOut mkObj
    by_cases hl : xs.length = np
    · rw [hi xs (h1 ++ [MO.ins c []]) h1.length hl (by simp), if_pos hl]
      simp [fFrz, lft]
    · rw [hb _ xs _ hl, if_neg hl]
      rfl
theorem bad_run {tbl : Nat → Option FD} {n f : Nat} {d : FD} (e : tbl f = some d) (xs : List LV) (h : LH) (hl : xs.length ≠ d.np) : callF tbl (n + 2) f xs h = .bad := by
  rw [call2 e]
  unfold runF
  rw [if_neg hl]
theorem frz_15 (n : Nat) (ms : MA) (ρ : Rho) (h : LH) : eFrz (eMake (callF tbl78 (n + 2) 126) 15 ms []) ρ h = bnd (ms ρ h) fun xs h1 => mkObj 15 1 xs h1 := by
  refine frz_make (fun xs h p hl hp => ?_) (fun x xs h hl => bad_run (d := d_Number_init) rfl _ _ (by simpa [d_Number_init] using hl)) ms ρ h
  have hq : p < h.length := (List.getElem?_eq_some_iff.mp hp).1
  have hr : h[p] = .ins 15 [] := (List.getElem?_eq_some_iff.mp hp).2
  match xs, hl with
  | [x], _ =>
    rw [call2 (d := d_Number_init) rfl]
    simp [runF, d_Number_init, b_Number_init, sSeq, sFld, sbn, eV, putFld, hq, hr, storeF, outOf]
theorem frz_17 (n : Nat) (ms : MA) (ρ : Rho) (h : LH) : eFrz (eMake (callF tbl78 (n + 2) 129) 17 ms []) ρ h = bnd (ms ρ h) fun xs h1 => mkObj 17 1 xs h1 := by
  refine frz_make (fun xs h p hl hp => ?_) (fun x xs h hl => bad_run (d := d_Cell_init) rfl _ _ (by simpa [d_Cell_init] using hl)) ms ρ h
  have hq : p < h.length := (List.getElem?_eq_some_iff.mp hp).1
  have hr : h[p] = .ins 17 [] := (List.getElem?_eq_some_iff.mp hp).2
  match xs, hl with
  | [x], _ =>
    rw [call2 (d := d_Cell_init) rfl]
    simp [runF, d_Cell_init, b_Cell_init, sSeq, sFld, sbn, eV, putFld, hq, hr, storeF, outOf]
theorem frz_18 (n : Nat) (ms : MA) (ρ : Rho) (h : LH) : eFrz (eMake (callF tbl78 (n + 2) 131) 18 ms []) ρ h = bnd (ms ρ h) fun xs h1 => mkObj 18 3 xs h1 := by
  refine frz_make (fun xs h p hl hp => ?_) (fun x xs h hl => bad_run (d := d_Shifted_init) rfl _ _ (by simpa [d_Shifted_init] using hl)) ms ρ h
  have hq : p < h.length := (List.getElem?_eq_some_iff.mp hp).1
  have hr : h[p] = .ins 18 [] := (List.getElem?_eq_some_iff.mp hp).2
  match xs, hl with
  | [x, y, z], _ =>
    rw [call2 (d := d_Shifted_init) rfl]
    simp [runF, d_Shifted_init, b_Shifted_init, sSeq, sFld, sbn, eV, putFld, hq, hr, storeF, outOf]
theorem frz_19 (n : Nat) (ms : MA) (ρ : Rho) (h : LH) : eFrz (eMake (callF tbl78 (n + 2) 133) 19 ms []) ρ h = bnd (ms ρ h) fun xs h1 => mkObj 19 1 xs h1 := by
  refine frz_make (fun xs h p hl hp => ?_) (fun x xs h hl => bad_run (d := d_Local_init) rfl _ _ (by simpa [d_Local_init] using hl)) ms ρ h
  have hq : p < h.length := (List.getElem?_eq_some_iff.mp hp).1
  have hr : h[p] = .ins 19 [] := (List.getElem?_eq_some_iff.mp hp).2
  match xs, hl with
  | [x], _ =>
    rw [call2 (d := d_Local_init) rfl]
    simp [runF, d_Local_init, b_Local_init, sSeq, sFld, sbn, eV, putFld, hq, hr, storeF, outOf]
theorem frz_20 (n : Nat) (ms : MA) (ρ : Rho) (h : LH) : eFrz (eMake (callF tbl78 (n + 2) 135) 20 ms []) ρ h = bnd (ms ρ h) fun xs h1 => mkObj 20 2 xs h1 := by
  refine frz_make (fun xs h p hl hp => ?_) (fun x xs h hl => bad_run (d := d_At_init) rfl _ _ (by simpa [d_At_init] using hl)) ms ρ h
  have hq : p < h.length := (List.getElem?_eq_some_iff.mp hp).1
  have hr : h[p] = .ins 20 [] := (List.getElem?_eq_some_iff.mp hp).2
  match xs, hl with
  | [x, y], _ =>
    rw [call2 (d := d_At_init) rfl]
    simp [runF, d_At_init, b_At_init, sSeq, sFld, sbn, eV, putFld, hq, hr, storeF, outOf]
theorem frz_21 (n : Nat) (ms : MA) (ρ : Rho) (h : LH) : eFrz (eMake (callF tbl78 (n + 2) 137) 21 ms []) ρ h = bnd (ms ρ h) fun xs h1 => mkObj 21 3 xs h1 := by
  refine frz_make (fun xs h p hl hp => ?_) (fun x xs h hl => bad_run (d := d_Pair_init) rfl _ _ (by simpa [d_Pair_init] using hl)) ms ρ h
  have hq : p < h.length := (List.getElem?_eq_some_iff.mp hp).1
  have hr : h[p] = .ins 21 [] := (List.getElem?_eq_some_iff.mp hp).2
  match xs, hl with
  | [x, y, z], _ =>
    rw [call2 (d := d_Pair_init) rfl]
    simp [runF, d_Pair_init, b_Pair_init, sSeq, sFld, sbn, eV, putFld, hq, hr, storeF, outOf]
theorem frz_22 (n : Nat) (ms : MA) (ρ : Rho) (h : LH) : eFrz (eMake (callF tbl78 (n + 2) 139) 22 ms []) ρ h = bnd (ms ρ h) fun xs h1 => mkObj 22 3 xs h1 := by
  refine frz_make (fun xs h p hl hp => ?_) (fun x xs h hl => bad_run (d := d_Choice_init) rfl _ _ (by simpa [d_Choice_init] using hl)) ms ρ h
  have hq : p < h.length := (List.getElem?_eq_some_iff.mp hp).1
  have hr : h[p] = .ins 22 [] := (List.getElem?_eq_some_iff.mp hp).2
  match xs, hl with
  | [x, y, z], _ =>
    rw [call2 (d := d_Choice_init) rfl]
    simp [runF, d_Choice_init, b_Choice_init, sSeq, sFld, sbn, eV, putFld, hq, hr, storeF, outOf]
theorem frz_16 (ρ : Rho) (h : LH) : eFrz (eNew 16) ρ h = .ok (.obj 16 []) (h ++ [.dead]) := by
  simp [eFrz, eU, eNew, bnd, fFrz, lft]
end DD
end
section
set_option Elab.async false
set_option linter.all false
set_option maxRecDepth 1000000
set_option maxHeartbeats 4000000
namespace DD
open PySem PySem.Spec PyProof.Rows L2
def onesOf (c : Nat) : LH := [.lst [.bl (isub c 15), .bl (isub c 16), .bl (isub c 17), .bl (isub c 18)], .lst [.bl (isub c 19), .bl (isub c 20), .bl (isub c 21)], .lst [.bl (isub c 15), .bl (isub c 16), .bl (isub c 17), .bl (isub c 18), .bl (isub c 19), .bl (isub c 20), .bl (isub c 21)], .lst [.bl (isub c 22), .bl (isub c 23)],
  .lst [.bl (isub c 15), .bl (isub c 16), .bl (isub c 17), .bl (isub c 18), .bl (isub c 19), .bl (isub c 20), .bl (isub c 21), .bl (isub c 22), .bl (isub c 23)]]
theorem one_fr (n : Nat) (c : Nat) (fs : List LV) (k : Int) (h : LH) (ho : okL (fun _ => false) fs = true) (e : runF d_law_is_one (fun _ _ _ => .bad) (fun _ _ _ => .bad) [.obj c fs, .int k] [] = .ok (.bl true) (onesOf c)) :
    frP (callF tbl78 (n + 2) 502) [.obj c fs, .int k] h = .ok (.bl true) (h ++ onesOf c) := by
  rw [frP_0 (xs := [.obj c fs, .int k]) (by simp [okL, okV, ho]) (one_run n c fs k true _ e)]
  simp [onesOf, renV, renM, renL]
theorem one_15 (n : Nat) (fs : List LV) (h : LH) (ho : okL (fun _ => false) fs = true) : frP (callF tbl78 (n + 2) 502) [.obj 15 fs, .int 0] h = .ok (.bl true) (h ++ onesOf 15) := one_fr n 15 fs 0 h ho rfl
theorem one_16 (n : Nat) (fs : List LV) (h : LH) (ho : okL (fun _ => false) fs = true) : frP (callF tbl78 (n + 2) 502) [.obj 16 fs, .int 1] h = .ok (.bl true) (h ++ onesOf 16) := one_fr n 16 fs 1 h ho rfl
theorem one_17 (n : Nat) (fs : List LV) (h : LH) (ho : okL (fun _ => false) fs = true) : frP (callF tbl78 (n + 2) 502) [.obj 17 fs, .int 2] h = .ok (.bl true) (h ++ onesOf 17) := one_fr n 17 fs 2 h ho rfl
theorem one_18 (n : Nat) (fs : List LV) (h : LH) (ho : okL (fun _ => false) fs = true) : frP (callF tbl78 (n + 2) 502) [.obj 18 fs, .int 3] h = .ok (.bl true) (h ++ onesOf 18) := one_fr n 18 fs 3 h ho rfl
theorem one_19 (n : Nat) (fs : List LV) (h : LH) (ho : okL (fun _ => false) fs = true) : frP (callF tbl78 (n + 2) 502) [.obj 19 fs, .int 4] h = .ok (.bl true) (h ++ onesOf 19) := one_fr n 19 fs 4 h ho rfl
theorem one_20 (n : Nat) (fs : List LV) (h : LH) (ho : okL (fun _ => false) fs = true) : frP (callF tbl78 (n + 2) 502) [.obj 20 fs, .int 5] h = .ok (.bl true) (h ++ onesOf 20) := one_fr n 20 fs 5 h ho rfl
theorem one_21 (n : Nat) (fs : List LV) (h : LH) (ho : okL (fun _ => false) fs = true) : frP (callF tbl78 (n + 2) 502) [.obj 21 fs, .int 6] h = .ok (.bl true) (h ++ onesOf 21) := one_fr n 21 fs 6 h ho rfl
theorem one_22 (n : Nat) (fs : List LV) (h : LH) (ho : okL (fun _ => false) fs = true) : frP (callF tbl78 (n + 2) 502) [.obj 22 fs, .int 7] h = .ok (.bl true) (h ++ onesOf 22) := one_fr n 22 fs 7 h ho rfl
theorem one_23 (n : Nat) (fs : List LV) (h : LH) (ho : okL (fun _ => false) fs = true) : frP (callF tbl78 (n + 2) 502) [.obj 23 fs, .int 8] h = .ok (.bl true) (h ++ onesOf 23) := one_fr n 23 fs 8 h ho rfl
def mkCall (xs : List LV) (h : LH) : Out LV := match xs with
  | [a, l] => (match seqOf l h with
    | some ys => .ok (.obj 23 [a, .lst ys]) (h ++ [.dead, .dead])
    | none => .bad)
  | _ => .bad
theorem seqOf_snoc (l : LV) (h : LH) (c : Nat) (fs : List LV) : seqOf l (h ++ [.ins c fs]) = seqOf l h := by
  unfold seqOf
  split
  · rfl
  · rfl
  · rename_i n
    rcases Nat.lt_trichotomy n h.length with e | e | e
    · rw [List.getElem?_append_left e]
    · subst e
      simp
    · rw [List.getElem?_eq_none (by simp; omega), List.getElem?_eq_none (by omega)]
  · rfl
theorem frz_23 (n : Nat) (ms : MA) (ρ : Rho) (h : LH) : eFrz (eMake (callF tbl78 (n + 2) 141) 23 ms []) ρ h = bnd (ms ρ h) fun xs h1 => mkCall xs h1 := by
  unfold eFrz eU eMake
  cases e : ms ρ h with
  | bad => rfl
  | exc c fs h1 => rfl
  | ok xs h1 =>
    simp only [bnd_ok, List.append_nil]
    unfold mkOut mkCall
    match xs with
    | [a, l] =>
      rw [call2 (d := d_Call_init) rfl]
      have sq := seqOf_snoc l h1 23 [a]
      cases q : seqOf l h1 with
      | none =>
        rw [q] at sq
        simp [runF, d_Call_init, b_Call_init, sSeq, sFld, sbn, eV, putFld, storeF, outOf, eFrz, eU, eCB, bnd, aC, aN, fList, sq, q, lft]
      | some ys =>
        rw [q] at sq
        simp [runF, d_Call_init, b_Call_init, sSeq, sFld, sbn, eV, putFld, storeF, outOf, eFrz, eU, eCB, bnd, aC, aN, fList, sq, q, lft, fFrz]
    | [] => rw [bad_run (d := d_Call_init) rfl _ _ (by simp [d_Call_init])]; rfl
    | [x] => rw [bad_run (d := d_Call_init) rfl _ _ (by simp [d_Call_init])]; rfl
    | x :: y :: z :: r => rw [bad_run (d := d_Call_init) rfl _ _ (by simp [d_Call_init])]; rfl
theorem atI_nn {A : Type} (xs : List A) (k : Int) (h : 0 ≤ k) : L2.atI xs k = xs[k.toNat]? := by
  unfold L2.atI L2.ixN
  rw [if_pos h]
  by_cases h2 : k < xs.length
  · rw [if_pos h2]
    rfl
  · rw [if_neg h2, List.getElem?_eq_none (by omega)]
    rfl
end DD
end
section
set_option Elab.async false
set_option linter.all false
set_option maxRecDepth 1000000
set_option maxHeartbeats 40000000
namespace DD
open PySem PySem.Spec PyProof.Rows L2
theorem seq_nx {a b : MS} {ρ ρ' : Rho} {h h' : LH} (e : a ρ h = .nx ρ' h') : sSeq a b ρ h = b ρ' h' := by
  unfold sSeq
  rw [e]
theorem shaped_ints : ∀ ns : List Int, SeqAt.shaped (.list (ns.map PyData.int)) = true := fun ns => by
  have h1 : PyData.canLay0 (.list (ns.map PyData.int)) = true := by
    show PyData.canLayAll0 (ns.map PyData.int) = true
    induction ns with
    | nil => rfl
    | cons i r ih => exact ih
  have h2 : PyData.depth (.list (ns.map PyData.int)) = 1 := by
    show PyData.depthAll (ns.map PyData.int) + 1 = 1
    have : PyData.depthAll (ns.map PyData.int) = 0 := by
      clear h1
      induction ns with
      | nil => rfl
      | cons i r ih =>
        show max 0 (PyData.depthAll (r.map PyData.int)) = 0
        rw [ih]
        rfl
    rw [this]
  unfold SeqAt.shaped
  rw [h1, h2]
  rfl
theorem eqv_ints (ns : List Int) : PyData.eqv (.list (ns.map PyData.int)) (.list (ns.map PyData.int)) = true := by
  show PyData.eqvAll _ _ = true
  induction ns with
  | nil => rfl
  | cons i r ih =>
    show ((i == i) && PyData.eqvAll (r.map PyData.int) (r.map PyData.int)) = true
    rw [ih, beq_self_eq_true]
    rfl
set_option pp.maxSteps 1500 in
theorem hand_run (n : Nat) (a b c : Int) (ha : 0 ≤ a) (hb : 0 ≤ b) (hb2 : b < 2 ^ 62) (hc : 0 ≤ c) (hc2 : c + 3 < 2 ^ 40) :
    ∃ a' c' junk, callF tbl78 (n + 4) 503 [.ptr 0] [tp a b c] = .ok (.bl true) (tp a' b c' :: junk) ∧ 0 ≤ a' ∧ c ≤ c' ∧ c' ≤ c + 3 := by
  obtain ⟨r1, a1, c1, e1, p1, p2, p3, p4, p5⟩ := draw_run (n + 1) a b c 99 ha hb hb2 hc (by omega) (by omega) (by omega)
  obtain ⟨r2, a2, c2, e2, q1, q2, q3, q4, q5⟩ := draw_run (n + 1) a1 b c1 12 p3 hb hb2 (by omega) (by omega) (by omega) (by omega)
  obtain ⟨r3, a3, c3, e3, t1, t2, t3, t4, t5⟩ := draw_run (n + 1) a2 b c2 801 q3 hb hb2 (by omega) (by omega) (by omega) (by omega)
  have f1 := frP_tp2 (t := 0) (h := [tp a b c]) rfl e1
  have f2 := frP_tp2 (t := 0) (h := [tp a1 b c1]) rfl e2
  have f3 := frP_tp2 (t := 0) (h := [tp a2 b c2]) rfl e3
  have o15 := fun h => one_15 (n + 1) [.int (r1 - 9)] h rfl
  have o16 := fun h => one_16 (n + 1) [] h rfl
  have o17 := fun h => one_17 (n + 1) [.int r2] h rfl
  have o18 := fun h => one_18 (n + 1) [.int r2, .int (r3 - 400), .int (r1 - 9)] h rfl
  have o19 := fun h => one_19 (n + 1) [.int (r2 % 6)] h rfl
  have o20 := fun h => one_20 (n + 1) [.int r2, .obj 16 []] h rfl
  have o21 := fun h => one_21 (n + 1) [.str "+", .obj 15 [.int (r1 - 9)], .obj 17 [.int r2]] h rfl
  have o22 := fun h => one_22 (n + 1) [.obj 16 [], .obj 15 [.int (r1 - 9)], .obj 17 [.int r2]] h rfl
  have o23 := fun h => one_23 (n + 1) [.int (r2 % 8), .lst []] h rfl
  have ev1 := eqv_ints [r1 - 9, r2, r2 % 6, r2]
  have ev2 := eqv_ints [r2, r3 - 400, r1 - 9]
  have sh1 := shaped_ints [r1 - 9, r2, r2 % 6, r2]
  have sh2 := shaped_ints [r2, r3 - 400, r1 - 9]
  simp only [List.map_cons, List.map_nil] at ev1 ev2 sh1 sh2
  have key : ∃ junk, callF tbl78 (n + 4) 503 [.ptr 0] [tp a b c] = .ok (.bl true) (tp a3 b c3 :: junk) := by
    rw [call2 (d := d_law_by_hand) rfl]
    simp only [List.set_cons_zero] at f1 f2 f3
    simp [runF, d_law_by_hand, b_law_by_hand, sSeq, sPar3, sSet, sIf, onBS, sRet, sNop, sbn, eLst, eCall, eComp, compF, compR, iE, itE, lstAt, lstFin, lstOf, wipeL, tgT, setAll, mYes, bnd, aC, aN, f1, f2, f3, fSub, frz_15, frz_16, frz_17, frz_18, frz_19, frz_20, frz_21, frz_22, frz_23, mkObj, mkCall, seqOf, o15, o16, o17, o18, o19, o20, o21, o22, o23, onesOf, fLen, fBls, gAll, eNot, eOr, eAnd, eCB, eU, fFld, insOf, lookF, fNe, fEq, eqL, toD, mapO, blOf, onB, ev1, ev2, sh1, sh2, fIx, atI_nn, eV, eB, eC, lft, fMod, sizeLine_eq, fAdd, outOf]
  obtain ⟨junk, key⟩ := key
  exact ⟨a3, c3, junk, key, t3, by omega, by omega⟩
end DD
end
section
set_option Elab.async false
set_option linter.all false
set_option maxRecDepth 1000000
set_option maxHeartbeats 40000000
namespace DD
open PySem PySem.Spec PyProof.Rows L2
def np (_ : Nat) : Bool := false
def goodP (c : Nat) (p : LV) : Bool := match p with
  | .obj 32 [_, .lst [.tup [_, .obj 22 [.obj 19 f3, .obj 21 f4, f5]]], .lst [.obj 27 [_, .obj c1 f1, _], .obj 27 [_, .obj 21 [f6, f7, .obj c2 f2], _]]] =>
    decide (c1 = c) && (decide (c2 = c) && (okL (fun _ => false) f1 && (okL (fun _ => false) f2 && (okL (fun _ => false) [.obj 19 f3, .obj 21 f4, f5] && (okL (fun _ => false) [f6, f7, .obj c2 f2] && okV (fun _ => false) p)))))
  | _ => false
def goodR (c : Nat) (o : Out LV) : Bool := match o with
  | .ok (.ptr k) h => (match h[k]? with
    | some (.ins 33 (p :: _)) => goodP c p
    | _ => false)
  | _ => false
structure GoodP (c : Nat) (p : LV) : Prop where
  is : ∃ a b f1 f2 f3 f4 f5 f6 f7 d e g i, p = .obj 32 [a, .lst [.tup [b, .obj 22 [.obj 19 f3, .obj 21 f4, f5]]], .lst [.obj 27 [d, .obj c f1, e], .obj 27 [g, .obj 21 [f6, f7, .obj c f2], i]]] ∧
    okL (fun _ => false) f1 = true ∧ okL (fun _ => false) f2 = true ∧ okL (fun _ => false) [.obj 19 f3, .obj 21 f4, f5] = true ∧ okL (fun _ => false) [f6, f7, .obj c f2] = true ∧ okL (fun _ => false) f3 = true ∧ okL (fun _ => false) f4 = true
  ok : okV (fun _ => false) p = true
theorem goodP_of {c : Nat} {p : LV} (h : goodP c p = true) : GoodP c p := by
  unfold goodP at h
  split at h
  · rename_i a b f3 f4 f5 d c1 f1 e g f6 f7 c2 f2 i
    simp only [Bool.and_eq_true, decide_eq_true_eq] at h
    obtain ⟨h1, h2, h3, h4, h5, h6, h7⟩ := h
    subst h1 h2
    have h5' := h5
    simp only [okL, okV, Bool.and_eq_true] at h5'
    exact ⟨⟨_, _, f1, f2, f3, f4, f5, f6, f7, _, _, _, _, rfl, h3, h4, h5, h6, h5'.1, h5'.2.1⟩, h7⟩
  · cases h
theorem goodR_of {c : Nat} {o : Out LV} (h : goodR c o = true) : ∃ k h1 p r, o = .ok (.ptr k) h1 ∧ h1[k]? = some (.ins 33 (p :: r)) ∧ GoodP c p := by
  unfold goodR at h
  split at h
  · rename_i k h1
    split at h
    · rename_i p r e
      exact ⟨k, h1, p, r, rfl, e, goodP_of h⟩
    · cases h
  · cases h
def rText (x : Str) : Str := Txt.join "\n" ["row a 3", "row b 3", "def f p = ( if p ( * p 3 ) p )", "let a " ++ x, "let a ( + 1 " ++ x ++ " )"]
theorem rd_0 : goodR 15 (callF tbl78 60 37 [.str (rText "7")] []) = true := by decide +kernel
theorem rd_1 : goodR 16 (callF tbl78 60 37 [.str (rText "here")] []) = true := by decide +kernel
theorem rd_2 : goodR 17 (callF tbl78 60 37 [.str (rText "b")] []) = true := by decide +kernel
theorem rd_3 : goodR 18 (callF tbl78 60 37 [.str (rText "( shift b -1 3 )")] []) = true := by decide +kernel
theorem rd_4 : goodR 20 (callF tbl78 60 37 [.str (rText "( at b here )")] []) = true := by decide +kernel
theorem rd_5 : goodR 21 (callF tbl78 60 37 [.str (rText "( - b 4 )")] []) = true := by decide +kernel
theorem rd_6 : goodR 22 (callF tbl78 60 37 [.str (rText "( if here b 2 )")] []) = true := by decide +kernel
theorem rd_7 : goodR 23 (callF tbl78 60 37 [.str (rText "( f b )")] []) = true := by decide +kernel
/-- what is read, in any heap -/
theorem read_fr {c : Nat} {x : Str} (e : goodR c (callF tbl78 60 37 [.str (rText x)] []) = true) (h : LH) : ∃ q H p r, frP (callF tbl78 60 37) [.str (rText x)] h = .ok (.ptr q) (h ++ H) ∧ (h ++ H)[q]? = some (.ins 33 (p :: r)) ∧ GoodP c p := by
  obtain ⟨k, h1, p, r, e1, e2, g⟩ := goodR_of e
  refine ⟨h.length + k, h1.map (renM (outI [] h.length)), p, renL (outI [] h.length) r, ?_, ?_, g⟩
  · rw [frP_0 (xs := [.str (rText x)]) rfl e1]
    unfold renV outI
    simp
  · rw [List.getElem?_append_right (by omega), show h.length + k - h.length = k by omega, List.getElem?_map, e2]
    simp [renM, renL, renV_ok _ p g.ok]
end DD
end
section
set_option Elab.async false
set_option linter.all false
set_option maxRecDepth 1000000
set_option maxHeartbeats 40000000
namespace DD
open PySem PySem.Spec PyProof.Rows L2
theorem fAdd_lst {p q : Nat} {xs ys : List LV} {h : LH} (h1 : h[p]? = some (.lst xs)) (h2 : h[q]? = some (.lst ys)) (hl : xs.length + ys.length ≤ sizeLine) : fAdd (.ptr p) (.ptr q) h = some (.ptr h.length, h ++ [.lst (xs ++ ys)]) := by
  unfold fAdd
  simp only [h1, h2, if_pos hl]
set_option pp.maxSteps 1500 in
theorem read_go (x : Str) (c : Nat) (k rI a b d : Int) (a1 d1 : Int)
    (hd : frP (callF tbl78 60 501) [.ptr 0, .int 8] [tp a b d, .lst [.str "7", .str "here", .str "b", .str "( shift b -1 3 )", .str "( at b here )", .str "( - b 4 )", .str "( if here b 2 )", .str "( f b )"], .lst [.int 0, .int 1, .int 2, .int 3, .int 5, .int 6, .int 7, .int 8]] = .ok (.int rI) [tp a1 b d1, .lst [.str "7", .str "here", .str "b", .str "( shift b -1 3 )", .str "( at b here )", .str "( - b 4 )", .str "( if here b 2 )", .str "( f b )"], .lst [.int 0, .int 1, .int 2, .int 3, .int 5, .int 6, .int 7, .int 8]])
    (hx : L2.atI [LV.str "7", .str "here", .str "b", .str "( shift b -1 3 )", .str "( at b here )", .str "( - b 4 )", .str "( if here b 2 )", .str "( f b )"] rI = some (.str x)) (hk : L2.atI [LV.int 0, .int 1, .int 2, .int 3, .int 5, .int 6, .int 7, .int 8] rI = some (.int k))
    (s1 : ∀ h, fAdd (.str "let a ") (.str x) h = some (.str ("let a " ++ x), h)) (s2 : ∀ h, fAdd (.str "let a ( + 1 ") (.str x) h = some (.str ("let a ( + 1 " ++ x), h)) (s3 : ∀ h, fAdd (.str ("let a ( + 1 " ++ x)) (.str " )") h = some (.str ("let a ( + 1 " ++ x ++ " )"), h))
    (hj : ∀ (p : Nat) (h : LH), h[p]? = some (.lst [.str "row a 3", .str "row b 3", .str "def f p = ( if p ( * p 3 ) p )", .str ("let a " ++ x), .str ("let a ( + 1 " ++ x ++ " )")]) → fJoin (.str "\n") [.ptr p] h = some (.str (rText x), h))
    (ho : ∀ fs h, okL (fun _ => false) fs = true → frP (callF tbl78 60 502) [.obj c fs, .int k] h = .ok (.bl true) (h ++ onesOf c)) (hg : goodR c (callF tbl78 60 37 [.str (rText x)] []) = true) :
    ∃ junk, callF tbl78 61 504 [.ptr 0] [tp a b d] = .ok (.bl true) (tp a1 b d1 :: junk) := by
  rw [call2 (n := 59) (d := d_law_read) rfl]
  obtain ⟨q, H, p, r, e1, e2, g⟩ := read_fr hg ([tp a1 b d1, .lst [.str "7", .str "here", .str "b", .str "( shift b -1 3 )", .str "( at b here )", .str "( - b 4 )", .str "( if here b 2 )", .str "( f b )"], .lst [.int 0, .int 1, .int 2, .int 3, .int 5, .int 6, .int 7, .int 8], .lst [.str "row a 3", .str "row b 3", .str "def f p = ( if p ( * p 3 ) p )", .str ("let a " ++ x)], .lst [.str ("let a ( + 1 " ++ x ++ " )")], .lst [.str "row a 3", .str "row b 3", .str "def f p = ( if p ( * p 3 ) p )", .str ("let a " ++ x), .str ("let a ( + 1 " ++ x ++ " )")]])
  obtain ⟨ga, gb, f1, f2, f3, f4, f5, f6, f7, gd, ge, gg, gi, rfl, k1, k2, k3, k4, k5, k6⟩ := g.is
  have o1 := fun h => ho f1 h k1
  have o2 := fun h => ho f2 h k2
  have o6 := fun h => one_21 58 [f6, f7, .obj c f2] h k4
  have o7 := fun h => one_22 58 [.obj 19 f3, .obj 21 f4, f5] h k3
  have o4 := fun h => one_19 58 f3 h k5
  have o8 := fun h => one_21 58 f4 h k6
  have sj := fun h hh => hj 5 h hh
  simp only [List.cons_append, List.nil_append] at e1 e2
  simp [runF, d_law_read, b_law_read, sSeq, sSet, sIf, onBS, sRet, sNop, sbn, eLst, eCall, bnd, aC, aN, hd, hx, hk, s1, s2, s3, fAdd_lst, sj, tyL, eBM, e1, e2, o1, o2, o4, o6, o7, o8, sPar, eU, fFld, insOf, lookF, eNot, eOr, eAnd, onB, fIx, seqOf, atI_nn, eV, eB, eC, lft, sizeLine_eq, outOf]
end DD
end
section
set_option Elab.async false
set_option linter.all false
set_option maxRecDepth 1000000
set_option maxHeartbeats 40000000
namespace DD
open PySem PySem.Spec PyProof.Rows L2
theorem read_run (a b c : Int) (ha : 0 ≤ a) (hb : 0 ≤ b) (hb2 : b < 2 ^ 62) (hc : 0 ≤ c) (hc2 : c + 1 < 2 ^ 40) :
    ∃ a' c' junk, callF tbl78 61 504 [.ptr 0] [tp a b c] = .ok (.bl true) (tp a' b c' :: junk) ∧ 0 ≤ a' ∧ c ≤ c' ∧ c' ≤ c + 1 := by
  obtain ⟨r, a1, c1, e1, p1, p2, p3, p4, p5⟩ := draw_run 58 a b c 8 ha hb hb2 hc (by omega) (by omega) (by omega)
  have hd := frP_tp2 (t := 0) (h := [tp a b c, .lst [.str "7", .str "here", .str "b", .str "( shift b -1 3 )", .str "( at b here )", .str "( - b 4 )", .str "( if here b 2 )", .str "( f b )"], .lst [.int 0, .int 1, .int 2, .int 3, .int 5, .int 6, .int 7, .int 8]]) rfl e1
  have fin : (∃ junk, callF tbl78 61 504 [.ptr 0] [tp a b c] = .ok (.bl true) (tp a1 b c1 :: junk)) → ∃ a' c' junk, callF tbl78 61 504 [.ptr 0] [tp a b c] = .ok (.bl true) (tp a' b c' :: junk) ∧ 0 ≤ a' ∧ c ≤ c' ∧ c' ≤ c + 1 := fun ⟨j, e⟩ => ⟨a1, c1, j, e, p3, p4, p5⟩
  have hr : r = 0 ∨ r = 1 ∨ r = 2 ∨ r = 3 ∨ r = 4 ∨ r = 5 ∨ r = 6 ∨ r = 7 := by omega
  rcases hr with rfl | rfl | rfl | rfl | rfl | rfl | rfl | rfl
  · exact fin (read_go "7" 15 0 0 a b c a1 c1 hd rfl rfl (fun _ => rfl) (fun _ => rfl) (fun _ => rfl) (fun p h hh => by unfold fJoin seqOf; simp only [hh]; rfl) (fun fs h => one_15 58 fs h) rd_0)
  · exact fin (read_go "here" 16 1 1 a b c a1 c1 hd rfl rfl (fun _ => rfl) (fun _ => rfl) (fun _ => rfl) (fun p h hh => by unfold fJoin seqOf; simp only [hh]; rfl) (fun fs h => one_16 58 fs h) rd_1)
  · exact fin (read_go "b" 17 2 2 a b c a1 c1 hd rfl rfl (fun _ => rfl) (fun _ => rfl) (fun _ => rfl) (fun p h hh => by unfold fJoin seqOf; simp only [hh]; rfl) (fun fs h => one_17 58 fs h) rd_2)
  · exact fin (read_go "( shift b -1 3 )" 18 3 3 a b c a1 c1 hd rfl rfl (fun _ => rfl) (fun _ => rfl) (fun _ => rfl) (fun p h hh => by unfold fJoin seqOf; simp only [hh]; rfl) (fun fs h => one_18 58 fs h) rd_3)
  · exact fin (read_go "( at b here )" 20 5 4 a b c a1 c1 hd rfl rfl (fun _ => rfl) (fun _ => rfl) (fun _ => rfl) (fun p h hh => by unfold fJoin seqOf; simp only [hh]; rfl) (fun fs h => one_20 58 fs h) rd_4)
  · exact fin (read_go "( - b 4 )" 21 6 5 a b c a1 c1 hd rfl rfl (fun _ => rfl) (fun _ => rfl) (fun _ => rfl) (fun p h hh => by unfold fJoin seqOf; simp only [hh]; rfl) (fun fs h => one_21 58 fs h) rd_5)
  · exact fin (read_go "( if here b 2 )" 22 7 6 a b c a1 c1 hd rfl rfl (fun _ => rfl) (fun _ => rfl) (fun _ => rfl) (fun p h hh => by unfold fJoin seqOf; simp only [hh]; rfl) (fun fs h => one_22 58 fs h) rd_6)
  · exact fin (read_go "( f b )" 23 8 7 a b c a1 c1 hd rfl rfl (fun _ => rfl) (fun _ => rfl) (fun _ => rfl) (fun p h hh => by unfold fJoin seqOf; simp only [hh]; rfl) (fun fs h => one_23 58 fs h) rd_7)
theorem okL_nums : ∀ ns : List Int, okL (fun _ => false) (ns.map LV.int) = true
  | [] => by simp [okL]
  | i :: r => by simp [okL, okV, okL_nums r]
theorem tape_run (ns : List Int) (k : Int) (hk : 0 ≤ k) (hk2 : k < 100) : ∃ a b, callF tbl78 61 500 [.lst (ns.map LV.int), .int k] [] = .ok (.ptr 0) [tp a b 0] ∧ 0 ≤ a ∧ 0 ≤ b ∧ b < 2 ^ 62 := by
  rw [call2 (n := 59) (d := d_law_tape) rfl]
  obtain ⟨cell, hcell⟩ : ∃ cell : Int, (if k < ns.length then L2.atI (ns.map LV.int) k else some (.int 0)) = some (.int cell) := by
    by_cases h : k < ns.length
    · rw [if_pos h, atI_nn _ _ hk, List.getElem?_map, List.getElem?_eq_getElem (by omega)]
      exact ⟨_, rfl⟩
    · exact ⟨0, if_neg h⟩
  have m1 : ∀ (z : Int) (q : Prop) [Decidable q], mulOk z (if q then 1 else 0) = true := fun z q _ => mulOk_r (by split <;> decide)
  have m2 : mulOk 39373 k = true := mulOk_l (by decide)
  have eif : ∀ h : LH, eIf (eB fLt (eV 1) (eCB fLen (aC (eV 0) aN))) (eB fIx (eV 0) (eV 1)) (eC (.int 0)) [some (.lst (ns.map LV.int)), some (.int k), none] h = .ok (.int cell) h := fun h => by
    by_cases hk : k < ns.length
    · rw [if_pos hk] at hcell
      simp [eIf, onB, bnd, eB, eV, eCB, aC, aN, fLen, seqOf, lft, fLt, hk, fIx, hcell]
    · rw [if_neg hk] at hcell
      cases hcell
      simp [eIf, onB, bnd, eB, eV, eCB, aC, aN, fLen, seqOf, lft, fLt, hk, eC]
  refine ⟨(if cell < 0 then -cell else cell) * (if decide ((10 : Int) ^ 18 ≤ (if cell < 0 then -cell else cell)) = true then 1 else 0), cell % 2305843009213693951 + 39373 * k + 17, ?_, ?_, ?_, ?_⟩
  · unfold runF d_law_tape b_law_tape
    simp only [List.length_cons, List.length_nil, List.map_cons, List.map_nil]
    show outOf (sSeq (sSet 2 _) _ [some (.lst (ns.map LV.int)), some (.int k), none] []) = _
    rw [seq_nx (a := sSet 2 _) (ρ' := [some (.lst (ns.map LV.int)), some (.int k), some (.int cell)]) (h' := []) (by unfold sSet; rw [eif []]; rfl)]
    simp [sRet, sbn, eLst, aC, aN, bnd, eB, eCB, eV, eC, fAbs, lft, fInt, fGe, fPow, fMul, m1, m2, fMod, fAdd, sizeLine_eq, outOf, tp]
  · split <;> split <;> omega
  · have := Int.emod_nonneg cell (show (2305843009213693951 : Int) ≠ 0 by decide)
    omega
  · have := Int.emod_lt_of_pos cell (show (0 : Int) < 2305843009213693951 by decide)
    omega
theorem tape_fr (ns : List Int) (k : Int) (hk : 0 ≤ k) (hk2 : k < 100) (h : LH) : ∃ a b, frP (callF tbl78 61 500) [.lst (ns.map LV.int), .int k] h = .ok (.ptr h.length) (h ++ [tp a b 0]) ∧ 0 ≤ a ∧ 0 ≤ b ∧ b < 2 ^ 62 := by
  obtain ⟨a, b, e, p⟩ := tape_run ns k hk hk2
  refine ⟨a, b, ?_, p⟩
  rw [frP_0 (xs := [.lst (ns.map LV.int), .int k]) (by simp [okL, okV, okL_nums]) e]
  simp [renV, outI, renM, tp, renL]
end DD
end
section
set_option Elab.async false
set_option linter.all false
set_option maxRecDepth 1000000
set_option maxHeartbeats 40000000
namespace DD
open PySem PySem.Spec PyProof.Rows L2
/-- one turn: by hand, then read -/
theorem turn_run {t : Nat} {h : LH} {a b c : Int} (e : h[t]? = some (tp a b c)) (ha : 0 ≤ a) (hb : 0 ≤ b) (hb2 : b < 2 ^ 62) (hc : 0 ≤ c) (hc2 : c + 4 < 2 ^ 40) (ρ : Rho) (hρ : ρ[2]? = some (some (.ptr t))) :
    ∃ a' c' H, eAnd (eCall (frP (callF tbl78 61 503)) (aC (eV 2) aN) []) (eCall (frP (callF tbl78 61 504)) (aC (eV 2) aN) []) ρ h = .ok (.bl true) H ∧ H[t]? = some (tp a' b c') ∧ (∀ m, m ≠ t → m < h.length → H[m]? = h[m]?) ∧ h.length ≤ H.length ∧ 0 ≤ a' ∧ 0 ≤ c' ∧ c' ≤ c + 4 := by
  have hl : t < h.length := (List.getElem?_eq_some_iff.mp e).1
  obtain ⟨a1, c1, j1, e1, p1, p2, p3⟩ := hand_run 57 a b c ha hb hb2 hc (by omega)
  have f1 := frP_tp1 e e1
  generalize hH1 : h.set t (tp a1 b c1) ++ j1.map (renM (outI [t] h.length)) = H1 at f1
  have e2 : H1[t]? = some (tp a1 b c1) := by
    rw [← hH1, List.getElem?_append_left (by simpa using hl), List.getElem?_set_self hl]
  have l1 : h.length ≤ H1.length := by rw [← hH1]; simp
  have s1 : ∀ m, m ≠ t → m < h.length → H1[m]? = h[m]? := fun m hm hml => by
    rw [← hH1, List.getElem?_append_left (by simpa using hml), List.getElem?_set_ne (Ne.symm hm)]
  obtain ⟨a2, c2, j2, e3, q1, q2, q3⟩ := read_run a1 b c1 p1 hb hb2 (by omega) (by omega)
  have f2 := frP_tp1 e2 e3
  generalize hH2 : H1.set t (tp a2 b c2) ++ j2.map (renM (outI [t] H1.length)) = H2 at f2
  have e4 : H2[t]? = some (tp a2 b c2) := by
    rw [← hH2, List.getElem?_append_left (by rw [List.length_set]; omega), List.getElem?_set_self (by omega)]
  have l2 : H1.length ≤ H2.length := by rw [← hH2]; simp
  have s2 : ∀ m, m ≠ t → m < h.length → H2[m]? = h[m]? := fun m hm hml => by
    rw [← hH2, List.getElem?_append_left (by rw [List.length_set]; omega), List.getElem?_set_ne (Ne.symm hm)]
    exact s1 m hm hml
  refine ⟨a2, c2, H2, ?_, e4, s2, by omega, q1, by omega, by omega⟩
  have f1' : frP (callF tbl78 61 503) [.ptr t] h = .ok (.bl true) H1 := f1
  simp [eAnd, eCall, bnd, aC, aN, eV, hρ, f1', f2, onB]
theorem comp_go {t m : Nat} {b : Int} (hb : 0 ≤ b) (hb2 : b < 2 ^ 62) (htm : t ≠ m) (ρ : Rho) (hρ : ρ[2]? = some (some (.ptr t))) (hl : 3 < ρ.length) : ∀ (r i : Nat) (h : LH) (a c : Int), h[t]? = some (tp a b c) → h[m]? = some (.lst (List.replicate i (.bl true))) → 0 ≤ a → 0 ≤ c → c + 4 * r < 2 ^ 40 → i + r ≤ 10 →
    ∃ h', compF (tgN 3) mYes (eAnd (eCall (frP (callF tbl78 61 503)) (aC (eV 2) aN) []) (eCall (frP (callF tbl78 61 504)) (aC (eV 2) aN) [])) (itR 0 4) ρ m r i h = some h' ∧ h'[m]? = some (.lst (List.replicate (i + r) (.bl true)))
  | 0, i, h, a, c, _, e2, _, _, _, _ => ⟨h, by unfold compF; rfl, e2⟩
  | r + 1, i, h, a, c, e1, e2, ha, hc, hc2, hi => by
    have hρ2 : (ρ.set 3 (some (.int (0 + (i : Nat)))))[2]? = some (some (.ptr t)) := by rw [List.getElem?_set_ne (by decide)]; exact hρ
    obtain ⟨a1, c1, H, f, k1, k2, k3, k4, k5, k6⟩ := turn_run e1 ha hb hb2 hc (by omega) _ hρ2
    have hm : m < h.length := (List.getElem?_eq_some_iff.mp e2).1
    have e3 : H[m]? = some (.lst (List.replicate i (.bl true))) := (k2 m (Ne.symm htm) hm).trans e2
    have e4 : (H.set m (.lst (List.replicate i (.bl true) ++ [.bl true])))[t]? = some (tp a1 b c1) := by rw [List.getElem?_set_ne (Ne.symm htm)]; exact k1
    have e5 : (H.set m (.lst (List.replicate i (.bl true) ++ [.bl true])))[m]? = some (.lst (List.replicate (i + 1) (.bl true))) := by
      rw [List.getElem?_set_self (by omega), List.replicate_succ']
    obtain ⟨h', g1, g2⟩ := comp_go hb hb2 htm ρ hρ hl r (i + 1) _ a1 c1 e4 e5 k4 k5 (by omega) (by omega)
    refine ⟨h', ?_, by rw [g2]; congr 3; omega⟩
    unfold compF
    have hsz : i < 16777216 := by omega
    simp only [itR, tgN, mYes, eC, f, e3, List.length_replicate]
    rw [if_pos (by rw [sizeLine_eq]; omega)]
    exact g1
end DD
end
section
set_option Elab.async false
set_option linter.all false
set_option maxRecDepth 1000000
set_option maxHeartbeats 40000000
namespace DD
open PySem PySem.Spec PyProof.Rows L2
def lawBody : MS := (sSeq (sSet 2 (eCall (frP (callF tbl78 61 500)) (aC (eV 0) (aC (eV 1) aN)) []))
    (sIf (eNot (eCB (fBls gAll) (aC (eComp [3] (tgN 3) (iR1 (eC (.int 4))) mYes (eAnd (eCall (frP (callF tbl78 61 503)) (aC (eV 2) aN) []) (eCall (frP (callF tbl78 61 504)) (aC (eV 2) aN) []))) aN))) (sRet (eC (.bl false))) sNop))
theorem body_run (ns : List Int) (k : Int) (hk : 0 ≤ k) (hk2 : k < 100) (y z : Option LV) (h : LH) : ∃ p H, lawBody [some (.lst (ns.map LV.int)), some (.int k), y, z] h = .nx [some (.lst (ns.map LV.int)), some (.int k), some p, z] H := by
  obtain ⟨a, b, e, p1, p2, p3⟩ := tape_fr ns k hk hk2 h
  obtain ⟨h', g1, g2⟩ := comp_go (t := h.length) (m := h.length + 1) (b := b) p2 p3 (by omega) [some (.lst (ns.map LV.int)), some (.int k), some (.ptr h.length), none] rfl (Nat.lt_succ_self 3) 4 0 (h ++ [tp a b 0] ++ [.lst []]) a 0
    (by rw [List.getElem?_append_left (by simp), List.getElem?_append_right (by omega), Nat.sub_self]; rfl) (by rw [List.getElem?_append_right (by simp)]; simp) p1 (by decide) (by decide) (by decide)
  refine ⟨.ptr h.length, h', ?_⟩
  have e1 : sSet 2 (eCall (frP (callF tbl78 61 500)) (aC (eV 0) (aC (eV 1) aN)) []) [some (.lst (ns.map LV.int)), some (.int k), y, z] h = .nx [some (.lst (ns.map LV.int)), some (.int k), some (.ptr h.length), z] (h ++ [tp a b 0]) := by
    simp [sSet, sbn, eCall, bnd, aC, aN, eV, e]
  unfold lawBody
  rw [seq_nx e1]
  have e2 : eComp [3] (tgN 3) (iR1 (eC (.int 4))) mYes (eAnd (eCall (frP (callF tbl78 61 503)) (aC (eV 2) aN) []) (eCall (frP (callF tbl78 61 504)) (aC (eV 2) aN) [])) [some (.lst (ns.map LV.int)), some (.int k), some (.ptr h.length), z] (h ++ [tp a b 0]) = .ok (.ptr (h.length + 1)) h' := by
    have w : wipeL [some (.lst (ns.map LV.int)), some (.int k), some (.ptr h.length), z] [3] = [some (.lst (ns.map LV.int)), some (.int k), some (.ptr h.length), none] := rfl
    unfold eComp
    rw [w]
    have i1 : iR1 (eC (.int 4)) [some (.lst (ns.map LV.int)), some (.int k), some (.ptr h.length), z] (h ++ [tp a b 0]) = .ok (itR 0 4) (h ++ [tp a b 0]) := rfl
    rw [i1, bnd_ok, show (h ++ [tp a b 0]).length = h.length + 1 by simp, show (itR 0 4).n = 4 from rfl, g1]
    rfl
  have t4 : List.replicate 4 (LV.bl true) = [.bl true, .bl true, .bl true, .bl true] := rfl
  rw [Nat.zero_add, t4] at g2
  simp [sIf, onBS, sbn, eNot, eCB, bnd, aC, aN, e2, fBls, lstOf, g2, mapO, blOf, gAll, lft, onB, sNop]
theorem loop_run (ns : List Int) (n : Nat) : ∀ (r i : Nat) (x y z : Option LV) (h : LH), i + r ≤ 50 → ∃ x' y' z' H, loopF (tgN 1) lawBody (itR 0 n) r i [some (.lst (ns.map LV.int)), x, y, z] h = .nx [some (.lst (ns.map LV.int)), x', y', z'] H
  | 0, i, x, y, z, h, _ => ⟨x, y, z, h, by unfold loopF; rfl⟩
  | r + 1, i, x, y, z, h, hi => by
    obtain ⟨p, H, e⟩ := body_run ns (0 + (i : Nat)) (by omega) (by omega) y z h
    obtain ⟨x', y', z', H2, e2⟩ := loop_run ns n r (i + 1) (some (.int (0 + (i : Nat)))) (some p) z H (by omega)
    refine ⟨x', y', z', H2, ?_⟩
    unfold loopF
    have e3 : (tgN 1 (.int (0 + (i : Nat))) [some (.lst (ns.map LV.int)), x, y, z]) = some [some (.lst (ns.map LV.int)), some (.int (0 + (i : Nat))), y, z] := rfl
    have e4 : (itR 0 n).at_ i h = some (.int (0 + (i : Nat))) := rfl
    simp only [e4, e3, e]
    exact e2
theorem law78 (ns : List Int) (hl : ns.length ≤ 63) : ∃ h', callF tbl78 62 505 [.lst (ns.map LV.int)] [] = .ok (.bl true) h' := by
  rw [call2 (n := 60) (d := d_law) rfl]
  obtain ⟨x', y', z', H, e⟩ := loop_run ns (1 + (if (ns.length : Int) < 4 then (ns.length : Int) else 4)).toNat (1 + (if (ns.length : Int) < 4 then (ns.length : Int) else 4)).toNat 0 none none none [] (by split <;> omega)
  refine ⟨H, ?_⟩
  have e1 : iR1 (eB fAdd (eC (.int 1)) (eCB fMin2 (aC (eC (.int 4)) (aC (eCB fLen (aC (eV 0) aN)) aN)))) [some (.lst (ns.map LV.int)), none, none, none] [] = .ok (itR 0 (1 + (if (ns.length : Int) < 4 then (ns.length : Int) else 4)).toNat) [] := by
    have r1 : rngOk (1 + (if (ns.length : Int) < 4 then (ns.length : Int) else 4)) = true := by
      unfold rngOk
      rw [Bool.and_eq_true]
      constructor <;> apply decide_eq_true <;> split <;> omega
    simp [iR1, bnd, eB, eC, eCB, aC, aN, fLen, seqOf, eV, lft, fMin2, fAdd, r1]
  have e2 : (sFor (tgN 1) (iR1 (eB fAdd (eC (.int 1)) (eCB fMin2 (aC (eC (.int 4)) (aC (eCB fLen (aC (eV 0) aN)) aN))))) lawBody) [some (.lst (ns.map LV.int)), none, none, none] [] = .nx [some (.lst (ns.map LV.int)), x', y', z'] H := by
    unfold sFor
    rw [e1, sbn_ok]
    exact e
  show outOf (sSeq (sFor (tgN 1) (iR1 (eB fAdd (eC (.int 1)) (eCB fMin2 (aC (eC (.int 4)) (aC (eCB fLen (aC (eV 0) aN)) aN))))) lawBody) (sRet (eC (.bl true))) [some (.lst (ns.map LV.int)), none, none, none] []) = _
  rw [seq_nx e2]
  rfl
end DD
end
theorem PySem.Challenge.cw_rowbreadth_k78_forms_of_one_class_holds : PySem.Challenge.rw_rowbreadth_k78_forms_of_one_class.Holds :=
  V78.holds 62 ⟨rfl, by decide, by decide⟩ DD.law78
