import PyProof.Rows.All
import Wide.All
import OpenK.AllK
import Wide.FinOn
import HandS.ForMost
import KE.DataMinMax
import KE.SortData
import HandS.Walk
import KE.GoesNew
import HandS.Zip
import HandS.IsInst
import HandS.SetFor
import HandS.TupAny
import HandS.Star
import PySem.Challenge.RW_parkback_k37_whole_picks
section
set_option Elab.async false
set_option linter.all false
set_option maxRecDepth 100000
/-! The text: each def by its place, its names by slots; what the top has left. Printed by gen_txt.py. -/
namespace K37
open PySem PySem.Spec PyProof.Rows L2
def topS (i : Nat) : Stmt := PySem.Challenge.pw_parkback_k37_whole_picks.main.body.getD i (.Pass ⟨0, 0, 0, 0⟩)
abbrev s_is_integer : Stmt := topS 1
abbrev N_is_integer : List Str := ["value"]
theorem sc_is_integer : FnScope N_is_integer ["value"] (defScope s_is_integer) := ⟨rfl, rfl, rfl, by decide +kernel, rfl, by decide +kernel, by decide +kernel⟩
abbrev s_is_in : Stmt := topS 2
abbrev N_is_in : List Str := ["value", "least", "most"]
theorem sc_is_in : FnScope N_is_in ["value", "least", "most"] (defScope s_is_in) := ⟨rfl, rfl, rfl, by decide +kernel, rfl, by decide +kernel, by decide +kernel⟩
abbrev s_is_list : Stmt := topS 3
abbrev N_is_list : List Str := ["value", "least", "most"]
theorem sc_is_list : FnScope N_is_list ["value", "least", "most"] (defScope s_is_list) := ⟨rfl, rfl, rfl, by decide +kernel, rfl, by decide +kernel, by decide +kernel⟩
abbrev s_has_room : Stmt := topS 12
abbrev N_has_room : List Str := ["places", "homes", "home", "place"]
theorem sc_has_room : FnScope N_has_room ["places", "homes"] (defScope s_has_room) := ⟨rfl, rfl, rfl, by decide +kernel, rfl, by decide +kernel, by decide +kernel⟩
abbrev s_need_street : Stmt := topS 13
abbrev N_need_street : List Str := ["street", "home"]
theorem sc_need_street : FnScope N_need_street ["street"] (defScope s_need_street) := ⟨rfl, rfl, rfl, by decide +kernel, rfl, by decide +kernel, by decide +kernel⟩
abbrev s_need_places : Stmt := topS 14
abbrev N_need_places : List Str := ["street", "state", "places", "homes", "index", "place"]
theorem sc_need_places : FnScope N_need_places ["street", "state"] (defScope s_need_places) := ⟨rfl, rfl, rfl, by decide +kernel, rfl, by decide +kernel, by decide +kernel⟩
abbrev s_need_state : Stmt := topS 15
abbrev N_need_state : List Str := ["street", "state"]
theorem sc_need_state : FnScope N_need_state ["street", "state"] (defScope s_need_state) := ⟨rfl, rfl, rfl, by decide +kernel, rfl, by decide +kernel, by decide +kernel⟩
abbrev s_taken_in : Stmt := topS 17
abbrev N_taken_in : List Str := ["homes", "found", "home", "place"]
theorem sc_taken_in : FnScope N_taken_in ["homes"] (defScope s_taken_in) := ⟨rfl, rfl, rfl, by decide +kernel, rfl, by decide +kernel, by decide +kernel⟩
abbrev s_rests_in : Stmt := topS 19
abbrev N_rests_in : List Str := ["street", "state", "taken", "found", "home", "far", "row", "place"]
theorem sc_rests_in : FnScope N_rests_in ["street", "state"] (defScope s_rests_in) := ⟨rfl, rfl, rfl, by decide +kernel, rfl, by decide +kernel, by decide +kernel⟩
abbrev s_unlike : Stmt := topS 20
abbrev N_unlike : List Str := ["one", "other", "car"]
theorem sc_unlike : FnScope N_unlike ["one", "other"] (defScope s_unlike) := ⟨rfl, rfl, rfl, by decide +kernel, rfl, by decide +kernel, by decide +kernel⟩
abbrev s_ways_of : Stmt := topS 22
abbrev N_ways_of : List Str := ["street", "rest", "place", "home"]
theorem sc_ways_of : FnScope N_ways_of ["street", "rest"] (defScope s_ways_of) := ⟨rfl, rfl, rfl, by decide +kernel, rfl, by decide +kernel, by decide +kernel⟩
abbrev s_fairest : Stmt := topS 23
abbrev N_fairest : List Str := ["street", "state", "rest"]
theorem sc_fairest : FnScope N_fairest ["street", "state"] (defScope s_fairest) := ⟨rfl, rfl, rfl, by decide +kernel, rfl, by decide +kernel, by decide +kernel⟩
abbrev s_squarest : Stmt := topS 24
abbrev N_squarest : List Str := ["street", "state", "way", "rest"]
theorem sc_squarest : FnScope N_squarest ["street", "state"] (defScope s_squarest) := ⟨rfl, rfl, rfl, by decide +kernel, rfl, by decide +kernel, by decide +kernel⟩
abbrev s_need_weights : Stmt := topS 25
abbrev N_need_weights : List Str := ["street", "weights", "cars", "index", "weight"]
theorem sc_need_weights : FnScope N_need_weights ["street", "weights"] (defScope s_need_weights) := ⟨rfl, rfl, rfl, by decide +kernel, rfl, by decide +kernel, by decide +kernel⟩
abbrev s_cheapest : Stmt := topS 26
abbrev N_cheapest : List Str := ["street", "state", "weights", "found", "rest", "weight", "way"]
theorem sc_cheapest : FnScope N_cheapest ["street", "state", "weights"] (defScope s_cheapest) := ⟨rfl, rfl, rfl, by decide +kernel, rfl, by decide +kernel, by decide +kernel⟩
abbrev s_dearest : Stmt := topS 27
abbrev N_dearest : List Str := ["street", "state", "weights", "found", "rest", "weight", "way", "cost"]
theorem sc_dearest : FnScope N_dearest ["street", "state", "weights"] (defScope s_dearest) := ⟨rfl, rfl, rfl, by decide +kernel, rfl, by decide +kernel, by decide +kernel⟩
abbrev s_cheapest_calls : Stmt := topS 28
abbrev N_cheapest_calls : List Str := ["street", "state", "costs", "found", "rest", "car"]
theorem sc_cheapest_calls : FnScope N_cheapest_calls ["street", "state", "costs"] (defScope s_cheapest_calls) := ⟨rfl, rfl, rfl, by decide +kernel, rfl, by decide +kernel, by decide +kernel⟩
abbrev s_most_home : Stmt := topS 29
abbrev N_most_home : List Str := ["street", "state", "many", "rest"]
theorem sc_most_home : FnScope N_most_home ["street", "state"] (defScope s_most_home) := ⟨rfl, rfl, rfl, by decide +kernel, rfl, by decide +kernel, by decide +kernel⟩
abbrev s_count_fair : Stmt := topS 30
abbrev N_count_fair : List Str := ["street", "state", "some", "rest"]
theorem sc_count_fair : FnScope N_count_fair ["street", "state"] (defScope s_count_fair) := ⟨rfl, rfl, rfl, by decide +kernel, rfl, by decide +kernel, by decide +kernel⟩
abbrev s_l_taken : Stmt := topS 32
abbrev N_l_taken : List Str := ["_law_row", "_law_many", "_law_found", "_law_cell"]
theorem sc_l_taken : FnScope N_l_taken ["_law_row", "_law_many"] (defScope s_l_taken) := ⟨rfl, rfl, rfl, by decide +kernel, rfl, by decide +kernel, by decide +kernel⟩
abbrev s_l_pick : Stmt := topS 33
abbrev N_l_pick : List Str := ["_law_row", "_law_things"]
theorem sc_l_pick : FnScope N_l_pick ["_law_row", "_law_things"] (defScope s_l_pick) := ⟨rfl, rfl, rfl, by decide +kernel, rfl, by decide +kernel, by decide +kernel⟩
abbrev s_l_alike : Stmt := topS 34
abbrev N_l_alike : List Str := ["_law_found", "_law_due", "_law_k"]
theorem sc_l_alike : FnScope N_l_alike ["_law_found", "_law_due"] (defScope s_l_alike) := ⟨rfl, rfl, rfl, by decide +kernel, rfl, by decide +kernel, by decide +kernel⟩
abbrev s_l_street : Stmt := topS 35
abbrev N_l_street : List Str := ["_law_row", "_law_cars", "_law_places", "_law_many", "_law_size", "_law_homes", "_law_left", "_law_turn", "_law_mixed"]
theorem sc_l_street : FnScope N_l_street ["_law_row", "_law_cars", "_law_places"] (defScope s_l_street) := ⟨rfl, rfl, rfl, by decide +kernel, rfl, by decide +kernel, by decide +kernel⟩
abbrev s_l_state : Stmt := topS 36
abbrev N_l_state : List Str := ["_law_row", "_law_street_here", "_law_found", "_law_home", "_law_car", "_law_fit", "_law_place"]
theorem sc_l_state : FnScope N_l_state ["_law_row", "_law_street_here"] (defScope s_l_state) := ⟨rfl, rfl, rfl, by decide +kernel, rfl, by decide +kernel, by decide +kernel⟩
abbrev s_l_filled : Stmt := topS 37
abbrev N_l_filled : List Str := ["_law_homes", "_law_found", "_law_home", "_law_place"]
theorem sc_l_filled : FnScope N_l_filled ["_law_homes"] (defScope s_l_filled) := ⟨rfl, rfl, rfl, by decide +kernel, rfl, by decide +kernel, by decide +kernel⟩
abbrev s_l_rests : Stmt := topS 38
abbrev N_l_rests : List Str := ["_law_street_here", "_law_found", "_law_home", "_law_later", "_law_part", "_law_place"]
theorem sc_l_rests : FnScope N_l_rests ["_law_street_here"] (defScope s_l_rests) := ⟨rfl, rfl, rfl, by decide +kernel, rfl, by decide +kernel, by decide +kernel⟩
abbrev s_law : Stmt := topS 39
abbrev N_law : List Str := ["_law_script", "_law_row", "_law_street_here", "_law_cars", "_law_state_here", "_law_some", "_law_rest", "_law_car", "_law_weights", "_law_ways", "_law_at", "_law_greatest", "_law_way", "_law_sums", "_law_calls", "_law_homes"]
theorem sc_law : FnScope N_law ["_law_script"] (defScope s_law) := ⟨rfl, rfl, rfl, by decide +kernel, rfl, by decide +kernel, by decide +kernel⟩
/-- a def of the text, where it stands -/
structure DefAt (K : PySem.W.Frag) (mg : Str → Option Value) (x : Str) (st : Stmt) (ps : List Str) where
  f : Addr
  fd : FuncData
  F : Fun K x x st f fd
  m : mg x = some (.ref f)
  b : Binds K fd ps []
  b0 : ∀ us : List Value, us.length = ps.length → bindArgs fd ⟨us, []⟩ = pure (ps.zip us)
structure Txt (K : PySem.W.Frag) (mg : Str → Option Value) where
  is_integer : DefAt K mg "is_integer" s_is_integer ["value"]
  is_in : DefAt K mg "is_in" s_is_in ["value", "least", "most"]
  is_list : DefAt K mg "is_list" s_is_list ["value", "least", "most"]
  has_room : DefAt K mg "has_room" s_has_room ["places", "homes"]
  need_street : DefAt K mg "need_street" s_need_street ["street"]
  need_places : DefAt K mg "need_places" s_need_places ["street", "state"]
  need_state : DefAt K mg "need_state" s_need_state ["street", "state"]
  taken_in : DefAt K mg "taken_in" s_taken_in ["homes"]
  rests_in : DefAt K mg "rests_in" s_rests_in ["street", "state"]
  unlike : DefAt K mg "unlike" s_unlike ["one", "other"]
  ways_of : DefAt K mg "ways_of" s_ways_of ["street", "rest"]
  fairest : DefAt K mg "fairest" s_fairest ["street", "state"]
  squarest : DefAt K mg "squarest" s_squarest ["street", "state"]
  need_weights : DefAt K mg "need_weights" s_need_weights ["street", "weights"]
  cheapest : DefAt K mg "cheapest" s_cheapest ["street", "state", "weights"]
  dearest : DefAt K mg "dearest" s_dearest ["street", "state", "weights"]
  cheapest_calls : DefAt K mg "cheapest_calls" s_cheapest_calls ["street", "state", "costs"]
  most_home : DefAt K mg "most_home" s_most_home ["street", "state"]
  count_fair : DefAt K mg "count_fair" s_count_fair ["street", "state"]
  l_taken : DefAt K mg "_law_taken" s_l_taken ["_law_row", "_law_many"]
  l_pick : DefAt K mg "_law_pick" s_l_pick ["_law_row", "_law_things"]
  l_alike : DefAt K mg "_law_alike" s_l_alike ["_law_found", "_law_due"]
  l_street : DefAt K mg "_law_street" s_l_street ["_law_row", "_law_cars", "_law_places"]
  l_state : DefAt K mg "_law_state" s_l_state ["_law_row", "_law_street_here"]
  l_filled : DefAt K mg "_law_filled" s_l_filled ["_law_homes"]
  l_rests : DefAt K mg "_law_rests" s_l_rests ["_law_street_here"]
  law : DefAt K mg "law" s_law ["_law_script"]
  b_isinstance : mg "isinstance" = none
  b_int : mg "int" = none
  b_bool : mg "bool" = none
  b_tuple : mg "tuple" = none
  b_len : mg "len" = none
  b_all : mg "all" = none
  b_range : mg "range" = none
  b_enumerate : mg "enumerate" = none
  b_sorted : mg "sorted" = none
  b_zip : mg "zip" = none
  b_max : mg "max" = none
  b_min : mg "min" = none
  b_sum : mg "sum" = none
  b_list : mg "list" = none
  b_str : mg "str" = none
  c_MOST_PLACES : ∃ t, mg "MOST_PLACES" = some (.int 12 t)
  c_MOST_CARS : ∃ t, mg "MOST_CARS" = some (.int 7 t)
end K37
end

section
set_option maxHeartbeats 0
set_option Elab.async false
set_option linter.all false
set_option maxRecDepth 100000
namespace K37
open PySem PySem.Spec PyProof.Rows L2
def txt_mk {K : PySem.W.Frag} {h : Heap} {mg : Str → Option Value} {f0 f1 f2 f3 f4 f5 f6 f7 f8 f9 f10 f11 f12 f13 f14 f15 f16 f17 f18 f19 f20 f21 f22 f23 f24 f25 f26 : Addr} (X : K.In h) (G : h.Ns mainGlobals mg)
    {od0 an0 : Option Addr} {sl0 : Array (Option Value)} {oc0 kV0 dc0 pm0 cd0 ct0 : Value}
    (a0 : PySem.W.nsIn K mainGlobals "is_integer" = some (some (.ref f0))) (l0 : K.lookup f0 = some ⟨oc0, od0, .func (PySem.W.fnOf "is_integer" "is_integer" (defArgs s_is_integer) (defBody s_is_integer) (defScope s_is_integer) .none kV0 dc0 pm0 an0 cd0 ct0), sl0⟩) (c0 : PySem.W.codeIn K cd0 "is_integer" = true) (k0 : PySem.W.keepIn K (.ref f0) = true)
    {od1 an1 : Option Addr} {sl1 : Array (Option Value)} {oc1 kV1 dc1 pm1 cd1 ct1 : Value}
    (a1 : PySem.W.nsIn K mainGlobals "is_in" = some (some (.ref f1))) (l1 : K.lookup f1 = some ⟨oc1, od1, .func (PySem.W.fnOf "is_in" "is_in" (defArgs s_is_in) (defBody s_is_in) (defScope s_is_in) .none kV1 dc1 pm1 an1 cd1 ct1), sl1⟩) (c1 : PySem.W.codeIn K cd1 "is_in" = true) (k1 : PySem.W.keepIn K (.ref f1) = true)
    {od2 an2 : Option Addr} {sl2 : Array (Option Value)} {oc2 kV2 dc2 pm2 cd2 ct2 : Value}
    (a2 : PySem.W.nsIn K mainGlobals "is_list" = some (some (.ref f2))) (l2 : K.lookup f2 = some ⟨oc2, od2, .func (PySem.W.fnOf "is_list" "is_list" (defArgs s_is_list) (defBody s_is_list) (defScope s_is_list) .none kV2 dc2 pm2 an2 cd2 ct2), sl2⟩) (c2 : PySem.W.codeIn K cd2 "is_list" = true) (k2 : PySem.W.keepIn K (.ref f2) = true)
    {od3 an3 : Option Addr} {sl3 : Array (Option Value)} {oc3 kV3 dc3 pm3 cd3 ct3 : Value}
    (a3 : PySem.W.nsIn K mainGlobals "has_room" = some (some (.ref f3))) (l3 : K.lookup f3 = some ⟨oc3, od3, .func (PySem.W.fnOf "has_room" "has_room" (defArgs s_has_room) (defBody s_has_room) (defScope s_has_room) .none kV3 dc3 pm3 an3 cd3 ct3), sl3⟩) (c3 : PySem.W.codeIn K cd3 "has_room" = true) (k3 : PySem.W.keepIn K (.ref f3) = true)
    {od4 an4 : Option Addr} {sl4 : Array (Option Value)} {oc4 kV4 dc4 pm4 cd4 ct4 : Value}
    (a4 : PySem.W.nsIn K mainGlobals "need_street" = some (some (.ref f4))) (l4 : K.lookup f4 = some ⟨oc4, od4, .func (PySem.W.fnOf "need_street" "need_street" (defArgs s_need_street) (defBody s_need_street) (defScope s_need_street) .none kV4 dc4 pm4 an4 cd4 ct4), sl4⟩) (c4 : PySem.W.codeIn K cd4 "need_street" = true) (k4 : PySem.W.keepIn K (.ref f4) = true)
    {od5 an5 : Option Addr} {sl5 : Array (Option Value)} {oc5 kV5 dc5 pm5 cd5 ct5 : Value}
    (a5 : PySem.W.nsIn K mainGlobals "need_places" = some (some (.ref f5))) (l5 : K.lookup f5 = some ⟨oc5, od5, .func (PySem.W.fnOf "need_places" "need_places" (defArgs s_need_places) (defBody s_need_places) (defScope s_need_places) .none kV5 dc5 pm5 an5 cd5 ct5), sl5⟩) (c5 : PySem.W.codeIn K cd5 "need_places" = true) (k5 : PySem.W.keepIn K (.ref f5) = true)
    {od6 an6 : Option Addr} {sl6 : Array (Option Value)} {oc6 kV6 dc6 pm6 cd6 ct6 : Value}
    (a6 : PySem.W.nsIn K mainGlobals "need_state" = some (some (.ref f6))) (l6 : K.lookup f6 = some ⟨oc6, od6, .func (PySem.W.fnOf "need_state" "need_state" (defArgs s_need_state) (defBody s_need_state) (defScope s_need_state) .none kV6 dc6 pm6 an6 cd6 ct6), sl6⟩) (c6 : PySem.W.codeIn K cd6 "need_state" = true) (k6 : PySem.W.keepIn K (.ref f6) = true)
    {od7 an7 : Option Addr} {sl7 : Array (Option Value)} {oc7 kV7 dc7 pm7 cd7 ct7 : Value}
    (a7 : PySem.W.nsIn K mainGlobals "taken_in" = some (some (.ref f7))) (l7 : K.lookup f7 = some ⟨oc7, od7, .func (PySem.W.fnOf "taken_in" "taken_in" (defArgs s_taken_in) (defBody s_taken_in) (defScope s_taken_in) .none kV7 dc7 pm7 an7 cd7 ct7), sl7⟩) (c7 : PySem.W.codeIn K cd7 "taken_in" = true) (k7 : PySem.W.keepIn K (.ref f7) = true)
    {od8 an8 : Option Addr} {sl8 : Array (Option Value)} {oc8 kV8 dc8 pm8 cd8 ct8 : Value}
    (a8 : PySem.W.nsIn K mainGlobals "rests_in" = some (some (.ref f8))) (l8 : K.lookup f8 = some ⟨oc8, od8, .func (PySem.W.fnOf "rests_in" "rests_in" (defArgs s_rests_in) (defBody s_rests_in) (defScope s_rests_in) .none kV8 dc8 pm8 an8 cd8 ct8), sl8⟩) (c8 : PySem.W.codeIn K cd8 "rests_in" = true) (k8 : PySem.W.keepIn K (.ref f8) = true)
    {od9 an9 : Option Addr} {sl9 : Array (Option Value)} {oc9 kV9 dc9 pm9 cd9 ct9 : Value}
    (a9 : PySem.W.nsIn K mainGlobals "unlike" = some (some (.ref f9))) (l9 : K.lookup f9 = some ⟨oc9, od9, .func (PySem.W.fnOf "unlike" "unlike" (defArgs s_unlike) (defBody s_unlike) (defScope s_unlike) .none kV9 dc9 pm9 an9 cd9 ct9), sl9⟩) (c9 : PySem.W.codeIn K cd9 "unlike" = true) (k9 : PySem.W.keepIn K (.ref f9) = true)
    {od10 an10 : Option Addr} {sl10 : Array (Option Value)} {oc10 kV10 dc10 pm10 cd10 ct10 : Value}
    (a10 : PySem.W.nsIn K mainGlobals "ways_of" = some (some (.ref f10))) (l10 : K.lookup f10 = some ⟨oc10, od10, .func (PySem.W.fnOf "ways_of" "ways_of" (defArgs s_ways_of) (defBody s_ways_of) (defScope s_ways_of) .none kV10 dc10 pm10 an10 cd10 ct10), sl10⟩) (c10 : PySem.W.codeIn K cd10 "ways_of" = true) (k10 : PySem.W.keepIn K (.ref f10) = true)
    {od11 an11 : Option Addr} {sl11 : Array (Option Value)} {oc11 kV11 dc11 pm11 cd11 ct11 : Value}
    (a11 : PySem.W.nsIn K mainGlobals "fairest" = some (some (.ref f11))) (l11 : K.lookup f11 = some ⟨oc11, od11, .func (PySem.W.fnOf "fairest" "fairest" (defArgs s_fairest) (defBody s_fairest) (defScope s_fairest) .none kV11 dc11 pm11 an11 cd11 ct11), sl11⟩) (c11 : PySem.W.codeIn K cd11 "fairest" = true) (k11 : PySem.W.keepIn K (.ref f11) = true)
    {od12 an12 : Option Addr} {sl12 : Array (Option Value)} {oc12 kV12 dc12 pm12 cd12 ct12 : Value}
    (a12 : PySem.W.nsIn K mainGlobals "squarest" = some (some (.ref f12))) (l12 : K.lookup f12 = some ⟨oc12, od12, .func (PySem.W.fnOf "squarest" "squarest" (defArgs s_squarest) (defBody s_squarest) (defScope s_squarest) .none kV12 dc12 pm12 an12 cd12 ct12), sl12⟩) (c12 : PySem.W.codeIn K cd12 "squarest" = true) (k12 : PySem.W.keepIn K (.ref f12) = true)
    {od13 an13 : Option Addr} {sl13 : Array (Option Value)} {oc13 kV13 dc13 pm13 cd13 ct13 : Value}
    (a13 : PySem.W.nsIn K mainGlobals "need_weights" = some (some (.ref f13))) (l13 : K.lookup f13 = some ⟨oc13, od13, .func (PySem.W.fnOf "need_weights" "need_weights" (defArgs s_need_weights) (defBody s_need_weights) (defScope s_need_weights) .none kV13 dc13 pm13 an13 cd13 ct13), sl13⟩) (c13 : PySem.W.codeIn K cd13 "need_weights" = true) (k13 : PySem.W.keepIn K (.ref f13) = true)
    {od14 an14 : Option Addr} {sl14 : Array (Option Value)} {oc14 kV14 dc14 pm14 cd14 ct14 : Value}
    (a14 : PySem.W.nsIn K mainGlobals "cheapest" = some (some (.ref f14))) (l14 : K.lookup f14 = some ⟨oc14, od14, .func (PySem.W.fnOf "cheapest" "cheapest" (defArgs s_cheapest) (defBody s_cheapest) (defScope s_cheapest) .none kV14 dc14 pm14 an14 cd14 ct14), sl14⟩) (c14 : PySem.W.codeIn K cd14 "cheapest" = true) (k14 : PySem.W.keepIn K (.ref f14) = true)
    {od15 an15 : Option Addr} {sl15 : Array (Option Value)} {oc15 kV15 dc15 pm15 cd15 ct15 : Value}
    (a15 : PySem.W.nsIn K mainGlobals "dearest" = some (some (.ref f15))) (l15 : K.lookup f15 = some ⟨oc15, od15, .func (PySem.W.fnOf "dearest" "dearest" (defArgs s_dearest) (defBody s_dearest) (defScope s_dearest) .none kV15 dc15 pm15 an15 cd15 ct15), sl15⟩) (c15 : PySem.W.codeIn K cd15 "dearest" = true) (k15 : PySem.W.keepIn K (.ref f15) = true)
    {od16 an16 : Option Addr} {sl16 : Array (Option Value)} {oc16 kV16 dc16 pm16 cd16 ct16 : Value}
    (a16 : PySem.W.nsIn K mainGlobals "cheapest_calls" = some (some (.ref f16))) (l16 : K.lookup f16 = some ⟨oc16, od16, .func (PySem.W.fnOf "cheapest_calls" "cheapest_calls" (defArgs s_cheapest_calls) (defBody s_cheapest_calls) (defScope s_cheapest_calls) .none kV16 dc16 pm16 an16 cd16 ct16), sl16⟩) (c16 : PySem.W.codeIn K cd16 "cheapest_calls" = true) (k16 : PySem.W.keepIn K (.ref f16) = true)
    {od17 an17 : Option Addr} {sl17 : Array (Option Value)} {oc17 kV17 dc17 pm17 cd17 ct17 : Value}
    (a17 : PySem.W.nsIn K mainGlobals "most_home" = some (some (.ref f17))) (l17 : K.lookup f17 = some ⟨oc17, od17, .func (PySem.W.fnOf "most_home" "most_home" (defArgs s_most_home) (defBody s_most_home) (defScope s_most_home) .none kV17 dc17 pm17 an17 cd17 ct17), sl17⟩) (c17 : PySem.W.codeIn K cd17 "most_home" = true) (k17 : PySem.W.keepIn K (.ref f17) = true)
    {od18 an18 : Option Addr} {sl18 : Array (Option Value)} {oc18 kV18 dc18 pm18 cd18 ct18 : Value}
    (a18 : PySem.W.nsIn K mainGlobals "count_fair" = some (some (.ref f18))) (l18 : K.lookup f18 = some ⟨oc18, od18, .func (PySem.W.fnOf "count_fair" "count_fair" (defArgs s_count_fair) (defBody s_count_fair) (defScope s_count_fair) .none kV18 dc18 pm18 an18 cd18 ct18), sl18⟩) (c18 : PySem.W.codeIn K cd18 "count_fair" = true) (k18 : PySem.W.keepIn K (.ref f18) = true)
    {od19 an19 : Option Addr} {sl19 : Array (Option Value)} {oc19 kV19 dc19 pm19 cd19 ct19 : Value}
    (a19 : PySem.W.nsIn K mainGlobals "_law_taken" = some (some (.ref f19))) (l19 : K.lookup f19 = some ⟨oc19, od19, .func (PySem.W.fnOf "_law_taken" "_law_taken" (defArgs s_l_taken) (defBody s_l_taken) (defScope s_l_taken) .none kV19 dc19 pm19 an19 cd19 ct19), sl19⟩) (c19 : PySem.W.codeIn K cd19 "_law_taken" = true) (k19 : PySem.W.keepIn K (.ref f19) = true)
    {od20 an20 : Option Addr} {sl20 : Array (Option Value)} {oc20 kV20 dc20 pm20 cd20 ct20 : Value}
    (a20 : PySem.W.nsIn K mainGlobals "_law_pick" = some (some (.ref f20))) (l20 : K.lookup f20 = some ⟨oc20, od20, .func (PySem.W.fnOf "_law_pick" "_law_pick" (defArgs s_l_pick) (defBody s_l_pick) (defScope s_l_pick) .none kV20 dc20 pm20 an20 cd20 ct20), sl20⟩) (c20 : PySem.W.codeIn K cd20 "_law_pick" = true) (k20 : PySem.W.keepIn K (.ref f20) = true)
    {od21 an21 : Option Addr} {sl21 : Array (Option Value)} {oc21 kV21 dc21 pm21 cd21 ct21 : Value}
    (a21 : PySem.W.nsIn K mainGlobals "_law_alike" = some (some (.ref f21))) (l21 : K.lookup f21 = some ⟨oc21, od21, .func (PySem.W.fnOf "_law_alike" "_law_alike" (defArgs s_l_alike) (defBody s_l_alike) (defScope s_l_alike) .none kV21 dc21 pm21 an21 cd21 ct21), sl21⟩) (c21 : PySem.W.codeIn K cd21 "_law_alike" = true) (k21 : PySem.W.keepIn K (.ref f21) = true)
    {od22 an22 : Option Addr} {sl22 : Array (Option Value)} {oc22 kV22 dc22 pm22 cd22 ct22 : Value}
    (a22 : PySem.W.nsIn K mainGlobals "_law_street" = some (some (.ref f22))) (l22 : K.lookup f22 = some ⟨oc22, od22, .func (PySem.W.fnOf "_law_street" "_law_street" (defArgs s_l_street) (defBody s_l_street) (defScope s_l_street) .none kV22 dc22 pm22 an22 cd22 ct22), sl22⟩) (c22 : PySem.W.codeIn K cd22 "_law_street" = true) (k22 : PySem.W.keepIn K (.ref f22) = true)
    {od23 an23 : Option Addr} {sl23 : Array (Option Value)} {oc23 kV23 dc23 pm23 cd23 ct23 : Value}
    (a23 : PySem.W.nsIn K mainGlobals "_law_state" = some (some (.ref f23))) (l23 : K.lookup f23 = some ⟨oc23, od23, .func (PySem.W.fnOf "_law_state" "_law_state" (defArgs s_l_state) (defBody s_l_state) (defScope s_l_state) .none kV23 dc23 pm23 an23 cd23 ct23), sl23⟩) (c23 : PySem.W.codeIn K cd23 "_law_state" = true) (k23 : PySem.W.keepIn K (.ref f23) = true)
    {od24 an24 : Option Addr} {sl24 : Array (Option Value)} {oc24 kV24 dc24 pm24 cd24 ct24 : Value}
    (a24 : PySem.W.nsIn K mainGlobals "_law_filled" = some (some (.ref f24))) (l24 : K.lookup f24 = some ⟨oc24, od24, .func (PySem.W.fnOf "_law_filled" "_law_filled" (defArgs s_l_filled) (defBody s_l_filled) (defScope s_l_filled) .none kV24 dc24 pm24 an24 cd24 ct24), sl24⟩) (c24 : PySem.W.codeIn K cd24 "_law_filled" = true) (k24 : PySem.W.keepIn K (.ref f24) = true)
    {od25 an25 : Option Addr} {sl25 : Array (Option Value)} {oc25 kV25 dc25 pm25 cd25 ct25 : Value}
    (a25 : PySem.W.nsIn K mainGlobals "_law_rests" = some (some (.ref f25))) (l25 : K.lookup f25 = some ⟨oc25, od25, .func (PySem.W.fnOf "_law_rests" "_law_rests" (defArgs s_l_rests) (defBody s_l_rests) (defScope s_l_rests) .none kV25 dc25 pm25 an25 cd25 ct25), sl25⟩) (c25 : PySem.W.codeIn K cd25 "_law_rests" = true) (k25 : PySem.W.keepIn K (.ref f25) = true)
    {od26 an26 : Option Addr} {sl26 : Array (Option Value)} {oc26 kV26 dc26 pm26 cd26 ct26 : Value}
    (a26 : PySem.W.nsIn K mainGlobals "law" = some (some (.ref f26))) (l26 : K.lookup f26 = some ⟨oc26, od26, .func (PySem.W.fnOf "law" "law" (defArgs s_law) (defBody s_law) (defScope s_law) .none kV26 dc26 pm26 an26 cd26 ct26), sl26⟩) (c26 : PySem.W.codeIn K cd26 "law" = true) (k26 : PySem.W.keepIn K (.ref f26) = true)
    (z0 : PySem.W.nsIn K mainGlobals "isinstance" = some none)
    (z1 : PySem.W.nsIn K mainGlobals "int" = some none)
    (z2 : PySem.W.nsIn K mainGlobals "bool" = some none)
    (z3 : PySem.W.nsIn K mainGlobals "tuple" = some none)
    (z4 : PySem.W.nsIn K mainGlobals "len" = some none)
    (z5 : PySem.W.nsIn K mainGlobals "all" = some none)
    (z6 : PySem.W.nsIn K mainGlobals "range" = some none)
    (z7 : PySem.W.nsIn K mainGlobals "enumerate" = some none)
    (z8 : PySem.W.nsIn K mainGlobals "sorted" = some none)
    (z9 : PySem.W.nsIn K mainGlobals "zip" = some none)
    (z10 : PySem.W.nsIn K mainGlobals "max" = some none)
    (z11 : PySem.W.nsIn K mainGlobals "min" = some none)
    (z12 : PySem.W.nsIn K mainGlobals "sum" = some none)
    (z13 : PySem.W.nsIn K mainGlobals "list" = some none)
    (z14 : PySem.W.nsIn K mainGlobals "str" = some none)
    {t0 : Tok} (g0 : PySem.W.nsIn K mainGlobals "MOST_PLACES" = some (some (.int 12 t0)))
    {t1 : Tok} (g1 : PySem.W.nsIn K mainGlobals "MOST_CARS" = some (some (.int 7 t1)))
    : Txt K mg where
  is_integer := ⟨f0, _, fun_mk (st := s_is_integer) l0 c0 k0, PySem.W.mg_of X G a0, (fun_mk (st := s_is_integer) l0 c0 k0).binds (ps := ["value"]) fun _ _ _ _ _ _ us hl => match us, hl with | [_], _ => rfl, fun us hl => match us, hl with | [_], _ => rfl⟩
  is_in := ⟨f1, _, fun_mk (st := s_is_in) l1 c1 k1, PySem.W.mg_of X G a1, (fun_mk (st := s_is_in) l1 c1 k1).binds (ps := ["value", "least", "most"]) fun _ _ _ _ _ _ us hl => match us, hl with | [_, _, _], _ => rfl, fun us hl => match us, hl with | [_, _, _], _ => rfl⟩
  is_list := ⟨f2, _, fun_mk (st := s_is_list) l2 c2 k2, PySem.W.mg_of X G a2, (fun_mk (st := s_is_list) l2 c2 k2).binds (ps := ["value", "least", "most"]) fun _ _ _ _ _ _ us hl => match us, hl with | [_, _, _], _ => rfl, fun us hl => match us, hl with | [_, _, _], _ => rfl⟩
  has_room := ⟨f3, _, fun_mk (st := s_has_room) l3 c3 k3, PySem.W.mg_of X G a3, (fun_mk (st := s_has_room) l3 c3 k3).binds (ps := ["places", "homes"]) fun _ _ _ _ _ _ us hl => match us, hl with | [_, _], _ => rfl, fun us hl => match us, hl with | [_, _], _ => rfl⟩
  need_street := ⟨f4, _, fun_mk (st := s_need_street) l4 c4 k4, PySem.W.mg_of X G a4, (fun_mk (st := s_need_street) l4 c4 k4).binds (ps := ["street"]) fun _ _ _ _ _ _ us hl => match us, hl with | [_], _ => rfl, fun us hl => match us, hl with | [_], _ => rfl⟩
  need_places := ⟨f5, _, fun_mk (st := s_need_places) l5 c5 k5, PySem.W.mg_of X G a5, (fun_mk (st := s_need_places) l5 c5 k5).binds (ps := ["street", "state"]) fun _ _ _ _ _ _ us hl => match us, hl with | [_, _], _ => rfl, fun us hl => match us, hl with | [_, _], _ => rfl⟩
  need_state := ⟨f6, _, fun_mk (st := s_need_state) l6 c6 k6, PySem.W.mg_of X G a6, (fun_mk (st := s_need_state) l6 c6 k6).binds (ps := ["street", "state"]) fun _ _ _ _ _ _ us hl => match us, hl with | [_, _], _ => rfl, fun us hl => match us, hl with | [_, _], _ => rfl⟩
  taken_in := ⟨f7, _, fun_mk (st := s_taken_in) l7 c7 k7, PySem.W.mg_of X G a7, (fun_mk (st := s_taken_in) l7 c7 k7).binds (ps := ["homes"]) fun _ _ _ _ _ _ us hl => match us, hl with | [_], _ => rfl, fun us hl => match us, hl with | [_], _ => rfl⟩
  rests_in := ⟨f8, _, fun_mk (st := s_rests_in) l8 c8 k8, PySem.W.mg_of X G a8, (fun_mk (st := s_rests_in) l8 c8 k8).binds (ps := ["street", "state"]) fun _ _ _ _ _ _ us hl => match us, hl with | [_, _], _ => rfl, fun us hl => match us, hl with | [_, _], _ => rfl⟩
  unlike := ⟨f9, _, fun_mk (st := s_unlike) l9 c9 k9, PySem.W.mg_of X G a9, (fun_mk (st := s_unlike) l9 c9 k9).binds (ps := ["one", "other"]) fun _ _ _ _ _ _ us hl => match us, hl with | [_, _], _ => rfl, fun us hl => match us, hl with | [_, _], _ => rfl⟩
  ways_of := ⟨f10, _, fun_mk (st := s_ways_of) l10 c10 k10, PySem.W.mg_of X G a10, (fun_mk (st := s_ways_of) l10 c10 k10).binds (ps := ["street", "rest"]) fun _ _ _ _ _ _ us hl => match us, hl with | [_, _], _ => rfl, fun us hl => match us, hl with | [_, _], _ => rfl⟩
  fairest := ⟨f11, _, fun_mk (st := s_fairest) l11 c11 k11, PySem.W.mg_of X G a11, (fun_mk (st := s_fairest) l11 c11 k11).binds (ps := ["street", "state"]) fun _ _ _ _ _ _ us hl => match us, hl with | [_, _], _ => rfl, fun us hl => match us, hl with | [_, _], _ => rfl⟩
  squarest := ⟨f12, _, fun_mk (st := s_squarest) l12 c12 k12, PySem.W.mg_of X G a12, (fun_mk (st := s_squarest) l12 c12 k12).binds (ps := ["street", "state"]) fun _ _ _ _ _ _ us hl => match us, hl with | [_, _], _ => rfl, fun us hl => match us, hl with | [_, _], _ => rfl⟩
  need_weights := ⟨f13, _, fun_mk (st := s_need_weights) l13 c13 k13, PySem.W.mg_of X G a13, (fun_mk (st := s_need_weights) l13 c13 k13).binds (ps := ["street", "weights"]) fun _ _ _ _ _ _ us hl => match us, hl with | [_, _], _ => rfl, fun us hl => match us, hl with | [_, _], _ => rfl⟩
  cheapest := ⟨f14, _, fun_mk (st := s_cheapest) l14 c14 k14, PySem.W.mg_of X G a14, (fun_mk (st := s_cheapest) l14 c14 k14).binds (ps := ["street", "state", "weights"]) fun _ _ _ _ _ _ us hl => match us, hl with | [_, _, _], _ => rfl, fun us hl => match us, hl with | [_, _, _], _ => rfl⟩
  dearest := ⟨f15, _, fun_mk (st := s_dearest) l15 c15 k15, PySem.W.mg_of X G a15, (fun_mk (st := s_dearest) l15 c15 k15).binds (ps := ["street", "state", "weights"]) fun _ _ _ _ _ _ us hl => match us, hl with | [_, _, _], _ => rfl, fun us hl => match us, hl with | [_, _, _], _ => rfl⟩
  cheapest_calls := ⟨f16, _, fun_mk (st := s_cheapest_calls) l16 c16 k16, PySem.W.mg_of X G a16, (fun_mk (st := s_cheapest_calls) l16 c16 k16).binds (ps := ["street", "state", "costs"]) fun _ _ _ _ _ _ us hl => match us, hl with | [_, _, _], _ => rfl, fun us hl => match us, hl with | [_, _, _], _ => rfl⟩
  most_home := ⟨f17, _, fun_mk (st := s_most_home) l17 c17 k17, PySem.W.mg_of X G a17, (fun_mk (st := s_most_home) l17 c17 k17).binds (ps := ["street", "state"]) fun _ _ _ _ _ _ us hl => match us, hl with | [_, _], _ => rfl, fun us hl => match us, hl with | [_, _], _ => rfl⟩
  count_fair := ⟨f18, _, fun_mk (st := s_count_fair) l18 c18 k18, PySem.W.mg_of X G a18, (fun_mk (st := s_count_fair) l18 c18 k18).binds (ps := ["street", "state"]) fun _ _ _ _ _ _ us hl => match us, hl with | [_, _], _ => rfl, fun us hl => match us, hl with | [_, _], _ => rfl⟩
  l_taken := ⟨f19, _, fun_mk (st := s_l_taken) l19 c19 k19, PySem.W.mg_of X G a19, (fun_mk (st := s_l_taken) l19 c19 k19).binds (ps := ["_law_row", "_law_many"]) fun _ _ _ _ _ _ us hl => match us, hl with | [_, _], _ => rfl, fun us hl => match us, hl with | [_, _], _ => rfl⟩
  l_pick := ⟨f20, _, fun_mk (st := s_l_pick) l20 c20 k20, PySem.W.mg_of X G a20, (fun_mk (st := s_l_pick) l20 c20 k20).binds (ps := ["_law_row", "_law_things"]) fun _ _ _ _ _ _ us hl => match us, hl with | [_, _], _ => rfl, fun us hl => match us, hl with | [_, _], _ => rfl⟩
  l_alike := ⟨f21, _, fun_mk (st := s_l_alike) l21 c21 k21, PySem.W.mg_of X G a21, (fun_mk (st := s_l_alike) l21 c21 k21).binds (ps := ["_law_found", "_law_due"]) fun _ _ _ _ _ _ us hl => match us, hl with | [_, _], _ => rfl, fun us hl => match us, hl with | [_, _], _ => rfl⟩
  l_street := ⟨f22, _, fun_mk (st := s_l_street) l22 c22 k22, PySem.W.mg_of X G a22, (fun_mk (st := s_l_street) l22 c22 k22).binds (ps := ["_law_row", "_law_cars", "_law_places"]) fun _ _ _ _ _ _ us hl => match us, hl with | [_, _, _], _ => rfl, fun us hl => match us, hl with | [_, _, _], _ => rfl⟩
  l_state := ⟨f23, _, fun_mk (st := s_l_state) l23 c23 k23, PySem.W.mg_of X G a23, (fun_mk (st := s_l_state) l23 c23 k23).binds (ps := ["_law_row", "_law_street_here"]) fun _ _ _ _ _ _ us hl => match us, hl with | [_, _], _ => rfl, fun us hl => match us, hl with | [_, _], _ => rfl⟩
  l_filled := ⟨f24, _, fun_mk (st := s_l_filled) l24 c24 k24, PySem.W.mg_of X G a24, (fun_mk (st := s_l_filled) l24 c24 k24).binds (ps := ["_law_homes"]) fun _ _ _ _ _ _ us hl => match us, hl with | [_], _ => rfl, fun us hl => match us, hl with | [_], _ => rfl⟩
  l_rests := ⟨f25, _, fun_mk (st := s_l_rests) l25 c25 k25, PySem.W.mg_of X G a25, (fun_mk (st := s_l_rests) l25 c25 k25).binds (ps := ["_law_street_here"]) fun _ _ _ _ _ _ us hl => match us, hl with | [_], _ => rfl, fun us hl => match us, hl with | [_], _ => rfl⟩
  law := ⟨f26, _, fun_mk (st := s_law) l26 c26 k26, PySem.W.mg_of X G a26, (fun_mk (st := s_law) l26 c26 k26).binds (ps := ["_law_script"]) fun _ _ _ _ _ _ us hl => match us, hl with | [_], _ => rfl, fun us hl => match us, hl with | [_], _ => rfl⟩
  b_isinstance := PySem.W.mg_none_of X G z0
  b_int := PySem.W.mg_none_of X G z1
  b_bool := PySem.W.mg_none_of X G z2
  b_tuple := PySem.W.mg_none_of X G z3
  b_len := PySem.W.mg_none_of X G z4
  b_all := PySem.W.mg_none_of X G z5
  b_range := PySem.W.mg_none_of X G z6
  b_enumerate := PySem.W.mg_none_of X G z7
  b_sorted := PySem.W.mg_none_of X G z8
  b_zip := PySem.W.mg_none_of X G z9
  b_max := PySem.W.mg_none_of X G z10
  b_min := PySem.W.mg_none_of X G z11
  b_sum := PySem.W.mg_none_of X G z12
  b_list := PySem.W.mg_none_of X G z13
  b_str := PySem.W.mg_none_of X G z14
  c_MOST_PLACES := ⟨_, PySem.W.mg_of X G g0⟩
  c_MOST_CARS := ⟨_, PySem.W.mg_of X G g1⟩
end K37
end

section
set_option Elab.async false
set_option linter.all false
set_option maxRecDepth 100000
set_option maxHeartbeats 1000000
/-! Rules that the layer has not: min of a list of data, sorted of a list or tuple of data. -/
namespace K37
open PySem PySem.Spec PyProof.Rows L2

/-! ### data with an order: key, a row of ints -/
structure Enc (β : Type) (K : PySem.W.Frag) (E : Hp → V → β → Prop) where
  enc : β → PyData
  key : β → List Int
  lt : ∀ a b, PySem.W.dataLt (enc a) (enc b) = decide (key a < key b)
  al : ∀ a b, PySem.W.alike (enc a) (enc b) = true
  nn : ∀ a, enc a ≠ .none
  dp : ∀ a, (enc a).depth ≤ 8
  rd : ∀ H v b, E H v b → Dp K H v (enc b)

theorem paired_get {α β : Type} {R : α → β → Prop} : ∀ {xs : List α} {ys : List β} {i : Nat} {x : α}, Paired R xs ys → xs[i]? = some x → ∃ y, ys[i]? = some y ∧ R x y
  | _, _, _, _, .nil, h => by simp at h
  | _, _, 0, _, .cons r _, h => by
    simp at h
    subst h
    exact ⟨_, rfl, r⟩
  | _, _, i + 1, x, .cons _ t, h => by
    obtain ⟨y, h1, h2⟩ := paired_get (i := i) (x := x) t (by simpa using h)
    exact ⟨y, by simpa using h1, h2⟩
theorem paired_get' {α β : Type} {R : α → β → Prop} {xs : List α} {ys : List β} (r : Paired R xs ys) {i : Nat} {y : β} (h : ys[i]? = some y) : ∃ x, xs[i]? = some x ∧ R x y := by
  have hl := Paired.length r
  obtain ⟨hi, _⟩ := List.getElem?_eq_some_iff.mp h
  have hx : xs[i]? = some xs[i] := List.getElem?_eq_getElem (by omega)
  obtain ⟨y', h1, h2⟩ := paired_get r hx
  rw [h] at h1
  cases h1
  exact ⟨_, hx, h2⟩
theorem paired_dp {β : Type} {K : PySem.W.Frag} {E : Hp → V → β → Prop} (C : Enc β K E) {H : Hp} : ∀ {us : List V} {L : List β}, Paired (E H) us L → DpAll K H us (L.map C.enc)
  | _, _, .nil => .nil
  | _, _, .cons r t => .cons (C.rd _ _ _ r) (paired_dp C t)

theorem key_le {a b : List Int} (h : ¬ a < b) : b ≤ a := h

/-- the least, as a fold -/
theorem minD_least {β : Type} {K : PySem.W.Frag} {E : Hp → V → β → Prop} (C : Enc β K E) : ∀ (L : List β) (b : β), ∃ m, (m = b ∨ m ∈ L) ∧ PySem.W.minD (C.enc b) (L.map C.enc) = C.enc m ∧ C.key m ≤ C.key b ∧ ∀ y ∈ L, C.key m ≤ C.key y
  | [], b => ⟨b, .inl rfl, rfl, List.le_refl _, fun _ h => by cases h⟩
  | x :: L, b => by
    have e : PySem.W.minD (C.enc b) ((x :: L).map C.enc) = PySem.W.minD (if PySem.W.dataLt (C.enc x) (C.enc b) then C.enc x else C.enc b) (L.map C.enc) := rfl
    rw [e, C.lt]
    by_cases h : C.key x < C.key b
    · rw [decide_eq_true h, if_pos rfl]
      obtain ⟨m, h1, h2, h3, h4⟩ := minD_least C L x
      refine ⟨m, .inr ?_, h2, List.le_trans h3 (List.le_of_lt h), fun y hy => ?_⟩
      · rcases h1 with rfl | h1
        · exact List.mem_cons_self
        · exact List.mem_cons_of_mem _ h1
      · rcases List.mem_cons.mp hy with rfl | hy
        · exact h3
        · exact h4 y hy
    · rw [decide_eq_false h, if_neg Bool.false_ne_true]
      obtain ⟨m, h1, h2, h3, h4⟩ := minD_least C L b
      refine ⟨m, ?_, h2, h3, fun y hy => ?_⟩
      · rcases h1 with rfl | h1
        · exact .inl rfl
        · exact .inr (List.mem_cons_of_mem _ h1)
      · rcases List.mem_cons.mp hy with rfl | hy
        · exact List.le_trans h3 (key_le h)
        · exact h4 y hy

/-- two data of one key are one -/
theorem Enc.same {β : Type} {K : PySem.W.Frag} {E : Hp → V → β → Prop} (C : Enc β K E) {a b : β} (h : C.enc a = C.enc b) : ¬ C.key a < C.key b := by
  have e1 := C.lt a b
  have e2 := C.lt b a
  rw [h] at e1 e2
  intro q
  rw [decide_eq_true q] at e1
  rw [e1] at e2
  have q2 := of_decide_eq_true e2.symm
  exact absurd q (List.lt_asymm q2)
theorem depthAll_le : ∀ (ds : List PyData) (n : Nat), (∀ d ∈ ds, d.depth ≤ n) → PyData.depthAll ds ≤ n
  | [], n, _ => by simp [PyData.depthAll]
  | d :: ds, n, h => by
    have h1 := h d List.mem_cons_self
    have h2 := depthAll_le ds n fun x hx => h x (List.mem_cons_of_mem _ hx)
    unfold PyData.depthAll
    omega

section
variable {X : Cx} {β : Type} {E : Hp → V → β → Prop}
/-- min of a list of data -/
def rMinE (K : PySem.W.Frag) (E : Hp → V → β → Prop) (key : β → List Int) : List V → Hp → VK → Prop := fun vs H Q => ∃ (a : Addr) (us : List V) (L : List β), vs = [V.ref a] ∧ SqL K H a us ∧ Paired (E H) us L ∧ L ≠ [] ∧
  ∀ v m, E H v m → m ∈ L → (∀ y ∈ L, key m ≤ key y) → Q v H
theorem cr_minE (C : Enc β X.K E) (hc : X.calm = true) (hu : X.A.units + 32 < cLine) : CallR X (.builtin "min") (rMinE X.K E C.key) := by
  intro pins s σ H vs us Q I r h
  obtain ⟨a, ws, L, rfl, hs, hp, hne, q⟩ := h
  obtain ⟨its, rv, hl, _⟩ := I.list hs
  rw [Vals.ref1 r]
  cases L with
  | nil => exact absurd rfl hne
  | cons b L =>
    obtain ⟨as, hr⟩ := Dp.readsAll I _ _ its (paired_dp C hp) rv
    have hr' : ReadsAll s.heap its.toArray.toList (C.enc b :: L.map C.enc) as := by simpa using hr
    have ha : PySem.W.AlikeAll (C.enc b :: L.map C.enc) := by
      have key : ∀ x ∈ C.enc b :: L.map C.enc, ∃ y, x = C.enc y := fun x hx => by
        rcases List.mem_cons.mp hx with rfl | hx
        · exact ⟨_, rfl⟩
        · obtain ⟨y, _, rfl⟩ := List.mem_map.mp hx
          exact ⟨y, rfl⟩
      refine ⟨fun x hx y hy => ?_, fun x hx => ?_⟩
      · obtain ⟨x', rfl⟩ := key x hx
        obtain ⟨y', rfl⟩ := key y hy
        exact C.al _ _
      · obtain ⟨x', rfl⟩ := key x hx
        exact C.nn _
    have hd : PyData.depthAll (C.enc b :: L.map C.enc) ≤ 8 := depthAll_le _ _ fun d hd => by
      rcases List.mem_cons.mp hd with rfl | hd
      · exact C.dp _
      · obtain ⟨y, _, rfl⟩ := List.mem_map.mp hd
        exact C.dp _
    refine PySem.W.min_list_data (I.ok.hd hc) hl.isList hr' ha (by omega) fun i v h' tk bs hv hm hk => ?_
    have hv' : its[i]? = some v := by simpa using hv
    obtain ⟨x, hx, rx⟩ := paired_get' rv hv'
    obtain ⟨d, hd', ed⟩ := paired_get hp hx
    obtain ⟨m, h1, h2, h3, h4⟩ := minD_least C L b
    have hmem : d ∈ b :: L := List.mem_of_getElem? hd'
    have I' : Inv X pins σ H { s with heap := h', toks := tk } := I.kept hk
    obtain ⟨cs, hrd⟩ := Dp.reads I' _ _ v (C.rd _ _ _ ed) rx
    rw [h2] at hm
    have ee : C.enc m = C.enc d := PySem.W.alike_unique _ _ _ _ _ (C.al _ _) hm hrd
    refine ⟨x, H, I', rx, q x d ed hmem fun y hy => ?_⟩
    have hmd : C.key d ≤ C.key m := key_le (C.same ee)
    refine List.le_trans hmd ?_
    rcases List.mem_cons.mp hy with rfl | hy
    · exact h3
    · exact h4 y hy
end

/-! ### sorted of a list or a tuple of data -/
/-- what a value stands for -/
def Stands {β : Type} (E : Hp → V → β → Prop) (H : Hp) (u : Value) (b : β) : Prop := ∃ x, RelV x u ∧ E H x b
theorem each_stands {β : Type} {E : Hp → V → β → Prop} {H : Hp} : ∀ {us : List V} {L : List β} {its : List Value}, Paired (E H) us L → Vals us its → PySem.W.EachIs (Stands E H) its L
  | _, _, _, .nil, .nil => .nil
  | _, _, _, .cons r t, .cons q z => .cons ⟨_, q, r⟩ (each_stands t z)
theorem stands_each {β : Type} {E : Hp → V → β → Prop} {H : Hp} : ∀ {its : List Value} {L : List β}, PySem.W.EachIs (Stands E H) its L → ∃ us, Vals us its ∧ Paired (E H) us L
  | _, _, .nil => ⟨[], .nil, .nil⟩
  | _, _, .cons ⟨x, r, e⟩ t => by
    obtain ⟨us, h1, h2⟩ := stands_each t
    exact ⟨x :: us, .cons r h1, .cons e h2⟩
/-- the sorted list, told by what it is -/
structure Sorts {β : Type} (key : β → List Int) (L M : List β) : Prop where
  perm : M.Perm L
  up : M.Pairwise fun a b => key a ≤ key b
theorem sorts_merge {β : Type} {K : PySem.W.Frag} {E : Hp → V → β → Prop} (C : Enc β K E) (L : List β) : Sorts C.key L (L.mergeSort (PySem.W.dataLe false C.enc)) := by
  have e : PySem.W.dataLe false C.enc = fun a b => decide (C.key a ≤ C.key b) := by
    funext a b
    rw [PySem.W.dataLe_eq]
    show (!PySem.W.dataLt (C.enc b) (C.enc a)) = _
    rw [C.lt]
    by_cases h : C.key b < C.key a
    · rw [decide_eq_true h, decide_eq_false (fun z : C.key a ≤ C.key b => z h)]
      rfl
    · rw [decide_eq_false h, decide_eq_true (key_le h)]
      rfl
  rw [e]
  refine ⟨List.mergeSort_perm _ _, ?_⟩
  have p := List.pairwise_mergeSort (le := fun a b => decide (C.key a ≤ C.key b)) (fun a b c h1 h2 => ?_) (fun a b => ?_) L
  · exact p.imp fun h => of_decide_eq_true h
  · exact decide_eq_true (List.le_trans (of_decide_eq_true h1) (of_decide_eq_true h2))
  · rcases List.le_total (C.key a) (C.key b) with h | h
    · rw [decide_eq_true h, Bool.true_or]
    · rw [decide_eq_true h, Bool.or_true]

section
variable {prog : Program} {w : World} {A : Around} {E : Value → Shared → Prop} {s : Shared}
open PySem.W PySem.Calls in
/-- sorted(t), t a tuple: as of a list -/
theorem sortedT_data {β : Type} {R : Value → β → Prop} {enc : β → PyData} {bs : List β} {vs : List Value} {t : Addr} {Q : Value → Shared → Prop} (ht : s.heap.IsTuple t vs.toArray) (e : EachIs R vs bs)
    (er : EachIs (fun v b => ∃ as, Reads s.heap v (enc b) as) vs bs) (hal : AllAlike (bs.map enc)) (hk : Sortable (bs.map enc)) (hL : bs.length ≤ sizeLine) (hu : ∀ b, b ∈ bs → A.units + 2 + (enc b).depth < cLine)
    (h : ∀ (out : List Value) (h1 h' : Heap) (n : Nat), out.length = bs.length → EachIs R out (bs.mergeSort (dataLe false enc)) → (∀ b o, s.heap.get? b = some o → h1.get? b = some o) → (∀ b o, h1.get? b = some o → h'.get? b = some o) → h'.get? h1.objs.size = some (seqObj "list" (List.toArray out) n) → Q (.ref h1.objs.size) { s with heap := h' }) :
    wpAny (model prog w) A (call (.builtin "sorted") [.ref t]) Q E s := by
  have hLv : vs.length ≤ sizeLine := by rw [e.length]; exact hL
  obtain ⟨o, ho, hc, n, hd⟩ := id ht
  refine call_function_entry_kw kind_sorted plain_sorted entry_sorted (args_sorted1 _) ?_
  unfold Builtin.«sorted»
  refine wpAny_bind (m := checkCount "sorted" 1 1 _) (wpAny_pure ?_)
  refine wpAny_bind (wpAny_collect_seq t (.inr rfl) ho hc hd (fun h1 k1 => ?_) (by simpa using hLv))
  have evs : vs.toArray.toList = vs := by simp
  rw [evs]
  refine wpAny_bind (wpAny_newList ?_ hLv)
  generalize ha : h1.objs.size = a
  have hat : (h1.push (seqObj "list" vs.toArray 0)).get? a = some (seqObj "list" vs.toArray 0) := by
    rw [← ha]
    exact Heap.get?_push_size _ rfl
  have k2 : ∀ b o, s.heap.get? b = some o → (h1.push (seqObj "list" vs.toArray 0)).get? b = some o := fun b o q => Heap.get?_push_of_some _ (k1 b o q)
  have er' : EachIs (fun v b => ∃ as, Reads (sortingHeap (h1.push (seqObj "list" vs.toArray 0)) a vs) v (enc b) as) vs bs := er.mono fun _ _ ⟨as, r⟩ => ⟨as, PyProof.Rows.Reads.keeps (fun b o q => sortingHeap_old (by
    rw [← ha]
    exact Nat.ne_of_lt (Heap.lt_size (k1 b o q))) (k2 b o q)) r⟩
  refine wpAny_bind (wpAny_holding (wpAny_call_entry_kw slot_list_sort ⟨_, hat, rfl⟩ entry_list_sort ?body (args_list_sort _)))
  case body =>
    have S := SortsAt.data (prog := prog) (w := w) (A := A.in1.in1) (s := { s with heap := sortingHeap (h1.push (seqObj "list" vs.toArray 0)) a vs }) (each_map (R := fun v d => ∃ as, Reads (sortingHeap (h1.push (seqObj "list" vs.toArray 0)) a vs) v d as) enc er') hal hk (bound_map hu)
    show wpAny (model prog w) A.in1.in1 (Builtin.«list.sort» ⟨[.ref a], []⟩) _ _ _
    refine list_sort_vals (s := { s with heap := h1.push (seqObj "list" vs.toArray 0) }) hat S hLv ?_
    obtain ⟨n', hn'⟩ := sortedHeap_at (h := h1.push (seqObj "list" vs.toArray 0)) (out := (sortVals (dataKind (sortingHeap (h1.push (seqObj "list" vs.toArray 0)) a vs) (bs.map enc)) false vs vs).toArray) hat
    subst ha
    refine ⟨_, rfl, wpAny_pure ⟨_, rfl, h _ h1 _ n' (by rw [sortVals_length false rfl]; exact e.length) (sortVals_data false e er' hal) k1 (fun b o q => ?_) hn'⟩⟩
    rw [sortedHeap_old (Nat.ne_of_lt (Heap.lt_size q)) (by rw [size_push']; exact Nat.lt_succ_of_lt (Heap.lt_size q))]
    exact Heap.get?_push_of_some _ q
end
section
variable {X : Cx} {β : Type} {E : Hp → V → β → Prop}
def rSortE (K : PySem.W.Frag) (E : Hp → V → β → Prop) (enc : β → PyData) (key : β → List Int) : List V → Hp → VK → Prop := fun vs H Q => ∃ (a : Addr) (us : List V) (L : List β), vs = [V.ref a] ∧ (SqL K H a us ∨ SqT K H a us) ∧ Paired (E H) us L ∧
  ((∀ b ∈ L, ∃ x r, enc b = .tuple (x :: r)) ∨ ∀ b ∈ L, ∀ xs, enc b ≠ .tuple xs) ∧ L.length ≤ sizeLine ∧ ∀ (p : Addr) (ws : List V) (M : List β), H p = none → Paired (E H) ws M → Sorts key L M → Q (.ref p) (upd H p (.lst ws))
theorem cr_sortE (C : Enc β X.K E) (hu : X.A.units + 32 < cLine) : CallR X (.builtin "sorted") (rSortE X.K E C.enc C.key) := by
  intro pins s σ H vs us Q I r h
  obtain ⟨a, ws, L, rfl, hs, hp, hk, hz, q⟩ := h
  rw [Vals.ref1 r]
  have hal : PySem.W.AllAlike (L.map C.enc) := PySem.W.AllAlike.of C.al
  have hk' : PySem.W.Sortable (L.map C.enc) := by
    rcases hk with hk | hk
    · refine .inl fun d hd => ?_
      obtain ⟨b, hb, rfl⟩ := List.mem_map.mp hd
      exact hk b hb
    · refine .inr fun d hd => ?_
      obtain ⟨b, hb, rfl⟩ := List.mem_map.mp hd
      exact ⟨C.nn b, hk b hb⟩
  have hdp : ∀ b, b ∈ L → X.A.units + 2 + (C.enc b).depth < cLine := fun b _ => by
    have := C.dp b
    omega
  have rds : ∀ its, Vals ws its → PySem.W.EachIs (fun v b => ∃ as, Reads s.heap v (C.enc b) as) its L := fun its rv => (each_stands hp rv).mono fun u b ⟨x, rx, ex⟩ => Dp.reads I _ _ u (C.rd _ _ _ ex) rx
  have lenM : (L.mergeSort (PySem.W.dataLe false C.enc)).length = L.length := List.length_mergeSort _
  rcases hs with hs | hs
  · obtain ⟨its, rv, hl, _⟩ := I.list hs
    refine PySem.W.sorted_data (R := Stands E H) hl.isList (each_stands hp rv) (rds its rv) hal hk' hz hdp fun out hlen he => ?_
    obtain ⟨xs, h1, h2⟩ := stands_each he
    obtain ⟨ep, he'⟩ := PyProof.Rows.sortedAll_at s.heap its out.toArray
    have hl2 : xs.length ≤ sizeLine := by rw [h1.length, hlen]; exact hz
    exact ⟨.ref _, _, I.laid (t' := s.toks) (o := .lst xs) (fun _ _ => PyProof.Rows.sortedAll_old) (Nat.le_succ _) ⟨hl2, out, ep, h1, he'⟩, rfl, q _ xs _ (I.hok.fresh (Nat.le_succ _)) h2 (sorts_merge C L)⟩
  · obtain ⟨its, rv, hl, _⟩ := I.tuple hs
    refine sortedT_data (R := Stands E H) (show s.heap.IsTuple a its.toArray from hl) (each_stands hp rv) (rds its rv) hal hk' hz hdp fun out h1 h' n hlen he k1 k2 hn => ?_
    obtain ⟨xs, g1, g2⟩ := stands_each he
    have hl2 : xs.length ≤ sizeLine := by rw [g1.length, hlen]; exact hz
    have I1 : Inv X pins σ H { s with heap := h1 } := I.kept (t' := s.toks) k1
    exact ⟨.ref _, _, I1.laid (t' := s.toks) (o := .lst xs) k2 (Nat.le_refl _) ⟨hl2, out, n, g1, hn⟩, rfl, q _ xs _ (I1.hok.fresh (Nat.le_refl _)) g2 (sorts_merge C L)⟩
end
end K37
end

section
set_option Elab.async false
set_option linter.all false
set_option maxRecDepth 100000
set_option maxHeartbeats 2000000
/-! enumerate of a tuple; zip of a tuple and a list. -/
namespace K37
open PySem PySem.Spec PyProof.Rows L2

section
theorem meets_enumB {v : Value} {o : Obj} {H : Heap → Prop} (B : Begins v o H) :
    Meets (Builtin.«enumerate.__new__» ⟨[.type "enumerate", v], []⟩) (fun _ R s => H s.heap ∧
      R (.ok (.ret (.ref (s.heap.push o).objs.size))) { s with heap := (s.heap.push o).push { cls := .type "enumerate", data := .fields #[.none, .bool false, .ref s.heap.objs.size, rawInt 0, .none, .none] } }) :=
  .of_wp fun prog w A R s h => by
    obtain ⟨hp, g, d, tk, os⟩ := s
    obtain ⟨h1, h⟩ := h
    have hsub := sub_enumerate
    have q1 : ∀ {A' : Around} {E : Value → Shared → Prop} {Q : Value → Shared → Prop}, Q (.ref hp.objs.size) ⟨hp.push o, g, d, tk, os⟩ → wpAny (model prog w) A' (pyIter v) Q E ⟨hp, g, d, tk, os⟩ := fun q => B.iter _ _ _ _ _ _ h1 q
    wp_walk using q1
    refine wpAny_stack_any fun st => wpAny_pure ?_
    split
    · rename_i c _ _ _ _ _
      cases (c == Value.type "enumerate") <;> (wp_walk using q1; exact ⟨_, rfl, h⟩)
    · wp_walk using q1
      exact ⟨_, rfl, h⟩
end
section
variable {prog : Program} {w : World} {A : Around} {E : Value → Shared → Prop} {s : Shared}
theorem call_enumB {v : Value} {o : Obj} {H : Heap → Prop} {Q : Value → Shared → Prop} (B : Begins v o H) (h1 : H s.heap)
    (h : ∀ h' : Heap, IsEnum h' (s.heap.objs.size + 1) s.heap.objs.size 0 .none → h'.get? s.heap.objs.size = some o → (∀ b u, s.heap.get? b = some u → h'.get? b = some u) → Q (.ref (s.heap.objs.size + 1)) { s with heap := h' }) :
    wpAny (model prog w) A (call (.type "enumerate") [v]) Q E s := by
  refine callType_new F.called_enumerate (by decide) (F.typeCall_enumerate_1 _) (F.newCall_enumerate_1 _) (fun obj => F.args_object_init_2 obj _) F.entry_enumerate_new (meets_enumB B) ⟨h1, ?_⟩
  have hz : (s.heap.push o).objs.size = s.heap.objs.size + 1 := Heap.size_push ..
  have he := Heap.get?_push_size (s.heap.push o) (o := { cls := .type "enumerate", data := .fields #[.none, .bool false, .ref s.heap.objs.size, rawInt 0, .none, .none] }) rfl
  show _ ∧ _
  rw [hz] at he ⊢
  exact ⟨⟨_, he, rfl⟩, h _ he (Heap.get?_push_of_some _ (Heap.get?_push_size _ B.free)) fun b u x => Heap.get?_push_of_some _ (Heap.get?_push_of_some _ x)⟩
end

/-- the tuple at a, each item in a new pair with its place -/
def IteT (K : PySem.W.Frag) (a : Addr) : It where
  go i H := ∃ (xs : List V) (x : V), SqT K H a xs ∧ xs[i]? = some x
  yld i H v H' := ∃ T x, v = .ref T ∧ H T = none ∧ H' = upd H T (.tup [.int (i : Nat), x]) ∧ ∀ xs, SqT K H a xs → xs[i]? = some x
  stop i H := ∃ xs : List V, SqT K H a xs ∧ xs.length = i
theorem walk_enumT {K : PySem.W.Frag} {a : Addr} {xs : List V} : Walk (IteT K a) xs.length (fun H => SqT K H a xs) (YPair (fun i => some (.int (i : Nat))) (fun i => xs[i]?)) := by
  refine ⟨fun i H hi q => ⟨xs, xs[i], q, by simp [hi]⟩, fun H q => ⟨xs, q, rfl⟩, fun i H v H' hi q ⟨T, x, h1, h2, h3, h4⟩ => ?_⟩
  exact ⟨T, .int (i : Nat), x, h1, h2, h3, rfl, h4 xs q⟩
theorem turn_enumT {P : Program} {w : World} {K : PySem.W.Frag} {elts : List Expr} {kk : Nat} {tpos : Pos} {a e it : Addr} (hea : e ≠ a) (hia : it ≠ a) (hne : e ≠ it) :
    Turn P w K (.Tuple elts kk tpos) (IteT K a) [e, it] e (fun i h => (∃ old, IsEnum h e it ((i : Nat) : Int) old) ∧ h.IsTupleIter it a i) where
  mem := by simp
  obj := fun i h ⟨⟨old, he⟩, ⟨o, ho, hc, hd⟩⟩ b hb => by
    rcases (by simpa using hb : b = e ∨ b = it) with rfl | rfl
    · exact ⟨_, he, fun v q => nomatch q⟩
    · exact ⟨o, ho, fun v q => by rw [hd] at q; cases q⟩
  keep := fun i h h' ⟨⟨old, he⟩, hi⟩ k => ⟨⟨old, k e (by simp) _ he⟩, hi.at fun o q => k it (by simp) o q⟩
  item := by
    intro X hP hw hK hc i pins s σ H E I hf ⟨⟨old, he⟩, hit⟩ ⟨xs, x, hq, hx⟩
    subst hP hw hK
    obtain ⟨its, rv, p, hz⟩ := I.tuple hq
    obtain ⟨u, hu, ru⟩ := rv.get hx
    have hlt : i < its.toArray.size := by
      obtain ⟨z, _⟩ := List.getElem?_eq_some_iff.mp hu
      simpa using z
    have pt : s.heap.IsTuple a its.toArray := p
    have D := Draws.tuple (prog := X.prog) (w := X.w) (A := X.A.in1) (I.ok.hd hc) it a (Ne.symm hia) its.toArray
    have W := GoesN.enumFrom (elts := elts) (x1 := kk) (pos := tpos) 0 D e hne (by simp [hne, hea]) (by simp)
    refine thn (W.goes i s (fun v s2 => ∃ x H', Inv X pins σ H' s2 ∧ RelV x v ∧ (IteT X.K a).yld i H x H' ∧ ((∃ old, IsEnum s2.heap e it ((i + 1 : Nat) : Int) old) ∧ s2.heap.IsTupleIter it a (i + 1)) ∧ ∀ b ∈ [e, it], H' b = none) E hlt ⟨⟨old, ?_⟩, hit, pt⟩ ?_) fun r s1 ⟨v, h1, h2⟩ => ⟨v, h1, h2⟩
    · have e0 : (0 : Int) + ((i : Nat) : Int) = ((i : Nat) : Int) := Int.zero_add _
      rw [e0]
      exact he
    · intro v h' tk ⟨T, t, y, ev, hT, hy, hTup⟩ ⟨⟨old', he'⟩, hit', pt'⟩ hk htk
      have hy' : its.toArray[i]? = some y := hy
      have ey : y = u := by
        have e1 : its.toArray[i]? = some u := by simpa using hu
        rw [e1] at hy'
        exact (Option.some.inj hy').symm
      subst ey
      subst ev
      have new : ObjOk X.prog X.w (upd H T (.tup [.int (i : Nat), x])) h' T (.tup [.int (i : Nat), x]) := by
        refine ⟨by show 2 ≤ sizeLine; decide, [.int (0 + (i : Int)) t, y], .cons ⟨t, by rw [Int.zero_add]⟩ (.cons ru .nil), ?_⟩
        exact hTup
      have I1 : Inv X pins σ (upd H T (.tup [.int (i : Nat), x])) { s with heap := h', toks := tk } := I.turnedNew (ch := [e, it]) hk hf hT new
      refine ⟨.ref T, _, I1, rfl, ⟨T, x, rfl, I.hok.fresh hT, rfl, fun ys hy => by rw [I.tuple_inj hy hq]; exact hx⟩, ⟨⟨old', ?_⟩, hit'⟩, fun b hb => ?_⟩
      · have e1 : ((i + 1 : Nat) : Int) = 0 + (((i + 1 : Nat)) : Int) := (Int.zero_add _).symm
        rw [e1]
        exact he'
      · have hb' : b < s.heap.objs.size := by
          rcases (by simpa using hb : b = e ∨ b = it) with rfl | rfl
          · exact Heap.lt_size he
          · obtain ⟨_, q, _⟩ := hit
            exact Heap.lt_size q
        rw [upd_ne (Nat.ne_of_lt (Nat.lt_of_lt_of_le hb' hT))]
        exact (hf b hb).1
  done := by
    intro X hP hw hK hc i pins s σ H E I hf ⟨⟨old, he⟩, hit⟩ ⟨xs, hq, hx⟩
    subst hP hw hK
    obtain ⟨its, rv, p, hz⟩ := I.tuple hq
    have hl := rv.length
    have pt : s.heap.IsTuple a its.toArray := p
    have D := Draws.tuple (prog := X.prog) (w := X.w) (A := X.A.in1) (I.ok.hd hc) it a (Ne.symm hia) its.toArray
    have W := GoesN.enumFrom (elts := elts) (x1 := kk) (pos := tpos) 0 D e hne (by simp [hne, hea]) (by simp)
    have ei : its.toArray.size = i := by
      simp
      omega
    refine thn (W.stops s (fun s2 => Inv X pins σ H s2) E ⟨⟨old, ?_⟩, ?_, pt⟩ fun h' tk hk htk => I.turnedL (t' := tk) (ch := [e, it]) hk hf) fun r s1 z => z
    · rw [ei, Int.zero_add]
      exact he
    · rw [ei]
      exact hit
  self := fun A i s Q E ⟨⟨_, he⟩, _⟩ h => wpAny_pyIter_enum he h
def iEnumT (K : PySem.W.Frag) (ta : TA) : L2.TI := fun σ H R => ta σ H fun vs H1 => ∃ a xs, vs = [.ref a] ∧ SqT K H1 a xs ∧ R (IteT K a) H1
theorem pi_enumT {X : Cx} {e : Expr} {ta : TA} {p pos tpos : Pos} {elts : List Expr} {kk : Nat} (hg : Gl X "enumerate") (hm : X.mg "enumerate" = none) (ha : PA X [e] ta) (hs : starEach [e] X.env = [(false, eval e X.env)] := by rfl) :
    PI X (.Tuple elts kk tpos) (.Call (.Name "enumerate" p) [e] [] pos) (iEnumT X.K ta) := by
  refine ⟨fun pins s σ H R I h => ?_⟩
  refine Call_ (ld_blt I hg hm boot_enumerate (PyProof.Rows.callWith_type1 (thn (ha.run pos pins s σ H _ I h) fun us s1 ⟨vs, H1, I1, r1, a, xs, ex, hq, q⟩ => ?_) hs rfl))
  subst ex
  rw [Vals.ref1 r1]
  obtain ⟨its, rv, p', hz⟩ := I1.tuple hq
  have pt : s1.heap.IsTuple a its.toArray := p'
  have alt : a < s1.heap.objs.size := by
    obtain ⟨o, ho, _⟩ := pt
    exact Heap.lt_size ho
  refine call_enumB (begins_tuple a its.toArray) pt fun h' he hi hk => wpAny_pyIter_enum he ?_
  have I2 : Inv X pins σ H1 { s1 with heap := h' } := I1.kept (t' := s1.toks) hk
  refine ⟨s1.heap.objs.size + 1, [s1.heap.objs.size + 1, s1.heap.objs.size], _, _, H1, rfl, I2, turn_enumT (a := a) (Nat.ne_of_gt (Nat.lt_succ_of_lt alt)) (Nat.ne_of_gt alt) (Nat.succ_ne_self _), ⟨⟨.none, he⟩, ⟨_, hi, rfl, rfl⟩⟩, fun b hb => ?_, q⟩
  have hle : s1.heap.objs.size ≤ b := by
    rcases (by simpa using hb : b = s1.heap.objs.size + 1 ∨ b = s1.heap.objs.size) with rfl | rfl
    · exact Nat.le_succ _
    · exact Nat.le_refl _
  exact I1.fpOk hle (I1.hok.fresh hle)
/-! ### zip(tuple, list) -/
/-- the tuple at a and the list at b as it stands at each turn, the items in new pairs -/
def ItzM (K : PySem.W.Frag) (a b : Addr) : It where
  go i H := ∃ (xs ys : List V) (x y : V), SqT K H a xs ∧ SqL K H b ys ∧ xs[i]? = some x ∧ ys[i]? = some y
  yld i H v H' := ∃ T x y, v = .ref T ∧ H T = none ∧ H' = upd H T (.tup [x, y]) ∧ (∀ xs, SqT K H a xs → xs[i]? = some x) ∧ ∀ ys, SqL K H b ys → ys[i]? = some y
  stop i H := ∃ xs ys : List V, SqT K H a xs ∧ SqL K H b ys ∧ min xs.length ys.length = i
theorem walk_zipM {K : PySem.W.Frag} {a b : Addr} {xs ys : List V} {n : Nat} (hn : n = min xs.length ys.length) : Walk (ItzM K a b) n (fun H => SqT K H a xs ∧ SqL K H b ys) (YPair (fun i => xs[i]?) (fun i => ys[i]?)) := by
  subst hn
  refine ⟨fun i H hi q => ?_, fun H q => ⟨xs, ys, q.1, q.2, rfl⟩, fun i H v H' hi q ⟨T, x, y, h1, h2, h3, h4, h5⟩ => ⟨T, x, y, h1, h2, h3, h4 xs q.1, h5 ys q.2⟩⟩
  have l1 : i < xs.length := by omega
  have l2 : i < ys.length := by omega
  exact ⟨xs, ys, xs[i], ys[i], q.1, q.2, List.getElem?_eq_getElem l1, List.getElem?_eq_getElem l2⟩
theorem walk_zipTT {K : PySem.W.Frag} {a b : Addr} {xs ys : List V} {n : Nat} (hn : n = min xs.length ys.length) : Walk (RZ.ItzT K a b) n (fun H => SqT K H a xs ∧ SqT K H b ys) (YPair (fun i => xs[i]?) (fun i => ys[i]?)) := by
  subst hn
  refine ⟨fun i H hi q => ?_, fun H q => ⟨xs, ys, q.1, q.2, by omega⟩, fun i H v H' hi q ⟨T, x, y, h1, h2, h3, h4, h5⟩ => ⟨T, x, y, h1, h2, h3, h4 xs q.1, h5 ys q.2⟩⟩
  have l1 : i < xs.length := by omega
  have l2 : i < ys.length := by omega
  exact ⟨xs, ys, xs[i], ys[i], q.1, q.2, List.getElem?_eq_getElem l1, List.getElem?_eq_getElem l2⟩
/-- the zip's own objects at its i-th turn -/
structure ZipAt (N a b : Addr) (i : Nat) (h : Heap) : Prop where
  z : IsZip h (N + 4) (N + 2) (N + 3) .none
  ti : IsTupOf2 h (N + 2) (.ref N) (.ref (N + 1))
  to : ∃ a1 a2, IsTupOf2 h (N + 3) a1 a2
  i1 : h.IsTupleIter N a i
  i2 : h.IsListIter (N + 1) b i
abbrev zipFp (N : Addr) : List Addr := [N + 4, N + 2, N + 3, N, N + 1]
theorem zip_mem {N b : Addr} (h : b ∈ zipFp N) : b = N + 4 ∨ b = N + 2 ∨ b = N + 3 ∨ b = N ∨ b = N + 1 := by simpa using h
theorem turn_zipM {P : Program} {w : World} {K : PySem.W.Frag} {elts : List Expr} {kk : Nat} {tpos : Pos} {a b N : Addr} (ha : a < N) (hb : b < N) :
    Turn P w K (.Tuple elts kk tpos) (ItzM K a b) (zipFp N) (N + 4) (ZipAt N a b) where
  mem := by simp
  obj := fun i h st c hc => by
    rcases zip_mem hc with rfl | rfl | rfl | rfl | rfl
    · exact ⟨_, st.z, fun v q => nomatch q⟩
    · exact ⟨_, st.ti, fun v q => nomatch q⟩
    · obtain ⟨a1, a2, e⟩ := st.to
      exact ⟨_, e, fun v q => nomatch q⟩
    · obtain ⟨o, ho, hc, hd⟩ := st.i1
      exact ⟨o, ho, fun v q => by rw [hd] at q; cases q⟩
    · obtain ⟨o, ho, hc, hd⟩ := st.i2
      exact ⟨o, ho, fun v q => by rw [hd] at q; cases q⟩
  keep := fun i h h' st k => ⟨k _ (by simp) _ st.z, k _ (by simp) _ st.ti, let ⟨a1, a2, e⟩ := st.to; ⟨a1, a2, k _ (by simp) _ e⟩, st.i1.at fun o q => k _ (by simp) o q, st.i2.at fun o q => k _ (by simp) o q⟩
  item := by
    intro X hP hw hK hc i pins s σ H E I hf st ⟨xs, ys, x, y, hqx, hqy, hx, hy⟩
    subst hP hw hK
    obtain ⟨its, rv, p, hz⟩ := I.tuple hqx
    obtain ⟨its2, rv2, p2, hz2⟩ := I.list hqy
    obtain ⟨u, hu, ru⟩ := rv.get hx
    obtain ⟨u2, hu2, ru2⟩ := rv2.get hy
    have hu' : its.toArray[i]? = some u := by simpa using hu
    have hu2' : its2.toArray[i]? = some u2 := by simpa using hu2
    have hlt : i < min its.toArray.size its2.toArray.size := by
      obtain ⟨z, _⟩ := List.getElem?_eq_some_iff.mp hu
      obtain ⟨z2, _⟩ := List.getElem?_eq_some_iff.mp hu2
      simp
      omega
    have pt : s.heap.IsTuple a its.toArray := p
    have pl : s.heap.IsList b its2.toArray := p2.isList
    have D1 := Draws.tuple (prog := X.prog) (w := X.w) (A := X.A.in1) (I.ok.hd hc) N a (Nat.ne_of_lt ha) its.toArray
    have D2 := Draws.list (prog := X.prog) (w := X.w) (A := X.A.in1) (I.ok.hd hc) (N + 1) b (Nat.ne_of_lt (Nat.lt_succ_of_lt hb)) its2.toArray
    have S : ZipSep2 (N + 4) (N + 2) (N + 3) N (N + 1) [N, a] [N + 1, b] := zip_sep2 (by simpa using ha) (by simpa using hb)
    have W := GoesN.zip2 (elts := elts) (x1 := kk) (pos := tpos) S D1 D2
    refine thn (W.goes i s (fun v s2 => ∃ x H', Inv X pins σ H' s2 ∧ RelV x v ∧ (ItzM X.K a b).yld i H x H' ∧ ZipAt N a b (i + 1) s2.heap ∧ ∀ c ∈ zipFp N, H' c = none) E hlt ⟨st.z, st.ti, st.to, ⟨st.i1, pt⟩, ⟨st.i2, pl⟩⟩ ?_) fun r s1 ⟨v, h1, h2⟩ => ⟨v, h1, h2⟩
    intro v h' tk ⟨T, v1, v2, ev, hT, hy1, hy2, hTup⟩ ⟨z', ti', to', ⟨i1', pt'⟩, ⟨i2', pl'⟩⟩ hk htk
    have e1 : v1 = u := by
      have q : its.toArray[i]? = some v1 := hy1
      rw [hu'] at q
      exact (Option.some.inj q).symm
    have e2 : v2 = u2 := by
      have q : its2.toArray[i]? = some v2 := hy2
      rw [hu2'] at q
      exact (Option.some.inj q).symm
    subst e1 e2 ev
    have new : ObjOk X.prog X.w (upd H T (.tup [x, y])) h' T (.tup [x, y]) := ⟨by show 2 ≤ sizeLine; decide, [v1, v2], .cons ru (.cons ru2 .nil), hTup⟩
    have I1 : Inv X pins σ (upd H T (.tup [x, y])) { s with heap := h', toks := tk } := I.turnedNew (ch := zipFp N) (fun c o hcm q => hk c o (fun z => hcm (by
      rcases (by simpa using z : c = N + 4 ∨ c = N + 3 ∨ c = N ∨ c = N + 1) with rfl | rfl | rfl | rfl <;> simp)) q) hf hT new
    refine ⟨.ref T, _, I1, rfl, ⟨T, x, y, rfl, I.hok.fresh hT, rfl, fun zs hzs => by rw [I.tuple_inj hzs hqx]; exact hx, fun zs hzs => by rw [I.list_inj hzs hqy]; exact hy⟩, ⟨z', ti', to', i1', i2'⟩, fun c hcm => ?_⟩
    have hb' : c < s.heap.objs.size := by
      rcases zip_mem hcm with rfl | rfl | rfl | rfl | rfl
      · exact Heap.lt_size st.z
      · exact Heap.lt_size st.ti
      · obtain ⟨_, _, q⟩ := st.to
        exact Heap.lt_size q
      · obtain ⟨_, q, _⟩ := st.i1
        exact Heap.lt_size q
      · obtain ⟨_, q, _⟩ := st.i2
        exact Heap.lt_size q
    rw [upd_ne (Nat.ne_of_lt (Nat.lt_of_lt_of_le hb' hT))]
    exact (hf c hcm).1
  done := by
    intro X hP hw hK hc i pins s σ H E I hf st ⟨xs, ys, hqx, hqy, hend⟩
    subst hP hw hK
    obtain ⟨its, rv, p, hz⟩ := I.tuple hqx
    obtain ⟨its2, rv2, p2, hz2⟩ := I.list hqy
    have l1 := rv.length
    have l2 := rv2.length
    have pt : s.heap.IsTuple a its.toArray := p
    have pl : s.heap.IsList b its2.toArray := p2.isList
    have D1 := Draws.tuple (prog := X.prog) (w := X.w) (A := X.A.in1) (I.ok.hd hc) N a (Nat.ne_of_lt ha) its.toArray
    have D2 := Draws.list (prog := X.prog) (w := X.w) (A := X.A.in1) (I.ok.hd hc) (N + 1) b (Nat.ne_of_lt (Nat.lt_succ_of_lt hb)) its2.toArray
    have S : ZipSep2 (N + 4) (N + 2) (N + 3) N (N + 1) [N, a] [N + 1, b] := zip_sep2 (by simpa using ha) (by simpa using hb)
    have W := GoesN.zip2 (elts := elts) (x1 := kk) (pos := tpos) S D1 D2
    have ei : min its.toArray.size its2.toArray.size = i := by
      simp
      omega
    rw [ei] at W
    exact W.stops s (fun s2 => Inv X pins σ H s2) E ⟨st.z, st.ti, st.to, ⟨st.i1, pt⟩, ⟨st.i2, pl⟩⟩ fun h' tk hk htk => I.turnedL (t' := tk) (ch := zipFp N) (fun c o hcm q => hk c o (fun z => hcm (by
      rcases (by simpa using z : c = N + 4 ∨ c = N + 3 ∨ c = N ∨ c = N + 1) with rfl | rfl | rfl | rfl <;> simp)) q) hf
  self := fun A i s Q E st h => wpAny_pyIter_zip st.z h
def iZipM (K : PySem.W.Frag) (ta : TA) : L2.TI := fun σ H R => ta σ H fun vs H1 => ∃ a b xs ys, vs = [.ref a, .ref b] ∧ SqT K H1 a xs ∧ SqL K H1 b ys ∧ R (ItzM K a b) H1
theorem pi_zipM {X : Cx} {e e2 : Expr} {ta : TA} {p pos tpos : Pos} {elts : List Expr} {kk : Nat} (hg : Gl X "zip") (hm : X.mg "zip" = none) (ha : PA X [e, e2] ta)
    (hs : starEach [e, e2] X.env = (false, eval e X.env) :: starEach [e2] X.env := by rfl) (hpl : (backTo pos (starEach [e2] X.env)).any (·.1) = false := by rfl) :
    PI X (.Tuple elts kk tpos) (.Call (.Name "zip" p) [e, e2] [] pos) (iZipM X.K ta) := by
  refine ⟨fun pins s σ H R I h => ?_⟩
  refine Call_ (ld_blt I hg hm PyProof.Rows.boot_zip (PyProof.Rows.callWith_type1 (thn (ha.run pos pins s σ H _ I h) fun us s1 ⟨vs, H1, I1, r1, a, b, xs, ys, ex, hqx, hqy, q⟩ => ?_) hs hpl))
  subst ex
  cases r1 with
  | cons r rr =>
    cases rr with
    | cons r' rr =>
      cases rr
      cases r
      cases r'
      obtain ⟨its, rv, p1, _⟩ := I1.tuple hqx
      obtain ⟨its2, rv2, p2, _⟩ := I1.list hqy
      have pt : s1.heap.IsTuple a its.toArray := p1
      have alt : a < s1.heap.objs.size := by
        obtain ⟨o, ho, _⟩ := pt
        exact Heap.lt_size ho
      refine zip_begins2 (begins_tuple a its.toArray) (begins_list b its2.toArray) pt p2.isList fun h' hz hTI hTO h1 h2 hsz hk => wpAny_pyIter_zip hz ?_
      have I2 : Inv X pins σ H1 { s1 with heap := h' } := I1.kept (t' := s1.toks) hk
      refine ⟨s1.heap.objs.size + 4, zipFp s1.heap.objs.size, _, _, H1, rfl, I2, turn_zipM alt p2.lt, ⟨hz, hTI, ⟨_, _, hTO⟩, ⟨_, h1, rfl, rfl⟩, ⟨_, h2, rfl, rfl⟩⟩, fun c hcm => ?_, q⟩
      have hle : s1.heap.objs.size ≤ c := by
        rcases zip_mem hcm with rfl | rfl | rfl | rfl | rfl <;> omega
      exact I1.fpOk hle (I1.hok.fresh hle)
end K37
end

section
set_option Elab.async false
set_option linter.all false
set_option maxRecDepth 100000
set_option maxHeartbeats 1000000
/-! Data on the abstract heap; a comprehension told by lists. -/
namespace K37
open PySem PySem.Spec PyProof.Rows L2

/-! ### what a value is -/
/-- an int -/
def NI (_ : Hp) (v : V) (i : Int) : Prop := v = .int i
/-- a truth value -/
def BI (_ : Hp) (v : V) (b : Bool) : Prop := v = .bl b
/-- a tuple of ints -/
def RT (H : Hp) (v : V) (ns : List Int) : Prop := ∃ a, v = .ref a ∧ H a = some (.tup (ns.map V.int))
/-- a pair of an int and a tuple of ints -/
def PR (H : Hp) (v : V) (p : Int × List Int) : Prop := ∃ a u, v = .ref a ∧ H a = some (.tup [.int p.1, u]) ∧ RT H u p.2
/-- a street -/
def StrAt (H : Hp) (v : V) (n : Int) (hs : List Int) : Prop := ∃ a b, v = .ref a ∧ H a = some (.tup [.int n, .ref b]) ∧ H b = some (.tup (hs.map V.int))
/-- a list of ints, not the one at D -/
def LR (D : Addr) (H : Hp) (v : V) (ns : List Int) : Prop := ∃ a, v = .ref a ∧ a ≠ D ∧ H a = some (.lst (ns.map V.int))

/-- what stood but at D, stands -/
def SameBut (D : Addr) (H H' : Hp) : Prop := ∀ a o, a ≠ D → H a = some o → H' a = some o
/-- told without the list at D -/
def Stab {β : Type} (D : Addr) (E : Hp → V → β → Prop) : Prop := ∀ (H H' : Hp) v b, E H v b → SameBut D H H' → (∃ acc, H D = some (.lst acc)) → E H' v b
def Mono {β : Type} (E : Hp → V → β → Prop) : Prop := ∀ (H H' : Hp) v b, E H v b → Same H H' → E H' v b
theorem same_but {D : Addr} {H H' : Hp} (s : Same H H') : SameBut D H H' := fun a o _ h => s a o h
theorem stab_NI {D : Addr} : Stab D NI := fun _ _ _ _ h _ _ => h
theorem stab_BI {D : Addr} : Stab D BI := fun _ _ _ _ h _ _ => h
theorem tup_ne {H : Hp} {a D : Addr} {xs : List V} (h : H a = some (.tup xs)) (hD : ∃ acc, H D = some (.lst acc)) : a ≠ D := by
  obtain ⟨acc, e⟩ := hD
  exact ne_of h e (fun z => nomatch z)
theorem stab_RT {D : Addr} : Stab D RT := fun H H' v b ⟨a, e, h⟩ s hD => ⟨a, e, s _ _ (tup_ne h hD) h⟩
theorem stab_PR {D : Addr} : Stab D PR := fun H H' v b ⟨a, u, e, h, r⟩ s hD => ⟨a, u, e, s _ _ (tup_ne h hD) h, stab_RT _ _ _ _ r s hD⟩
theorem stab_LR {D : Addr} : Stab D (LR D) := fun H H' v b ⟨a, e, n, h⟩ s hD => ⟨a, e, n, s _ _ n h⟩
theorem RT.mono : Mono RT := fun H H' v b ⟨a, e, h⟩ s => ⟨a, e, s _ _ h⟩
theorem PR.mono : Mono PR := fun H H' v b ⟨a, u, e, h, r⟩ s => ⟨a, u, e, s _ _ h, RT.mono _ _ _ _ r s⟩
theorem RT.up {H H' : Hp} {v : V} {b : List Int} (h : RT H v b) (s : Same H H') : RT H' v b := RT.mono _ _ _ _ h s
theorem PR.up {H H' : Hp} {v : V} {b : Int × List Int} (h : PR H v b) (s : Same H H') : PR H' v b := PR.mono _ _ _ _ h s
theorem StrAt.up {H H' : Hp} {v : V} {n : Int} {hs : List Int} (h : StrAt H v n hs) (s : Same H H') : StrAt H' v n hs :=
  let ⟨a, b, e, h1, h2⟩ := h
  ⟨a, b, e, s _ _ h1, s _ _ h2⟩
theorem same_new {H : Hp} {p : Addr} {o : HO} (h : H p = none) : Same H (upd H p o) := fun b x e => by
  rw [upd_ne (ne_of_none e h)]
  exact e
/-- a cell that was not there is written -/
theorem same_put {H H' : Hp} {p : Addr} {o : HO} (s : Same H H') (h : H p = none) : Same H (upd H' p o) := fun b x e => by
  rw [upd_ne (ne_of_none e h)]
  exact s b x e
theorem but_put {H : Hp} {D : Addr} {o : HO} : SameBut D H (upd H D o) := fun a x n e => by
  rw [upd_ne n]
  exact e
theorem Paired.imp {α β : Type} {R R' : α → β → Prop} (h : ∀ a b, R a b → R' a b) : ∀ {xs : List α} {ys : List β}, Paired R xs ys → Paired R' xs ys
  | _, _, .nil => .nil
  | _, _, .cons r t => .cons (h _ _ r) (Paired.imp h t)
theorem Paired.app {α β : Type} {R : α → β → Prop} : ∀ {xs : List α} {ys : List β} {us : List α} {vs : List β}, Paired R xs ys → Paired R us vs → Paired R (xs ++ us) (ys ++ vs)
  | _, _, _, _, .nil, s => s
  | _, _, _, _, .cons r t, s => .cons r (Paired.app t s)
theorem paired_ints : ∀ {H : Hp} {us : List V} {ns : List Int}, Paired (NI H) us ns → us = ns.map V.int
  | _, _, _, .nil => rfl
  | _, _, _, .cons r t => by
    rw [List.map_cons, ← paired_ints t, ← r]
theorem ints_paired : ∀ {H : Hp} (ns : List Int), Paired (NI H) (ns.map V.int) ns
  | _, [] => .nil
  | _, _ :: ns => .cons rfl (ints_paired ns)
theorem paired_bls : ∀ {H : Hp} {us : List V} {ns : List Bool}, Paired (BI H) us ns → us = ns.map V.bl
  | _, _, _, .nil => rfl
  | _, _, _, .cons r t => by
    rw [List.map_cons, ← paired_bls t, ← r]

/-! ### the three orders -/
theorem alike_tup (xs ys : List Int) : PySem.W.alike (.tuple (xs.map .int)) (.tuple (ys.map .int)) = true := by
  rw [PySem.W.alike]
  exact PySem.W.alike_ints xs ys
theorem lt_tup (xs ys : List Int) : PySem.W.dataLt (.tuple (xs.map .int)) (.tuple (ys.map .int)) = decide (xs < ys) := by
  rw [PySem.W.dataLt_tuple]
  exact PySem.W.dataLt_ints xs ys
theorem depth_tup (xs : List Int) : (PyData.tuple (xs.map .int)).depth ≤ 3 := by
  unfold PyData.depth
  rw [PySem.W.depth_ints]
  omega
theorem dp_ints {K : PySem.W.Frag} {H : Hp} : ∀ ns : List Int, DpAll K H (ns.map V.int) (ns.map PyData.int)
  | [] => .nil
  | n :: ns => .cons (.int n) (dp_ints ns)
theorem RT.dp {K : PySem.W.Frag} {H : Hp} {v : V} {ns : List Int} (h : RT H v ns) : Dp K H v (.tuple (ns.map .int)) := by
  obtain ⟨a, rfl, h⟩ := h
  exact .tup (SqT.of h) (dp_ints ns)
def encI (K : PySem.W.Frag) : Enc Int K NI where
  enc i := .int i
  key i := [i]
  lt a b := by
    rw [PySem.W.dataLt_int]
    by_cases h : a < b
    · rw [decide_eq_true h, decide_eq_true (List.cons_lt_cons_iff.mpr (.inl h))]
    · rw [decide_eq_false h, decide_eq_false fun z => ?_]
      rcases List.cons_lt_cons_iff.mp z with z | ⟨_, z⟩
      · exact h z
      · exact absurd z (List.not_lt_nil _)
  al a b := rfl
  nn a := fun z => nomatch z
  dp a := by simp [PyData.depth]
  rd H v b h := by
    rw [show v = .int b from h]
    exact .int b
def encT (K : PySem.W.Frag) : Enc (List Int) K RT where
  enc ns := .tuple (ns.map .int)
  key ns := ns
  lt := lt_tup
  al := alike_tup
  nn a := fun z => nomatch z
  dp a := Nat.le_trans (depth_tup a) (by decide)
  rd H v b h := h.dp
theorem eqv_int (a b : Int) : PyData.eqv (.int a) (.int b) = decide (a = b) := by
  unfold PyData.eqv
  by_cases h : a = b
  · subst h
    simp
  · simp [h]
theorem eqvAll_ints : ∀ xs ys : List Int, PyData.eqvAll (xs.map .int) (ys.map .int) = decide (xs = ys)
  | [], [] => by simp [PyData.eqvAll]
  | [], y :: ys => by simp [PyData.eqvAll]
  | x :: xs, [] => by simp [PyData.eqvAll]
  | x :: xs, y :: ys => by
    rw [List.map_cons, List.map_cons, PySem.W.eqv_all_cons, eqv_int, eqvAll_ints xs ys]
    by_cases h : x = y
    · subst h
      by_cases h2 : xs = ys
      · subst h2
        simp
      · simp [h2]
    · simp [h]
theorem eqv_tup (xs ys : List Int) : PyData.eqv (.tuple (xs.map .int)) (.tuple (ys.map .int)) = decide (xs = ys) := by
  rw [PyData.eqv]
  exact eqvAll_ints xs ys
def encP (K : PySem.W.Frag) : Enc (Int × List Int) K PR where
  enc p := .tuple [.int p.1, .tuple (p.2.map .int)]
  key p := p.1 :: p.2
  lt a b := by
    rw [PySem.W.dataLt_pair rfl (alike_tup _ _), eqv_int, eqv_tup, lt_tup, PySem.W.dataLt_int]
    by_cases h : a.1 = b.1
    · rw [if_pos (decide_eq_true h)]
      by_cases h2 : a.2 = b.2
      · rw [if_pos (decide_eq_true h2), h, h2]
        exact (decide_eq_false (List.lt_irrefl _)).symm
      · rw [if_neg (by simpa using h2)]
        refine decide_eq_decide.mpr ⟨fun q => List.cons_lt_cons_iff.mpr (.inr ⟨h, q⟩), fun q => ?_⟩
        rcases List.cons_lt_cons_iff.mp q with q | ⟨_, q⟩
        · omega
        · exact q
    · rw [if_neg (by simpa using h)]
      refine decide_eq_decide.mpr ⟨fun q => List.cons_lt_cons_iff.mpr (.inl q), fun q => ?_⟩
      rcases List.cons_lt_cons_iff.mp q with q | ⟨q, _⟩
      · exact q
      · exact absurd q h
  al a b := by
    show PySem.W.alikeAll [.int a.1, .tuple (a.2.map .int)] [.int b.1, .tuple (b.2.map .int)] = true
    rw [PySem.W.alikeAll, PySem.W.alikeAll, alike_tup]
    rfl
  nn a := fun z => nomatch z
  dp a := by
    have h := depth_tup a.2
    unfold PyData.depth
    simp only [PyData.depthAll]
    have e : (PyData.int a.1).depth = 0 := by simp [PyData.depth]
    omega
  rd H v b h := by
    obtain ⟨a, u, rfl, h1, h2⟩ := h
    exact .tup (SqT.of h1) (.cons (.int _) (.cons h2.dp .nil))

/-! ### a comprehension told by lists -/
section
variable {J : It} {G : Hp → Prop} {Y : Nat → Hp → V → Hp → Prop} {α β : Type}
theorem take_succ_fm {f : α → Option β} {l : List α} {i : Nat} {a : α} (h : l[i]? = some a) : (l.take (i + 1)).filterMap f = (l.take i).filterMap f ++ (f a).toList := by
  rw [List.take_add_one, h, List.filterMap_append, Option.toList_some]
  cases e : f a with
  | none => rw [List.filterMap_cons_none e, List.filterMap_nil, Option.toList_none]
  | some b => rw [List.filterMap_cons_some e, List.filterMap_nil, Option.toList_some]
theorem lc_dat (bs : List α) (w : Walk J bs.length G Y) (f : α → Option β) (E : Hp → V → β → Prop) {g : TG} {tt : TT} {te : TE} {vs : List Nat} {σ : L2.St} {H1 : Hp} {D : Addr} {Qd : Hp → Prop} (hD : H1 D = none) (hE : Stab D E) (hz : bs.length ≤ 1000000)
    (hG : ∀ H, Same H1 H → G H)
    (hs : ∀ i a x H H' (Q : VK) (Qn : Hp → Prop), bs[i]? = some a → Same H1 H → (∃ acc, H D = some (.lst acc)) → Y i H x H' → (∀ y H4 z, f a = some z → Same H H4 → E H4 y z → Q y H4) → (∀ H3, f a = none → Same H H3 → Qn H3) →
      g x (wipe σ vs) H' fun σ2 H2 => wipe σ2 vs = wipe σ vs ∧ tt σ2 H2 fun b H3 => if b = true then te σ2 H3 Q else Qn H3)
    (hd : ∀ H acc, Same H1 H → H D = some (.lst acc) → Paired (E H) acc (bs.filterMap f) → Qd H) :
    ∃ W : Nat → Nat → Hp → Prop, (∃ m, W 0 m (upd H1 D (.lst []))) ∧ ∀ i m H, W i m H →
      (J.stop i H ∧ Qd H) ∨ (J.go i H ∧ ∃ Nx : Hp → Prop, (∀ H', Nx H' → ∃ m', m' < m ∧ W (i + 1) m' H') ∧ ∀ x H', J.yld i H x H' → g x (wipe σ vs) H' fun σ2 H2 => wipe σ2 vs = wipe σ vs ∧ tt σ2 H2 fun b H3 =>
        if b = true then te σ2 H3 fun y H4 => ∃ acc, H4 D = some (.lst acc) ∧ acc.length < sizeLine ∧ Nx (upd H4 D (.lst (acc ++ [y]))) else Nx H3) := by
  refine lc_it w (fun i H => Same H1 H ∧ ∃ acc, H D = some (.lst acc) ∧ Paired (E H) acc ((bs.take i).filterMap f)) ⟨same_new hD, [], upd_same, .nil⟩ (fun i H _ p => hG H p.1) (fun i x H H' hi p y => ?_) fun H p => ?_
  · obtain ⟨s1, acc, e, pr⟩ := p
    have ha : bs[i]? = some bs[i] := List.getElem?_eq_getElem hi
    refine hs i bs[i] x H H' _ _ ha s1 ⟨acc, e⟩ y (fun v H4 z hz' s2 ev => ?_) fun H3 hn s2 => ?_
    · have e4 := s2 _ _ e
      have hl : acc.length ≤ 1000000 := by
        have h1 := Paired.length pr
        have h2 : ((bs.take i).filterMap f).length ≤ (bs.take i).length := List.length_filterMap_le _ _
        have h3 := List.length_take_le i bs
        rw [List.length_take] at h2
        omega
      refine ⟨acc, e4, Nat.lt_of_le_of_lt hl (by decide), same_put (Same.trans s1 s2) hD, acc ++ [v], upd_same, ?_⟩
      rw [take_succ_fm ha, hz']
      refine Paired.app (Paired.imp (fun a b r => hE _ _ _ _ (hE _ _ _ _ r (same_but s2) ⟨acc, e⟩) but_put ⟨acc, e4⟩) pr) (.cons (hE _ _ _ _ ev but_put ⟨acc, e4⟩) .nil)
    · refine ⟨Same.trans s1 s2, acc, s2 _ _ e, ?_⟩
      rw [take_succ_fm ha, hn, Option.toList_none, List.append_nil]
      exact Paired.imp (fun a b r => hE _ _ _ _ r (same_but s2) ⟨acc, e⟩) pr
  · obtain ⟨s1, acc, e, pr⟩ := p
    rw [List.take_length] at pr
    exact hd H acc s1 e pr
/-- without a test -/
theorem lc_map (bs : List α) (w : Walk J bs.length G Y) (f : α → β) (E : Hp → V → β → Prop) {g : TG} {te : TE} {vs : List Nat} {σ : L2.St} {H1 : Hp} {D : Addr} {Qd : Hp → Prop} (hD : H1 D = none) (hE : Stab D E) (hz : bs.length ≤ 1000000)
    (hG : ∀ H, Same H1 H → G H)
    (hs : ∀ i a x H H' (Q : VK), bs[i]? = some a → Same H1 H → (∃ acc, H D = some (.lst acc)) → Y i H x H' → (∀ y H4, Same H H4 → E H4 y (f a) → Q y H4) →
      g x (wipe σ vs) H' fun σ2 H2 => wipe σ2 vs = wipe σ vs ∧ te σ2 H2 Q)
    (hd : ∀ H acc, Same H1 H → H D = some (.lst acc) → Paired (E H) acc (bs.map f) → Qd H) :
    ∃ W : Nat → Nat → Hp → Prop, (∃ m, W 0 m (upd H1 D (.lst []))) ∧ ∀ i m H, W i m H →
      (J.stop i H ∧ Qd H) ∨ (J.go i H ∧ ∃ Nx : Hp → Prop, (∀ H', Nx H' → ∃ m', m' < m ∧ W (i + 1) m' H') ∧ ∀ x H', J.yld i H x H' → g x (wipe σ vs) H' fun σ2 H2 => wipe σ2 vs = wipe σ vs ∧ tYes σ2 H2 fun b H3 =>
        if b = true then te σ2 H3 fun y H4 => ∃ acc, H4 D = some (.lst acc) ∧ acc.length < sizeLine ∧ Nx (upd H4 D (.lst (acc ++ [y]))) else Nx H3) := by
  refine lc_dat bs w (fun a => some (f a)) E hD hE hz hG (fun i a x H H' Q Qn ha s1 hacc y hq hn => ?_) fun H acc s1 e pr => hd H acc s1 e (by rw [← List.filterMap_eq_map']; exact pr)
  exact hs i a x H H' Q ha s1 hacc y fun v H4 s2 ev => hq v H4 _ rfl s2 ev
end
end K37
end

section
set_option Elab.async false
set_option linter.all false
set_option maxRecDepth 100000
set_option maxHeartbeats 1000000
/-! The layer's rules over what is tracked alone: their readings name no written part, so they stand in a comprehension's block too. -/
namespace K37
open PySem PySem.Spec PyProof.Rows L2
theorem boot_bool : bootBuiltins "bool" = some (.type "bool") := by decide +kernel
theorem boot_int' : bootBuiltins "int" = some (.type "int") := by decide +kernel
theorem boot_tuple' : bootBuiltins "tuple" = some (.type "tuple") := by decide +kernel
theorem boot_list' : bootBuiltins "list" = some (.type "list") := by decide +kernel
theorem boot_str' : bootBuiltins "str" = some (.type "str") := by decide +kernel
theorem boot_isi : bootBuiltins "isinstance" = some (.builtin "isinstance") := by decide +kernel
theorem boot_all' : bootBuiltins "all" = some (.builtin "all") := by decide +kernel
theorem boot_min' : bootBuiltins "min" = some (.builtin "min") := by decide +kernel
theorem boot_max' : bootBuiltins "max" = some (.builtin "max") := by decide +kernel
theorem boot_sum' : bootBuiltins "sum" = some (.builtin "sum") := by decide +kernel
theorem boot_sorted' : bootBuiltins "sorted" = some (.builtin "sorted") := by decide +kernel

/-- the greatest, the least -/
def mx (ns : List Int) : Int := ns.max?.getD 0
def mn (ns : List Int) : Int := ns.min?.getD 0
theorem mx_eq {ns : List Int} {m : Int} (h : m ∈ ns) (hm : ∀ y ∈ ns, y ≤ m) : mx ns = m := by
  have e : ns.max? = some m := List.max?_eq_some_iff.mpr ⟨h, hm⟩
  unfold mx
  rw [e]
  rfl
theorem mn_eq {ns : List Int} {m : Int} (h : m ∈ ns) (hm : ∀ y ∈ ns, m ≤ y) : mn ns = m := by
  have e : ns.min? = some m := List.min?_eq_some_iff.mpr ⟨h, hm⟩
  unfold mn
  rw [e]
  rfl
theorem inV_ints (i : Int) : ∀ ns : List Int, inV (.int i) (ns.map V.int) = decide (i ∈ ns)
  | [] => by simp [inV]
  | n :: ns => by
    have ih := inV_ints i ns
    unfold inV at ih ⊢
    rw [List.map_cons, List.any_cons, ih]
    show ((n == i) || decide (i ∈ ns)) = _
    by_cases h : n = i
    · subst h
      simp
    · have h2 : ¬ i = n := fun z => h z.symm
      simp [h, h2]
theorem flat_ints : ∀ ns : List Int, (ns.map V.int).all flatV = true
  | [] => rfl
  | n :: ns => by
    rw [List.map_cons, List.all_cons, flat_ints ns]
    rfl
section
variable {X : Cx}
def rT : R2 := fun x y H Q => ∃ p xs i v, x = .ref p ∧ y = .int i ∧ H p = some (.tup xs) ∧ atI xs i = some v ∧ Q v H
def rL : R2 := fun x y H Q => ∃ p xs i v, x = .ref p ∧ y = .int i ∧ H p = some (.lst xs) ∧ atI xs i = some v ∧ Q v H
theorem ixT : IxR X rT := fun v s pins st σ H x y vv u Q I rx ry ⟨p, xs, i, w, e1, e2, h, h2, q⟩ hs => ix_tup v s pins st σ H x y vv u Q I rx ry ⟨p, xs, i, w, e1, e2, SqT.of h, h2, q⟩ hs
theorem ixL : IxR X rL := fun v s pins st σ H x y vv u Q I rx ry ⟨p, xs, i, w, e1, e2, h, h2, q⟩ hs => ix_list v s pins st σ H x y vv u Q I rx ry ⟨p, xs, i, w, e1, e2, SqL.of h, h2, q⟩ hs
def rLen : List V → Hp → VK → Prop := fun vs H Q => ∃ p ys, vs = [.ref p] ∧ (H p = some (.lst ys) ∨ H p = some (.tup ys)) ∧ Q (.int (ys.length : Nat)) H
theorem lenS : CallR X (.builtin "len") rLen := fun pins s σ H vs us Q I r ⟨p, ys, e, h, q⟩ => call_len_seq pins s σ H vs us Q I r ⟨p, ys, e, h.imp SqL.of SqT.of, q⟩
def rAllL : List V → Hp → VK → Prop := fun vs H Q => ∃ (a : Addr) (bs : List Bool), vs = [.ref a] ∧ H a = some (.lst (bs.map V.bl)) ∧ Q (.bl (bs.all id)) H
theorem allL (hc : X.calm = true) : CallR X (.builtin "all") rAllL := fun pins s σ H vs us Q I r ⟨a, bs, e, h, q⟩ => cr_all hc pins s σ H vs us Q I r ⟨a, bs, e, SqL.of h, q⟩
def rSumL : List V → Hp → VK → Prop := fun vs H Q => ∃ (a : Addr) (ns : List Int), vs = [.ref a] ∧ H a = some (.lst (ns.map V.int)) ∧ Q (.int ns.sum) H
theorem sumL (hc : X.calm = true) : CallR X (.builtin "sum") rSumL := fun pins s σ H vs us Q I r ⟨a, ns, e, h, q⟩ => cr_sum hc pins s σ H vs us Q I r ⟨a, ns, e, SqL.of h, q⟩
def rMaxL : List V → Hp → VK → Prop := fun vs H Q => ∃ (a : Addr) (ns : List Int), vs = [.ref a] ∧ H a = some (.lst (ns.map V.int)) ∧ 0 < ns.length ∧ Q (.int (mx ns)) H
theorem maxL (hc : X.calm = true) : CallR X (.builtin "max") rMaxL := fun pins s σ H vs us Q I r ⟨a, ns, e, h, h0, q⟩ => cr_max hc pins s σ H vs us Q I r ⟨a, ns, e, SqL.of h, h0, fun m h1 h2 => by
  rw [← mx_eq h1 h2]
  exact q⟩
def rMinL : List V → Hp → VK → Prop := fun vs H Q => ∃ (a : Addr) (ns : List Int), vs = [.ref a] ∧ H a = some (.lst (ns.map V.int)) ∧ 0 < ns.length ∧ Q (.int (mn ns)) H
theorem minL (hc : X.calm = true) : CallR X (.builtin "min") rMinL := fun pins s σ H vs us Q I r ⟨a, ns, e, h, h0, q⟩ => cr_min hc pins s σ H vs us Q I r ⟨a, ns, e, SqL.of h, h0, fun m h1 h2 => by
  rw [← mn_eq h1 h2]
  exact q⟩
def rInI (neg : Bool) : R2 := fun x y H Q => ∃ (p : Addr) (i : Int) (ns : List Int), x = .int i ∧ y = .ref p ∧ (H p = some (.lst (ns.map V.int)) ∨ H p = some (.tup (ns.map V.int))) ∧ Q (.bl (if neg then !decide (i ∈ ns) else decide (i ∈ ns))) H
theorem inI : OpR X (compareOp .In) (rInI false) := fun pins s σ H x y v u Q I rx ry ⟨p, i, ns, e1, e2, h, q⟩ => op_in_seq pins s σ H x y v u Q I rx ry ⟨p, _, e2, h.imp SqL.of SqT.of, by rw [e1]; rfl, flat_ints ns, by
  rw [e1, inV_ints]
  exact q⟩
theorem notInI : OpR X (compareOp .NotIn) (rInI true) := fun pins s σ H x y v u Q I rx ry ⟨p, i, ns, e1, e2, h, q⟩ => op_notIn_seq pins s σ H x y v u Q I rx ry ⟨p, _, e2, h.imp SqL.of SqT.of, by rw [e1]; rfl, flat_ints ns, by
  rw [e1, inV_ints]
  exact q⟩
/-- t + u: tuples; what comes holds both -/
def rCat : R2 := fun x y H Q => ∃ a b xs ys, x = .ref a ∧ y = .ref b ∧ H a = some (.tup xs) ∧ H b = some (.tup ys) ∧ xs.length + ys.length ≤ sizeLine ∧ ys ≠ [] ∧
  ∀ v H', Same H H' → (∃ p, v = .ref p ∧ H' p = some (.tup (xs ++ ys))) → Q v H'
theorem catT : OpR X (binaryOp .Add) rCat := fun pins s σ H x y v u Q I rx ry ⟨a, b, xs, ys, e1, e2, h1, h2, hz, hne, q⟩ => op_catA pins s σ H x y v u Q I rx ry ⟨a, b, xs, ys, e1, e2, SqT.of h1, SqT.of h2, hz,
  fun e => q _ _ (Same.refl _) ⟨b, rfl, by rw [e]; exact h2⟩, fun _ e => absurd e hne, fun _ _ p hp => q _ _ (same_new hp) ⟨p, rfl, upd_same⟩⟩
def tStarT (te : TE) (t : TA) : TA := fun σ H Q => te σ H fun x H1 => ∃ p xs, x = .ref p ∧ H1 p = some (.tup xs) ∧ t σ H1 fun ys H2 => Q (xs ++ ys) H2
theorem starT {e : Expr} {es : List Expr} {te : TE} {t : TA} {p : Pos} (he : PE X e te) (hr : PA X es t) (hs : starEach (.Starred e p :: es) X.env = (true, eval e X.env) :: starEach es X.env := by rfl) : PA X (.Starred e p :: es) (tStarT te t) := by
  refine ⟨fun pos pins s σ H Q I h => ?_⟩
  refine PySem.W.items_star (thn (he.run pins s σ H _ I h) fun v s1 ⟨y, H1, I1, ry, a, xs, ey, hx, q⟩ => ?_) hs
  subst ey
  obtain rfl : v = Value.ref a := ry
  refine StX.star_any I1 (.inl (SqT.of hx)) fun us s2 I2 rv => ?_
  exact thn (hr.run pos pins s2 σ H1 _ I2 q) fun ws s3 ⟨vs, H3, I3, r3, q3⟩ => ⟨xs ++ vs, H3, I3, rv.append r3, q3⟩
def rMin {β : Type} (E : Hp → V → β → Prop) (key : β → List Int) : List V → Hp → VK → Prop := fun vs H Q => ∃ (a : Addr) (us : List V) (L : List β), vs = [.ref a] ∧ H a = some (.lst us) ∧ Paired (E H) us L ∧ L ≠ [] ∧ ∀ v m, E H v m → m ∈ L → (∀ y ∈ L, key m ≤ key y) → Q v H
theorem minE (K : PySem.W.Frag) {β : Type} {E : Hp → V → β → Prop} (C : Enc β K E) (hc : X.calm = true) (hu : X.A.units + 32 < cLine) (hK : X.K = K := by rfl) : CallR X (.builtin "min") (rMin E C.key) := by
  subst hK
  exact fun pins s σ H vs us Q I r ⟨a, ws, L, e, h, hp, hne, q⟩ => cr_minE C hc hu pins s σ H vs us Q I r ⟨a, ws, L, e, SqL.of h, hp, hne, q⟩
def rSort {β : Type} (E : Hp → V → β → Prop) (enc : β → PyData) (key : β → List Int) : List V → Hp → VK → Prop := fun vs H Q => ∃ (a : Addr) (us : List V) (L : List β), vs = [.ref a] ∧ (H a = some (.lst us) ∨ H a = some (.tup us)) ∧ Paired (E H) us L ∧
  ((∀ b ∈ L, ∃ x r, enc b = .tuple (x :: r)) ∨ ∀ b ∈ L, ∀ xs, enc b ≠ .tuple xs) ∧ L.length ≤ sizeLine ∧ ∀ (p : Addr) (ws : List V) (M : List β), H p = none → Paired (E H) ws M → Sorts key L M → Q (.ref p) (upd H p (.lst ws))
theorem sortE (K : PySem.W.Frag) {β : Type} {E : Hp → V → β → Prop} (C : Enc β K E) (hu : X.A.units + 32 < cLine) (hK : X.K = K := by rfl) : CallR X (.builtin "sorted") (rSort E C.enc C.key) := by
  subst hK
  exact fun pins s σ H vs us Q I r ⟨a, ws, L, e, h, hp, hk, hz, q⟩ => cr_sortE C hu pins s σ H vs us Q I r ⟨a, ws, L, e, h.imp SqL.of SqT.of, hp, hk, hz, q⟩
theorem piT (K : PySem.W.Frag) {tg e : Expr} {te : TE} (h : PE X e te) (hK : X.K = K := by rfl) : PI X tg e (iTup K te) := by
  subst hK
  exact pi_tup h
theorem piL (K : PySem.W.Frag) {tg e : Expr} {te : TE} (h : PE X e te) (hK : X.K = K := by rfl) : PI X tg e (iList K te) := by
  subst hK
  exact pi_list h
theorem zipTT (K : PySem.W.Frag) {e e2 : Expr} {ta : TA} {p pos tpos : Pos} {elts : List Expr} {kk : Nat} (hg : Gl X "zip") (hm : X.mg "zip" = none) (ha : PA X [e, e2] ta) (hK : X.K = K := by rfl)
    (hs : starEach [e, e2] X.env = (false, eval e X.env) :: starEach [e2] X.env := by rfl) (hpl : (backTo pos (starEach [e2] X.env)).any (·.1) = false := by rfl) :
    PI X (.Tuple elts kk tpos) (.Call (.Name "zip" p) [e, e2] [] pos) (RZ.iZipA K ta) := by
  subst hK
  exact RZ.pi_zipA hg hm ha hs hpl
theorem zipTL (K : PySem.W.Frag) {e e2 : Expr} {ta : TA} {p pos tpos : Pos} {elts : List Expr} {kk : Nat} (hg : Gl X "zip") (hm : X.mg "zip" = none) (ha : PA X [e, e2] ta) (hK : X.K = K := by rfl)
    (hs : starEach [e, e2] X.env = (false, eval e X.env) :: starEach [e2] X.env := by rfl) (hpl : (backTo pos (starEach [e2] X.env)).any (·.1) = false := by rfl) :
    PI X (.Tuple elts kk tpos) (.Call (.Name "zip" p) [e, e2] [] pos) (iZipM K ta) := by
  subst hK
  exact pi_zipM hg hm ha hs hpl
/-- a method of a built-in type -/
theorem bmK (K : PySem.W.Frag) {o e : Expr} {es : List Expr} {to : TE} {t : TA} {name : Str} {apos cpos : Pos} {T id : String} {r : V → List V → Hp → VK → Prop} (pa : PlainAttrs T) (slot : Slot T name id) (hty : typeOf (.builtin id) = pure (.type "method_descriptor")) (hm : MtR X id r) (ho : PE X o to) (ha : PA X (e :: es) t) (hK : X.K = K := by rfl)
    (hbase : attributeBase o name X.env (eval o X.env) = eval o X.env := by rfl)
    (hfew : ((backTo cpos (starEach (e :: es) X.env)).all (fun x => !x.1) && (backToKw cpos (keywordEach [] X.env)).all (fun x => x.1.isSome) && decide ((e :: es).length + ([] : List Keyword).length + (if ([] : List Keyword).isEmpty then 0 else 1) < 30)) = true := by rfl)
    (hline : (apos.endLine == cpos.line) = true := by rfl) (hs : starEach (e :: es) X.env = (false, eval e X.env) :: starEach es X.env := by rfl) (hplain : (backTo cpos (starEach es X.env)).any (·.1) = false := by rfl) :
    PE X (.Call (.Attribute o name apos) (e :: es) [] cpos) (tBM K T r to t) := by
  subst hK
  exact pe_bm pa slot hty hm ho ha hbase hfew hline hs hplain
def rCount : V → List V → Hp → VK → Prop := fun x xs H Q => ∃ (p : Addr) (ns : List Int) (k : Int), x = .ref p ∧ xs = [.int k] ∧ H p = some (.lst (ns.map V.int)) ∧ Q (.int (ns.count k : Nat)) H
theorem countL : MtR X "list.count" rCount := fun pins s σ H x xs v us Q I rx rxs ⟨p, ns, k, e1, e2, h, q⟩ => mt_lcount pins s σ H x xs v us Q I rx rxs ⟨p, ns, k, e1, e2, SqL.of h, q⟩
end
theorem walk_listI {K : PySem.W.Frag} {a : Addr} {ns : List Int} : Walk (Itl K a) ns.length (fun H => SqL K H a (ns.map V.int)) (YAt (ns.map V.int)) := by
  have := walk_list (K := K) (a := a) (xs := ns.map V.int)
  rw [List.length_map] at this
  exact this
theorem walk_tupI {K : PySem.W.Frag} {a : Addr} {ns : List Int} : Walk (Itt K a) ns.length (fun H => SqT K H a (ns.map V.int)) (YAt (ns.map V.int)) := by
  have := walk_tup (K := K) (a := a) (xs := ns.map V.int)
  rw [List.length_map] at this
  exact this
theorem walk_rows {K : PySem.W.Frag} {a : Addr} {vs : List V} {β : Type} {L : List β} {E : V → β → Prop} (pr : Paired E vs L) : Walk (Itl K a) L.length (fun H => SqL K H a vs) (YAt vs) := by
  have := walk_list (K := K) (a := a) (xs := vs)
  rw [Paired.length pr] at this
  exact this
theorem pair_ints {xs ys : List Int} {i : Nat} {p : Int × Int} {H H' : Hp} {v : V} (hp : (xs.zip ys)[i]? = some p) (y : YPair (fun i => (xs.map V.int)[i]?) (fun i => (ys.map V.int)[i]?) i H v H') : ∃ T, v = .ref T ∧ H T = none ∧ H' = upd H T (.tup [.int p.1, .int p.2]) := by
  obtain ⟨T, x1, x2, rfl, nT, rfl, e1, e2⟩ := y
  obtain ⟨z1, z2⟩ := List.getElem?_zip_eq_some.mp hp
  have f1 : (xs.map V.int)[i]? = some x1 := e1
  have f2 : (ys.map V.int)[i]? = some x2 := e2
  rw [List.getElem?_map, z1] at f1
  rw [List.getElem?_map, z2] at f2
  cases f1
  cases f2
  exact ⟨T, rfl, nT, rfl⟩
theorem at_ints {ns : List Int} {i : Nat} {n : Int} (h : ns[i]? = some n) : (ns.map V.int)[i]? = some (.int n) := by
  rw [List.getElem?_map, h]
  rfl
theorem yat_ints {ns : List Int} {i : Nat} {n : Int} {H H' : Hp} {v : V} (h : ns[i]? = some n) (y : YAt (ns.map V.int) i H v H') : H' = H ∧ v = .int n := by
  obtain ⟨h1, h2⟩ := y
  rw [at_ints h] at h2
  exact ⟨h1, (Option.some.inj h2).symm⟩
theorem yat_row {vs : List V} {β : Type} {L : List β} {E : V → β → Prop} {i : Nat} {b : β} {H H' : Hp} {v : V} (pr : Paired E vs L) (h : L[i]? = some b) (y : YAt vs i H v H') : H' = H ∧ E v b := by
  obtain ⟨h1, h2⟩ := y
  obtain ⟨b', e1, e2⟩ := paired_get pr h2
  rw [h] at e1
  cases e1
  exact ⟨h1, e2⟩
theorem walk_rangeL {lo : Int} {n : Nat} : Walk (Itr lo n) (List.range n).length (fun _ => True) (YFn fun i => .int (lo + i)) := by
  rw [List.length_range]
  exact walk_range
theorem range_at {n i a : Nat} (h : (List.range n)[i]? = some a) : a = i ∧ i < n := by
  obtain ⟨h1, h2⟩ := List.getElem?_eq_some_iff.mp h
  rw [List.length_range] at h1
  rw [List.getElem_range] at h2
  exact ⟨h2.symm, h1⟩
/-- a turn of range(n) -/
theorem yfn_range {n i c : Nat} {H H' : Hp} {v : V} (h : (List.range n)[i]? = some c) (y : YFn (fun i => .int (0 + (i : Int))) i H v H') : H' = H ∧ v = .int (c : Nat) ∧ c < n := by
  obtain ⟨rfl, hi⟩ := range_at h
  obtain ⟨h1, h2⟩ := y
  refine ⟨h1, ?_, hi⟩
  rw [h2]
  show V.int (0 + ((c : Nat) : Int)) = _
  rw [Int.zero_add]
theorem getD_at {ns : List Int} {i : Nat} (h : i < ns.length) : ns[i]? = some (ns.getD i 0) := by
  rw [List.getD_eq_getElem?_getD, List.getElem?_eq_getElem h]
  rfl
theorem atI_ints {ns : List Int} {i : Nat} (h : i < ns.length) : atI (ns.map V.int) ((i : Nat) : Int) = some (.int (ns.getD i 0)) := atI_nat (at_ints (getD_at h))
end K37
end

section
set_option Elab.async false
set_option linter.all false
set_option maxRecDepth 100000
set_option maxHeartbeats 4000000
/-! The small defs of the package: is_integer, is_in, is_list, has_room, unlike, ways_of. -/
namespace K37
open PySem PySem.Spec PyProof.Rows L2
section
variable {P : Program} {w : World} {K : PySem.W.Frag} {mg : Str → Option Value} {base : Heap}
def spIsInteger : Sp := fun vs H Q _ => ∃ i : Int, vs = [.int i] ∧ Q (.bl true) H
theorem ok_is_integer (T : Txt K mg) : FnOk P w K mg base CX0 1 T.is_integer.f T.is_integer.fd ["value"] spIsInteger := by
  refine T.is_integer.F.ok sc_is_integer (fun vs H Q E h => ?_) (fun cdv A outer s H vs Q E hr h => ?_)
  · obtain ⟨i, rfl, _⟩ := h
    rfl
  · obtain ⟨i, rfl, q⟩ := h
    refine ⟨_, pss_one (ps_ret (pe_and (pe_callB call_isi (by rfl) T.b_isinstance boot_isi (pa_cons (pv 0) (pa_cons (pe_bltn (v := .ty "int") (by rfl) T.b_int boot_int' rfl) pa_nil)))
      (pe_one (pe_not (pe_callB call_isi (by rfl) T.b_isinstance boot_isi (pa_cons (pv 0) (pa_cons (pe_bltn (v := .ty "bool") (by rfl) T.b_bool boot_bool rfl) pa_nil))))))), ?_⟩
    refine ⟨_, rfl, _, _, _, _, true, rfl, .ty "int", .base (.int i), kit_ty (by decide +kernel), true, rfl, iteT ?_⟩
    exact ⟨_, rfl, _, _, _, _, false, rfl, .ty "bool", .base (.int i), kit_ty (by decide +kernel), false, rfl, q⟩

def spIsIn : Sp := fun vs H Q _ => ∃ i lo hi : Int, vs = [.int i, .int lo, .int hi] ∧ Q (.bl (decide (lo ≤ i) && decide (i ≤ hi))) H
theorem ok_is_in (T : Txt K mg) : FnOk P w K mg base CX0 2 T.is_in.f T.is_in.fd ["value", "least", "most"] spIsIn := by
  refine T.is_in.F.ok sc_is_in (fun vs H Q E h => ?_) (fun cdv A outer s H vs Q E hr h => ?_)
  · obtain ⟨i, lo, hi, rfl, _⟩ := h
    rfl
  · obtain ⟨i, lo, hi, rfl, q⟩ := h
    refine ⟨_, pss_one (ps_ret (pe_and (pe_call (ok_is_integer T) hr (by rfl) T.is_integer.m T.is_integer.F.kp T.is_integer.b .nil pass0 (pa_cons (pv 0) pa_nil)) (pe_one (pe_chain op_le op_le (pv 1) (pv 0) (pv 2))))), ?_⟩
    refine ⟨_, rfl, i, rfl, true, rfl, iteT ?_⟩
    refine ⟨_, rfl, _, rfl, _, _, rfl, rfl, _, rfl, ?_⟩
    by_cases h1 : lo ≤ i
    · rw [decide_eq_true h1] at q ⊢
      refine iteT ⟨_, rfl, _, _, rfl, rfl, ?_⟩
      rw [Bool.true_and] at q
      exact q
    · rw [decide_eq_false h1] at q ⊢
      exact iteF q

def spIsList : Sp := fun vs H Q _ => ∃ (a : Addr) (xs : List V) (lo hi : Int), vs = [.ref a, .int lo, .int hi] ∧ H a = some (.tup xs) ∧ Q (.bl (decide (lo ≤ (xs.length : Int)) && decide ((xs.length : Int) ≤ hi))) H
theorem ok_is_list (T : Txt K mg) : FnOk P w K mg base CX0 1 T.is_list.f T.is_list.fd ["value", "least", "most"] spIsList := by
  refine T.is_list.F.ok sc_is_list (fun vs H Q E h => ?_) (fun cdv A outer s H vs Q E hr h => ?_)
  · obtain ⟨a, xs, lo, hi, rfl, _⟩ := h
    rfl
  · obtain ⟨a, xs, lo, hi, rfl, hx, q⟩ := h
    refine ⟨_, pss_one (ps_ret (pe_and (pe_callB call_isi (by rfl) T.b_isinstance boot_isi (pa_cons (pv 0) (pa_cons (pe_bltn (v := .ty "tuple") (by rfl) T.b_tuple boot_tuple' rfl) pa_nil)))
      (pe_one (pe_chain op_le op_le (pv 1) (pe_callB lenS (by rfl) T.b_len PySem.boot_len (pa_cons (pv 0) pa_nil)) (pv 2))))), ?_⟩
    refine ⟨_, rfl, _, _, _, _, true, rfl, .ty "tuple", .base (.tup hx), kit_ty (by decide +kernel), true, rfl, iteT ?_⟩
    refine ⟨_, rfl, _, rfl, a, xs, rfl, .inr hx, _, _, rfl, rfl, _, rfl, ?_⟩
    by_cases h1 : lo ≤ (xs.length : Int)
    · rw [decide_eq_true h1] at q ⊢
      refine iteT ⟨_, rfl, _, _, rfl, rfl, ?_⟩
      rw [Bool.true_and] at q
      exact q
    · rw [decide_eq_false h1] at q ⊢
      exact iteF q

/-! ### ways_of -/
def ways (hs rest : List Int) : List Int := (rest.zip hs).map fun p => p.1 - p.2
def spWays : Sp := fun vs H Q _ => ∃ (sv rv : V) (n : Int) (hs rest : List Int), vs = [sv, rv] ∧ StrAt H sv n hs ∧ RT H rv rest ∧ rest.length = hs.length ∧ hs.length ≤ 1000 ∧
  ∀ H' p, Same H H' → H p = none → H' p = some (.lst ((ways hs rest).map V.int)) → Q (.ref p) H'
theorem ok_ways_of (T : Txt K mg) : FnOk P w K mg base CX0 1 T.ways_of.f T.ways_of.fd ["street", "rest"] spWays := by
  refine T.ways_of.F.ok sc_ways_of (fun vs H Q E h => ?_) (fun cdv A outer s H vs Q E hr h => ?_)
  · obtain ⟨_, _, _, _, _, rfl, _⟩ := h
    rfl
  · obtain ⟨sv, rv, n, hs, rest, rfl, ⟨a, b, rfl, ha, hb⟩, ⟨c, rfl, hc⟩, hl, hz, q⟩ := h
    refine ⟨_, pss_one (ps_ret (pe_lc (own := [("place", 2), ("home", 3)]) (g := gTup K 2 (gCons (gName 2) (gCons (gName 3) gNil))) (tt := tYes) rfl sc_ways_of.nd
      (zipTT K (by rfl) T.b_zip (pa_cons (pv 1) (pa_cons (pe_ix ixT (pv 0) pe_int (fun _ _ => rfl)) pa_nil)))
      (blkOk_by (N := N_ways_of) (sc := defScope s_ways_of) (by decide +kernel))
      (fun _ _ _ _ _ => pg_tup rfl (pgs_cons (pg_name (i := 2) sc_ways_of.nd rfl (Or.inl rfl)) (pgs_cons (pg_name (i := 3) sc_ways_of.nd rfl (Or.inl rfl)) pgs_nil)))
      (fun _ _ _ _ _ => pts_nil)
      (fun _ _ _ _ _ => pe_op op_sub (pv 2) (pv 3)))), ?_⟩
    refine ⟨_, rfl, _, rfl, a, _, 1, .ref b, rfl, rfl, ha, atI_nat (j := 1) rfl, c, b, _, _, rfl, .inr ⟨SqT.of hc, SqT.of hb, fun D hD => ?_⟩⟩
    refine lc_map (rest.zip hs) (walk_zipTT (by simp [hl])) (fun p => p.1 - p.2) NI hD stab_NI (by rw [List.length_zip]; omega) (fun H' s1 => ⟨SqT.of (s1 _ _ hc), SqT.of (s1 _ _ hb)⟩) (fun i p x H1 H2 Q hp s1 hacc y k => ?_) fun H' acc s1 e pr => ?_
    · obtain ⟨Tp, rfl, nT, rfl⟩ := pair_ints hp y
      refine ⟨Tp, _, rfl, SqT.of upd_same, rfl, _, _, rfl, _, _, rfl, rfl, rfl, ?_⟩
      exact ⟨_, rfl, _, rfl, _, _, rfl, rfl, k _ _ (same_new nT) rfl⟩
    · rw [paired_ints pr] at e
      exact q H' D s1 hD e

/-! ### unlike -/
def unl (one other : List Int) : List Int := (List.range one.length).filterMap fun c => if one.getD c 0 = other.getD c 0 then none else some ((c : Nat) : Int)
def spUnlike : Sp := fun vs H Q _ => ∃ (u v : V) (one other : List Int), vs = [u, v] ∧ RT H u one ∧ RT H v other ∧ other.length = one.length ∧ one.length ≤ 1000 ∧
  ∀ H' p, Same H H' → H p = none → H' p = some (.lst ((unl one other).map V.int)) → Q (.ref p) H'
theorem ok_unlike (T : Txt K mg) : FnOk P w K mg base CX0 1 T.unlike.f T.unlike.fd ["one", "other"] spUnlike := by
  refine T.unlike.F.ok sc_unlike (fun vs H Q E h => ?_) (fun cdv A outer s H vs Q E hr h => ?_)
  · obtain ⟨_, _, _, _, rfl, _⟩ := h
    rfl
  · obtain ⟨u, v, one, other, rfl, ⟨a, rfl, ha⟩, ⟨b, rfl, hb⟩, hl, hz, q⟩ := h
    refine ⟨_, pss_one (ps_ret (pe_lc (own := [("car", 2)]) (g := gName 2) rfl sc_unlike.nd
      (pi_range1 (by rfl) T.b_range (pa_cons (pe_callB lenS (by rfl) T.b_len PySem.boot_len (pa_cons (pv 0) pa_nil)) pa_nil))
      (blkOk_by (N := N_unlike) (sc := defScope s_unlike) (by decide +kernel))
      (fun _ _ _ _ _ => pg_name (i := 2) sc_unlike.nd rfl (Or.inl rfl))
      (fun _ _ _ _ _ => pts_one (pt_cmpR op_ne (pe_ix ixT (pv 0) (pv 2) (fun _ _ => rfl)) (pe_ix ixT (pv 1) (pv 2) (fun _ _ => rfl)) (nomark _)))
      (fun _ _ _ _ _ => pv 2))), ?_⟩
    refine ⟨_, rfl, a, _, rfl, .inr ha, _, rfl, ?_, ?_, fun D hD => ?_⟩
    · rw [List.length_map]
      omega
    · rw [List.length_map]
      omega
    rw [List.length_map]
    show ∃ W, _
    have en : ((one.length : Int)).toNat = one.length := Int.toNat_natCast _
    rw [en]
    refine lc_dat (List.range one.length) walk_rangeL (fun c => if one.getD c 0 = other.getD c 0 then none else some ((c : Nat) : Int)) NI hD stab_NI (by rw [List.length_range]; omega) (fun _ _ => trivial) (fun i c x H1 H2 Q Qn hp s1 hacc y k kn => ?_) fun H' acc s1 e pr => ?_
    · obtain ⟨rfl, rfl, hi⟩ := yfn_range hp y
      refine ⟨rfl, _, rfl, _, rfl, ?_⟩
      refine ⟨a, _, _, _, rfl, rfl, s1 _ _ ha, atI_ints hi, _, rfl, _, rfl, b, _, _, _, rfl, rfl, s1 _ _ hb, atI_ints (by omega), rfl, _, rfl, ?_⟩
      by_cases h : one.getD c 0 = other.getD c 0
      · rw [h, decide_eq_true rfl]
        exact iteF (kn _ (if_pos h) (Same.refl _))
      · rw [decide_eq_false (fun z => h (V.int.inj z))]
        exact iteT ⟨_, rfl, k _ _ _ (if_neg h) (Same.refl _) rfl⟩
    · rw [paired_ints pr] at e
      exact q H' D s1 hD e

theorem fm_filter (p : Int → Prop) [DecidablePred p] : ∀ hs : List Int, (hs.filterMap fun h => if p h then some h else none) = hs.filter fun h => decide (p h)
  | [] => rfl
  | x :: r => by
    have ih := fm_filter p r
    by_cases h : p x
    · simp [h, ih]
    · simp [h, ih]
/-! ### has_room -/
/-- room for all cars -/
def Fits (n : Int) (hs : List Int) : Prop := ∀ p : Nat, (p : Int) < n → ((hs.filter fun h => decide ((p : Int) ≤ h)).length : Int) ≤ n - p
def spHasRoom : Sp := fun vs H Q _ => ∃ (n : Int) (v : V) (hs : List Int), vs = [.int n, v] ∧ RT H v hs ∧ hs.length ≤ 1000 ∧ 0 ≤ n ∧ n ≤ 1000 ∧ Fits n hs ∧ ∀ H', Same H H' → Q (.bl true) H'
theorem ok_has_room (T : Txt K mg) : FnOk P w K mg base CX0 1 T.has_room.f T.has_room.fd ["places", "homes"] spHasRoom := by
  refine T.has_room.F.ok sc_has_room (fun vs H Q E h => ?_) (fun cdv A outer s H vs Q E hr h => ?_)
  · obtain ⟨_, _, _, rfl, _⟩ := h
    rfl
  · obtain ⟨n, v, hs, rfl, ⟨a, rfl, ha⟩, hz, hn0, hn1, hF, q⟩ := h
    refine ⟨_, pss_one (ps_ret (pe_callB (allL rfl) (by rfl) T.b_all boot_all' (pa_cons (pe_lc (own := [("place", 3)]) (g := gName 3) (tt := tYes) rfl sc_has_room.nd
      (pi_range1 (by rfl) T.b_range (pa_cons (pv 0) pa_nil))
      (blkOk_by (N := N_has_room) (sc := defScope s_has_room) (by decide +kernel))
      (fun _ _ _ _ _ => pg_name (i := 3) sc_has_room.nd rfl (Or.inr rfl))
      (fun _ _ _ _ _ => pts_nil)
      (fun _ _ _ _ _ => pe_cmpR op_le (pe_callB lenS (by rfl) T.b_len PySem.boot_len (pa_cons (pe_lc (own := [("home", 2)]) (g := gName 2) rfl sc_has_room.nd
          (piT K (pv 1)) (blkOk_by (N := N_has_room) (sc := relS _ (defScope s_has_room)) (by decide +kernel))
          (fun _ _ _ _ _ => pg_name (i := 2) sc_has_room.nd rfl (Or.inl rfl))
          (fun _ _ _ _ _ => pts_one (pt_cmpR op_ge (pv 2) (pv 3) (nomark _)))
          (fun _ _ _ _ _ => pv 2)) pa_nil)) (pe_op op_sub (pv 0) (pv 3)) (nomark _))) pa_nil))), ?_⟩
    refine ⟨_, rfl, n, rfl, by omega, by omega, fun D hD => ?_⟩
    refine lc_map (List.range n.toNat) walk_rangeL (fun c => decide (((hs.filter fun h => decide (((c : Nat) : Int) ≤ h)).length : Int) ≤ n - c)) BI hD stab_BI (by rw [List.length_range]; omega) (fun _ _ => trivial) (fun i c x H1 H2 Q hp s1 hacc y k => ?_) fun H' acc s1 e pr => ?_
    · obtain ⟨rfl, rfl, hi⟩ := yfn_range hp y
      refine ⟨rfl, _, rfl, a, rfl, ⟨_, SqT.of (s1 _ _ ha)⟩, fun D2 hD2 => ?_⟩
      have hDD : D2 ≠ D := by
        obtain ⟨acc, e⟩ := hacc
        exact fun z => by rw [z, e] at hD2; cases hD2
      refine lc_dat hs walk_tupI (fun h => if ((c : Nat) : Int) ≤ h then some h else none) NI hD2 stab_NI (by omega) (fun H s2 => SqT.of (s2 _ _ (s1 _ _ ha))) (fun i h x H3 H4 Q2 Qn hp2 s2 hacc2 y k2 kn => ?_) fun H' acc2 s2 e2 pr2 => ?_
      · obtain ⟨rfl, rfl⟩ := yat_ints hp2 y
        refine ⟨rfl, _, rfl, _, rfl, _, _, rfl, rfl, _, rfl, ?_⟩
        by_cases hc : ((c : Nat) : Int) ≤ h
        · rw [decide_eq_true hc]
          exact iteT ⟨_, rfl, k2 _ _ _ (if_pos hc) (Same.refl _) rfl⟩
        · rw [decide_eq_false hc]
          exact iteF (kn _ (if_neg hc) (Same.refl _))
      · refine ⟨D2, acc2, rfl, .inl e2, _, rfl, _, rfl, _, _, rfl, rfl, _, _, rfl, rfl, ?_⟩
        refine k _ _ s2 ?_
        have el : acc2.length = (hs.filter fun h => decide (((c : Nat) : Int) ≤ h)).length := by
          rw [Paired.length pr2, fm_filter]
        rw [el]
        rfl
    · rw [paired_bls pr] at e
      refine ⟨D, _, rfl, e, ?_⟩
      have et : ((List.range n.toNat).map fun c : Nat => decide (((hs.filter fun h => decide (((c : Nat) : Int) ≤ h)).length : Int) ≤ n - c)).all id = true := by
        rw [List.all_eq_true]
        intro x hx
        obtain ⟨c, hc, rfl⟩ := List.mem_map.mp hx
        have hc' := List.mem_range.mp hc
        exact decide_eq_true (hF c (by omega))
      rw [et]
      exact q H' s1
end
end K37
end

section
set_option Elab.async false
set_option linter.all false
set_option maxRecDepth 100000
set_option maxHeartbeats 4000000
/-! need_street, need_places, need_state, need_weights. -/
namespace K37
open PySem PySem.Spec PyProof.Rows L2
theorem ifF {c : Bool} {A B : Prop} (h : c = false) (b : B) : if c = true then A else B := by
  rw [h]
  exact iteF b
theorem ifT {c : Bool} {A B : Prop} (h : c = true) (a : A) : if c = true then A else B := by
  rw [h]
  exact iteT a
/-- a street that the package takes -/
structure OkStreet (n : Int) (hs : List Int) : Prop where
  n1 : 1 ≤ n
  n12 : n ≤ 12
  c1 : 1 ≤ hs.length
  c7 : hs.length ≤ 7
  at_ : ∀ h ∈ hs, 0 ≤ h ∧ h ≤ n - 1
  fits : Fits n hs
/-- a state of it -/
structure OkState (n : Int) (hs st : List Int) : Prop where
  len : st.length = hs.length
  at_ : ∀ (i : Nat) (h p : Int), hs[i]? = some h → st[i]? = some p → h ≤ p ∧ p ≤ n - 1
  nd : st.Nodup
section
variable {P : Program} {w : World} {K : PySem.W.Frag} {mg : Str → Option Value} {base : Heap}
def spNeedStreet : Sp := fun vs H Q _ => ∃ (sv : V) (n : Int) (hs : List Int), vs = [sv] ∧ StrAt H sv n hs ∧ OkStreet n hs ∧ ∀ H', Same H H' → Q .non H'
theorem ok_need_street (T : Txt K mg) : FnOk P w K mg base CX0 3 T.need_street.f T.need_street.fd ["street"] spNeedStreet := by
  refine T.need_street.F.ok sc_need_street (fun vs H Q E h => ?_) (fun cdv A outer s H vs Q E hr h => ?_)
  · obtain ⟨_, _, _, rfl, _⟩ := h
    rfl
  · obtain ⟨sv, n, hs, rfl, ⟨a, b, rfl, ha, hb⟩, O, q⟩ := h
    obtain ⟨t1, g1⟩ := T.c_MOST_PLACES
    obtain ⟨t2, g2⟩ := T.c_MOST_CARS
    refine ⟨_, (pss_cons (ps_if (PW.pt (pw_or (pt_not (pt_val (pe_call (ok_is_list T) (hr.mono (by decide)) (by rfl) T.is_list.m T.is_list.F.kp T.is_list.b .nil pass0 (pa_cons (pv 0) (pa_cons pe_int (pa_cons pe_int pa_nil)))))) (pw_or (pt_not (pt_val (pe_call (ok_is_in T) (hr.mono (by decide)) (by rfl) T.is_in.m T.is_in.F.kp T.is_in.b .nil pass0 (pa_cons (pe_ix ixT (pv 0) pe_int (fun _ _ => rfl)) (pa_cons pe_int (pa_cons (pe_glob (v := .int 12) (by rfl) g1 ⟨_, rfl⟩) pa_nil)))))) (pw_or1 (pt_not (pt_val (pe_call (ok_is_list T) (hr.mono (by decide)) (by rfl) T.is_list.m T.is_list.F.kp T.is_list.b .nil pass0 (pa_cons (pe_ix ixT (pv 0) pe_int (fun _ _ => rfl)) (pa_cons pe_int (pa_cons (pe_glob (v := .int 7) (by rfl) g2 ⟨_, rfl⟩) pa_nil)))))))))) (pss_one ps_never) pss_nil)
      (pss_one (ps_if (PW.pt (pw_or (pt_not (pt_val (pe_callB (allL rfl) (by rfl) T.b_all boot_all' (pa_cons (pe_lc (own := [("home", 1)]) (g := (gName 1)) (tt := tYes) rfl sc_need_street.nd (piT K (pe_ix ixT (pv 0) pe_int (fun _ _ => rfl))) (blkOk_by (N := N_need_street) (sc := defScope s_need_street) (by decide +kernel)) (fun _ _ _ _ _ => (pg_name (i := 1) sc_need_street.nd rfl (by first | exact Or.inl rfl | exact Or.inr rfl))) (fun _ _ _ _ _ => pts_nil)
        (fun _ _ _ _ _ => (pe_call (ok_is_in T) (hr.mono (by decide)) (by rfl) T.is_in.m T.is_in.F.kp T.is_in.b .nil pass0 (pa_cons (pv 1) (pa_cons pe_int (pa_cons (pe_op op_sub (pe_ix ixT (pv 0) pe_int (fun _ _ => rfl)) pe_int) pa_nil)))))) pa_nil)))) (pw_or1 (pt_not (pt_val (pe_call (ok_has_room T) (hr.mono (by decide)) (by rfl) T.has_room.m T.has_room.F.kp T.has_room.b .nil pass0 (pa_cons (pe_ix ixT (pv 0) pe_int (fun _ _ => rfl)) (pa_cons (pe_ix ixT (pv 0) pe_int (fun _ _ => rfl)) pa_nil)))))))) (pss_one ps_never) pss_nil))), ?_⟩
    have i0 : atI [V.int n, V.ref b] 0 = some (.int n) := atI_nat (j := 0) rfl
    have i1 : atI [V.int n, V.ref b] 1 = some (.ref b) := atI_nat (j := 1) rfl
    have c1 := O.c1
    have c7 := O.c7
    refine ⟨_, rfl, a, _, 2, 2, rfl, ha, _, rfl, ifF rfl ?_⟩
    refine ⟨_, rfl, a, _, 0, _, rfl, rfl, ha, i0, n, 1, 12, rfl, _, rfl, ifF (by rw [decide_eq_true O.n1, decide_eq_true O.n12]; rfl) ?_⟩
    refine ⟨_, rfl, a, _, 1, _, rfl, rfl, ha, i1, b, _, 1, 7, rfl, hb, _, rfl, ifF ?_ ?_⟩
    · rw [List.length_map, decide_eq_true (show (1 : Int) ≤ (hs.length : Int) by omega), decide_eq_true (show (hs.length : Int) ≤ 7 by omega)]
      rfl
    refine ⟨_, rfl, a, _, 1, _, rfl, rfl, ha, i1, b, rfl, ⟨_, SqT.of hb⟩, fun D hD => ?_⟩
    refine lc_map hs walk_tupI (fun h => decide (0 ≤ h) && decide (h ≤ n - 1)) BI hD stab_BI (by omega) (fun H' s1 => SqT.of (s1 _ _ hb)) (fun i h x H1 H2 Q hp s1 hacc y k => ?_) fun H' acc s1 e pr => ?_
    · obtain ⟨rfl, rfl⟩ := yat_ints hp y
      refine ⟨rfl, _, rfl, ?_⟩
      refine ⟨_, rfl, a, _, 0, _, rfl, rfl, s1 _ _ ha, i0, n, 1, rfl, rfl, h, 0, n - 1, rfl, k _ _ (Same.refl _) rfl⟩
    · rw [paired_bls pr] at e
      refine ⟨D, _, rfl, e, _, rfl, ifF ?_ ?_⟩
      · have et : (hs.map fun h => decide (0 ≤ h) && decide (h ≤ n - 1)).all id = true := by
          rw [List.all_eq_true]
          intro x hx
          obtain ⟨c, hc, rfl⟩ := List.mem_map.mp hx
          obtain ⟨o1, o2⟩ := O.at_ c hc
          show (decide (0 ≤ c) && decide (c ≤ n - 1)) = true
          rw [decide_eq_true o1, decide_eq_true o2]
          rfl
        rw [et]
        rfl
      · have n1 := O.n1
        have n12 := O.n12
        refine ⟨_, rfl, a, _, 0, _, rfl, rfl, s1 _ _ ha, i0, _, rfl, a, _, 1, _, rfl, rfl, s1 _ _ ha, i1, n, _, hs, rfl, ⟨b, rfl, s1 _ _ hb⟩, by omega, by omega, by omega, O.fits, fun H3 s2 => ?_⟩
        exact ⟨true, rfl, ifF rfl (q _ (Same.trans s1 s2))⟩
theorem cut_take (st : List Int) (i : Nat) : cutV (st.map V.int) none (some (i : Int)) = (st.take i).map V.int := by
  unfold cutV
  rw [HT.sIx_none, HT.sIx_nat, Nat.sub_zero, List.drop_zero, List.length_map, List.map_take, Nat.min_comm]
  rcases Nat.le_total i st.length with h | h
  · rw [Nat.min_eq_right h]
  · rw [Nat.min_eq_left h, List.take_of_length_le (by simp), List.take_of_length_le (by simpa using h)]
theorem not_in_take {st : List Int} {i : Nat} {p : Int} (nd : st.Nodup) (h : st[i]? = some p) : p ∉ st.take i := fun hm => by
  obtain ⟨hi, e⟩ := List.getElem?_eq_some_iff.mp h
  obtain ⟨j, hj, e2⟩ := List.getElem_of_mem hm
  rw [List.length_take] at hj
  rw [List.getElem_take] at e2
  have hj2 : j < st.length := by omega
  have := (List.getElem_inj nd (h₀ := hj2) (h₁ := hi)).mp (e2.trans e.symm)
  omega
def spNeedPlaces : Sp := fun vs H Q _ => ∃ (sv tv : V) (n : Int) (hs st : List Int), vs = [sv, tv] ∧ StrAt H sv n hs ∧ RT H tv st ∧ OkStreet n hs ∧ OkState n hs st ∧ ∀ H', Same H H' → Q .non H'
theorem ok_need_places (T : Txt K mg) : FnOk P w K mg base CX0 3 T.need_places.f T.need_places.fd ["street", "state"] spNeedPlaces := by
  refine T.need_places.F.ok sc_need_places (fun vs H Q E h => ?_) (fun cdv A outer s H vs Q E hr h => ?_)
  · obtain ⟨_, _, _, _, _, rfl, _⟩ := h
    rfl
  · obtain ⟨sv, tv, n, hs, st, rfl, ⟨a, b, rfl, ha, hb⟩, ⟨c, rfl, hc⟩, O, S, q⟩ := h
    refine ⟨_, (pss_cons (ps_asg (pv 0) (pg_tup rfl (pgs_cons (pg_name (i := 2) sc_need_places.nd rfl (by first | exact Or.inl rfl | exact Or.inr rfl)) (pgs_cons (pg_name (i := 3) sc_need_places.nd rfl (by first | exact Or.inl rfl | exact Or.inr rfl)) pgs_nil))))
      (pss_cons (ps_if (pt_not (pt_val (pe_call (ok_is_list T) (hr.mono (by decide)) (by rfl) T.is_list.m T.is_list.F.kp T.is_list.b .nil pass0 (pa_cons (pv 1) (pa_cons (pe_callB lenS (by rfl) T.b_len PySem.boot_len (pa_cons (pv 3) pa_nil)) (pa_cons (pe_callB lenS (by rfl) T.b_len PySem.boot_len (pa_cons (pv 3) pa_nil)) pa_nil)))))) (pss_one ps_never) pss_nil)
      (pss_one (ps_for PassesOwn.never rfl (pi_enumT (by rfl) T.b_enumerate (pa_cons (pv 1) pa_nil)) (pg_tup rfl (pgs_cons (pg_name (i := 4) sc_need_places.nd rfl (by first | exact Or.inl rfl | exact Or.inr rfl)) (pgs_cons (pg_name (i := 5) sc_need_places.nd rfl (by first | exact Or.inl rfl | exact Or.inr rfl)) pgs_nil)))
      (pss_one (ps_if (PW.pt (pw_or (pt_not (pt_val (pe_call (ok_is_in T) (hr.mono (by decide)) (by rfl) T.is_in.m T.is_in.F.kp T.is_in.b .nil pass0 (pa_cons (pv 5) (pa_cons (pe_ix ixT (pv 3) (pv 4) (fun _ _ => rfl)) (pa_cons (pe_op op_sub (pv 2) pe_int) pa_nil)))))) (pw_or1 (pt_cmpR inI (pv 5) (pe_slice sl_tup (pv 1) po_none (po_some (pv 4))) (by rfl))))) (pss_one ps_never) pss_nil)))))), ?_⟩
    have c7 := O.c7
    have c1 := O.c1
    have sl := S.len
    refine ⟨_, rfl, a, _, rfl, SqT.of ha, rfl, _, _, rfl, _, _, rfl, rfl, ?_⟩
    refine ⟨_, rfl, _, rfl, b, _, rfl, .inr hb, _, rfl, b, _, rfl, .inr hb, c, _, _, _, rfl, hc, _, rfl, ifF ?_ ?_⟩
    · rw [List.length_map, List.length_map, sl, decide_eq_true (Int.le_refl _)]
      rfl
    refine ⟨_, rfl, c, _, rfl, SqT.of hc, ?_⟩
    refine for_it walk_enumT (fun i σ H1 => (∃ y4 y5, σ = [some (.ref a), some (.ref c), some (.int n), some (.ref b), y4, y5]) ∧ Same H H1) ⟨⟨_, _, rfl⟩, Same.refl _⟩ (fun i σ H1 _ p => SqT.of (p.2 _ _ hc)) (fun i x σ H1 H2 hi p y => ?_) fun σ H1 p => q H1 p.2
    obtain ⟨⟨y4, y5, rfl⟩, s1⟩ := p
    obtain ⟨Tp, x1, x2, rfl, nT, rfl, e1, e2⟩ := y
    have hi' : i < st.length := by simpa using hi
    have e1' : x1 = .int (i : Nat) := (Option.some.inj e1).symm
    have e2' : x2 = .int (st.getD i 0) := by
      have f : (st.map V.int)[i]? = some x2 := e2
      rw [at_ints (getD_at hi')] at f
      exact (Option.some.inj f).symm
    subst e1' e2'
    have s2 : Same H (upd H1 Tp (.tup [.int (i : Nat), .int (st.getD i 0)])) := Same.trans s1 (same_new nT)
    have hih : i < hs.length := by omega
    obtain ⟨o1, o2⟩ := S.at_ i _ _ (getD_at hih) (getD_at hi')
    refine ⟨Tp, _, rfl, SqT.of upd_same, rfl, _, _, rfl, _, _, rfl, rfl, ?_⟩
    refine ⟨_, rfl, _, rfl, _, rfl, b, _, _, _, rfl, rfl, s2 _ _ hb, atI_ints hih, _, rfl, n, 1, rfl, rfl, _, _, _, rfl, _, rfl, ifF (by rw [decide_eq_true o1, decide_eq_true o2]; rfl) ?_⟩
    refine ⟨_, rfl, _, rfl, _, rfl, _, rfl, c, _, rfl, SqT.of (s2 _ _ hc), ?_, fun p hp => ?_⟩
    · rw [HT.sIx_nat, List.length_map]
      omega
    refine ⟨p, _, st.take i, rfl, rfl, .inr (by rw [cut_take]; exact upd_same), _, rfl, ifF (decide_eq_false (not_in_take S.nd (getD_at hi'))) ?_⟩
    exact ⟨⟨_, _, rfl⟩, Same.trans s2 (same_new hp)⟩

def spNeedState : Sp := spNeedPlaces
theorem ok_need_state (T : Txt K mg) : FnOk P w K mg base CX0 4 T.need_state.f T.need_state.fd ["street", "state"] spNeedState := by
  refine T.need_state.F.ok sc_need_state (fun vs H Q E h => ?_) (fun cdv A outer s H vs Q E hr h => ?_)
  · obtain ⟨_, _, _, _, _, rfl, _⟩ := h
    rfl
  · obtain ⟨sv, tv, n, hs, st, rfl, h1, h2, O, S, q⟩ := h
    refine ⟨_, (pss_cons (ps_expr (pe_call (ok_need_street T) (hr.mono (by decide)) (by rfl) T.need_street.m T.need_street.F.kp T.need_street.b .nil pass0 (pa_cons (pv 0) pa_nil)))
      (pss_one (ps_expr (pe_call (ok_need_places T) (hr.mono (by decide)) (by rfl) T.need_places.m T.need_places.F.kp T.need_places.b .nil pass0 (pa_cons (pv 0) (pa_cons (pv 1) pa_nil)))))), ?_⟩
    refine ⟨_, rfl, sv, n, hs, rfl, h1, O, fun H1 s1 => ?_⟩
    exact ⟨_, rfl, _, rfl, sv, tv, n, hs, st, rfl, h1.up s1, h2.up s1, O, S, fun H2 s2 => q _ (Same.trans s1 s2)⟩

/-- weights that the package takes -/
structure OkWeights (hs ws : List Int) : Prop where
  len : ws.length = hs.length
  at_ : ∀ w ∈ ws, 0 ≤ w ∧ w ≤ 99
def spNeedWeights : Sp := fun vs H Q _ => ∃ (sv wv : V) (n : Int) (hs ws : List Int), vs = [sv, wv] ∧ StrAt H sv n hs ∧ RT H wv ws ∧ OkStreet n hs ∧ OkWeights hs ws ∧ ∀ H', Same H H' → Q .non H'
theorem ok_need_weights (T : Txt K mg) : FnOk P w K mg base CX0 3 T.need_weights.f T.need_weights.fd ["street", "weights"] spNeedWeights := by
  refine T.need_weights.F.ok sc_need_weights (fun vs H Q E h => ?_) (fun cdv A outer s H vs Q E hr h => ?_)
  · obtain ⟨_, _, _, _, _, rfl, _⟩ := h
    rfl
  · obtain ⟨sv, wv, n, hs, ws, rfl, ⟨a, b, rfl, ha, hb⟩, ⟨c, rfl, hc⟩, O, W, q⟩ := h
    refine ⟨_, (pss_cons (ps_set (i := 2) sc_need_weights.nd rfl (by first | exact Or.inl rfl | exact Or.inr rfl) (pe_callB lenS (by rfl) T.b_len PySem.boot_len (pa_cons (pe_ix ixT (pv 0) pe_int (fun _ _ => rfl)) pa_nil)))
      (pss_cons (ps_if (pt_not (pt_val (pe_call (ok_is_list T) (hr.mono (by decide)) (by rfl) T.is_list.m T.is_list.F.kp T.is_list.b .nil pass0 (pa_cons (pv 1) (pa_cons (pv 2) (pa_cons (pv 2) pa_nil)))))) (pss_one ps_never) pss_nil)
      (pss_one (ps_for PassesOwn.never rfl (pi_enumT (by rfl) T.b_enumerate (pa_cons (pv 1) pa_nil)) (pg_tup rfl (pgs_cons (pg_name (i := 3) sc_need_weights.nd rfl (by first | exact Or.inl rfl | exact Or.inr rfl)) (pgs_cons (pg_name (i := 4) sc_need_weights.nd rfl (by first | exact Or.inl rfl | exact Or.inr rfl)) pgs_nil)))
      (pss_one (ps_if (pt_not (pt_val (pe_call (ok_is_in T) (hr.mono (by decide)) (by rfl) T.is_in.m T.is_in.F.kp T.is_in.b .nil pass0 (pa_cons (pv 4) (pa_cons pe_int (pa_cons pe_int pa_nil)))))) (pss_one ps_never) pss_nil)))))), ?_⟩
    have c7 := O.c7
    have wl := W.len
    have i1 : atI [V.int n, V.ref b] 1 = some (.ref b) := atI_nat (j := 1) rfl
    refine ⟨_, rfl, a, _, 1, _, rfl, rfl, ha, i1, b, _, rfl, .inr hb, ?_⟩
    refine ⟨_, rfl, _, rfl, _, rfl, c, _, _, _, rfl, hc, _, rfl, ifF ?_ ?_⟩
    · rw [List.length_map, List.length_map, wl, decide_eq_true (Int.le_refl _)]
      rfl
    refine ⟨_, rfl, c, _, rfl, SqT.of hc, ?_⟩
    refine for_it walk_enumT (fun i σ H1 => (∃ y2 y3 y4, σ = [some (.ref a), some (.ref c), y2, y3, y4]) ∧ Same H H1) ⟨⟨_, _, _, rfl⟩, Same.refl _⟩ (fun i σ H1 _ p => SqT.of (p.2 _ _ hc)) (fun i x σ H1 H2 hi p y => ?_) fun σ H1 p => q H1 p.2
    obtain ⟨⟨y2, y3, y4, rfl⟩, s1⟩ := p
    obtain ⟨Tp, x1, x2, rfl, nT, rfl, e1, e2⟩ := y
    have hi' : i < ws.length := by simpa using hi
    have e1' : x1 = .int (i : Nat) := (Option.some.inj e1).symm
    have e2' : x2 = .int (ws.getD i 0) := by
      have f : (ws.map V.int)[i]? = some x2 := e2
      rw [at_ints (getD_at hi')] at f
      exact (Option.some.inj f).symm
    subst e1' e2'
    have s2 : Same H (upd H1 Tp (.tup [.int (i : Nat), .int (ws.getD i 0)])) := Same.trans s1 (same_new nT)
    obtain ⟨o1, o2⟩ := W.at_ _ (List.mem_of_getElem? (getD_at hi'))
    refine ⟨Tp, _, rfl, SqT.of upd_same, rfl, _, _, rfl, _, _, rfl, rfl, ?_⟩
    refine ⟨_, rfl, _, _, _, rfl, _, rfl, ifF (by rw [decide_eq_true o1, decide_eq_true o2]; rfl) ?_⟩
    exact ⟨⟨_, _, _, rfl⟩, s2⟩
end
end K37
end

section
set_option Elab.async false
set_option linter.all false
set_option maxHeartbeats 1000000
/-! The mathematics of parking: the places that fill up do not hang on the order. -/
namespace K37
open List

/-- the first place from h on that is not in S -/
def nxt (S : List Int) (h : Int) : Int := if h ∈ S then nxt (S.erase h) (h + 1) else h
termination_by S.length
decreasing_by
  rw [List.length_erase_of_mem (by assumption)]
  have := List.length_pos_of_mem (by assumption : h ∈ S)
  omega
structure IsNext (S : List Int) (h p : Int) : Prop where
  ge : h ≤ p
  free : p ∉ S
  all : ∀ q, h ≤ q → q < p → q ∈ S
theorem nxt_is (S : List Int) (h : Int) : IsNext S h (nxt S h) := by
  rw [nxt]
  by_cases hm : h ∈ S
  · rw [if_pos hm]
    have ih := nxt_is (S.erase h) (h + 1)
    refine ⟨by have := ih.ge; omega, fun z => ih.free ?_, fun q h1 h2 => ?_⟩
    · exact (List.mem_erase_of_ne (by have := ih.ge; omega)).mpr z
    · by_cases e : q = h
      · rw [e]
        exact hm
      · exact List.mem_of_mem_erase (ih.all q (by omega) h2)
  · rw [if_neg hm]
    exact ⟨Int.le_refl _, hm, fun q h1 h2 => by omega⟩
termination_by S.length
decreasing_by
  rw [List.length_erase_of_mem (by assumption)]
  have := List.length_pos_of_mem (by assumption : h ∈ S)
  omega
theorem IsNext.eq {S : List Int} {h p p' : Int} (a : IsNext S h p) (b : IsNext S h p') : p = p' := by
  rcases Int.lt_trichotomy p p' with l | l | l
  · exact absurd (b.all p a.ge l) a.free
  · exact l
  · exact absurd (a.all p' b.ge l) b.free
theorem nxt_eq {S : List Int} {h p : Int} (a : IsNext S h p) : nxt S h = p := (nxt_is S h).eq a
theorem nxt_mem {S S' : List Int} (h : ∀ x, x ∈ S ↔ x ∈ S') (a : Int) : nxt S a = nxt S' a := by
  have := nxt_is S' a
  exact nxt_eq ⟨this.ge, fun z => this.free ((h _).mp z), fun q h1 h2 => (h _).mpr (this.all q h1 h2)⟩
/-- cars that park one after another -/
def fillG : List Int → List Int → List Int
  | acc, [] => acc
  | acc, h :: t => fillG (acc ++ [nxt acc h]) t
def fill (hs : List Int) : List Int := fillG [] hs
theorem fillG_acc : ∀ (l : List Int) {a b : List Int}, a.Perm b → (fillG a l).Perm (fillG b l)
  | [], _, _, h => h
  | x :: l, a, b, h => by
    have e : nxt a x = nxt b x := nxt_mem (fun y => h.mem_iff) x
    show (fillG (a ++ [nxt a x]) l).Perm (fillG (b ++ [nxt b x]) l)
    rw [e]
    exact fillG_acc l (h.append_right _)
/-- two cars that come in the other order -/
theorem nxt_swap (S : List Int) (a b : Int) : (S ++ [nxt S a] ++ [nxt (S ++ [nxt S a]) b]).Perm (S ++ [nxt S b] ++ [nxt (S ++ [nxt S b]) a]) := by
  have pa := nxt_is S a
  have pb := nxt_is S b
  by_cases e : nxt S a = nxt S b
  · -- both want the same place
    have h1 := nxt_is (S ++ [nxt S a]) (nxt S a + 1)
    have key : ∀ c, nxt S c = nxt S a → nxt (S ++ [nxt S a]) c = nxt (S ++ [nxt S a]) (nxt S a + 1) := fun c ec => by
      have pc := nxt_is S c
      rw [ec] at pc
      refine nxt_eq ⟨by have := pc.ge; have := h1.ge; omega, h1.free, fun q q1 q2 => ?_⟩
      rcases Int.lt_trichotomy q (nxt S a) with l | l | l
      · exact List.mem_append_left _ (pc.all q q1 l)
      · rw [l]
        exact List.mem_append_right _ (List.mem_singleton.mpr rfl)
      · exact h1.all q (by omega) q2
    rw [key b e.symm, ← e, key a rfl]
  · have hb : nxt (S ++ [nxt S a]) b = nxt S b := by
      refine nxt_eq ⟨pb.ge, fun z => ?_, fun q q1 q2 => List.mem_append_left _ (pb.all q q1 q2)⟩
      rcases List.mem_append.mp z with z | z
      · exact pb.free z
      · exact e (List.mem_singleton.mp z).symm
    have ha : nxt (S ++ [nxt S b]) a = nxt S a := by
      refine nxt_eq ⟨pa.ge, fun z => ?_, fun q q1 q2 => List.mem_append_left _ (pa.all q q1 q2)⟩
      rcases List.mem_append.mp z with z | z
      · exact pa.free z
      · exact e (List.mem_singleton.mp z)
    rw [ha, hb, List.append_assoc, List.append_assoc]
    exact (List.Perm.swap _ _ _).append_left S
theorem fillG_perm {l l' : List Int} (h : l.Perm l') : ∀ acc, (fillG acc l).Perm (fillG acc l') := by
  induction h with
  | nil => exact fun _ => List.Perm.refl _
  | cons x _ ih => exact fun acc => ih _
  | swap x y l =>
    intro acc
    show (fillG (acc ++ [nxt acc y] ++ [nxt (acc ++ [nxt acc y]) x]) l).Perm (fillG (acc ++ [nxt acc x] ++ [nxt (acc ++ [nxt acc x]) y]) l)
    exact fillG_acc l (nxt_swap acc y x)
  | trans _ _ ih1 ih2 => exact fun acc => (ih1 acc).trans (ih2 acc)
theorem fill_perm {l l' : List Int} (h : l.Perm l') : (fill l).Perm (fill l') := fillG_perm h []
theorem fillG_length : ∀ (l acc : List Int), (fillG acc l).length = acc.length + l.length
  | [], _ => rfl
  | x :: l, acc => by
    show (fillG (acc ++ [nxt acc x]) l).length = _
    rw [fillG_length l, List.length_append, List.length_cons]
    simp
    omega
theorem fill_length (l : List Int) : (fill l).length = l.length := by
  unfold fill
  rw [fillG_length]
  simp
theorem fillG_nodup : ∀ (l acc : List Int), acc.Nodup → (fillG acc l).Nodup
  | [], _, h => h
  | x :: l, acc, h => by
    refine fillG_nodup l _ (List.nodup_append.mpr ⟨h, (by simp), fun a ha b hb => ?_⟩)
    rw [List.mem_singleton.mp hb]
    exact fun z => (nxt_is acc x).free (z ▸ ha)
theorem fill_nodup (l : List Int) : (fill l).Nodup := fillG_nodup l [] List.nodup_nil
/-- no place lies far -/
theorem nxt_le {S : List Int} {h B : Int} {k : Nat} (hS : ∀ x ∈ S, x < B + k) (hh : h ≤ B) : nxt S h ≤ B + k := by
  have p := nxt_is S h
  rcases Int.lt_or_le (B + k) (nxt S h) with z | z
  · have := hS _ (p.all (nxt S h - 1) (by omega) (by omega))
    omega
  · exact z
theorem fillG_le : ∀ (l acc : List Int) {B : Int} {k : Nat}, (∀ h ∈ l, h ≤ B) → (∀ x ∈ acc, x < B + k) → ∀ x ∈ fillG acc l, x < B + k + l.length
  | [], acc, B, k, _, h2, x, hx => by
    have := h2 x hx
    simp
    omega
  | y :: l, acc, B, k, h1, h2, x, hx => by
    have hy := nxt_le h2 (h1 y List.mem_cons_self)
    have := fillG_le l (acc ++ [nxt acc y]) (B := B) (k := k + 1) (fun h hh => h1 h (List.mem_cons_of_mem _ hh)) (fun z hz => by
      rcases List.mem_append.mp hz with hz | hz
      · have := h2 z hz
        omega
      · rw [List.mem_singleton.mp hz]
        omega) x hx
    rw [List.length_cons]
    omega
theorem fill_le {hs : List Int} {B : Int} (h : ∀ x ∈ hs, x ≤ B) : ∀ x ∈ fill hs, x < B + hs.length := fun x hx => by
  have := fillG_le hs [] (B := B) (k := 0) h (fun _ hx => by cases hx) x hx
  omega

/-- the places in their order -/
def tk (hs : List Int) : List Int := (fill hs).mergeSort fun a b => decide (a ≤ b)
theorem le_eq {l m : List Int} (h : l.Perm m) (h1 : l.Pairwise (· ≤ ·)) (h2 : m.Pairwise (· ≤ ·)) : l = m :=
  List.Perm.eq_of_pairwise (le := (· ≤ ·)) (fun a b _ _ x y => Int.le_antisymm x y) h1 h2 h
theorem tk_up (hs : List Int) : (tk hs).Pairwise (· ≤ ·) := by
  have p := List.pairwise_mergeSort (le := fun a b : Int => decide (a ≤ b)) (fun a b c h1 h2 => ?_) (fun a b => ?_) (fill hs)
  · exact p.imp fun h => of_decide_eq_true h
  · exact decide_eq_true (Int.le_trans (of_decide_eq_true h1) (of_decide_eq_true h2))
  · rcases Int.le_total a b with h | h <;> simp [h]
theorem tk_fill (hs : List Int) : (tk hs).Perm (fill hs) := List.mergeSort_perm _ _
theorem tk_eq {hs hs' M : List Int} (h : hs'.Perm hs) (p : M.Perm (fill hs')) (u : M.Pairwise (· ≤ ·)) : M = tk hs :=
  le_eq ((p.trans (fill_perm h)).trans (tk_fill hs).symm) u (tk_up hs)
theorem tk_nodup (hs : List Int) : (tk hs).Nodup := (tk_fill hs).nodup_iff.mpr (fill_nodup hs)
theorem tk_length (hs : List Int) : (tk hs).length = hs.length := (tk_fill hs).length_eq.trans (fill_length hs)
theorem tk_strict (hs : List Int) : (tk hs).Pairwise (· < ·) := by
  have h := (tk_up hs).and (tk_nodup hs)
  exact h.imp fun ⟨h1, h2⟩ => by omega
end K37
end

section
set_option Elab.async false
set_option linter.all false
set_option maxHeartbeats 1000000
/-! The rests: as the package lists them, as the law lists them; that there is one. -/
namespace K37
open List
def stepR (tk : List Int) (h f : Int) (F : List (List Int)) : List (List Int) := F.flatMap fun row => (tk.filter fun p => decide (h ≤ p ∧ p ≤ f ∧ p ∉ row)).map fun p => row ++ [p]
def restsG (tk : List Int) : List (Int × Int) → List (List Int) → List (List Int)
  | [], F => F
  | z :: t, F => restsG tk t (stepR tk z.1 z.2 F)
/-- the rests that can come -/
def restsIn (hs st : List Int) : List (List Int) := restsG (tk hs) (hs.zip st) [[]]
def stepL (tk : List Int) (h : Int) (F : List (List Int)) : List (List Int) := F.flatMap fun row => (tk.filter fun p => decide (h ≤ p ∧ p ∉ row)).map fun p => row ++ [p]
def restsL (tk : List Int) : List Int → List (List Int) → List (List Int)
  | [], F => F
  | h :: t, F => restsL tk t (stepL tk h F)
def okR (r st : List Int) : Bool := (r.zip st).all fun p => decide (p.1 ≤ p.2)

theorem okR_snoc {r st : List Int} (h : r.length = st.length) (p f : Int) : okR (r ++ [p]) (st ++ [f]) = (okR r st && decide (p ≤ f)) := by
  unfold okR
  rw [List.zip_append h, List.all_append]
  simp
theorem step_filter {tk : List Int} {h f : Int} {dn : List Int} : ∀ {F : List (List Int)}, (∀ r ∈ F, r.length = dn.length) → (stepL tk h F).filter (fun r => okR r (dn ++ [f])) = stepR tk h f (F.filter fun r => okR r dn)
  | [], _ => rfl
  | r :: F, hF => by
    have ih := step_filter (tk := tk) (h := h) (f := f) (dn := dn) (F := F) fun x hx => hF x (List.mem_cons_of_mem _ hx)
    have hr := hF r List.mem_cons_self
    have e1 : stepL tk h (r :: F) = ((tk.filter fun p => decide (h ≤ p ∧ p ∉ r)).map fun p => r ++ [p]) ++ stepL tk h F := rfl
    rw [e1, List.filter_append, ih]
    have e2 : ((tk.filter fun p => decide (h ≤ p ∧ p ∉ r)).map fun p => r ++ [p]).filter (fun r => okR r (dn ++ [f])) = if okR r dn = true then (tk.filter fun p => decide (h ≤ p ∧ p ≤ f ∧ p ∉ r)).map fun p => r ++ [p] else [] := by
      rw [List.filter_map, List.filter_filter]
      by_cases ho : okR r dn = true
      · rw [if_pos ho]
        congr 1
        refine List.filter_congr fun p _ => ?_
        show (okR (r ++ [p]) (dn ++ [f]) && decide (h ≤ p ∧ p ∉ r)) = _
        rw [okR_snoc hr, ho, Bool.true_and]
        by_cases a : p ≤ f <;> by_cases b : h ≤ p <;> by_cases c : p ∈ r <;> simp [a, b, c]
      · rw [if_neg ho]
        have : (tk.filter fun p => ((fun r => okR r (dn ++ [f])) ∘ fun p => r ++ [p]) p && decide (h ≤ p ∧ p ∉ r)) = [] := by
          refine List.filter_eq_nil_iff.mpr fun p _ => ?_
          show ¬ (okR (r ++ [p]) (dn ++ [f]) && decide (h ≤ p ∧ p ∉ r)) = true
          rw [okR_snoc hr]
          simp [ho]
        rw [this]
        rfl
    rw [e2]
    by_cases ho : okR r dn = true
    · rw [if_pos ho, List.filter_cons_of_pos (p := fun r => okR r dn) ho]
      rfl
    · rw [if_neg ho, List.filter_cons_of_neg (p := fun r => okR r dn) ho]
      rfl
theorem stepL_len {tk : List Int} {h : Int} {F : List (List Int)} {k : Nat} (hF : ∀ r ∈ F, r.length = k) : ∀ r ∈ stepL tk h F, r.length = k + 1 := fun r hr => by
  obtain ⟨x, hx, hm⟩ := List.mem_flatMap.mp hr
  obtain ⟨p, _, rfl⟩ := List.mem_map.mp hm
  simp [hF x hx]
theorem rests_filter {tk : List Int} : ∀ (hs fs dn : List Int) (F : List (List Int)), fs.length = hs.length → (∀ r ∈ F, r.length = dn.length) → (restsL tk hs F).filter (fun r => okR r (dn ++ fs)) = restsG tk (hs.zip fs) (F.filter fun r => okR r dn)
  | [], [], dn, F, _, _ => by
    rw [List.append_nil]
    rfl
  | h :: hs, f :: fs, dn, F, hl, hF => by
    have e := rests_filter (tk := tk) hs fs (dn ++ [f]) (stepL tk h F) (by simpa using hl) (fun r hr => by
      rw [stepL_len hF r hr]
      simp)
    simp only [List.append_assoc] at e
    show (restsL tk hs (stepL tk h F)).filter (fun r => okR r (dn ++ ([f] ++ fs))) = _
    rw [e, step_filter hF]
    rfl
  | [], _ :: _, _, _, h, _ => by simp at h
  | _ :: _, [], _, _, h, _ => by simp at h
theorem restsIn_eq {hs st : List Int} (h : st.length = hs.length) : (restsL (tk hs) hs [[]]).filter (fun r => okR r st) = restsIn hs st := by
  have e := rests_filter (tk := tk hs) hs st [] [[]] h (fun r hr => by simpa using hr)
  exact e

/-! ### in their order -/
theorem lt_app : ∀ {a b : List Int} (x y : List Int), a.length = b.length → a < b → a ++ x < b ++ y
  | [], [], _, _, _, h => absurd h (List.lt_irrefl _)
  | a :: as, b :: bs, x, y, hl, h => by
    rw [List.cons_append, List.cons_append]
    rcases List.cons_lt_cons_iff.mp h with h | ⟨e, h⟩
    · exact List.cons_lt_cons_iff.mpr (.inl h)
    · exact List.cons_lt_cons_iff.mpr (.inr ⟨e, lt_app x y (by simpa using hl) h⟩)
theorem lt_snoc : ∀ (r : List Int) {p q : Int}, p < q → r ++ [p] < r ++ [q]
  | [], _, _, h => List.cons_lt_cons_iff.mpr (.inl h)
  | x :: r, _, _, h => List.cons_lt_cons_iff.mpr (.inr ⟨rfl, lt_snoc r h⟩)
theorem stepL_up {tk : List Int} (ht : tk.Pairwise (· < ·)) {h : Int} {k : Nat} : ∀ {F : List (List Int)}, (∀ r ∈ F, r.length = k) → F.Pairwise (· < ·) → (stepL tk h F).Pairwise (· < ·)
  | [], _, _ => List.Pairwise.nil
  | r :: F, hF, hp => by
    obtain ⟨h1, h2⟩ := List.pairwise_cons.mp hp
    have ih := stepL_up ht (h := h) (fun x hx => hF x (List.mem_cons_of_mem _ hx)) h2
    have e1 : stepL tk h (r :: F) = ((tk.filter fun p => decide (h ≤ p ∧ p ∉ r)).map fun p => r ++ [p]) ++ stepL tk h F := rfl
    rw [e1]
    refine List.pairwise_append.mpr ⟨?_, ih, fun a ha b hb => ?_⟩
    · exact List.pairwise_map.mpr ((ht.filter _).imp fun h => lt_snoc r h)
    · obtain ⟨p, _, rfl⟩ := List.mem_map.mp ha
      obtain ⟨x, hx, hm⟩ := List.mem_flatMap.mp hb
      obtain ⟨q, _, rfl⟩ := List.mem_map.mp hm
      exact lt_app _ _ (by rw [hF r List.mem_cons_self, hF x (List.mem_cons_of_mem _ hx)]) (h1 x hx)
theorem restsL_up {tk : List Int} (ht : tk.Pairwise (· < ·)) : ∀ (hs : List Int) {F : List (List Int)} {k : Nat}, (∀ r ∈ F, r.length = k) → F.Pairwise (· < ·) → (restsL tk hs F).Pairwise (· < ·) ∧ ∀ r ∈ restsL tk hs F, r.length = k + hs.length
  | [], F, k, hF, hp => ⟨hp, hF⟩
  | h :: hs, F, k, hF, hp => by
    obtain ⟨h1, h2⟩ := restsL_up ht hs (stepL_len (h := h) hF) (stepL_up ht (h := h) hF hp)
    refine ⟨h1, fun r hr => ?_⟩
    rw [h2 r hr, List.length_cons]
    omega
/-- the law's sorted list is the list -/
theorem sorted_rests {hs : List Int} {M : List (List Int)} (p : M.Perm (restsL (tk hs) hs [[]])) (u : M.Pairwise fun a b => a ≤ b) : M = restsL (tk hs) hs [[]] := by
  obtain ⟨h1, _⟩ := restsL_up (tk_strict hs) hs (F := [[]]) (k := 0) (fun r hr => by simpa using hr) (List.pairwise_singleton _ _)
  exact List.Perm.eq_of_pairwise (le := (· ≤ ·)) (fun a b _ _ x y => List.le_antisymm x y) u (h1.imp fun h => List.le_of_lt h) p
theorem restsL_len {hs : List Int} : ∀ r ∈ restsL (tk hs) hs [[]], r.length = hs.length := fun r hr => by
  obtain ⟨_, h2⟩ := restsL_up (tk_strict hs) hs (F := [[]]) (k := 0) (fun r hr => by simpa using hr) (List.pairwise_singleton _ _)
  rw [h2 r hr, Nat.zero_add]
theorem restsIn_len {hs st : List Int} (h : st.length = hs.length) : ∀ r ∈ restsIn hs st, r.length = hs.length := fun r hr => by
  rw [← restsIn_eq h] at hr
  exact restsL_len r (List.mem_filter.mp hr).1

/-! ### there is one -/
theorem mem_rests {tk : List Int} : ∀ (zs : List (Int × Int)) (xs row : List Int) (F : List (List Int)), row ∈ F → xs.length = zs.length → (∀ t ∈ zs.zip xs, t.1.1 ≤ t.2 ∧ t.2 ≤ t.1.2 ∧ t.2 ∈ tk) → (row ++ xs).Nodup → row ++ xs ∈ restsG tk zs F
  | [], [], row, F, h, _, _, _ => by
    rw [List.append_nil]
    exact h
  | z :: zs, x :: xs, row, F, h, hl, hc, hn => by
    obtain ⟨c1, c2, c3⟩ := hc (z, x) List.mem_cons_self
    have e : row ++ x :: xs = row ++ [x] ++ xs := by simp
    rw [e] at hn ⊢
    refine mem_rests zs xs (row ++ [x]) (stepR tk z.1 z.2 F) ?_ (by simpa using hl) (fun t ht => hc t (List.mem_cons_of_mem _ ht)) hn
    refine List.mem_flatMap.mpr ⟨row, h, List.mem_map.mpr ⟨x, List.mem_filter.mpr ⟨c3, decide_eq_true ⟨c1, c2, ?_⟩⟩, rfl⟩⟩
    have hn2 := (List.nodup_append.mp hn).1
    exact fun hx => (List.nodup_append.mp hn2).2.2 x hx x (List.mem_singleton.mpr rfl) rfl
  | [], _ :: _, _, _, _, h, _, _ => by simp at h
  | _ :: _, [], _, _, _, h, _, _ => by simp at h
/-- the places of the cars that come -/
def pl : List Int → List Int → List Int
  | _, [] => []
  | acc, h :: t => nxt acc h :: pl (acc ++ [nxt acc h]) t
theorem fillG_pl : ∀ (l acc : List Int), fillG acc l = acc ++ pl acc l
  | [], acc => by simp [fillG, pl]
  | h :: t, acc => by
    show fillG (acc ++ [nxt acc h]) t = acc ++ nxt acc h :: pl (acc ++ [nxt acc h]) t
    rw [fillG_pl t]
    simp
theorem pl_len : ∀ (l acc : List Int), (pl acc l).length = l.length
  | [], _ => rfl
  | h :: t, acc => by
    show (pl (acc ++ [nxt acc h]) t).length + 1 = t.length + 1
    rw [pl_len t]
theorem pl_le : ∀ (zs : List (Int × Int)) (acc : List Int), zs.Pairwise (fun a b => a.2 < b.2) → (∀ z ∈ zs, z.1 ≤ z.2) → (∀ x ∈ acc, ∀ z ∈ zs, x < z.2) → ∀ t ∈ zs.zip (pl acc (zs.map Prod.fst)), t.1.1 ≤ t.2 ∧ t.2 ≤ t.1.2
  | [], _, _, _, _, t, ht => by simp at ht
  | z :: zs, acc, hp, h1, h2, t, ht => by
    obtain ⟨p1, p2⟩ := List.pairwise_cons.mp hp
    have hz := h1 z List.mem_cons_self
    have nx := nxt_is acc z.1
    have le : nxt acc z.1 ≤ z.2 := by
      rcases Int.lt_or_le z.2 (nxt acc z.1) with l | l
      · exact absurd (h2 _ (nx.all z.2 hz l) z List.mem_cons_self) (Int.lt_irrefl _)
      · exact l
    have e : (z :: zs).zip (pl acc ((z :: zs).map Prod.fst)) = (z, nxt acc z.1) :: zs.zip (pl (acc ++ [nxt acc z.1]) (zs.map Prod.fst)) := rfl
    rw [e] at ht
    rcases List.mem_cons.mp ht with rfl | ht
    · exact ⟨nx.ge, le⟩
    · refine pl_le zs _ p2 (fun y hy => h1 y (List.mem_cons_of_mem _ hy)) (fun x hx y hy => ?_) t ht
      rcases List.mem_append.mp hx with hx | hx
      · exact h2 x hx y (List.mem_cons_of_mem _ hy)
      · rw [List.mem_singleton.mp hx]
        exact Int.lt_of_le_of_lt le (p1 y hy)
theorem perm_zip {α β : Type} {l l' : List α} (h : l.Perm l') : ∀ ys : List β, ys.length = l.length → ∃ ys' : List β, ys'.length = l'.length ∧ (l.zip ys).Perm (l'.zip ys') := by
  induction h with
  | nil => exact fun ys _ => ⟨[], rfl, by simp⟩
  | cons x _ ih =>
    intro ys hy
    cases ys with
    | nil => simp at hy
    | cons y ys =>
      obtain ⟨zs, h1, h2⟩ := ih ys (by simpa using hy)
      exact ⟨y :: zs, by simp [h1], h2.cons _⟩
  | swap x y l =>
    intro ys hy
    match ys, hy with
    | a :: b :: ys, hy => exact ⟨b :: a :: ys, by simpa using hy, List.Perm.swap _ _ _⟩
    | [_], hy => simp at hy
    | [], hy => simp at hy
  | trans _ _ ih1 ih2 =>
    intro ys hy
    obtain ⟨zs, h1, h2⟩ := ih1 ys hy
    obtain ⟨ws, h3, h4⟩ := ih2 zs h1
    exact ⟨ws, h3, h2.trans h4⟩
theorem zip_snd {α β : Type} : ∀ {xs : List α} {ys : List β}, ys.length = xs.length → (xs.zip ys).map Prod.snd = ys
  | [], [], _ => rfl
  | x :: xs, y :: ys, h => by
    show y :: (xs.zip ys).map Prod.snd = _
    rw [zip_snd (by simpa using h)]
  | [], _ :: _, h => by simp at h
  | _ :: _, [], h => by simp at h
theorem zip_fst {α β : Type} : ∀ {xs : List α} {ys : List β}, ys.length = xs.length → (xs.zip ys).map Prod.fst = xs
  | [], [], _ => rfl
  | x :: xs, y :: ys, h => by
    show x :: (xs.zip ys).map Prod.fst = _
    rw [zip_fst (by simpa using h)]
  | [], _ :: _, h => by simp at h
  | _ :: _, [], h => by simp at h
theorem rests_some {hs st : List Int} (hl : st.length = hs.length) (hle : ∀ z ∈ hs.zip st, z.1 ≤ z.2) (hn : st.Nodup) : restsIn hs st ≠ [] := by
  let zs := (hs.zip st).mergeSort fun a b => decide (a.2 ≤ b.2)
  have hz : zs.Perm (hs.zip st) := List.mergeSort_perm _ _
  have up : zs.Pairwise fun a b => a.2 ≤ b.2 := by
    have p := List.pairwise_mergeSort (le := fun a b : Int × Int => decide (a.2 ≤ b.2)) (fun a b c h1 h2 => ?_) (fun a b => ?_) (hs.zip st)
    · exact p.imp fun h => of_decide_eq_true h
    · exact decide_eq_true (Int.le_trans (of_decide_eq_true h1) (of_decide_eq_true h2))
    · rcases Int.le_total a.2 b.2 with h | h <;> simp [h]
  have nd : zs.Pairwise fun a b => a.2 ≠ b.2 := by
    have h1 : (zs.map Prod.snd).Nodup := (hz.map Prod.snd).nodup_iff.mpr (by rw [zip_snd hl]; exact hn)
    exact List.pairwise_map.mp h1
  have st' : zs.Pairwise fun a b => a.2 < b.2 := (up.and nd).imp fun ⟨h1, h2⟩ => by omega
  have q := pl_le zs [] st' (fun z h => hle z (hz.mem_iff.mp h)) (fun x hx => by cases hx)
  have ql : (pl [] (zs.map Prod.fst)).length = zs.length := by rw [pl_len, List.length_map]
  obtain ⟨xs, h1, h2⟩ := perm_zip hz (pl [] (zs.map Prod.fst)) ql
  have ef : fill (zs.map Prod.fst) = pl [] (zs.map Prod.fst) := by
    unfold fill
    rw [fillG_pl, List.nil_append]
  have pf : (pl [] (zs.map Prod.fst)).Perm (fill hs) := by
    rw [← ef]
    refine fill_perm ?_
    have := hz.map Prod.fst
    rwa [zip_fst hl] at this
  have px : xs.Perm (pl [] (zs.map Prod.fst)) := by
    have := (h2.map Prod.snd).symm
    rwa [zip_snd h1, zip_snd ql] at this
  have hm := mem_rests (tk := tk hs) (hs.zip st) xs [] [[]] (by simp) h1 (fun t ht => ?_) ?_
  · intro e
    unfold restsIn at e
    rw [e] at hm
    cases hm
  · obtain ⟨a, b⟩ := q t (h2.mem_iff.mpr ht)
    refine ⟨a, b, ?_⟩
    have : t.2 ∈ xs := by
      have := List.mem_map_of_mem (f := Prod.snd) ht
      rwa [zip_snd h1] at this
    exact (tk_fill hs).mem_iff.mpr ((px.trans pf).mem_iff.mp this)
  · rw [List.nil_append]
    exact (px.trans pf).nodup_iff.mpr (fill_nodup hs)
end K37
end

section
set_option Elab.async false
set_option linter.all false
set_option maxRecDepth 100000
set_option maxHeartbeats 4000000
/-! taken_in, _law_filled: the places that fill up. -/
namespace K37
open PySem PySem.Spec PyProof.Rows L2
theorem fillG_snoc : ∀ (l acc : List Int) (x : Int), fillG acc (l ++ [x]) = fillG acc l ++ [nxt (fillG acc l) x]
  | [], acc, x => rfl
  | y :: l, acc, x => by
    show fillG (acc ++ [nxt acc y]) (l ++ [x]) = _
    rw [fillG_snoc l]
    rfl
theorem fillG_take {l : List Int} {i : Nat} {x : Int} (h : l[i]? = some x) : fillG [] (l.take (i + 1)) = fillG [] (l.take i) ++ [nxt (fillG [] (l.take i)) x] := by
  rw [List.take_add_one, h]
  exact fillG_snoc _ _ _
theorem key1 {a b : Int} (h : [a] ≤ [b]) : a ≤ b := by
  rcases Int.lt_or_le b a with l | l
  · exact absurd (List.cons_lt_cons_iff.mpr (.inl l)) h
  · exact l
theorem sorts_ints {L M : List Int} {K : PySem.W.Frag} (s : Sorts (encI K).key L M) : M.Perm L ∧ M.Pairwise (· ≤ ·) := ⟨s.perm, s.up.imp key1⟩
section
variable {P : Program} {w : World} {K : PySem.W.Frag} {mg : Str → Option Value} {base : Heap}
def spTaken : Sp := fun vs H Q _ => ∃ (v : V) (hs : List Int), vs = [v] ∧ RT H v hs ∧ hs.length ≤ 7 ∧ (∀ h ∈ hs, h ≤ 20) ∧ ∀ H' p, Same H H' → H p = none → H' p = some (.lst ((tk hs).map V.int)) → Q (.ref p) H'
theorem ok_taken_in (T : Txt K mg) : FnOk P w K mg base CX0 1 T.taken_in.f T.taken_in.fd ["homes"] spTaken := by
  refine T.taken_in.F.ok sc_taken_in (fun vs H Q E h => ?_) (fun cdv A outer s H vs Q E hr h => ?_)
  · obtain ⟨_, _, rfl, _⟩ := h
    rfl
  · obtain ⟨v, hs, rfl, ⟨a, rfl, ha⟩, hz, hb, q⟩ := h
    have hu32 : (A.deeper (envOfC "taken_in" (defScope s_taken_in) s.heap.objs.size T.taken_in.f cdv)).units + 32 < cLine := by
      have := hr.un
      omega
    refine ⟨_, (pss_cons (ps_set (i := 1) sc_taken_in.nd rfl (by first | exact Or.inl rfl | exact Or.inr rfl) (pe_lst pa_nil))
      (pss_cons (ps_for PassesOwn.never rfl (piL K (pe_callB (sortE K (encI K) hu32) (by rfl) T.b_sorted boot_sorted' (pa_cons (pv 0) pa_nil))) (pg_name (i := 2) sc_taken_in.nd rfl (by first | exact Or.inl rfl | exact Or.inr rfl))
      (pss_cons (ps_set (i := 3) sc_taken_in.nd rfl (by first | exact Or.inl rfl | exact Or.inr rfl) (pv 2))
      (pss_cons (ps_while PassesOwn.never (pt_cmpR inI (pv 3) (pv 1) (by rfl)) (pss_one (ps_aug (i := 3) sc_taken_in.nd rfl (.inl rfl) pe_int ip_add)))
      (pss_one (ps_expr (bmK K PySem.F.plainAttrs_list PySem.F.slot_list_append PySem.F.type_list_append mt_append (pv 1) (pa_cons (pv 3) pa_nil)))))))
      (pss_one (ps_ret (pe_callB (sortE K (encI K) hu32) (by rfl) T.b_sorted boot_sorted' (pa_cons (pv 1) pa_nil)))))), ?_⟩
    refine ⟨Nat.zero_le _, fun o no => ?_⟩
    have s1 : Same H (upd H o (.lst [])) := same_new no
    refine ⟨_, rfl, a, _, hs, rfl, .inr (s1 _ _ ha), ints_paired hs, .inr (fun b _ xs z => nomatch z), Nat.le_trans hz (by decide), fun p ws M np pr so => ?_⟩
    rw [paired_ints pr]
    have npo : o ≠ p := fun z => by rw [← z, upd_same] at np; cases np
    obtain ⟨mp, mu⟩ := sorts_ints so
    have ml := mp.length_eq
    have hbM : ∀ h ∈ M, h ≤ 20 := fun h hh => hb h (mp.mem_iff.mp hh)
    refine ⟨p, rfl, ⟨_, SqL.of upd_same⟩, ?_⟩
    refine for_it walk_listI (fun i σ H1 => (∃ y2 y3, σ = [some (.ref a), some (.ref o), y2, y3]) ∧ Same H H1 ∧ H1 p = some (.lst (M.map V.int)) ∧ H1 o = some (.lst ((fillG [] (M.take i)).map V.int))) ⟨⟨_, _, rfl⟩, Same.trans s1 (same_new np), upd_same, by rw [upd_ne npo, upd_same]; rfl⟩ (fun i σ H1 _ h => SqL.of h.2.2.1) (fun i x σ H1 H2 hi h y => ?_) fun σ H1 h => ?_
    · obtain ⟨⟨y2, y3, rfl⟩, s2, ep, eo⟩ := h
      obtain ⟨rfl, rfl⟩ := yat_ints (getD_at hi) y
      have hm := getD_at hi
      generalize M.getD i 0 = m at hm
      generalize hS : fillG [] (M.take i) = S at eo
      have hSb : ∀ x ∈ S, x < 100 := fun x hx => by
        rw [← hS] at hx
        have := fill_le (hs := M.take i) (B := 20) (fun x hx => hbM x (List.mem_of_mem_take hx)) x hx
        rw [List.length_take] at this
        omega
      refine ⟨_, rfl, ?_⟩
      refine ⟨fun k σ H3 => ∃ x, σ = [some (.ref a), some (.ref o), some (.int m), some (.int x)] ∧ H3 = H2 ∧ m ≤ x ∧ (∀ q, m ≤ q → q < x → q ∈ S) ∧ k = (100 - x).toNat, ⟨_, m, rfl, rfl, Int.le_refl _, fun q h1 h2 => by omega, rfl⟩, fun k σ H3 hW => ?_⟩
      obtain ⟨x, rfl, rfl, hx1, hx2, rfl⟩ := hW
      refine ⟨_, rfl, _, rfl, o, x, S, rfl, rfl, .inl eo, _, rfl, ?_⟩
      by_cases hx : x ∈ S
      · refine ifT (decide_eq_true hx) ⟨fun σ' H' => ∃ x', σ' = [some (.ref a), some (.ref o), some (.int m), some (.int x')] ∧ H' = H3 ∧ m ≤ x' ∧ (∀ q, m ≤ q → q < x' → q ∈ S) ∧ x' = x + 1, fun σ' H' ⟨x', e1, e2, e3, e4, e5⟩ => ⟨_, ?_, x', e1, e2, e3, e4, rfl⟩, ?_⟩
        · have := hSb x hx
          omega
        · refine ⟨_, rfl, x, 1, rfl, rfl, x + 1, rfl, rfl, by omega, fun q h1 h2 => ?_, rfl⟩
          by_cases e : q = x
          · rw [e]
            exact hx
          · exact hx2 q h1 (by omega)
      · refine ifF (decide_eq_false hx) ?_
        have en : nxt S m = x := nxt_eq ⟨hx1, hx, hx2⟩
        have lS : S.length ≤ 7 := by
          rw [← hS]
          have := fill_length (M.take i)
          unfold fill at this
          rw [this, List.length_take]
          omega
        refine ⟨_, rfl, .inl ⟨rfl, _, SqL.of eo⟩, _, rfl, o, _, _, rfl, rfl, eo, by rw [List.length_map]; exact Nat.lt_of_le_of_lt lS (by decide), ?_⟩
        refine ⟨⟨_, _, rfl⟩, same_put s2 no, by rw [upd_ne npo.symm]; exact ep, ?_⟩
        rw [upd_same, fillG_take hm, hS, en, List.map_append]
        rfl
    · obtain ⟨⟨y2, y3, rfl⟩, s2, ep, eo⟩ := h
      rw [List.take_length] at eo
      refine ⟨_, rfl, o, _, _, rfl, .inl eo, ints_paired _, .inr (fun b _ xs z => nomatch z), ?_, fun p2 ws2 M2 np2 pr2 so2 => ?_⟩
      · have := fill_length M
        unfold fill at this
        rw [this, ml]
        exact Nat.le_trans hz (by decide)
      · obtain ⟨mp2, mu2⟩ := sorts_ints so2
        rw [paired_ints pr2, tk_eq mp mp2 mu2]
        have np2' : H p2 = none := by
          cases e : H p2 with
          | none => rfl
          | some o' => rw [s2 _ _ e] at np2; cases np2
        exact q _ _ (same_put s2 np2') np2' upd_same
theorem ok_l_filled (T : Txt K mg) : FnOk P w K mg base CX0 1 T.l_filled.f T.l_filled.fd ["_law_homes"] spTaken := by
  refine T.l_filled.F.ok sc_l_filled (fun vs H Q E h => ?_) (fun cdv A outer s H vs Q E hr h => ?_)
  · obtain ⟨_, _, rfl, _⟩ := h
    rfl
  · obtain ⟨v, hs, rfl, ⟨a, rfl, ha⟩, hz, hb, q⟩ := h
    have hu32 : (A.deeper (envOfC "_law_filled" (defScope s_l_filled) s.heap.objs.size T.l_filled.f cdv)).units + 32 < cLine := by
      have := hr.un
      omega
    refine ⟨_, (pss_cons (ps_set (i := 1) sc_l_filled.nd rfl (by first | exact Or.inl rfl | exact Or.inr rfl) (pe_lst pa_nil))
      (pss_cons (ps_for PassesOwn.never rfl (piT K (pv 0)) (pg_name (i := 2) sc_l_filled.nd rfl (by first | exact Or.inl rfl | exact Or.inr rfl))
      (pss_cons (ps_set (i := 3) sc_l_filled.nd rfl (by first | exact Or.inl rfl | exact Or.inr rfl) (pv 2))
      (pss_cons (ps_while PassesOwn.never (PW.pt (pw_and (pt_cmpR inI (pv 3) (pv 1) (by rfl)) (pw_and1 (pt_cmpR op_lt (pv 3) pe_int (nomark _))))) (pss_one (ps_set (i := 3) sc_l_filled.nd rfl (by first | exact Or.inl rfl | exact Or.inr rfl) (pe_op op_add (pv 3) pe_int))))
      (pss_one (ps_expr (bmK K PySem.F.plainAttrs_list PySem.F.slot_list_append PySem.F.type_list_append mt_append (pv 1) (pa_cons (pv 3) pa_nil)))))))
      (pss_one (ps_ret (pe_callB (sortE K (encI K) hu32) (by rfl) T.b_sorted boot_sorted' (pa_cons (pv 1) pa_nil)))))), ?_⟩
    refine ⟨Nat.zero_le _, fun o no => ?_⟩
    have s1 : Same H (upd H o (.lst [])) := same_new no
    refine ⟨_, rfl, a, rfl, ⟨_, SqT.of (s1 _ _ ha)⟩, ?_⟩
    refine for_it walk_tupI (fun i σ H1 => (∃ y2 y3, σ = [some (.ref a), some (.ref o), y2, y3]) ∧ Same H H1 ∧ H1 o = some (.lst ((fillG [] (hs.take i)).map V.int))) ⟨⟨_, _, rfl⟩, s1, upd_same⟩ (fun i σ H1 _ h => SqT.of (h.2.1 _ _ ha)) (fun i x σ H1 H2 hi h y => ?_) fun σ H1 h => ?_
    · obtain ⟨⟨y2, y3, rfl⟩, s2, eo⟩ := h
      obtain ⟨rfl, rfl⟩ := yat_ints (getD_at hi) y
      have hm := getD_at hi
      generalize hs.getD i 0 = m at hm
      generalize hS : fillG [] (hs.take i) = S at eo
      have lS : S.length ≤ 7 := by
        rw [← hS]
        have := fill_length (hs.take i)
        unfold fill at this
        rw [this, List.length_take]
        omega
      have hSb : ∀ x ∈ S, x < 99 := fun x hx => by
        rw [← hS] at hx
        have := fill_le (hs := hs.take i) (B := 20) (fun x hx => hb x (List.mem_of_mem_take hx)) x hx
        rw [List.length_take] at this
        omega
      refine ⟨_, rfl, ?_⟩
      refine ⟨fun k σ H3 => ∃ x, σ = [some (.ref a), some (.ref o), some (.int m), some (.int x)] ∧ H3 = H2 ∧ m ≤ x ∧ (∀ q, m ≤ q → q < x → q ∈ S) ∧ k = (100 - x).toNat, ⟨_, m, rfl, rfl, Int.le_refl _, fun q h1 h2 => by omega, rfl⟩, fun k σ H3 hW => ?_⟩
      obtain ⟨x, rfl, rfl, hx1, hx2, rfl⟩ := hW
      refine ⟨_, rfl, _, rfl, o, x, S, rfl, rfl, .inl eo, _, rfl, ?_⟩
      by_cases hx : x ∈ S
      · have hx9 := hSb x hx
        refine ifT (decide_eq_true hx) ⟨_, rfl, _, _, rfl, rfl, _, rfl, ifT (decide_eq_true hx9) ?_⟩
        refine ⟨fun σ' H' => ∃ x', σ' = [some (.ref a), some (.ref o), some (.int m), some (.int x')] ∧ H' = H3 ∧ m ≤ x' ∧ (∀ q, m ≤ q → q < x' → q ∈ S) ∧ x' = x + 1, fun σ' H' ⟨x', e1, e2, e3, e4, e5⟩ => ⟨_, ?_, x', e1, e2, e3, e4, rfl⟩, ?_⟩
        · omega
        · refine ⟨_, rfl, x, 1, rfl, rfl, x + 1, rfl, rfl, by omega, fun q h1 h2 => ?_, rfl⟩
          by_cases e : q = x
          · rw [e]
            exact hx
          · exact hx2 q h1 (by omega)
      · refine ifF (decide_eq_false hx) (ifF rfl ?_)
        have en : nxt S m = x := nxt_eq ⟨hx1, hx, hx2⟩
        refine ⟨_, rfl, .inl ⟨rfl, _, SqL.of eo⟩, _, rfl, o, _, _, rfl, rfl, eo, by rw [List.length_map]; exact Nat.lt_of_le_of_lt lS (by decide), ?_⟩
        refine ⟨⟨_, _, rfl⟩, same_put s2 no, ?_⟩
        rw [upd_same, fillG_take hm, hS, en, List.map_append]
        rfl
    · obtain ⟨⟨y2, y3, rfl⟩, s2, eo⟩ := h
      rw [List.take_length] at eo
      refine ⟨_, rfl, o, _, _, rfl, .inl eo, ints_paired _, .inr (fun b _ xs z => nomatch z), ?_, fun p2 ws2 M2 np2 pr2 so2 => ?_⟩
      · have := fill_length hs
        unfold fill at this
        rw [this]
        exact Nat.le_trans hz (by decide)
      · obtain ⟨mp2, mu2⟩ := sorts_ints so2
        rw [paired_ints pr2, tk_eq (List.Perm.refl _) mp2 mu2]
        have np2' : H p2 = none := by
          cases e : H p2 with
          | none => rfl
          | some o' => rw [s2 _ _ e] at np2; cases np2
        exact q _ _ (same_put s2 np2') np2' upd_same
end
end K37
end

section
set_option Elab.async false
set_option linter.all false
set_option maxRecDepth 100000
set_option maxHeartbeats 4000000
/-! rests_in. -/
namespace K37
open PySem PySem.Spec PyProof.Rows L2
theorem RT.but {D : Addr} {H H' : Hp} {v : V} {r : List Int} (h : RT H v r) (s : SameBut D H H') (hD : ∃ acc, H D = some (.lst acc)) : RT H' v r := stab_RT _ _ _ _ h s hD
theorem rows_up {H H' : Hp} {vs : List V} {L : List (List Int)} (p : Paired (RT H) vs L) (s : Same H H') : Paired (RT H') vs L := Paired.imp (fun _ _ r => r.up s) p
theorem rows_but {D : Addr} {H H' : Hp} {vs : List V} {L : List (List Int)} (p : Paired (RT H) vs L) (s : SameBut D H H') (hD : ∃ acc, H D = some (.lst acc)) : Paired (RT H') vs L := Paired.imp (fun _ _ r => r.but s hD) p
/-- how many there may be -/
theorem stepR_len {tk : List Int} {h f : Int} {F : List (List Int)} : (stepR tk h f F).length ≤ F.length * tk.length := by
  induction F with
  | nil => simp [stepR]
  | cons r F ih =>
    have e : stepR tk h f (r :: F) = ((tk.filter fun p => decide (h ≤ p ∧ p ≤ f ∧ p ∉ r)).map fun p => r ++ [p]) ++ stepR tk h f F := rfl
    rw [e, List.length_append, List.length_map, List.length_cons, Nat.add_mul, Nat.one_mul]
    have := List.length_filter_le (fun p => decide (h ≤ p ∧ p ≤ f ∧ p ∉ r)) tk
    omega
def rowsF (tk : List Int) (h f : Int) (row : List Int) : List (List Int) := (tk.filter fun p => decide (h ≤ p ∧ p ≤ f ∧ p ∉ row)).map fun p => row ++ [p]
theorem stepR_eq (tk : List Int) (h f : Int) (F : List (List Int)) : stepR tk h f F = F.flatMap (rowsF tk h f) := rfl
theorem filter_take_succ {c : List Int} {q : Int → Bool} {j : Nat} {x : Int} (h : c[j]? = some x) : (c.take (j + 1)).filter q = (c.take j).filter q ++ if q x = true then [x] else [] := by
  rw [List.take_add_one, h, List.filter_append, Option.toList_some]
  congr 1
  by_cases e : q x = true
  · rw [if_pos e, List.filter_cons_of_pos e]
    rfl
  · rw [if_neg e, List.filter_cons_of_neg e]
    rfl
theorem flat_take_succ {F : List (List Int)} {g : List Int → List (List Int)} {i : Nat} {r : List Int} (h : F[i]? = some r) : (F.take (i + 1)).flatMap g = (F.take i).flatMap g ++ g r := by
  rw [List.take_add_one, h, List.flatMap_append]
  simp
/-- [(*row, place) for row in found for place in taken if home <= place <= far and place not in row] -/
theorem lc2_rows {K : PySem.W.Frag} {o p D : Addr} {vs : List V} {rows : List (List Int)} {tkl : List Int} {h f : Int} {H1 : Hp} {σ : L2.St} {te : TE} {tt1 : TT} {Qd : Hp → Prop} {i2 : Nat}
    (pr : Paired (RT H1) vs rows) (ho : H1 o = some (.lst vs)) (hp : H1 p = some (.lst (tkl.map V.int))) (hD : H1 D = none) (hr : rows.length ≤ 100000) (ht : tkl.length ≤ 9) (hv : ∀ x, ((wipe σ [6, 7]).set 6 (some x))[i2]? = some (some (.ref p)))
    (hw : ∀ x, wipe ((wipe σ [6, 7]).set 6 (some x)) [6, 7] = wipe σ [6, 7]) (hw1 : ∀ x z, wipe ((wipe ((wipe σ [6, 7]).set 6 (some x)) [7]).set 7 (some z)) [7] = wipe ((wipe σ [6, 7]).set 6 (some x)) [7])
    (hs : ∀ (a : Addr) (r : List Int) (c : Int) (H : Hp) (Q : VK) (Qn : Hp → Prop), r ∈ rows → Same H1 H → H a = some (.tup (r.map V.int)) → (∀ v H4, decide (h ≤ c ∧ c ≤ f ∧ c ∉ r) = true → Same H H4 → RT H4 v (r ++ [c]) → Q v H4) → (decide (h ≤ c ∧ c ≤ f ∧ c ∉ r) = false → Qn H) →
      tt1 ((wipe ((wipe σ [6, 7]).set 6 (some (.ref a))) [7]).set 7 (some (.int c))) H fun b H6 => if b = true then te ((wipe ((wipe σ [6, 7]).set 6 (some (.ref a))) [7]).set 7 (some (.int c))) H6 Q else Qn H6)
    (hd : ∀ H acc, Same H1 H → H D = some (.lst acc) → Paired (RT H) acc (stepR tkl h f rows) → Qd H) :
    ∃ W : Nat → Nat → Hp → Prop, (∃ m, W 0 m (upd H1 D (.lst []))) ∧ ∀ i m H, W i m H →
      ((Itl K o).stop i H ∧ Qd H) ∨ ((Itl K o).go i H ∧ ∃ Nx : Hp → Prop, (∀ H', Nx H' → ∃ m', m' < m ∧ W (i + 1) m' H') ∧ ∀ x H', (Itl K o).yld i H x H' → gName 6 x (wipe σ [6, 7]) H' fun σ2 H2 => wipe σ2 [6, 7] = wipe σ [6, 7] ∧ tYes σ2 H2 fun b H3 =>
        if b = true then iList K (tVar i2) σ2 H3 fun J1 H4 => ∃ W1 : Nat → Nat → Hp → Prop, (∃ m, W1 0 m H4) ∧ ∀ j k H, W1 j k H →
          (J1.stop j H ∧ Nx H) ∨ (J1.go j H ∧ ∃ Nx1 : Hp → Prop, (∀ H', Nx1 H' → ∃ k', k' < k ∧ W1 (j + 1) k' H') ∧ ∀ x H', J1.yld j H x H' → gName 7 x (wipe σ2 [7]) H' fun σ3 H5 => wipe σ3 [7] = wipe σ2 [7] ∧ tt1 σ3 H5 fun b H6 =>
            if b = true then te σ3 H6 fun y H7 => ∃ acc, H7 D = some (.lst acc) ∧ acc.length < sizeLine ∧ Nx1 (upd H7 D (.lst (acc ++ [y]))) else Nx1 H6)
        else Nx H3) := by
  have lr := Paired.length pr
  have small : ∀ (F : List (List Int)), F.length ≤ 100000 → (F.flatMap (rowsF tkl h f)).length ≤ 900000 := fun F hF => by
    have q := stepR_len (tk := tkl) (h := h) (f := f) (F := F)
    rw [stepR_eq] at q
    have h2 : F.length * tkl.length ≤ 100000 * 9 := Nat.mul_le_mul hF ht
    omega
  refine ⟨fun i m H => m = rows.length - i ∧ i ≤ rows.length ∧ Same H1 H ∧ ∃ acc, H D = some (.lst acc) ∧ Paired (RT H) acc ((rows.take i).flatMap (rowsF tkl h f)), ⟨rows.length, by omega, Nat.zero_le _, same_new hD, [], upd_same, .nil⟩, ?_⟩
  rintro i m H ⟨rfl, hi, s1, acc, e, pa⟩
  have qo : SqL K H o vs := SqL.of (s1 _ _ ho)
  by_cases hlt : i < rows.length
  · have hv' : i < vs.length := by omega
    refine .inr ⟨⟨vs, vs[i], qo, List.getElem?_eq_getElem hv'⟩, fun H => i + 1 ≤ rows.length ∧ Same H1 H ∧ ∃ acc, H D = some (.lst acc) ∧ Paired (RT H) acc ((rows.take (i + 1)).flatMap (rowsF tkl h f)), fun H' p' => ⟨_, by omega, rfl, p'⟩, fun x H' y => ?_⟩
    obtain ⟨rfl, hx⟩ := y
    have hx' := hx _ qo
    obtain ⟨r, hr1, ⟨a, rfl, ha⟩⟩ := paired_get pr hx'
    refine ⟨hw _, _, hv _, p, rfl, ⟨_, SqL.of (s1 _ _ hp)⟩, ?_⟩
    refine ⟨fun j k H => k = tkl.length - j ∧ j ≤ tkl.length ∧ Same H1 H ∧ ∃ acc, H D = some (.lst acc) ∧ Paired (RT H) acc ((rows.take i).flatMap (rowsF tkl h f) ++ ((tkl.take j).filter fun c => decide (h ≤ c ∧ c ≤ f ∧ c ∉ r)).map fun c => r ++ [c]), ⟨_, rfl, Nat.zero_le _, s1, acc, e, by simpa using pa⟩, ?_⟩
    rintro j k H2 ⟨rfl, hj, s2, acc2, e2, pa2⟩
    have qp : SqL K H2 p (tkl.map V.int) := SqL.of (s2 _ _ hp)
    by_cases hjl : j < tkl.length
    · have hc : tkl[j]? = some tkl[j] := List.getElem?_eq_getElem hjl
      refine .inr ⟨⟨_, _, qp, at_ints hc⟩, fun H => j + 1 ≤ tkl.length ∧ Same H1 H ∧ ∃ acc, H D = some (.lst acc) ∧ Paired (RT H) acc ((rows.take i).flatMap (rowsF tkl h f) ++ ((tkl.take (j + 1)).filter fun c => decide (h ≤ c ∧ c ≤ f ∧ c ∉ r)).map fun c => r ++ [c]), fun H' p' => ⟨_, by omega, rfl, p'⟩, fun z H3 yz => ?_⟩
      obtain ⟨rfl, hz⟩ := yz
      have hz' := hz _ qp
      rw [at_ints hc] at hz'
      cases hz'
      refine ⟨hw1 _ _, ?_⟩
      refine hs a r tkl[j] _ _ _ (List.mem_of_getElem? hr1) s2 (s2 _ _ ha) (fun v H4 hq s4 rv => ?_) fun hq => ?_
      · have e4 := s4 _ _ e2
        have la : acc2.length ≤ 900009 := by
          rw [Paired.length pa2, List.length_append, List.length_map]
          have q1 := small (rows.take i) (Nat.le_trans (List.length_take_le _ _) (by
            have := List.length_take (i := i) (l := rows)
            omega))
          have q2 := List.length_filter_le (fun c => decide (h ≤ c ∧ c ≤ f ∧ c ∉ r)) (tkl.take j)
          have q3 : (tkl.take j).length ≤ 9 := by
            rw [List.length_take]
            omega
          omega
        refine ⟨acc2, e4, Nat.lt_of_le_of_lt la (by decide), hjl, same_put (Same.trans s2 s4) hD, _, upd_same, ?_⟩
        rw [filter_take_succ hc, if_pos hq, List.map_append, ← List.append_assoc]
        exact Paired.app (rows_but (rows_up pa2 s4) but_put ⟨_, e4⟩) (.cons (rv.but but_put ⟨_, e4⟩) .nil)
      · refine ⟨hjl, s2, acc2, e2, ?_⟩
        rw [filter_take_succ hc, if_neg (by rw [hq]; exact Bool.false_ne_true), List.append_nil]
        exact pa2
    · have ej : j = tkl.length := by omega
      refine .inl ⟨⟨_, qp, by rw [List.length_map]; omega⟩, hlt, s2, acc2, e2, ?_⟩
      rw [flat_take_succ hr1]
      rw [ej, List.take_length] at pa2
      exact pa2
  · have ei : i = rows.length := by omega
    refine .inl ⟨⟨_, qo, by omega⟩, hd H acc s1 e ?_⟩
    rw [ei, List.take_length] at pa
    exact pa
theorem restsG_snoc {tk : List Int} : ∀ (zs : List (Int × Int)) (z : Int × Int) (F : List (List Int)), restsG tk (zs ++ [z]) F = stepR tk z.1 z.2 (restsG tk zs F)
  | [], _, _ => rfl
  | y :: zs, z, F => restsG_snoc zs z (stepR tk y.1 y.2 F)
theorem restsG_take {tk : List Int} {zs : List (Int × Int)} {i : Nat} {z : Int × Int} {F : List (List Int)} (h : zs[i]? = some z) : restsG tk (zs.take (i + 1)) F = stepR tk z.1 z.2 (restsG tk (zs.take i) F) := by
  rw [List.take_add_one, h]
  exact restsG_snoc _ _ _
theorem restsG_rowlen {tk : List Int} : ∀ (zs : List (Int × Int)) (F : List (List Int)) (k : Nat), (∀ r ∈ F, r.length = k) → ∀ r ∈ restsG tk zs F, r.length = k + zs.length
  | [], F, k, h, r, hr => h r hr
  | z :: zs, F, k, h, r, hr => by
    have := restsG_rowlen zs (stepR tk z.1 z.2 F) (k + 1) (fun x hx => by
      obtain ⟨y, hy, hm⟩ := List.mem_flatMap.mp hx
      obtain ⟨p, _, rfl⟩ := List.mem_map.mp hm
      simp [h y hy]) r hr
    rw [this, List.length_cons]
    omega
theorem restsG_many {tk : List Int} (ht : tk.length ≤ 5) : ∀ (zs : List (Int × Int)) (F : List (List Int)), (restsG tk zs F).length ≤ F.length * 5 ^ zs.length
  | [], F => by simp [restsG]
  | z :: zs, F => by
    have h1 := restsG_many ht zs (stepR tk z.1 z.2 F)
    have h2 := stepR_len (tk := tk) (h := z.1) (f := z.2) (F := F)
    have h3 : F.length * tk.length ≤ F.length * 5 := Nat.mul_le_mul_left _ ht
    have h4 : (stepR tk z.1 z.2 F).length * 5 ^ zs.length ≤ F.length * 5 * 5 ^ zs.length := Nat.mul_le_mul_right _ (by omega)
    show (restsG tk zs (stepR tk z.1 z.2 F)).length ≤ _
    rw [List.length_cons, Nat.pow_succ]
    have h5 : F.length * 5 * 5 ^ zs.length = F.length * (5 ^ zs.length * 5) := by
      rw [Nat.mul_assoc, Nat.mul_comm 5]
    omega
theorem restsG_3125 {tk : List Int} {zs : List (Int × Int)} (ht : tk.length ≤ 5) (hz : zs.length ≤ 5) : (restsG tk zs [[]]).length ≤ 3125 := by
  have h := restsG_many ht zs [[]]
  have h2 : 5 ^ zs.length ≤ 5 ^ 5 := Nat.pow_le_pow_right (by decide) hz
  have h3 : [([] : List Int)].length * 5 ^ zs.length = 5 ^ zs.length := Nat.one_mul _
  rw [h3] at h
  exact Nat.le_trans h (Nat.le_trans h2 (by decide))
section
variable {P : Program} {w : World} {K : PySem.W.Frag} {mg : Str → Option Value} {base : Heap}
def spRests : Sp := fun vs H Q _ => ∃ (sv tv : V) (n : Int) (hs st : List Int), vs = [sv, tv] ∧ StrAt H sv n hs ∧ RT H tv st ∧ OkStreet n hs ∧ OkState n hs st ∧ hs.length ≤ 5 ∧
  ∀ H' p rs, Same H H' → H p = none → H' p = some (.lst rs) → Paired (RT H') rs (restsIn hs st) → Q (.ref p) H'
theorem ok_rests_in (T : Txt K mg) : FnOk P w K mg base CX0 2 T.rests_in.f T.rests_in.fd ["street", "state"] spRests := by
  refine T.rests_in.F.ok sc_rests_in (fun vs H Q E h => ?_) (fun cdv A outer s H vs Q E hr h => ?_)
  · obtain ⟨_, _, _, _, _, rfl, _⟩ := h
    rfl
  · obtain ⟨sv, tv, n, hs, st, rfl, ⟨a, b, rfl, ha, hb⟩, ⟨c, rfl, hc⟩, O, S, h5, q⟩ := h
    have sl := S.len
    have tl : (tk hs).length ≤ 5 := by
      rw [tk_length]
      exact h5
    refine ⟨_, (pss_cons (ps_asg (pe_tup (pa_cons (pe_call (ok_taken_in T) (hr.mono (by decide)) (by rfl) T.taken_in.m T.taken_in.F.kp T.taken_in.b .nil pass0 (pa_cons (pe_ix ixT (pv 0) pe_int (fun _ _ => rfl)) pa_nil)) (pa_cons (pe_lst (pa_cons (pe_tup pa_nil) pa_nil)) pa_nil))) (pg_tup rfl (pgs_cons (pg_name (i := 2) sc_rests_in.nd rfl (by first | exact Or.inl rfl | exact Or.inr rfl)) (pgs_cons (pg_name (i := 3) sc_rests_in.nd rfl (by first | exact Or.inl rfl | exact Or.inr rfl)) pgs_nil))))
      (pss_cons (ps_for PassesOwn.never rfl (zipTT K (by rfl) T.b_zip (pa_cons (pe_ix ixT (pv 0) pe_int (fun _ _ => rfl)) (pa_cons (pv 1) pa_nil))) (pg_tup rfl (pgs_cons (pg_name (i := 4) sc_rests_in.nd rfl (by first | exact Or.inl rfl | exact Or.inr rfl)) (pgs_cons (pg_name (i := 5) sc_rests_in.nd rfl (by first | exact Or.inl rfl | exact Or.inr rfl)) pgs_nil)))
      (pss_one (ps_setLc2 (i := 3) (own := [("row", 6), ("place", 7)]) (vs1 := [7]) (g := (gName 6)) (g1 := (gName 7)) rfl sc_rests_in.nd rfl rfl (sw_true rfl rfl rfl (by decide +kernel)) (piL K (pv 3)) (blkOk_by (N := N_rests_in) (sc := defScope s_rests_in) (by decide +kernel)) (by decide) (fun _ _ _ _ _ => (pg_name (i := 6) sc_rests_in.nd rfl (by first | exact Or.inl rfl | exact Or.inr rfl))) (fun _ _ _ _ _ => pts_nil)
        (fun _ _ _ _ _ => (piL K (pv 2))) (fun _ _ _ _ _ => (pg_name (i := 7) sc_rests_in.nd rfl (by first | exact Or.inl rfl | exact Or.inr rfl))) (fun _ _ _ _ _ => (pts_one (PW.pt (pw_and (pt_chain op_le op_le (pv 4) (pv 7) (pv 5)) (pw_and1 (pt_cmpR notInI (pv 7) (pv 6) (by rfl)))))))
        (fun _ _ _ _ _ => (pe_tup (starT (pv 6) (pa_cons (pv 7) pa_nil)))))))
      (pss_one (ps_ret (pv 3))))), ?_⟩
    have i1 : atI [V.int n, V.ref b] 1 = some (.ref b) := atI_nat (j := 1) rfl
    refine ⟨_, rfl, a, _, 1, _, rfl, rfl, ha, i1, _, hs, rfl, ⟨b, rfl, hb⟩, O.c7, fun h hh => by have := O.at_ h hh; have := O.n12; omega, fun H1 p s1 np ep => ?_⟩
    refine ⟨Nat.zero_le _, fun e ne => ?_⟩
    refine ⟨by show 1 ≤ sizeLine; decide, fun o no => ?_⟩
    refine ⟨by show 2 ≤ sizeLine; decide, fun t nt => ?_⟩
    have s2 : Same H1 (upd H1 e (.tup [])) := same_new ne
    have s3 : Same (upd H1 e (.tup [])) (upd (upd H1 e (.tup [])) o (.lst [.ref e])) := same_new no
    have s3t : Same (upd (upd H1 e (.tup [])) o (.lst [.ref e])) (upd (upd (upd H1 e (.tup [])) o (.lst [.ref e])) t (.tup [.ref p, .ref o])) := same_new nt
    have s4 := Same.trans s1 (Same.trans s2 (Same.trans s3 s3t))
    refine ⟨t, _, rfl, SqT.of upd_same, rfl, _, _, rfl, _, _, rfl, rfl, ?_⟩
    refine ⟨_, rfl, a, _, 1, _, rfl, rfl, s4 _ _ ha, i1, _, rfl, b, c, _, _, rfl, .inr ⟨SqT.of (s4 _ _ hb), SqT.of (s4 _ _ hc), ?_⟩⟩
    refine for_it (walk_zipTT (n := (hs.zip st).length) (xs := hs.map V.int) (ys := st.map V.int) (by simp)) (fun i σ H2 => ∃ o vs, (∃ y4 y5, σ = [some (.ref a), some (.ref c), some (.ref p), some (.ref o), y4, y5, none, none]) ∧ Same H H2 ∧ H o = none ∧ H2 p = some (.lst ((tk hs).map V.int)) ∧ H2 o = some (.lst vs) ∧ Paired (RT H2) vs (restsG (tk hs) ((hs.zip st).take i) [[]]))
      ⟨o, _, ⟨_, _, rfl⟩, s4, ?_, (Same.trans s2 (Same.trans s3 s3t)) _ _ ep, s3t _ _ upd_same, .cons ⟨e, rfl, s3t _ _ (s3 _ _ upd_same)⟩ .nil⟩ (fun i σ H2 _ h => ?_) (fun i x σ H2 H3 hi h y => ?_) fun σ H2 h => ?_
    · cases eo : H o with
      | none => rfl
      | some u => rw [Same.trans s1 s2 _ _ eo] at no; cases no
    · obtain ⟨_, _, _, s5, _⟩ := h
      exact ⟨SqT.of (s5 _ _ hb), SqT.of (s5 _ _ hc)⟩
    · obtain ⟨o1, vs, ⟨y4, y5, rfl⟩, s5, no1, ep2, eo2, pr⟩ := h
      have hz : (hs.zip st)[i]? = some (hs.zip st)[i] := List.getElem?_eq_getElem hi
      generalize (hs.zip st)[i] = z at hz
      obtain ⟨Tp, rfl, nT, rfl⟩ := pair_ints hz y
      have s6 : Same H2 (upd H2 Tp (.tup [.int z.1, .int z.2])) := same_new nT
      have s7 := Same.trans s5 s6
      refine ⟨Tp, _, rfl, SqT.of upd_same, rfl, _, _, rfl, _, _, rfl, rfl, ?_⟩
      refine ⟨_, rfl, o1, rfl, ⟨_, SqL.of (s6 _ _ eo2)⟩, fun D hD => ?_⟩
      have hDH : H D = none := by
        cases eo : H D with
        | none => rfl
        | some u => rw [s7 _ _ eo] at hD; cases hD
      refine lc2_rows (tkl := tk hs) (h := z.1) (f := z.2) (rows_up pr s6) (s6 _ _ eo2) (s6 _ _ ep2) hD (Nat.le_trans (restsG_3125 tl (by rw [List.length_take, List.length_zip]; omega)) (by decide)) (by omega) (fun x => rfl) (fun x => rfl) (fun x z => rfl) (fun r row cc H4 Q4 Qn hrow s8 er k kn => ?_) fun H4 acc s8 ea pa => ?_
      · refine ⟨_, rfl, _, rfl, _, _, rfl, rfl, _, rfl, ?_⟩
        by_cases h1 : z.1 ≤ cc
        · refine ifT (decide_eq_true h1) ⟨_, rfl, _, _, rfl, rfl, _, rfl, ?_⟩
          by_cases h2 : cc ≤ z.2
          · refine ifT (decide_eq_true h2) ⟨_, rfl, _, rfl, r, cc, row, rfl, rfl, .inr er, _, rfl, ?_⟩
            by_cases h3 : cc ∈ row
            · exact ifF (by simp [h3]) (kn (by simp [h3]))
            · refine ifT (by simp [h3]) ⟨_, rfl, r, _, rfl, er, _, rfl, ?_, fun u hu => k _ _ (by simp [h1, h2, h3]) (same_new hu) ⟨u, rfl, ?_⟩⟩
              · have e5 := restsG_rowlen _ _ 0 (fun r hr => by simpa using hr) row hrow
                rw [List.length_append, List.length_map, e5, List.length_take, List.length_zip]
                show _ + 1 ≤ sizeLine
                have : (10 : Nat) ≤ sizeLine := by decide
                omega
              · rw [upd_same, List.map_append]
                rfl
          · exact ifF (decide_eq_false h2) (ifF rfl (kn (by simp [h2])))
        · exact ifF (decide_eq_false h1) ⟨_, rfl, ifF rfl (kn (by simp [h1]))⟩
      · refine ⟨D, acc, ⟨_, _, rfl⟩, Same.trans s7 s8, hDH, s8 _ _ (s6 _ _ ep2), ea, ?_⟩
        rw [restsG_take hz]
        exact pa
    · obtain ⟨o1, vs, ⟨y4, y5, rfl⟩, s5, no1, ep2, eo2, pr⟩ := h
      rw [List.take_length] at pr
      exact ⟨_, rfl, q H2 o1 vs s5 no1 eo2 pr⟩
end
end K37
end

section
set_option Elab.async false
set_option linter.all false
set_option maxRecDepth 100000
set_option maxHeartbeats 4000000
/-! _law_rests. -/
namespace K37
open PySem PySem.Spec PyProof.Rows L2
theorem same_free {H H' : Hp} {p : Addr} (s : Same H H') (h : H' p = none) : H p = none := by
  cases e : H p with
  | none => rfl
  | some u => rw [s _ _ e] at h; cases h
theorem same_ne {H : Hp} {p q : Addr} {o : HO} (h : H q = some o) (n : H p = none) : q ≠ p := ne_of_none h n
def rowsL (tk : List Int) (h : Int) (row : List Int) : List (List Int) := (tk.filter fun p => decide (h ≤ p ∧ p ∉ row)).map fun p => row ++ [p]
theorem stepL_eq (tk : List Int) (h : Int) (F : List (List Int)) : stepL tk h F = F.flatMap (rowsL tk h) := rfl
theorem rowsL_fm (tk : List Int) (h : Int) (row : List Int) : (tk.filterMap fun c => if h ≤ c ∧ c ∉ row then some (row ++ [c]) else none) = rowsL tk h row := by
  unfold rowsL
  induction tk with
  | nil => rfl
  | cons x t ih =>
    by_cases e : h ≤ x ∧ x ∉ row
    · simp only [List.filterMap_cons, if_pos e, List.filter_cons, decide_eq_true e, List.map_cons, ih, if_true]
    · simp only [List.filterMap_cons, if_neg e, List.filter_cons, decide_eq_false e, ih, Bool.false_eq_true, if_false]
theorem restsL_snoc {tk : List Int} : ∀ (zs : List Int) (z : Int) (F : List (List Int)), restsL tk (zs ++ [z]) F = stepL tk z (restsL tk zs F)
  | [], _, _ => rfl
  | y :: zs, z, F => restsL_snoc zs z (stepL tk y F)
theorem restsL_take {tk : List Int} {zs : List Int} {i : Nat} {z : Int} {F : List (List Int)} (h : zs[i]? = some z) : restsL tk (zs.take (i + 1)) F = stepL tk z (restsL tk (zs.take i) F) := by
  rw [List.take_add_one, h]
  exact restsL_snoc _ _ _
theorem stepL_many {tk : List Int} {h : Int} : ∀ {F : List (List Int)}, (stepL tk h F).length ≤ F.length * tk.length
  | [] => by simp [stepL]
  | r :: F => by
    have e : stepL tk h (r :: F) = rowsL tk h r ++ stepL tk h F := rfl
    have ih := stepL_many (tk := tk) (h := h) (F := F)
    have l : (rowsL tk h r).length ≤ tk.length := by
      unfold rowsL
      rw [List.length_map]
      exact List.length_filter_le _ _
    rw [e, List.length_append, List.length_cons, Nat.add_mul, Nat.one_mul]
    omega
theorem restsL_many {tk : List Int} (ht : tk.length ≤ 5) : ∀ (zs : List Int) (F : List (List Int)), (restsL tk zs F).length ≤ F.length * 5 ^ zs.length
  | [], F => by simp [restsL]
  | z :: zs, F => by
    have h1 := restsL_many ht zs (stepL tk z F)
    have h2 := stepL_many (tk := tk) (h := z) (F := F)
    have h3 : F.length * tk.length ≤ F.length * 5 := Nat.mul_le_mul_left _ ht
    have h4 : (stepL tk z F).length * 5 ^ zs.length ≤ F.length * 5 * 5 ^ zs.length := Nat.mul_le_mul_right _ (by omega)
    show (restsL tk zs (stepL tk z F)).length ≤ _
    rw [List.length_cons, Nat.pow_succ]
    have h5 : F.length * 5 * 5 ^ zs.length = F.length * (5 ^ zs.length * 5) := by
      rw [Nat.mul_assoc, Nat.mul_comm 5]
    omega
theorem restsL_3125 {tk : List Int} {zs : List Int} (ht : tk.length ≤ 5) (hz : zs.length ≤ 5) : (restsL tk zs [[]]).length ≤ 3125 := by
  have h := restsL_many ht zs [[]]
  have h2 : 5 ^ zs.length ≤ 5 ^ 5 := Nat.pow_le_pow_right (by decide) hz
  have h3 : [([] : List Int)].length * 5 ^ zs.length = 5 ^ zs.length := Nat.one_mul _
  rw [h3] at h
  exact Nat.le_trans h (Nat.le_trans h2 (by decide))
theorem restsL_rowlen {tk : List Int} : ∀ (zs : List Int) (F : List (List Int)) (k : Nat), (∀ r ∈ F, r.length = k) → ∀ r ∈ restsL tk zs F, r.length = k + zs.length
  | [], F, k, h, r, hr => h r hr
  | z :: zs, F, k, h, r, hr => by
    have := restsL_rowlen zs (stepL tk z F) (k + 1) (stepL_len h) r hr
    rw [this, List.length_cons]
    omega
section
variable {P : Program} {w : World} {K : PySem.W.Frag} {mg : Str → Option Value} {base : Heap}
def spLRests : Sp := fun vs H Q _ => ∃ (sv : V) (n : Int) (hs : List Int), vs = [sv] ∧ StrAt H sv n hs ∧ OkStreet n hs ∧ hs.length ≤ 5 ∧
  ∀ H' p rs, Same H H' → H p = none → H' p = some (.lst rs) → Paired (RT H') rs (restsL (tk hs) hs [[]]) → Q (.ref p) H'
theorem ok_l_rests (T : Txt K mg) : FnOk P w K mg base CX0 2 T.l_rests.f T.l_rests.fd ["_law_street_here"] spLRests := by
  refine T.l_rests.F.ok sc_l_rests (fun vs H Q E h => ?_) (fun cdv A outer s H vs Q E hr h => ?_)
  · obtain ⟨_, _, _, rfl, _⟩ := h
    rfl
  · obtain ⟨sv, n, hs, rfl, ⟨a, b, rfl, ha, hb⟩, O, h5, q⟩ := h
    have tl : (tk hs).length ≤ 5 := by
      rw [tk_length]
      exact h5
    have c1 := O.c1
    have hu32 : (A.deeper (envOfC "_law_rests" (defScope s_l_rests) s.heap.objs.size T.l_rests.f cdv)).units + 32 < cLine := by
      have := hr.un
      omega
    refine ⟨_, (pss_cons (ps_set (i := 1) sc_l_rests.nd rfl (by first | exact Or.inl rfl | exact Or.inr rfl) (pe_lst (pa_cons (pe_tup pa_nil) pa_nil)))
      (pss_cons (ps_for PassesOwn.never rfl (piT K (pe_ix ixT (pv 0) pe_int (fun _ _ => rfl))) (pg_name (i := 2) sc_l_rests.nd rfl (by first | exact Or.inl rfl | exact Or.inr rfl))
      (pss_cons (ps_set (i := 3) sc_l_rests.nd rfl (by first | exact Or.inl rfl | exact Or.inr rfl) (pe_lst pa_nil))
      (pss_cons (ps_for PassesOwn.never rfl (piL K (pv 1)) (pg_name (i := 4) sc_l_rests.nd rfl (by first | exact Or.inl rfl | exact Or.inr rfl))
      (pss_one (ps_set (i := 3) sc_l_rests.nd rfl (by first | exact Or.inl rfl | exact Or.inr rfl) (pe_op op_cat (pv 3) (pe_lc (own := [("_law_place", 5)]) (g := (gName 5)) rfl sc_l_rests.nd (piL K (pe_call (ok_l_filled T) (hr.mono (by decide)) (by rfl) T.l_filled.m T.l_filled.F.kp T.l_filled.b .nil pass0 (pa_cons (pe_ix ixT (pv 0) pe_int (fun _ _ => rfl)) pa_nil))) (blkOk_by (N := N_l_rests) (sc := defScope s_l_rests) (by decide +kernel)) (fun _ _ _ _ _ => (pg_name (i := 5) sc_l_rests.nd rfl (by first | exact Or.inl rfl | exact Or.inr rfl))) (fun _ _ _ _ _ => (pts_one (PW.pt (pw_and (pt_cmpR op_ge (pv 5) (pv 2) (nomark _)) (pw_and1 (pt_cmpR notInI (pv 5) (pv 4) (by rfl)))))))
        (fun _ _ _ _ _ => (pe_op catT (pv 4) (pe_tup (pa_cons (pv 5) pa_nil)))))))))
      (pss_one (ps_set (i := 1) sc_l_rests.nd rfl (by first | exact Or.inl rfl | exact Or.inr rfl) (pv 3))))))
      (pss_one (ps_ret (pe_callB (sortE K (encT K) hu32) (by rfl) T.b_sorted boot_sorted' (pa_cons (pv 1) pa_nil)))))), ?_⟩
    have i1 : atI [V.int n, V.ref b] 1 = some (.ref b) := atI_nat (j := 1) rfl
    refine ⟨Nat.zero_le _, fun e ne => ?_⟩
    refine ⟨by show 1 ≤ sizeLine; decide, fun o no => ?_⟩
    have s2 : Same H (upd H e (.tup [])) := same_new ne
    have s3 : Same (upd H e (.tup [])) (upd (upd H e (.tup [])) o (.lst [.ref e])) := same_new no
    have s4 := Same.trans s2 s3
    refine ⟨_, rfl, a, _, 1, _, rfl, rfl, s4 _ _ ha, i1, b, rfl, ⟨_, SqT.of (s4 _ _ hb)⟩, ?_⟩
    refine for_it (walk_tupI (ns := hs)) (fun i σ H2 => ∃ o vs, (∃ y2 y3 y4, σ = [some (.ref a), some (.ref o), y2, y3, y4, none]) ∧ Same H H2 ∧ H o = none ∧ H2 o = some (.lst vs) ∧ Paired (RT H2) vs (restsL (tk hs) (hs.take i) [[]]))
      ⟨o, _, ⟨_, _, _, rfl⟩, s4, same_free s2 no, upd_same, .cons ⟨e, rfl, s3 _ _ upd_same⟩ .nil⟩ (fun i σ H2 _ h => ?_) (fun i x σ H2 H3 hi h y => ?_) fun σ H2 h => ?_
    · obtain ⟨_, _, _, s5, _⟩ := h
      exact SqT.of (s5 _ _ hb)
    · obtain ⟨o1, vs, ⟨y2, y3, y4, rfl⟩, s5, no1, eo, pr⟩ := h
      have hm := getD_at hi
      obtain ⟨rfl, rfl⟩ := yat_ints hm y
      generalize hs.getD i 0 = h at hm
      generalize hR : restsL (tk hs) (hs.take i) [[]] = rows at pr
      have lrows : ∀ r ∈ rows, r.length ≤ 5 := fun r hr => by
        rw [← hR] at hr
        rw [restsL_rowlen _ _ 0 (fun r hr => by simpa using hr) r hr, List.length_take]
        omega
      have nrows : rows.length ≤ 3125 := by
        rw [← hR]
        exact restsL_3125 tl (by rw [List.length_take]; omega)
      refine ⟨Nat.zero_le _, fun l nl => ?_⟩
      have s6 : Same H3 (upd H3 l (.lst [])) := same_new nl
      refine ⟨_, rfl, o1, rfl, ⟨_, SqL.of (s6 _ _ eo)⟩, ?_⟩
      refine for_it (walk_rows (K := K) (a := o1) pr) (fun j σ H4 => ∃ l ws, (∃ y4, σ = [some (.ref a), some (.ref o1), some (.int h), some (.ref l), y4, none]) ∧ Same H3 H4 ∧ H3 l = none ∧ H4 l = some (.lst ws) ∧ Paired (RT H4) ws ((rows.take j).flatMap (rowsL (tk hs) h)))
        ⟨l, _, ⟨_, rfl⟩, s6, nl, upd_same, .nil⟩ (fun j σ H4 _ g => ?_) (fun j x σ H4 H5 hj g yj => ?_) fun σ H4 g => ?_
      · obtain ⟨_, _, _, s7, _⟩ := g
        exact SqL.of (s7 _ _ eo)
      · obtain ⟨l1, ws, ⟨y5, rfl⟩, s7, nl1, el, pw⟩ := g
        have hrow : rows[j]? = some rows[j] := List.getElem?_eq_getElem hj
        obtain ⟨rfl, ⟨ra, rfl, hra⟩⟩ := yat_row pr hrow yj
        have hlen := lrows _ (List.mem_of_getElem? hrow)
        generalize rows[j] = row at hrow hra hlen
        have hra5 := s7 _ _ hra
        have s57 := Same.trans s5 s7
        refine ⟨_, rfl, ?_⟩
        refine ⟨_, rfl, a, _, 1, _, rfl, rfl, s57 _ _ ha, i1, _, hs, rfl, ⟨b, rfl, s57 _ _ hb⟩, O.c7, fun h hh => by have := O.at_ h hh; have := O.n12; omega, fun H6 p s8 np ep => ?_⟩
        refine ⟨p, rfl, ⟨_, SqL.of ep⟩, fun D hD => ?_⟩
        refine lc_dat (tk hs) walk_listI (fun c => if h ≤ c ∧ c ∉ row then some (row ++ [c]) else none) RT hD stab_RT (by omega) (fun H7 s9 => SqL.of (s9 _ _ ep)) (fun k c z H7 H8 Q7 Qn hp s9 hacc yz kk kn => ?_) fun H7 acc s9 ea pa => ?_
        · obtain ⟨rfl, rfl⟩ := yat_ints hp yz
          have er := s9 _ _ (s8 _ _ hra5)
          refine ⟨rfl, _, rfl, _, rfl, _, _, rfl, rfl, _, rfl, ?_⟩
          by_cases h1 : h ≤ c
          · refine ifT (decide_eq_true h1) ⟨_, rfl, _, rfl, ra, c, row, rfl, rfl, .inr er, _, rfl, ?_⟩
            by_cases h2 : c ∈ row
            · exact ifF (by simp [h2]) (kn _ (by simp [h2]) (Same.refl _))
            · refine ifT (by simp [h2]) ⟨_, rfl, _, rfl, by show 1 ≤ sizeLine; decide, fun u hu => ?_⟩
              have s10 : Same H8 (upd H8 u (.tup [.int c])) := same_new hu
              refine ⟨ra, u, _, _, rfl, rfl, s10 _ _ er, upd_same, ?_, by simp, fun v H9 s11 ⟨pp, ev, ep9⟩ => ?_⟩
              · rw [List.length_map]
                show _ + 1 ≤ sizeLine
                have : (10 : Nat) ≤ sizeLine := by decide
                omega
              · refine kk _ _ (row ++ [c]) (by simp [h1, h2]) (Same.trans s10 s11) ⟨pp, ev, ?_⟩
                rw [ep9, List.map_append]
                rfl
          · exact ifF (decide_eq_false h1) (ifF rfl (kn _ (by simp [h1]) (Same.refl _)))
        · rw [rowsL_fm] at pa
          have s79 := Same.trans s8 s9
          refine ⟨l1, D, ws, acc, rfl, rfl, s79 _ _ el, ea, ?_, fun p2 np2 => ?_⟩
          · rw [Paired.length pw, Paired.length pa]
            have q1 : ((rows.take j).flatMap (rowsL (tk hs) h)).length ≤ (rows.take j).length * (tk hs).length := stepL_many (tk := tk hs) (h := h) (F := rows.take j)
            have q2 : (rows.take j).length ≤ 3125 := by
              rw [List.length_take]
              omega
            have q3 : (rows.take j).length * (tk hs).length ≤ 3125 * 5 := Nat.mul_le_mul q2 tl
            have q4 : (rowsL (tk hs) h row).length ≤ 5 := by
              unfold rowsL
              rw [List.length_map]
              exact Nat.le_trans (List.length_filter_le _ _) tl
            have : (100000 : Nat) ≤ sizeLine := by decide
            omega
          · have sp : Same H7 (upd H7 p2 (.lst (ws ++ acc))) := same_new np2
            have sA := Same.trans s7 (Same.trans s79 sp)
            refine ⟨p2, _, ⟨_, rfl⟩, sA, same_free (Same.trans s7 s79) np2, upd_same, ?_⟩
            rw [flat_take_succ hrow]
            exact Paired.app (rows_up pw (Same.trans s79 sp)) (rows_up pa sp)
      · obtain ⟨l1, ws, ⟨y5, rfl⟩, s7, nl1, el, pw⟩ := g
        rw [List.take_length] at pw
        refine ⟨_, rfl, l1, ws, ⟨_, _, _, rfl⟩, Same.trans s5 s7, same_free s5 nl1, el, ?_⟩
        rw [restsL_take hm, hR]
        exact pw
    · obtain ⟨o1, vs, ⟨y2, y3, y4, rfl⟩, s5, no1, eo, pr⟩ := h
      rw [List.take_length] at pr
      refine ⟨_, rfl, o1, vs, _, rfl, .inl eo, pr, .inl fun r hr => ?_, ?_, fun p ws M np pw so => ?_⟩
      · have := restsL_len r hr
        cases r with
        | nil => simp at this; omega
        | cons x r => exact ⟨.int x, r.map .int, rfl⟩
      · exact Nat.le_trans (restsL_3125 tl h5) (by decide)
      · have eM := sorted_rests so.perm so.up
        subst eM
        have sp : Same H2 (upd H2 p (.lst ws)) := same_new np
        exact q _ p ws (Same.trans s5 sp) (same_free s5 np) upd_same (rows_up pw sp)
end
end K37
end

section
set_option Elab.async false
set_option linter.all false
set_option maxRecDepth 100000
set_option maxHeartbeats 4000000
/-! The picks that hand back the least pair at once: fairest, squarest, count_fair, most_home. -/
namespace K37
open PySem PySem.Spec PyProof.Rows L2
theorem mem_restsG {tk : List Int} : ∀ (zs : List (Int × Int)) (F : List (List Int)) (r : List Int), r ∈ restsG tk zs F → ∃ row ∈ F, ∃ xs, r = row ++ xs ∧ xs.length = zs.length ∧ ∀ (i : Nat) z x, zs[i]? = some z → xs[i]? = some x → z.1 ≤ x ∧ x ≤ z.2
  | [], F, r, h => ⟨r, h, [], by simp, rfl, fun i z x hz _ => by simp at hz⟩
  | z :: zs, F, r, h => by
    obtain ⟨row, hr, xs, e, l, hx⟩ := mem_restsG zs (stepR tk z.1 z.2 F) r h
    obtain ⟨row0, h0, hm⟩ := List.mem_flatMap.mp hr
    obtain ⟨p, hp, rfl⟩ := List.mem_map.mp hm
    obtain ⟨o1, o2, _⟩ := of_decide_eq_true (List.mem_filter.mp hp).2
    refine ⟨row0, h0, p :: xs, by rw [e]; simp, by simp [l], fun i z' x hz hxx => ?_⟩
    cases i with
    | zero =>
      simp at hz hxx
      subst hz hxx
      exact ⟨o1, o2⟩
    | succ i => exact hx i z' x (by simpa using hz) (by simpa using hxx)
theorem rest_between {hs st r : List Int} (h : r ∈ restsIn hs st) : ∀ (i : Nat) a b x, hs[i]? = some a → st[i]? = some b → r[i]? = some x → a ≤ x ∧ x ≤ b := fun i a b x h1 h2 h3 => by
  obtain ⟨row, hr, xs, e, l, hx⟩ := mem_restsG _ _ _ h
  have er : row = [] := by simpa using hr
  rw [er, List.nil_append] at e
  rw [e] at h3
  exact hx i (a, b) x (List.getElem?_zip_eq_some.mpr ⟨h1, h2⟩) h3
/-- what a pick's caller hands in -/
structure Given (H : Hp) (sv tv : V) (n : Int) (hs st : List Int) : Prop where
  str : StrAt H sv n hs
  sta : RT H tv st
  okS : OkStreet n hs
  okT : OkState n hs st
  five : hs.length ≤ 5
theorem Given.up {H H' : Hp} {sv tv : V} {n : Int} {hs st : List Int} (g : Given H sv tv n hs st) (s : Same H H') : Given H' sv tv n hs st := ⟨g.str.up s, g.sta.up s, g.okS, g.okT, g.five⟩
theorem Given.is_one {H : Hp} {sv tv : V} {n : Int} {hs st : List Int} (g : Given H sv tv n hs st) : restsIn hs st ≠ [] := rests_some g.okT.len (fun z hz => by
  obtain ⟨i, hi⟩ := List.getElem?_of_mem hz
  obtain ⟨h1, h2⟩ := List.getElem?_zip_eq_some.mp hi
  exact (g.okT.at_ i _ _ h1 h2).1) g.okT.nd
theorem Given.rest_len {H : Hp} {sv tv : V} {n : Int} {hs st : List Int} (g : Given H sv tv n hs st) {r : List Int} (h : r ∈ restsIn hs st) : r.length = hs.length := restsIn_len g.okT.len r h
theorem Given.many {H : Hp} {sv tv : V} {n : Int} {hs st : List Int} (g : Given H sv tv n hs st) : (restsIn hs st).length ≤ 3125 := restsG_3125 (by rw [tk_length]; exact g.five) (by rw [List.length_zip]; have := g.five; omega)
theorem ways_len {hs r : List Int} (h : r.length = hs.length) : (ways hs r).length = hs.length := by
  unfold ways
  rw [List.length_map, List.length_zip]
  omega
theorem Given.way_in {H : Hp} {sv tv : V} {n : Int} {hs st : List Int} (g : Given H sv tv n hs st) {r : List Int} (h : r ∈ restsIn hs st) : ∀ x ∈ ways hs r, 0 ≤ x ∧ x ≤ 11 := fun x hx => by
  obtain ⟨p, hp, rfl⟩ := List.mem_map.mp hx
  obtain ⟨i, hi⟩ := List.getElem?_of_mem hp
  obtain ⟨h1, h2⟩ := List.getElem?_zip_eq_some.mp hi
  have hih : i < hs.length := (List.getElem?_eq_some_iff.mp h2).1
  have h3 : st[i]? = some (st.getD i 0) := getD_at (by rw [g.okT.len]; exact hih)
  have b := rest_between h i _ _ _ h2 h3 h1
  have c := g.okT.at_ i _ _ h2 h3
  have d := g.okS.at_ p.2 (List.mem_of_getElem? h2)
  have e := g.okS.n12
  omega
/-- the least pair -/
structure Least (L : List (Int × List Int)) (m : Int × List Int) : Prop where
  mem : m ∈ L
  le : ∀ y ∈ L, m.1 :: m.2 ≤ y.1 :: y.2
theorem Least.eq {L : List (Int × List Int)} {m m' : Int × List Int} (a : Least L m) (b : Least L m') : m = m' := by
  have e := List.le_antisymm (a.le _ b.mem) (b.le _ a.mem)
  injection e with e1 e2
  exact Prod.ext e1 e2
section
variable {P : Program} {w : World} {K : PySem.W.Frag} {mg : Str → Option Value} {base : Heap}
/-- a promise: the least pair of (f r, r) over the rests -/
def spLeast (f : List Int → List Int → List Int → Int) : Sp := fun vs H Q _ => ∃ (sv tv : V) (n : Int) (hs st : List Int), vs = [sv, tv] ∧ Given H sv tv n hs st ∧
  ∀ H' v m, Same H H' → PR H' v m → Least ((restsIn hs st).map fun r => (f hs st r, r)) m → Q v H'
def fFair (hs st r : List Int) : Int := mx (ways hs r)
theorem ok_fairest (T : Txt K mg) : FnOk P w K mg base CX0 5 T.fairest.f T.fairest.fd ["street", "state"] (spLeast fFair) := by
  refine T.fairest.F.ok sc_fairest (fun vs H Q E h => ?_) (fun cdv A outer s H vs Q E hr h => ?_)
  · obtain ⟨_, _, _, _, _, rfl, _⟩ := h
    rfl
  · obtain ⟨sv, tv, n, hs, st, rfl, g, q⟩ := h
    have hu32 : (A.deeper (envOfC "fairest" (defScope s_fairest) s.heap.objs.size T.fairest.f cdv)).units + 32 < cLine := by
      have := hr.un
      omega
    refine ⟨_, (pss_cons (ps_expr (pe_call (ok_need_state T) (hr.mono (by decide)) (by rfl) T.need_state.m T.need_state.F.kp T.need_state.b .nil pass0 (pa_cons (pv 0) (pa_cons (pv 1) pa_nil))))
      (pss_one (ps_ret (pe_callB (minE K (encP K) rfl hu32) (by rfl) T.b_min boot_min' (pa_cons (pe_lc (own := [("rest", 2)]) (g := (gName 2)) (tt := tYes) rfl sc_fairest.nd (piL K (pe_call (ok_rests_in T) (hr.mono (by decide)) (by rfl) T.rests_in.m T.rests_in.F.kp T.rests_in.b .nil pass0 (pa_cons (pv 0) (pa_cons (pv 1) pa_nil)))) (blkOk_by (N := N_fairest) (sc := defScope s_fairest) (by decide +kernel)) (fun _ _ _ _ _ => (pg_name (i := 2) sc_fairest.nd rfl (by first | exact Or.inl rfl | exact Or.inr rfl))) (fun _ _ _ _ _ => pts_nil)
        (fun _ _ _ _ _ => (pe_tup (pa_cons (pe_callB (maxL rfl) (by rfl) T.b_max boot_max' (pa_cons (pe_call (ok_ways_of T) (hr.mono (by decide)) (by rfl) T.ways_of.m T.ways_of.F.kp T.ways_of.b .nil pass0 (pa_cons (pv 0) (pa_cons (pv 2) pa_nil))) pa_nil)) (pa_cons (pv 2) pa_nil))))) pa_nil))))), ?_⟩
    refine ⟨_, rfl, _, rfl, sv, tv, n, hs, st, rfl, g.str, g.sta, g.okS, g.okT, fun H1 s1 => ?_⟩
    have g1 := g.up s1
    refine ⟨_, rfl, _, rfl, sv, tv, n, hs, st, rfl, g1.str, g1.sta, g1.okS, g1.okT, g1.five, fun H2 p rs s2 np ep pr => ?_⟩
    have g2 := g1.up s2
    refine ⟨p, rfl, ⟨_, SqL.of ep⟩, fun D hD => ?_⟩
    refine lc_map (restsIn hs st) (walk_rows pr) (fun r => (fFair hs st r, r)) PR hD stab_PR (Nat.le_trans g.many (by decide)) (fun H3 s3 => SqL.of (s3 _ _ ep)) (fun i r x H3 H4 Q3 hp s3 hacc y k => ?_) fun H3 acc s3 e pa => ?_
    · obtain ⟨rfl, ⟨ra, rfl, hra⟩⟩ := yat_row pr hp y
      have hmem := List.mem_of_getElem? hp
      have hl := g.rest_len hmem
      have c1 := g.okS.c1
      have c7 := g.okS.c7
      have g3 := g2.up s3
      refine ⟨rfl, _, rfl, _, rfl, sv, _, n, hs, r, rfl, g3.str, ⟨ra, rfl, s3 _ _ hra⟩, hl, by omega, fun H5 p5 s5 np5 ep5 => ?_⟩
      refine ⟨p5, ways hs r, rfl, ep5, by rw [ways_len hl]; omega, _, rfl, by show 2 ≤ sizeLine; decide, fun u hu => ?_⟩
      have s6 : Same H5 (upd H5 u (.tup [.int (mx (ways hs r)), .ref ra])) := same_new hu
      exact k _ _ (Same.trans s5 s6) ⟨u, _, rfl, upd_same, ra, rfl, s6 _ _ (s5 _ _ (s3 _ _ hra))⟩
    · refine ⟨D, acc, _, rfl, e, pa, by simpa using g.is_one, fun v m ev hm hl => ?_⟩
      exact q _ v m (Same.trans s1 (Same.trans s2 s3)) ev ⟨hm, hl⟩
def fSq (hs st r : List Int) : Int := ((ways hs r).map fun x => x * x).sum
theorem ok_squarest (T : Txt K mg) : FnOk P w K mg base CX0 5 T.squarest.f T.squarest.fd ["street", "state"] (spLeast fSq) := by
  refine T.squarest.F.ok sc_squarest (fun vs H Q E h => ?_) (fun cdv A outer s H vs Q E hr h => ?_)
  · obtain ⟨_, _, _, _, _, rfl, _⟩ := h
    rfl
  · obtain ⟨sv, tv, n, hs, st, rfl, g, q⟩ := h
    have hu32 : (A.deeper (envOfC "squarest" (defScope s_squarest) s.heap.objs.size T.squarest.f cdv)).units + 32 < cLine := by
      have := hr.un
      omega
    refine ⟨_, (pss_cons (ps_expr (pe_call (ok_need_state T) (hr.mono (by decide)) (by rfl) T.need_state.m T.need_state.F.kp T.need_state.b .nil pass0 (pa_cons (pv 0) (pa_cons (pv 1) pa_nil))))
      (pss_one (ps_ret (pe_callB (minE K (encP K) rfl hu32) (by rfl) T.b_min boot_min' (pa_cons (pe_lc (own := [("rest", 3)]) (g := (gName 3)) (tt := tYes) rfl sc_squarest.nd (piL K (pe_call (ok_rests_in T) (hr.mono (by decide)) (by rfl) T.rests_in.m T.rests_in.F.kp T.rests_in.b .nil pass0 (pa_cons (pv 0) (pa_cons (pv 1) pa_nil)))) (blkOk_by (N := N_squarest) (sc := defScope s_squarest) (by decide +kernel)) (fun _ _ _ _ _ => (pg_name (i := 3) sc_squarest.nd rfl (by first | exact Or.inl rfl | exact Or.inr rfl))) (fun _ _ _ _ _ => pts_nil)
        (fun _ _ _ _ _ => (pe_tup (pa_cons (pe_callB (sumL rfl) (by rfl) T.b_sum boot_sum' (pa_cons (pe_lc (own := [("way", 2)]) (g := (gName 2)) (tt := tYes) rfl sc_squarest.nd (piL K (pe_call (ok_ways_of T) (hr.mono (by decide)) (by rfl) T.ways_of.m T.ways_of.F.kp T.ways_of.b .nil pass0 (pa_cons (pv 0) (pa_cons (pv 3) pa_nil)))) (blkOk_by (N := N_squarest) (sc := relS _ (defScope s_squarest)) (by decide +kernel)) (fun _ _ _ _ _ => (pg_name (i := 2) sc_squarest.nd rfl (by first | exact Or.inl rfl | exact Or.inr rfl))) (fun _ _ _ _ _ => pts_nil)
        (fun _ _ _ _ _ => (pe_op op_mul (pv 2) (pv 2)))) pa_nil)) (pa_cons (pv 3) pa_nil))))) pa_nil))))), ?_⟩
    refine ⟨_, rfl, _, rfl, sv, tv, n, hs, st, rfl, g.str, g.sta, g.okS, g.okT, fun H1 s1 => ?_⟩
    have g1 := g.up s1
    refine ⟨_, rfl, _, rfl, sv, tv, n, hs, st, rfl, g1.str, g1.sta, g1.okS, g1.okT, g1.five, fun H2 p rs s2 np ep pr => ?_⟩
    have g2 := g1.up s2
    refine ⟨p, rfl, ⟨_, SqL.of ep⟩, fun D hD => ?_⟩
    refine lc_map (restsIn hs st) (walk_rows pr) (fun r => (fSq hs st r, r)) PR hD stab_PR (Nat.le_trans g.many (by decide)) (fun H3 s3 => SqL.of (s3 _ _ ep)) (fun i r x H3 H4 Q3 hp s3 hacc y k => ?_) fun H3 acc s3 e pa => ?_
    · obtain ⟨rfl, ⟨ra, rfl, hra⟩⟩ := yat_row pr hp y
      have hmem := List.mem_of_getElem? hp
      have hl := g.rest_len hmem
      have c1 := g.okS.c1
      have c7 := g.okS.c7
      have g3 := g2.up s3
      refine ⟨rfl, _, rfl, _, rfl, sv, _, n, hs, r, rfl, g3.str, ⟨ra, rfl, s3 _ _ hra⟩, hl, by omega, fun H5 p5 s5 np5 ep5 => ?_⟩
      refine ⟨p5, rfl, ⟨_, SqL.of ep5⟩, fun D2 hD2 => ?_⟩
      refine lc_map (ways hs r) walk_listI (fun x => x * x) NI hD2 stab_NI (by rw [ways_len hl]; omega) (fun H6 s6 => SqL.of (s6 _ _ ep5)) (fun i2 x2 z2 H6 H7 Q6 hp2 s6 hacc2 y2 k2 => ?_) fun H6 acc2 s6 e2 pa2 => ?_
      · obtain ⟨rfl, rfl⟩ := yat_ints hp2 y2
        have hw := g.way_in hmem _ (List.mem_of_getElem? hp2)
        exact ⟨rfl, _, rfl, _, rfl, x2, x2, rfl, rfl, .inl ⟨by omega, by omega⟩, k2 _ _ (Same.refl _) rfl⟩
      · rw [paired_ints pa2] at e2
        refine ⟨D2, _, rfl, e2, _, rfl, by show 2 ≤ sizeLine; decide, fun u hu => ?_⟩
        have s7 : Same H6 (upd H6 u (.tup [.int (fSq hs st r), .ref ra])) := same_new hu
        exact k _ _ (Same.trans s5 (Same.trans s6 s7)) ⟨u, _, rfl, upd_same, ra, rfl, s7 _ _ (s6 _ _ (s5 _ _ (s3 _ _ hra)))⟩
    · refine ⟨D, acc, _, rfl, e, pa, by simpa using g.is_one, fun v m ev hm hl => ?_⟩
      exact q _ v m (Same.trans s1 (Same.trans s2 s3)) ev ⟨hm, hl⟩

def spCountFair : Sp := fun vs H Q _ => ∃ (sv tv : V) (n : Int) (hs st : List Int), vs = [sv, tv] ∧ Given H sv tv n hs st ∧
  ∀ H', Same H H' → Q (.int (((restsIn hs st).map (fFair hs st)).count (mn ((restsIn hs st).map (fFair hs st))) : Nat)) H'
theorem ok_count_fair (T : Txt K mg) : FnOk P w K mg base CX0 5 T.count_fair.f T.count_fair.fd ["street", "state"] spCountFair := by
  refine T.count_fair.F.ok sc_count_fair (fun vs H Q E h => ?_) (fun cdv A outer s H vs Q E hr h => ?_)
  · obtain ⟨_, _, _, _, _, rfl, _⟩ := h
    rfl
  · obtain ⟨sv, tv, n, hs, st, rfl, g, q⟩ := h
    refine ⟨_, (pss_cons (ps_expr (pe_call (ok_need_state T) (hr.mono (by decide)) (by rfl) T.need_state.m T.need_state.F.kp T.need_state.b .nil pass0 (pa_cons (pv 0) (pa_cons (pv 1) pa_nil))))
      (pss_cons (ps_setLc (i := 2) (own := [("rest", 3)]) (g := (gName 3)) (tt := tYes) rfl sc_count_fair.nd rfl rfl (sw_true rfl rfl rfl (by decide +kernel)) (piL K (pe_call (ok_rests_in T) (hr.mono (by decide)) (by rfl) T.rests_in.m T.rests_in.F.kp T.rests_in.b .nil pass0 (pa_cons (pv 0) (pa_cons (pv 1) pa_nil)))) (blkOk_by (N := N_count_fair) (sc := defScope s_count_fair) (by decide +kernel)) (fun _ _ _ _ _ => (pg_name (i := 3) sc_count_fair.nd rfl (by first | exact Or.inl rfl | exact Or.inr rfl))) (fun _ _ _ _ _ => pts_nil)
        (fun _ _ _ _ _ => (pe_callB (maxL rfl) (by rfl) T.b_max boot_max' (pa_cons (pe_call (ok_ways_of T) (hr.mono (by decide)) (by rfl) T.ways_of.m T.ways_of.F.kp T.ways_of.b .nil pass0 (pa_cons (pv 0) (pa_cons (pv 3) pa_nil))) pa_nil))))
      (pss_one (ps_ret (bmK K PySem.F.plainAttrs_list PySem.F.slot_list_count PySem.F.type_list_count countL (pv 2) (pa_cons (pe_callB (minL rfl) (by rfl) T.b_min boot_min' (pa_cons (pv 2) pa_nil)) pa_nil)))))), ?_⟩
    refine ⟨_, rfl, _, rfl, sv, tv, n, hs, st, rfl, g.str, g.sta, g.okS, g.okT, fun H1 s1 => ?_⟩
    have g1 := g.up s1
    refine ⟨_, rfl, _, rfl, sv, tv, n, hs, st, rfl, g1.str, g1.sta, g1.okS, g1.okT, g1.five, fun H2 p rs s2 np ep pr => ?_⟩
    have g2 := g1.up s2
    refine ⟨p, rfl, ⟨_, SqL.of ep⟩, fun D hD => ?_⟩
    refine lc_map (restsIn hs st) (walk_rows pr) (fun r => fFair hs st r) NI hD stab_NI (Nat.le_trans g.many (by decide)) (fun H3 s3 => SqL.of (s3 _ _ ep)) (fun i r x H3 H4 Q3 hp s3 hacc y k => ?_) fun H3 acc s3 e pa => ?_
    · obtain ⟨rfl, ⟨ra, rfl, hra⟩⟩ := yat_row pr hp y
      have hmem := List.mem_of_getElem? hp
      have hl := g.rest_len hmem
      have c1 := g.okS.c1
      have c7 := g.okS.c7
      have g3 := g2.up s3
      refine ⟨rfl, _, rfl, _, rfl, sv, _, n, hs, r, rfl, g3.str, ⟨ra, rfl, s3 _ _ hra⟩, hl, by omega, fun H5 p5 s5 np5 ep5 => ?_⟩
      exact ⟨p5, ways hs r, rfl, ep5, by rw [ways_len hl]; omega, k _ _ s5 rfl⟩
    · rw [paired_ints pa] at e
      refine ⟨_, rfl, .inl ⟨rfl, _, SqL.of e⟩, _, rfl, D, _, rfl, e, by rw [List.length_map]; exact List.length_pos_iff.mpr g.is_one, ?_⟩
      exact ⟨D, _, _, rfl, rfl, e, q _ (Same.trans s1 (Same.trans s2 s3))⟩

def fHome (hs st r : List Int) : Int := ((ways hs r).count 0 : Nat)
/-- a promise: minus the least of the f's, and the rest -/
def spNeg (f : List Int → List Int → List Int → Int) : Sp := fun vs H Q _ => ∃ (sv tv : V) (n : Int) (hs st : List Int), vs = [sv, tv] ∧ Given H sv tv n hs st ∧
  ∀ H' v m, Same H H' → PR H' v (-m.1, m.2) → Least ((restsIn hs st).map fun r => (-f hs st r, r)) m → Q v H'
theorem ok_most_home (T : Txt K mg) : FnOk P w K mg base CX0 5 T.most_home.f T.most_home.fd ["street", "state"] (spNeg fHome) := by
  refine T.most_home.F.ok sc_most_home (fun vs H Q E h => ?_) (fun cdv A outer s H vs Q E hr h => ?_)
  · obtain ⟨_, _, _, _, _, rfl, _⟩ := h
    rfl
  · obtain ⟨sv, tv, n, hs, st, rfl, g, q⟩ := h
    have hu32 : (A.deeper (envOfC "most_home" (defScope s_most_home) s.heap.objs.size T.most_home.f cdv)).units + 32 < cLine := by
      have := hr.un
      omega
    refine ⟨_, (pss_cons (ps_expr (pe_call (ok_need_state T) (hr.mono (by decide)) (by rfl) T.need_state.m T.need_state.F.kp T.need_state.b .nil pass0 (pa_cons (pv 0) (pa_cons (pv 1) pa_nil))))
      (pss_cons (ps_asg (pe_callB (minE K (encP K) rfl hu32) (by rfl) T.b_min boot_min' (pa_cons (pe_lc (own := [("rest", 3)]) (g := (gName 3)) (tt := tYes) rfl sc_most_home.nd (piL K (pe_call (ok_rests_in T) (hr.mono (by decide)) (by rfl) T.rests_in.m T.rests_in.F.kp T.rests_in.b .nil pass0 (pa_cons (pv 0) (pa_cons (pv 1) pa_nil)))) (blkOk_by (N := N_most_home) (sc := defScope s_most_home) (by decide +kernel)) (fun _ _ _ _ _ => (pg_name (i := 3) sc_most_home.nd rfl (by first | exact Or.inl rfl | exact Or.inr rfl))) (fun _ _ _ _ _ => pts_nil)
        (fun _ _ _ _ _ => (pe_tup (pa_cons (pe_un un_neg (bmK K PySem.F.plainAttrs_list PySem.F.slot_list_count PySem.F.type_list_count countL (pe_call (ok_ways_of T) (hr.mono (by decide)) (by rfl) T.ways_of.m T.ways_of.F.kp T.ways_of.b .nil pass0 (pa_cons (pv 0) (pa_cons (pv 3) pa_nil))) (pa_cons pe_int pa_nil))) (pa_cons (pv 3) pa_nil))))) pa_nil)) (pg_tup rfl (pgs_cons (pg_name (i := 2) sc_most_home.nd rfl (by first | exact Or.inl rfl | exact Or.inr rfl)) (pgs_cons (pg_name (i := 3) sc_most_home.nd rfl (by first | exact Or.inl rfl | exact Or.inr rfl)) pgs_nil))))
      (pss_one (ps_ret (pe_tup (pa_cons (pe_un un_neg (pv 2)) (pa_cons (pv 3) pa_nil))))))), ?_⟩
    refine ⟨_, rfl, _, rfl, sv, tv, n, hs, st, rfl, g.str, g.sta, g.okS, g.okT, fun H1 s1 => ?_⟩
    have g1 := g.up s1
    refine ⟨_, rfl, _, rfl, sv, tv, n, hs, st, rfl, g1.str, g1.sta, g1.okS, g1.okT, g1.five, fun H2 p rs s2 np ep pr => ?_⟩
    have g2 := g1.up s2
    refine ⟨p, rfl, ⟨_, SqL.of ep⟩, fun D hD => ?_⟩
    refine lc_map (restsIn hs st) (walk_rows pr) (fun r => (-fHome hs st r, r)) PR hD stab_PR (Nat.le_trans g.many (by decide)) (fun H3 s3 => SqL.of (s3 _ _ ep)) (fun i r x H3 H4 Q3 hp s3 hacc y k => ?_) fun H3 acc s3 e pa => ?_
    · obtain ⟨rfl, ⟨ra, rfl, hra⟩⟩ := yat_row pr hp y
      have hmem := List.mem_of_getElem? hp
      have hl := g.rest_len hmem
      have c1 := g.okS.c1
      have c7 := g.okS.c7
      have g3 := g2.up s3
      refine ⟨rfl, _, rfl, _, rfl, sv, _, n, hs, r, rfl, g3.str, ⟨ra, rfl, s3 _ _ hra⟩, hl, by omega, fun H5 p5 s5 np5 ep5 => ?_⟩
      refine ⟨.inl ⟨rfl, _, SqL.of ep5⟩, p5, _, 0, rfl, rfl, ep5, _, rfl, _, rfl, by show 2 ≤ sizeLine; decide, fun u hu => ?_⟩
      have s6 : Same H5 (upd H5 u (.tup [.int (-fHome hs st r), .ref ra])) := same_new hu
      exact k _ _ (Same.trans s5 s6) ⟨u, _, rfl, upd_same, ra, rfl, s6 _ _ (s5 _ _ (s3 _ _ hra))⟩
    · refine ⟨D, acc, _, rfl, e, pa, by simpa using g.is_one, fun v m ev hm hl => ?_⟩
      obtain ⟨t, u, rfl, ht, hu⟩ := ev
      refine ⟨t, _, rfl, SqT.of ht, rfl, _, _, rfl, _, _, rfl, rfl, ?_⟩
      refine ⟨_, rfl, _, rfl, _, rfl, by show 2 ≤ sizeLine; decide, fun z hz => ?_⟩
      have s4 : Same H3 (upd H3 z (.tup [.int (-m.1), u])) := same_new hz
      exact q _ _ m (Same.trans s1 (Same.trans s2 (Same.trans s3 s4))) ⟨z, u, rfl, upd_same, hu.up s4⟩ ⟨hm, hl⟩
end
end K37
end

section
set_option Elab.async false
set_option linter.all false
set_option maxRecDepth 100000
set_option maxHeartbeats 4000000
/-! The picks with weights: cheapest, dearest, cheapest_calls. -/
namespace K37
open PySem PySem.Spec PyProof.Rows L2
theorem StrAt.but {D : Addr} {H H' : Hp} {v : V} {n : Int} {hs : List Int} (h : StrAt H v n hs) (s : SameBut D H H') (hD : ∃ acc, H D = some (.lst acc)) : StrAt H' v n hs :=
  let ⟨a, b, e, h1, h2⟩ := h
  ⟨a, b, e, s _ _ (tup_ne h1 hD) h1, s _ _ (tup_ne h2 hD) h2⟩
theorem Given.but {D : Addr} {H H' : Hp} {sv tv : V} {n : Int} {hs st : List Int} (g : Given H sv tv n hs st) (s : SameBut D H H') (hD : ∃ acc, H D = some (.lst acc)) : Given H' sv tv n hs st :=
  ⟨g.str.but s hD, g.sta.but s hD, g.okS, g.okT, g.five⟩
theorem pairs_up {H H' : Hp} {vs : List V} {L : List (Int × List Int)} (p : Paired (PR H) vs L) (s : Same H H') : Paired (PR H') vs L := Paired.imp (fun _ _ r => r.up s) p
theorem pairs_but {D : Addr} {H H' : Hp} {vs : List V} {L : List (Int × List Int)} (p : Paired (PR H) vs L) (s : SameBut D H H') (hD : ∃ acc, H D = some (.lst acc)) : Paired (PR H') vs L := Paired.imp (fun _ _ r => stab_PR _ _ _ _ r s hD) p
theorem but_trans {D : Addr} {H H1 H2 : Hp} (a : SameBut D H H1) (b : SameBut D H1 H2) : SameBut D H H2 := fun x o n h => b x o n (a x o n h)
theorem map_take_succ {α β : Type} {F : List α} {g : α → β} {i : Nat} {r : α} (h : F[i]? = some r) : (F.take (i + 1)).map g = (F.take i).map g ++ [g r] := by
  rw [List.take_add_one, h, List.map_append]
  rfl
def fCheap (ws : List Int) (hs st r : List Int) : Int := ((ws.zip (ways hs r)).map fun p => p.1 * p.2).sum
def fCalls (ws : List Int) (hs st r : List Int) : Int := ((unl st r).map fun c => ws.getD c.toNat 0).sum
theorem unl_lt {one other : List Int} {c : Int} (h : c ∈ unl one other) : ∃ k : Nat, c = k ∧ k < one.length := by
  obtain ⟨k, hk, e⟩ := List.mem_filterMap.mp h
  refine ⟨k, ?_, List.mem_range.mp hk⟩
  by_cases q : one.getD k 0 = other.getD k 0
  · rw [if_pos q] at e
    cases e
  · rw [if_neg q] at e
    exact (Option.some.inj e).symm
section
variable {P : Program} {w : World} {K : PySem.W.Frag} {mg : Str → Option Value} {base : Heap}
def spLeastW (f : List Int → List Int → List Int → List Int → Int) : Sp := fun vs H Q _ => ∃ (sv tv wv : V) (n : Int) (hs st ws : List Int), vs = [sv, tv, wv] ∧ Given H sv tv n hs st ∧ RT H wv ws ∧ OkWeights hs ws ∧
  ∀ H' v m, Same H H' → PR H' v m → Least ((restsIn hs st).map fun r => (f ws hs st r, r)) m → Q v H'
def spNegW (f : List Int → List Int → List Int → List Int → Int) : Sp := fun vs H Q _ => ∃ (sv tv wv : V) (n : Int) (hs st ws : List Int), vs = [sv, tv, wv] ∧ Given H sv tv n hs st ∧ RT H wv ws ∧ OkWeights hs ws ∧
  ∀ H' v m, Same H H' → PR H' v (-m.1, m.2) → Least ((restsIn hs st).map fun r => (-f ws hs st r, r)) m → Q v H'
theorem ok_cheapest (T : Txt K mg) : FnOk P w K mg base CX0 5 T.cheapest.f T.cheapest.fd ["street", "state", "weights"] (spLeastW fCheap) := by
  refine T.cheapest.F.ok sc_cheapest (fun vs H Q E h => ?_) (fun cdv A outer s H vs Q E hr h => ?_)
  · obtain ⟨_, _, _, _, _, _, _, rfl, _⟩ := h
    rfl
  · obtain ⟨sv, tv, wv, n, hs, st, ws, rfl, g, hw, W, q⟩ := h
    have hu32 : (A.deeper (envOfC "cheapest" (defScope s_cheapest) s.heap.objs.size T.cheapest.f cdv)).units + 32 < cLine := by
      have := hr.un
      omega
    refine ⟨_, (pss_cons (ps_expr (pe_call (ok_need_state T) (hr.mono (by decide)) (by rfl) T.need_state.m T.need_state.F.kp T.need_state.b .nil pass0 (pa_cons (pv 0) (pa_cons (pv 1) pa_nil))))
      (pss_cons (ps_expr (pe_call (ok_need_weights T) (hr.mono (by decide)) (by rfl) T.need_weights.m T.need_weights.F.kp T.need_weights.b .nil pass0 (pa_cons (pv 0) (pa_cons (pv 2) pa_nil))))
      (pss_cons (ps_set (i := 3) sc_cheapest.nd rfl (by first | exact Or.inl rfl | exact Or.inr rfl) (pe_lst pa_nil))
      (pss_cons (ps_for PassesOwn.never rfl (piL K (pe_call (ok_rests_in T) (hr.mono (by decide)) (by rfl) T.rests_in.m T.rests_in.F.kp T.rests_in.b .nil pass0 (pa_cons (pv 0) (pa_cons (pv 1) pa_nil)))) (pg_name (i := 4) sc_cheapest.nd rfl (by first | exact Or.inl rfl | exact Or.inr rfl))
      (pss_one (ps_expr (bmK K PySem.F.plainAttrs_list PySem.F.slot_list_append PySem.F.type_list_append mt_append (pv 3) (pa_cons (pe_tup (pa_cons (pe_callB (sumL rfl) (by rfl) T.b_sum boot_sum' (pa_cons (pe_lc (own := [("weight", 5), ("way", 6)]) (g := (gTup K 2 (gCons (gName 5) (gCons (gName 6) gNil)))) (tt := tYes) rfl sc_cheapest.nd (zipTL K (by rfl) T.b_zip (pa_cons (pv 2) (pa_cons (pe_call (ok_ways_of T) (hr.mono (by decide)) (by rfl) T.ways_of.m T.ways_of.F.kp T.ways_of.b .nil pass0 (pa_cons (pv 0) (pa_cons (pv 4) pa_nil))) pa_nil))) (blkOk_by (N := N_cheapest) (sc := defScope s_cheapest) (by decide +kernel)) (fun _ _ _ _ _ => (pg_tup rfl (pgs_cons (pg_name (i := 5) sc_cheapest.nd rfl (by first | exact Or.inl rfl | exact Or.inr rfl)) (pgs_cons (pg_name (i := 6) sc_cheapest.nd rfl (by first | exact Or.inl rfl | exact Or.inr rfl)) pgs_nil)))) (fun _ _ _ _ _ => pts_nil)
        (fun _ _ _ _ _ => (pe_op op_mul (pv 5) (pv 6)))) pa_nil)) (pa_cons (pv 4) pa_nil))) pa_nil)))))
      (pss_one (ps_ret (pe_callB (minE K (encP K) rfl hu32) (by rfl) T.b_min boot_min' (pa_cons (pv 3) pa_nil)))))))), ?_⟩
    refine ⟨_, rfl, _, rfl, sv, tv, n, hs, st, rfl, g.str, g.sta, g.okS, g.okT, fun Ha sa => ?_⟩
    have ga := g.up sa
    refine ⟨_, rfl, _, rfl, sv, wv, n, hs, ws, rfl, ga.str, hw.up sa, g.okS, W, fun Hb sb => ?_⟩
    have gb := ga.up sb
    refine ⟨Nat.zero_le _, fun o no => ?_⟩
    have sc : Same Hb (upd Hb o (.lst [])) := same_new no
    have gc := gb.up sc
    refine ⟨_, rfl, _, rfl, sv, tv, n, hs, st, rfl, gc.str, gc.sta, g.okS, g.okT, g.five, fun H2 p rs s2 np ep pr => ?_⟩
    have g2 := gc.up s2
    have w2 : RT H2 wv ws := (((hw.up sa).up sb).up sc).up s2
    have s02 : Same H H2 := Same.trans sa (Same.trans sb (Same.trans sc s2))
    have no0 : H o = none := same_free (Same.trans sa sb) no
    have eo2 : H2 o = some (.lst []) := s2 _ _ upd_same
    have hpo : p ≠ o := fun z => by
      rw [z, upd_same] at np
      cases np
    have c1 := g.okS.c1
    have c7 := g.okS.c7
    refine ⟨p, rfl, ⟨_, SqL.of ep⟩, ?_⟩
    refine for_it (walk_rows pr) (fun i σ H3 => (∃ y4, σ = [some sv, some tv, some wv, some (.ref o), y4, none, none]) ∧ SameBut o H2 H3 ∧ ∃ acc, H3 o = some (.lst acc) ∧ Paired (PR H3) acc (((restsIn hs st).take i).map fun r => (fCheap ws hs st r, r)))
      ⟨⟨_, rfl⟩, fun a o' _ h => h, [], eo2, .nil⟩ (fun i σ H3 _ h => SqL.of (h.2.1 _ _ hpo ep)) (fun i x σ H3 H4 hi h y => ?_) fun σ H3 h => ?_
    · obtain ⟨⟨y4, rfl⟩, s3, acc, eo, pa⟩ := h
      have hrow : (restsIn hs st)[i]? = some (restsIn hs st)[i] := List.getElem?_eq_getElem hi
      obtain ⟨rfl, ⟨ra, rfl, hra2⟩⟩ := yat_row pr hrow y
      generalize (restsIn hs st)[i] = r at hrow hra2
      have hmem := List.mem_of_getElem? hrow
      have hl := g.rest_len hmem
      have g3 := g2.but s3 ⟨_, eo2⟩
      have w3 := w2.but s3 ⟨_, eo2⟩
      have hra := s3 _ _ (tup_ne hra2 ⟨_, eo2⟩) hra2
      have lacc : acc.length ≤ 3125 := by
        rw [Paired.length pa, List.length_map, List.length_take]
        have := g.many
        omega
      refine ⟨_, rfl, .inl ⟨rfl, _, SqL.of eo⟩, ?_⟩
      refine ⟨_, rfl, _, rfl, _, rfl, sv, _, n, hs, r, rfl, g3.str, ⟨ra, rfl, hra⟩, hl, by omega, fun H5 p5 s5 np5 ep5 => ?_⟩
      obtain ⟨wa, rfl, hwa⟩ := w3
      refine ⟨wa, p5, _, _, rfl, SqT.of (s5 _ _ hwa), SqL.of ep5, fun D2 hD2 => ?_⟩
      have lw := ways_len hl
      have lws := W.len
      refine lc_map (ws.zip (ways hs r)) (walk_zipM (n := (ws.zip (ways hs r)).length) (xs := ws.map V.int) (ys := (ways hs r).map V.int) (by simp)) (fun p => p.1 * p.2) NI hD2 stab_NI (by rw [List.length_zip]; omega) (fun H6 s6 => ⟨SqT.of (s6 _ _ (s5 _ _ hwa)), SqL.of (s6 _ _ ep5)⟩) (fun i2 z x2 H6 H7 Q6 hp2 s6 hacc2 y2 k2 => ?_) fun H6 acc2 s6 e2 pa2 => ?_
      · obtain ⟨Tp, rfl, nT, rfl⟩ := pair_ints hp2 y2
        obtain ⟨z1, z2⟩ := List.getElem?_zip_eq_some.mp hp2
        have hw1 := g.way_in hmem _ (List.mem_of_getElem? z2)
        have hw2 := W.at_ _ (List.mem_of_getElem? z1)
        refine ⟨Tp, _, rfl, SqT.of upd_same, rfl, _, _, rfl, _, _, rfl, rfl, rfl, ?_⟩
        exact ⟨_, rfl, _, rfl, z.1, z.2, rfl, rfl, .inl ⟨by omega, by omega⟩, k2 _ _ (same_new nT) rfl⟩
      · rw [paired_ints pa2] at e2
        refine ⟨D2, _, rfl, e2, ?_⟩
        refine ⟨_, rfl, by show 2 ≤ sizeLine; decide, fun u hu => ?_⟩
        have s7 : Same H6 (upd H6 u (.tup [.int (fCheap ws hs st r), .ref ra])) := same_new hu
        have s37 := Same.trans s5 (Same.trans s6 s7)
        have eo7 := s37 _ _ eo
        refine ⟨o, acc, _, rfl, rfl, eo7, Nat.lt_of_le_of_lt lacc (by decide), ⟨_, rfl⟩, but_trans s3 (but_trans (same_but s37) but_put), _, upd_same, ?_⟩
        rw [map_take_succ hrow]
        exact Paired.app (pairs_but (pairs_up pa s37) but_put ⟨_, eo7⟩) (.cons (stab_PR _ _ _ _ (⟨u, _, rfl, upd_same, ra, rfl, s37 _ _ hra⟩ : PR _ _ (fCheap ws hs st r, r)) but_put ⟨_, eo7⟩) .nil)
    · obtain ⟨⟨y4, rfl⟩, s3, acc, eo, pa⟩ := h
      rw [List.take_length] at pa
      have s03 : Same H H3 := fun a u h => s3 a u (ne_of_none h no0) (s02 a u h)
      exact ⟨_, rfl, o, acc, _, rfl, eo, pa, by simpa using g.is_one, fun v m ev hm hl => q H3 v m s03 ev ⟨hm, hl⟩⟩
theorem ok_dearest (T : Txt K mg) : FnOk P w K mg base CX0 5 T.dearest.f T.dearest.fd ["street", "state", "weights"] (spNegW fCheap) := by
  refine T.dearest.F.ok sc_dearest (fun vs H Q E h => ?_) (fun cdv A outer s H vs Q E hr h => ?_)
  · obtain ⟨_, _, _, _, _, _, _, rfl, _⟩ := h
    rfl
  · obtain ⟨sv, tv, wv, n, hs, st, ws, rfl, g, hw, W, q⟩ := h
    have hu32 : (A.deeper (envOfC "dearest" (defScope s_dearest) s.heap.objs.size T.dearest.f cdv)).units + 32 < cLine := by
      have := hr.un
      omega
    refine ⟨_, (pss_cons (ps_expr (pe_call (ok_need_state T) (hr.mono (by decide)) (by rfl) T.need_state.m T.need_state.F.kp T.need_state.b .nil pass0 (pa_cons (pv 0) (pa_cons (pv 1) pa_nil))))
      (pss_cons (ps_expr (pe_call (ok_need_weights T) (hr.mono (by decide)) (by rfl) T.need_weights.m T.need_weights.F.kp T.need_weights.b .nil pass0 (pa_cons (pv 0) (pa_cons (pv 2) pa_nil))))
      (pss_cons (ps_set (i := 3) sc_dearest.nd rfl (by first | exact Or.inl rfl | exact Or.inr rfl) (pe_lst pa_nil))
      (pss_cons (ps_for PassesOwn.never rfl (piL K (pe_call (ok_rests_in T) (hr.mono (by decide)) (by rfl) T.rests_in.m T.rests_in.F.kp T.rests_in.b .nil pass0 (pa_cons (pv 0) (pa_cons (pv 1) pa_nil)))) (pg_name (i := 4) sc_dearest.nd rfl (by first | exact Or.inl rfl | exact Or.inr rfl))
      (pss_one (ps_expr (bmK K PySem.F.plainAttrs_list PySem.F.slot_list_append PySem.F.type_list_append mt_append (pv 3) (pa_cons (pe_tup (pa_cons (pe_un un_neg (pe_callB (sumL rfl) (by rfl) T.b_sum boot_sum' (pa_cons (pe_lc (own := [("weight", 5), ("way", 6)]) (g := (gTup K 2 (gCons (gName 5) (gCons (gName 6) gNil)))) (tt := tYes) rfl sc_dearest.nd (zipTL K (by rfl) T.b_zip (pa_cons (pv 2) (pa_cons (pe_call (ok_ways_of T) (hr.mono (by decide)) (by rfl) T.ways_of.m T.ways_of.F.kp T.ways_of.b .nil pass0 (pa_cons (pv 0) (pa_cons (pv 4) pa_nil))) pa_nil))) (blkOk_by (N := N_dearest) (sc := defScope s_dearest) (by decide +kernel)) (fun _ _ _ _ _ => (pg_tup rfl (pgs_cons (pg_name (i := 5) sc_dearest.nd rfl (by first | exact Or.inl rfl | exact Or.inr rfl)) (pgs_cons (pg_name (i := 6) sc_dearest.nd rfl (by first | exact Or.inl rfl | exact Or.inr rfl)) pgs_nil)))) (fun _ _ _ _ _ => pts_nil)
        (fun _ _ _ _ _ => (pe_op op_mul (pv 5) (pv 6)))) pa_nil))) (pa_cons (pv 4) pa_nil))) pa_nil)))))
      (pss_cons (ps_asg (pe_callB (minE K (encP K) rfl hu32) (by rfl) T.b_min boot_min' (pa_cons (pv 3) pa_nil)) (pg_tup rfl (pgs_cons (pg_name (i := 7) sc_dearest.nd rfl (by first | exact Or.inl rfl | exact Or.inr rfl)) (pgs_cons (pg_name (i := 4) sc_dearest.nd rfl (by first | exact Or.inl rfl | exact Or.inr rfl)) pgs_nil))))
      (pss_one (ps_ret (pe_tup (pa_cons (pe_un un_neg (pv 7)) (pa_cons (pv 4) pa_nil)))))))))), ?_⟩
    refine ⟨_, rfl, _, rfl, sv, tv, n, hs, st, rfl, g.str, g.sta, g.okS, g.okT, fun Ha sa => ?_⟩
    have ga := g.up sa
    refine ⟨_, rfl, _, rfl, sv, wv, n, hs, ws, rfl, ga.str, hw.up sa, g.okS, W, fun Hb sb => ?_⟩
    have gb := ga.up sb
    refine ⟨Nat.zero_le _, fun o no => ?_⟩
    have sc : Same Hb (upd Hb o (.lst [])) := same_new no
    have gc := gb.up sc
    refine ⟨_, rfl, _, rfl, sv, tv, n, hs, st, rfl, gc.str, gc.sta, g.okS, g.okT, g.five, fun H2 p rs s2 np ep pr => ?_⟩
    have g2 := gc.up s2
    have w2 : RT H2 wv ws := (((hw.up sa).up sb).up sc).up s2
    have s02 : Same H H2 := Same.trans sa (Same.trans sb (Same.trans sc s2))
    have no0 : H o = none := same_free (Same.trans sa sb) no
    have eo2 : H2 o = some (.lst []) := s2 _ _ upd_same
    have hpo : p ≠ o := fun z => by
      rw [z, upd_same] at np
      cases np
    have c1 := g.okS.c1
    have c7 := g.okS.c7
    refine ⟨p, rfl, ⟨_, SqL.of ep⟩, ?_⟩
    refine for_it (walk_rows pr) (fun i σ H3 => (∃ y4, σ = [some sv, some tv, some wv, some (.ref o), y4, none, none, none]) ∧ SameBut o H2 H3 ∧ ∃ acc, H3 o = some (.lst acc) ∧ Paired (PR H3) acc (((restsIn hs st).take i).map fun r => (-fCheap ws hs st r, r)))
      ⟨⟨_, rfl⟩, fun a o' _ h => h, [], eo2, .nil⟩ (fun i σ H3 _ h => SqL.of (h.2.1 _ _ hpo ep)) (fun i x σ H3 H4 hi h y => ?_) fun σ H3 h => ?_
    · obtain ⟨⟨y4, rfl⟩, s3, acc, eo, pa⟩ := h
      have hrow : (restsIn hs st)[i]? = some (restsIn hs st)[i] := List.getElem?_eq_getElem hi
      obtain ⟨rfl, ⟨ra, rfl, hra2⟩⟩ := yat_row pr hrow y
      generalize (restsIn hs st)[i] = r at hrow hra2
      have hmem := List.mem_of_getElem? hrow
      have hl := g.rest_len hmem
      have g3 := g2.but s3 ⟨_, eo2⟩
      have w3 := w2.but s3 ⟨_, eo2⟩
      have hra := s3 _ _ (tup_ne hra2 ⟨_, eo2⟩) hra2
      have lacc : acc.length ≤ 3125 := by
        rw [Paired.length pa, List.length_map, List.length_take]
        have := g.many
        omega
      refine ⟨_, rfl, .inl ⟨rfl, _, SqL.of eo⟩, ?_⟩
      refine ⟨_, rfl, _, rfl, _, rfl, sv, _, n, hs, r, rfl, g3.str, ⟨ra, rfl, hra⟩, hl, by omega, fun H5 p5 s5 np5 ep5 => ?_⟩
      obtain ⟨wa, rfl, hwa⟩ := w3
      refine ⟨wa, p5, _, _, rfl, SqT.of (s5 _ _ hwa), SqL.of ep5, fun D2 hD2 => ?_⟩
      have lw := ways_len hl
      have lws := W.len
      refine lc_map (ws.zip (ways hs r)) (walk_zipM (n := (ws.zip (ways hs r)).length) (xs := ws.map V.int) (ys := (ways hs r).map V.int) (by simp)) (fun p => p.1 * p.2) NI hD2 stab_NI (by rw [List.length_zip]; omega) (fun H6 s6 => ⟨SqT.of (s6 _ _ (s5 _ _ hwa)), SqL.of (s6 _ _ ep5)⟩) (fun i2 z x2 H6 H7 Q6 hp2 s6 hacc2 y2 k2 => ?_) fun H6 acc2 s6 e2 pa2 => ?_
      · obtain ⟨Tp, rfl, nT, rfl⟩ := pair_ints hp2 y2
        obtain ⟨z1, z2⟩ := List.getElem?_zip_eq_some.mp hp2
        have hw1 := g.way_in hmem _ (List.mem_of_getElem? z2)
        have hw2 := W.at_ _ (List.mem_of_getElem? z1)
        refine ⟨Tp, _, rfl, SqT.of upd_same, rfl, _, _, rfl, _, _, rfl, rfl, rfl, ?_⟩
        exact ⟨_, rfl, _, rfl, z.1, z.2, rfl, rfl, .inl ⟨by omega, by omega⟩, k2 _ _ (same_new nT) rfl⟩
      · rw [paired_ints pa2] at e2
        refine ⟨D2, _, rfl, e2, _, rfl, ?_⟩
        refine ⟨_, rfl, by show 2 ≤ sizeLine; decide, fun u hu => ?_⟩
        have s7 : Same H6 (upd H6 u (.tup [.int (-fCheap ws hs st r), .ref ra])) := same_new hu
        have s37 := Same.trans s5 (Same.trans s6 s7)
        have eo7 := s37 _ _ eo
        refine ⟨o, acc, _, rfl, rfl, eo7, Nat.lt_of_le_of_lt lacc (by decide), ⟨_, rfl⟩, but_trans s3 (but_trans (same_but s37) but_put), _, upd_same, ?_⟩
        rw [map_take_succ hrow]
        exact Paired.app (pairs_but (pairs_up pa s37) but_put ⟨_, eo7⟩) (.cons (stab_PR _ _ _ _ (⟨u, _, rfl, upd_same, ra, rfl, s37 _ _ hra⟩ : PR _ _ (-fCheap ws hs st r, r)) but_put ⟨_, eo7⟩) .nil)
    · obtain ⟨⟨y4, rfl⟩, s3, acc, eo, pa⟩ := h
      rw [List.take_length] at pa
      have s03 : Same H H3 := fun a u h => s3 a u (ne_of_none h no0) (s02 a u h)
      refine ⟨_, rfl, o, acc, _, rfl, eo, pa, by simpa using g.is_one, fun v m ev hm hl => ?_⟩
      obtain ⟨t, u, rfl, ht, hu⟩ := ev
      refine ⟨t, _, rfl, SqT.of ht, rfl, _, _, rfl, _, _, rfl, rfl, ?_⟩
      refine ⟨_, rfl, _, rfl, _, rfl, by show 2 ≤ sizeLine; decide, fun z hz => ?_⟩
      have s4 : Same H3 (upd H3 z (.tup [.int (-m.1), u])) := same_new hz
      exact q _ _ m (Same.trans s03 s4) ⟨z, u, rfl, upd_same, hu.up s4⟩ ⟨hm, hl⟩
theorem ok_cheapest_calls (T : Txt K mg) : FnOk P w K mg base CX0 5 T.cheapest_calls.f T.cheapest_calls.fd ["street", "state", "costs"] (spLeastW fCalls) := by
  refine T.cheapest_calls.F.ok sc_cheapest_calls (fun vs H Q E h => ?_) (fun cdv A outer s H vs Q E hr h => ?_)
  · obtain ⟨_, _, _, _, _, _, _, rfl, _⟩ := h
    rfl
  · obtain ⟨sv, tv, wv, n, hs, st, ws, rfl, g, hw, W, q⟩ := h
    have hu32 : (A.deeper (envOfC "cheapest_calls" (defScope s_cheapest_calls) s.heap.objs.size T.cheapest_calls.f cdv)).units + 32 < cLine := by
      have := hr.un
      omega
    refine ⟨_, (pss_cons (ps_expr (pe_call (ok_need_state T) (hr.mono (by decide)) (by rfl) T.need_state.m T.need_state.F.kp T.need_state.b .nil pass0 (pa_cons (pv 0) (pa_cons (pv 1) pa_nil))))
      (pss_cons (ps_expr (pe_call (ok_need_weights T) (hr.mono (by decide)) (by rfl) T.need_weights.m T.need_weights.F.kp T.need_weights.b .nil pass0 (pa_cons (pv 0) (pa_cons (pv 2) pa_nil))))
      (pss_cons (ps_set (i := 3) sc_cheapest_calls.nd rfl (by first | exact Or.inl rfl | exact Or.inr rfl) (pe_lst pa_nil))
      (pss_cons (ps_for PassesOwn.never rfl (piL K (pe_call (ok_rests_in T) (hr.mono (by decide)) (by rfl) T.rests_in.m T.rests_in.F.kp T.rests_in.b .nil pass0 (pa_cons (pv 0) (pa_cons (pv 1) pa_nil)))) (pg_name (i := 4) sc_cheapest_calls.nd rfl (by first | exact Or.inl rfl | exact Or.inr rfl))
      (pss_one (ps_expr (bmK K PySem.F.plainAttrs_list PySem.F.slot_list_append PySem.F.type_list_append mt_append (pv 3) (pa_cons (pe_tup (pa_cons (pe_callB (sumL rfl) (by rfl) T.b_sum boot_sum' (pa_cons (pe_lc (own := [("car", 5)]) (g := (gName 5)) (tt := tYes) rfl sc_cheapest_calls.nd (piL K (pe_call (ok_unlike T) (hr.mono (by decide)) (by rfl) T.unlike.m T.unlike.F.kp T.unlike.b .nil pass0 (pa_cons (pv 1) (pa_cons (pv 4) pa_nil)))) (blkOk_by (N := N_cheapest_calls) (sc := defScope s_cheapest_calls) (by decide +kernel)) (fun _ _ _ _ _ => (pg_name (i := 5) sc_cheapest_calls.nd rfl (by first | exact Or.inl rfl | exact Or.inr rfl))) (fun _ _ _ _ _ => pts_nil)
        (fun _ _ _ _ _ => (pe_ix ixT (pv 2) (pv 5) (fun _ _ => rfl)))) pa_nil)) (pa_cons (pv 4) pa_nil))) pa_nil)))))
      (pss_one (ps_ret (pe_callB (minE K (encP K) rfl hu32) (by rfl) T.b_min boot_min' (pa_cons (pv 3) pa_nil)))))))), ?_⟩
    refine ⟨_, rfl, _, rfl, sv, tv, n, hs, st, rfl, g.str, g.sta, g.okS, g.okT, fun Ha sa => ?_⟩
    have ga := g.up sa
    refine ⟨_, rfl, _, rfl, sv, wv, n, hs, ws, rfl, ga.str, hw.up sa, g.okS, W, fun Hb sb => ?_⟩
    have gb := ga.up sb
    refine ⟨Nat.zero_le _, fun o no => ?_⟩
    have sc : Same Hb (upd Hb o (.lst [])) := same_new no
    have gc := gb.up sc
    refine ⟨_, rfl, _, rfl, sv, tv, n, hs, st, rfl, gc.str, gc.sta, g.okS, g.okT, g.five, fun H2 p rs s2 np ep pr => ?_⟩
    have g2 := gc.up s2
    have w2 : RT H2 wv ws := (((hw.up sa).up sb).up sc).up s2
    have s02 : Same H H2 := Same.trans sa (Same.trans sb (Same.trans sc s2))
    have no0 : H o = none := same_free (Same.trans sa sb) no
    have eo2 : H2 o = some (.lst []) := s2 _ _ upd_same
    have hpo : p ≠ o := fun z => by
      rw [z, upd_same] at np
      cases np
    have c1 := g.okS.c1
    have c7 := g.okS.c7
    refine ⟨p, rfl, ⟨_, SqL.of ep⟩, ?_⟩
    refine for_it (walk_rows pr) (fun i σ H3 => (∃ y4, σ = [some sv, some tv, some wv, some (.ref o), y4, none]) ∧ SameBut o H2 H3 ∧ ∃ acc, H3 o = some (.lst acc) ∧ Paired (PR H3) acc (((restsIn hs st).take i).map fun r => (fCalls ws hs st r, r)))
      ⟨⟨_, rfl⟩, fun a o' _ h => h, [], eo2, .nil⟩ (fun i σ H3 _ h => SqL.of (h.2.1 _ _ hpo ep)) (fun i x σ H3 H4 hi h y => ?_) fun σ H3 h => ?_
    · obtain ⟨⟨y4, rfl⟩, s3, acc, eo, pa⟩ := h
      have hrow : (restsIn hs st)[i]? = some (restsIn hs st)[i] := List.getElem?_eq_getElem hi
      obtain ⟨rfl, ⟨ra, rfl, hra2⟩⟩ := yat_row pr hrow y
      generalize (restsIn hs st)[i] = r at hrow hra2
      have hmem := List.mem_of_getElem? hrow
      have hl := g.rest_len hmem
      have g3 := g2.but s3 ⟨_, eo2⟩
      have w3 := w2.but s3 ⟨_, eo2⟩
      have hra := s3 _ _ (tup_ne hra2 ⟨_, eo2⟩) hra2
      have lacc : acc.length ≤ 3125 := by
        rw [Paired.length pa, List.length_map, List.length_take]
        have := g.many
        omega
      refine ⟨_, rfl, .inl ⟨rfl, _, SqL.of eo⟩, ?_⟩
      refine ⟨_, rfl, _, rfl, tv, _, st, r, rfl, g3.sta, ⟨ra, rfl, hra⟩, hl.trans g.okT.len.symm, by have := g.okT.len; omega, fun H5 p5 s5 np5 ep5 => ?_⟩
      obtain ⟨wa, rfl, hwa⟩ := w3
      refine ⟨p5, rfl, ⟨_, SqL.of ep5⟩, fun D2 hD2 => ?_⟩
      have lst := g.okT.len
      have lws := W.len
      have lu : (unl st r).length ≤ 1000 := by
        have := List.length_filterMap_le (fun c => if st.getD c 0 = r.getD c 0 then none else some ((c : Nat) : Int)) (List.range st.length)
        rw [List.length_range] at this
        have e : (unl st r).length ≤ st.length := this
        omega
      refine lc_map (unl st r) walk_listI (fun c => ws.getD c.toNat 0) NI hD2 stab_NI (by omega) (fun H6 s6 => SqL.of (s6 _ _ ep5)) (fun i2 c x2 H6 H7 Q6 hp2 s6 hacc2 y2 k2 => ?_) fun H6 acc2 s6 e2 pa2 => ?_
      · obtain ⟨rfl, rfl⟩ := yat_ints hp2 y2
        obtain ⟨k, rfl, hk⟩ := unl_lt (List.mem_of_getElem? hp2)
        exact ⟨rfl, _, rfl, _, rfl, wa, _, _, _, rfl, rfl, s6 _ _ (s5 _ _ hwa), atI_ints (by omega), k2 _ _ (Same.refl _) rfl⟩
      · rw [paired_ints pa2] at e2
        refine ⟨D2, _, rfl, e2, ?_⟩
        refine ⟨_, rfl, by show 2 ≤ sizeLine; decide, fun u hu => ?_⟩
        have s7 : Same H6 (upd H6 u (.tup [.int (fCalls ws hs st r), .ref ra])) := same_new hu
        have s37 := Same.trans s5 (Same.trans s6 s7)
        have eo7 := s37 _ _ eo
        refine ⟨o, acc, _, rfl, rfl, eo7, Nat.lt_of_le_of_lt lacc (by decide), ⟨_, rfl⟩, but_trans s3 (but_trans (same_but s37) but_put), _, upd_same, ?_⟩
        rw [map_take_succ hrow]
        exact Paired.app (pairs_but (pairs_up pa s37) but_put ⟨_, eo7⟩) (.cons (stab_PR _ _ _ _ (⟨u, _, rfl, upd_same, ra, rfl, s37 _ _ hra⟩ : PR _ _ (fCalls ws hs st r, r)) but_put ⟨_, eo7⟩) .nil)
    · obtain ⟨⟨y4, rfl⟩, s3, acc, eo, pa⟩ := h
      rw [List.take_length] at pa
      have s03 : Same H H3 := fun a u h => s3 a u (ne_of_none h no0) (s02 a u h)
      exact ⟨_, rfl, o, acc, _, rfl, eo, pa, by simpa using g.is_one, fun v m ev hm hl => q H3 v m s03 ev ⟨hm, hl⟩⟩
end
end K37
end

section
set_option Elab.async false
set_option linter.all false
set_option maxRecDepth 100000
set_option maxHeartbeats 4000000
/-! The law's draws: _law_taken, _law_pick. -/
namespace K37
open PySem PySem.Spec PyProof.Rows L2
/-- the script, that stands whatever is written -/
def Sc (K : PySem.W.Frag) (H : Hp) (sc : Addr) (ns : List Int) : Prop := (∃ o, H sc = some (.frz o (.lst (ns.map V.int)))) ∨ ∀ H', SqL K H' sc (ns.map V.int)
theorem Sc.seq {K : PySem.W.Frag} {H : Hp} {sc : Addr} {ns : List Int} (h : Sc K H sc ns) : SqL K H sc (ns.map V.int) := by
  rcases h with ⟨o, h⟩ | h
  · exact .inl (.inr ⟨o, h⟩)
  · exact h H
/-- a cell that may be written -/
def Wr (H : Hp) (o : Addr) : Prop := H o = none ∨ ∃ xs, H o = some (.lst xs)
theorem Sc.put {K : PySem.W.Frag} {H : Hp} {sc o : Addr} {ns : List Int} {x : HO} (h : Sc K H sc ns) (w : Wr H o) : Sc K (upd H o x) sc ns := by
  rcases h with ⟨u, h⟩ | h
  · refine .inl ⟨u, ?_⟩
    rw [upd_ne]
    · exact h
    · rcases w with w | ⟨xs, w⟩
      · exact ne_of_none h w
      · exact ne_of h w (fun z => nomatch z)
  · exact .inr h
theorem Sc.up {K : PySem.W.Frag} {H H' : Hp} {sc : Addr} {ns : List Int} (h : Sc K H sc ns) (s : Same H H') : Sc K H' sc ns := by
  rcases h with ⟨u, h⟩ | h
  · exact .inl ⟨u, s _ _ h⟩
  · exact .inr h
/-- the row of the draws: the script, the place, the mix, what is left of a great cell -/
def RowAt (K : PySem.W.Frag) (H : Hp) (r : Addr) : Prop := ∃ (sc : Addr) (ns : List Int) (p m g : Int), H r = some (.lst [.ref sc, .int p, .int m, .int g]) ∧ Sc K H sc ns ∧ ns.length ≤ 63 ∧ 0 ≤ p ∧ 0 ≤ m ∧ m < 2147483647
theorem RowAt.lst {K : PySem.W.Frag} {H : Hp} {r : Addr} (h : RowAt K H r) : ∃ acc, H r = some (.lst acc) := let ⟨_, _, _, _, _, e, _⟩ := h; ⟨_, e⟩
theorem RowAt.up {K : PySem.W.Frag} {H H' : Hp} {r : Addr} (h : RowAt K H r) (s : Same H H') : RowAt K H' r := by
  obtain ⟨sc, ns, p, m, g, e, q, rest⟩ := h
  exact ⟨sc, ns, p, m, g, s _ _ e, q.up s, rest⟩
theorem RowAt.put {K : PySem.W.Frag} {H : Hp} {r o : Addr} {x : HO} (h : RowAt K H r) (w : Wr H o) (n : o ≠ r) : RowAt K (upd H o x) r := by
  obtain ⟨sc, ns, p, m, g, e, q, rest⟩ := h
  exact ⟨sc, ns, p, m, g, by rw [upd_ne n.symm]; exact e, q.put w, rest⟩
/-- what stood but at r stands, also where a new cell is written -/
theorem but_new {r o : Addr} {H H' : Hp} {x : HO} (s : SameBut r H H') (h : H o = none) : SameBut r H (upd H' o x) := fun a u n e => by
  rw [upd_ne (ne_of_none e h)]
  exact s a u n e
section
variable {P : Program} {w : World} {K : PySem.W.Frag} {mg : Str → Option Value} {base : Heap}
def spDraw (K : PySem.W.Frag) : Sp := fun vs H Q _ => ∃ (r : Addr) (many : Int), vs = [.ref r, .int many] ∧ 1 ≤ many ∧ many ≤ 1000 ∧ RowAt K H r ∧ ∀ H' x, SameBut r H H' → RowAt K H' r → 0 ≤ x → x < many → Q (.int x) H'
theorem ok_l_taken (T : Txt K mg) : FnOk P w K mg base CX0 1 T.l_taken.f T.l_taken.fd ["_law_row", "_law_many"] (spDraw K) := by
  refine T.l_taken.F.ok sc_l_taken (fun vs H Q E h => ?_) (fun cdv A outer s H vs Q E hr h => ?_)
  · obtain ⟨_, _, rfl, _⟩ := h
    rfl
  · obtain ⟨r, many, rfl, m1, m2, ⟨sc, ns, p, m, g, er, hS, h63, p0, mm0, mm1⟩, q⟩ := h
    refine ⟨_, (pss_cons (ps_if (pt_cmpR op_gt (pe_ix ixL (pv 0) pe_int (fun _ _ => rfl)) pe_int (nomark _)) (pss_cons (ps_set (i := 2) sc_l_taken.nd rfl (by first | exact Or.inl rfl | exact Or.inr rfl) (pe_op op_mod (pe_callTy call_int1 (by rfl) T.b_int boot_int' (pa_cons (pe_ix ixL (pv 0) pe_int (fun _ _ => rfl)) pa_nil)) (pv 1)))
      (pss_cons (ps_asg (pe_op op_fdivN (pe_ix ixL (pv 0) pe_int (fun _ _ => rfl)) (pv 1)) (pg_sub (pv 0) pe_int set_list))
      (pss_one (ps_ret (pv 2))))) pss_nil)
      (pss_cons (ps_asg (pe_op op_add (pe_ix ixL (pv 0) pe_int (fun _ _ => rfl)) pe_int) (pg_sub (pv 0) pe_int set_list))
      (pss_cons (ps_if (pt_cmpR op_gt (pe_ix ixL (pv 0) pe_int (fun _ _ => rfl)) (pe_callB call_len_seq (by rfl) T.b_len PySem.boot_len (pa_cons (pe_ix ixL (pv 0) pe_int (fun _ _ => rfl)) pa_nil)) (nomark _)) (pss_cons (ps_asg (pe_op op_mod (pe_callTy call_int1 (by rfl) T.b_int boot_int' (pa_cons (pe_op op_add (pe_op op_mul (pe_ix ixL (pv 0) pe_int (fun _ _ => rfl)) pe_int) pe_int) pa_nil)) pe_int) (pg_sub (pv 0) pe_int set_list))
      (pss_one (ps_ret (pe_op op_mod (pe_callTy call_int1 (by rfl) T.b_int boot_int' (pa_cons (pe_op op_fdivN (pe_ix ixL (pv 0) pe_int (fun _ _ => rfl)) pe_int) pa_nil)) (pv 1))))) pss_nil)
      (pss_cons (ps_set (i := 3) sc_l_taken.nd rfl (by first | exact Or.inl rfl | exact Or.inr rfl) (pe_ix ix_list (pe_ix ixL (pv 0) pe_int (fun _ _ => rfl)) (pe_op op_sub (pe_ix ixL (pv 0) pe_int (fun _ _ => rfl)) pe_int) (fun _ _ => rfl)))
      (pss_cons (ps_asg (pe_op op_mod (pe_callTy call_int1 (by rfl) T.b_int boot_int' (pa_cons (pe_op op_add (pe_op op_add (pe_op op_mul (pe_ix ixL (pv 0) pe_int (fun _ _ => rfl)) pe_int) (pv 3)) pe_int) pa_nil)) pe_int) (pg_sub (pv 0) pe_int set_list))
      (pss_cons (ps_if (pt_cmpR op_ge (pv 3) (pe_op op_pow pe_int pe_int) (nomark _)) (pss_one (ps_asg (pe_op op_fdivN (pv 3) (pv 1)) (pg_sub (pv 0) pe_int set_list))) pss_nil)
      (pss_one (ps_ret (pe_op op_mod (pe_callTy call_int1 (by rfl) T.b_int boot_int' (pa_cons (pv 3) pa_nil)) (pv 1)))))))))), ?_⟩
    have a0 : ∀ (a b c d : V), atI [a, b, c, d] 0 = some a := fun a b c d => atI_nat (j := 0) rfl
    have a1 : ∀ (a b c d : V), atI [a, b, c, d] 1 = some b := fun a b c d => atI_nat (j := 1) rfl
    have a2 : ∀ (a b c d : V), atI [a, b, c, d] 2 = some c := fun a b c d => atI_nat (j := 2) rfl
    have a3 : ∀ (a b c d : V), atI [a, b, c, d] 3 = some d := fun a b c d => atI_nat (j := 3) rfl
    have dv : many ≠ 0 ∧ many.natAbs < 1073741824 := ⟨by omega, by omega⟩
    have rng : ∀ i : Int, 0 ≤ i % many ∧ i % many < many := fun i => ⟨Int.emod_nonneg _ (by omega), Int.emod_lt_of_pos _ (by omega)⟩
    have rng2 : ∀ i : Int, 0 ≤ i % 2147483647 ∧ i % 2147483647 < 2147483647 := fun i => ⟨Int.emod_nonneg _ (by omega), Int.emod_lt_of_pos _ (by omega)⟩
    refine ⟨_, rfl, r, _, _, _, rfl, rfl, er, a3 _ _ _ _, _, _, rfl, rfl, _, rfl, ite2 (fun hg => ?_) fun hg => ?_⟩
    · -- what is left of a great cell
      refine ⟨_, rfl, r, _, _, _, rfl, rfl, er, a3 _ _ _ _, .inl ⟨_, rfl, _, rfl, _, _, rfl, rfl, by show (0 : Int) < many; omega, ?_⟩⟩
      refine ⟨_, rfl, r, _, _, _, rfl, rfl, er, a3 _ _ _ _, _, rfl, _, _, rfl, rfl, dv, ?_⟩
      refine ⟨_, rfl, r, _, 3, 3, rfl, rfl, er, rfl, ?_⟩
      refine ⟨_, rfl, q _ _ but_put ⟨sc, ns, p, m, _, upd_same, hS.put (.inr ⟨_, er⟩), h63, p0, mm0, mm1⟩ (rng g).1 (rng g).2⟩
    · refine ⟨_, rfl, r, _, _, _, rfl, rfl, er, a1 _ _ _ _, _, _, rfl, rfl, ?_⟩
      refine ⟨_, rfl, r, _, 1, 1, rfl, rfl, er, rfl, ?_⟩
      have S1 : Sc K (upd H r (.lst [.ref sc, .int (p + 1), .int m, .int g])) sc ns := hS.put (.inr ⟨_, er⟩)
      have e1 : upd H r (.lst [.ref sc, .int (p + 1), .int m, .int g]) r = some (.lst [.ref sc, .int (p + 1), .int m, .int g]) := upd_same
      have b1 : SameBut r H (upd H r (.lst [.ref sc, .int (p + 1), .int m, .int g])) := but_put
      show (_ : Prop)
      refine ⟨_, rfl, r, _, _, _, rfl, rfl, e1, a1 _ _ _ _, _, rfl, r, _, _, _, rfl, rfl, e1, a0 _ _ _ _, sc, _, rfl, .inl S1.seq, _, _, rfl, rfl, _, rfl, ite2 (fun hl => ?_) fun hl => ?_⟩
      · refine ⟨_, rfl, r, _, _, _, rfl, rfl, e1, a2 _ _ _ _, m, 48271, rfl, rfl, .inl ⟨by omega, by omega⟩, _, _, rfl, rfl, .inl ⟨_, rfl, _, _, rfl, rfl, by show (0 : Int) < 2147483647; decide, ?_⟩⟩
        refine ⟨_, rfl, r, _, 2, 2, rfl, rfl, e1, rfl, ?_⟩
        have b2 : SameBut r (upd H r (.lst [.ref sc, .int (p + 1), .int m, .int g])) (upd (upd H r (.lst [.ref sc, .int (p + 1), .int m, .int g])) r (.lst [.ref sc, .int (p + 1), .int ((m * 48271 + 11) % 2147483647), .int g])) := but_put
        refine ⟨_, rfl, r, _, _, _, rfl, rfl, upd_same, a2 _ _ _ _, _, _, rfl, rfl, ⟨by decide, by decide⟩, .inl ⟨_, rfl, _, rfl, _, _, rfl, rfl, by show (0 : Int) < many; omega, ?_⟩⟩
        exact q _ _ (but_trans b1 b2) ⟨sc, ns, _, _, g, upd_same, S1.put (.inr ⟨_, e1⟩), h63, by omega, (rng2 _).1, (rng2 _).2⟩ (rng _).1 (rng _).2
      · have hlt : p < (ns.length : Int) := by
          have h' : ¬ ((ns.map V.int).length : Int) < p + 1 := fun z => hl (decide_eq_true z)
          rw [List.length_map] at h'
          omega
        obtain ⟨k, rfl⟩ : ∃ k : Nat, p = k := ⟨p.toNat, by omega⟩
        have hk : k < ns.length := by omega
        have ea : atI (ns.map V.int) ((k : Int) + 1 - 1) = some (.int (ns.getD k 0)) := by
          have : (k : Int) + 1 - 1 = k := by omega
          rw [this]
          exact atI_ints hk
        refine ⟨_, rfl, r, _, _, _, rfl, rfl, e1, a0 _ _ _ _, _, rfl, r, _, _, _, rfl, rfl, e1, a1 _ _ _ _, _, _, rfl, rfl, sc, _, _, _, rfl, rfl, S1.seq, ea, ?_⟩
        generalize ns.getD k 0 = cell
        refine ⟨_, rfl, r, _, _, _, rfl, rfl, e1, a2 _ _ _ _, m, 48271, rfl, rfl, .inl ⟨by omega, by omega⟩, _, rfl, _, _, rfl, rfl, _, _, rfl, rfl, .inl ⟨_, rfl, _, _, rfl, rfl, by show (0 : Int) < 2147483647; decide, ?_⟩⟩
        refine ⟨_, rfl, r, _, 2, 2, rfl, rfl, e1, rfl, ?_⟩
        have b2 : SameBut r (upd H r (.lst [.ref sc, .int (k + 1), .int m, .int g])) (upd (upd H r (.lst [.ref sc, .int (k + 1), .int m, .int g])) r (.lst [.ref sc, .int (k + 1), .int ((m * 48271 + cell + 11) % 2147483647), .int g])) := but_put
        have S2 : Sc K (upd (upd H r (.lst [.ref sc, .int (k + 1), .int m, .int g])) r (.lst [.ref sc, .int (k + 1), .int ((m * 48271 + cell + 11) % 2147483647), .int g])) sc ns := S1.put (.inr ⟨_, e1⟩)
        refine ⟨_, rfl, 10, 18, rfl, rfl, ⟨by decide, by decide, by decide⟩, _, _, rfl, rfl, _, rfl, ite2 (fun hc => ?_) fun hc => ?_⟩
        · refine ⟨_, rfl, _, rfl, _, _, rfl, rfl, dv, ?_⟩
          refine ⟨_, rfl, r, _, 3, 3, rfl, rfl, upd_same, rfl, ?_⟩
          refine ⟨_, rfl, .inl ⟨_, rfl, _, rfl, _, _, rfl, rfl, by show (0 : Int) < many; omega, ?_⟩⟩
          exact q _ _ (but_trans b1 (but_trans b2 but_put)) ⟨sc, ns, _, _, _, upd_same, S2.put (.inr ⟨_, upd_same⟩), h63, by omega, (rng2 _).1, (rng2 _).2⟩ (rng _).1 (rng _).2
        · refine ⟨_, rfl, .inl ⟨_, rfl, _, rfl, _, _, rfl, rfl, by show (0 : Int) < many; omega, ?_⟩⟩
          exact q _ _ (but_trans b1 b2) ⟨sc, ns, _, _, g, upd_same, S2, h63, by omega, (rng2 _).1, (rng2 _).2⟩ (rng _).1 (rng _).2

def spPick (K : PySem.W.Frag) : Sp := fun vs H Q _ => ∃ (r t : Addr) (ns : List Int), vs = [.ref r, .ref t] ∧ t ≠ r ∧ H t = some (.lst (ns.map V.int)) ∧ 0 < ns.length ∧ ns.length ≤ 1000 ∧ RowAt K H r ∧ ∀ H' x, SameBut r H H' → RowAt K H' r → x ∈ ns → Q (.int x) H'
theorem ok_l_pick (T : Txt K mg) : FnOk P w K mg base CX0 2 T.l_pick.f T.l_pick.fd ["_law_row", "_law_things"] (spPick K) := by
  refine T.l_pick.F.ok sc_l_pick (fun vs H Q E h => ?_) (fun cdv A outer s H vs Q E hr h => ?_)
  · obtain ⟨_, _, _, rfl, _⟩ := h
    rfl
  · obtain ⟨r, t, ns, rfl, hne, et, l0, l1, R, q⟩ := h
    refine ⟨_, (pss_one (ps_ret (pe_ix ixL (pv 1) (pe_call (ok_l_taken T) (hr.mono (by decide)) (by rfl) T.l_taken.m T.l_taken.F.kp T.l_taken.b .nil pass0 (pa_cons (pv 0) (pa_cons (pe_callB lenS (by rfl) T.b_len PySem.boot_len (pa_cons (pv 1) pa_nil)) pa_nil))) (fun _ _ => rfl)))), ?_⟩
    refine ⟨_, rfl, _, rfl, _, rfl, t, _, rfl, .inl et, r, _, rfl, ?_, ?_, R, fun H1 x b R1 x0 x1 => ?_⟩
    · rw [List.length_map]
      omega
    · rw [List.length_map]
      omega
    · rw [List.length_map] at x1
      obtain ⟨k, rfl⟩ : ∃ k : Nat, x = k := ⟨x.toNat, by omega⟩
      have hk : k < ns.length := by omega
      exact ⟨t, _, _, _, rfl, rfl, b _ _ hne et, atI_ints hk, q _ _ b R1 (List.mem_of_getElem? (getD_at hk))⟩
end
end K37
end

section
set_option Elab.async false
set_option linter.all false
set_option maxRecDepth 100000
set_option maxHeartbeats 4000000
/-! _law_alike of equal data. -/
namespace K37
open PySem PySem.Spec PyProof.Rows L2
/-- equal data, nested d deep at most -/
def AL : Nat → Hp → V → V → Prop
  | 0, _, _, _ => False
  | d + 1, H, v, w => (∃ i, v = .int i ∧ w = .int i) ∨ ∃ a b xs ys, v = .ref a ∧ w = .ref b ∧ H a = some (.tup xs) ∧ H b = some (.tup ys) ∧ xs.length ≤ 1000 ∧ Paired (AL d H) xs ys
theorem AL.up : ∀ {d : Nat} {H H' : Hp} {v w : V}, AL d H v w → Same H H' → AL d H' v w
  | 0, _, _, _, _, h, _ => h
  | d + 1, H, H', v, w, h, s => by
    rcases h with h | ⟨a, b, xs, ys, e1, e2, h1, h2, hz, hp⟩
    · exact .inl h
    · exact .inr ⟨a, b, xs, ys, e1, e2, s _ _ h1, s _ _ h2, hz, Paired.imp (fun _ _ r => AL.up r s) hp⟩
section
variable {P : Program} {w : World} {K : PySem.W.Frag} {mg : Str → Option Value} {base : Heap}
def spAlike (d : Nat) : Sp := fun vs H Q _ => ∃ v w, vs = [v, w] ∧ AL d H v w ∧ ∀ H', Same H H' → Q (.bl true) H'
theorem isi_tl_tup {K : PySem.W.Frag} : PySem.W.kitAny K (.type "tuple") [.type "tuple", .type "list"] = some true := kitAny_cons (b := true) (kit_ty (by decide +kernel)) (fun z => nomatch z) (fun _ => rfl)
theorem isi_tl_int {K : PySem.W.Frag} : PySem.W.kitAny K (.type "int") [.type "tuple", .type "list"] = some false := kitAny_cons (b := false) (kit_ty (by decide +kernel)) (fun _ => kitAny_cons (b := false) (kit_ty (by decide +kernel)) (fun _ => kitAny_nil) (fun z => nomatch z)) (fun z => nomatch z)
theorem ok_l_alike (T : Txt K mg) : ∀ d, FnOk P w K mg base CX0 d T.l_alike.f T.l_alike.fd ["_law_found", "_law_due"] (spAlike d)
  | 0 => ⟨fun vs H Q E h => by
      obtain ⟨_, _, rfl, _⟩ := h
      rfl, fun A outer s H args us vs Q E _ _ _ _ h => by
      obtain ⟨_, _, _, h, _⟩ := h
      exact h.elim⟩
  | d + 1 => by
    have IH := ok_l_alike T d
    refine T.l_alike.F.ok sc_l_alike (fun vs H Q E h => ?_) (fun cdv A outer s H vs Q E hr h => ?_)
    · obtain ⟨_, _, rfl, _⟩ := h
      rfl
    · obtain ⟨v, u, rfl, hal, q⟩ := h
      refine ⟨_, (pss_cons (ps_if (pt_val (pe_callB call_isiT (by rfl) T.b_isinstance boot_isi (pa_cons (pv 1) (pa_cons (pe_tup (pa_cons (pe_bltn (v := .ty "tuple") (by rfl) T.b_tuple boot_tuple' rfl) (pa_cons (pe_bltn (v := .ty "list") (by rfl) T.b_list boot_list' rfl) pa_nil))) pa_nil)))) (pss_cons (ps_if (PW.pt (pw_or (pt_not (pt_val (pe_callB call_isiT (by rfl) T.b_isinstance boot_isi (pa_cons (pv 0) (pa_cons (pe_tup (pa_cons (pe_bltn (v := .ty "tuple") (by rfl) T.b_tuple boot_tuple' rfl) (pa_cons (pe_bltn (v := .ty "list") (by rfl) T.b_list boot_list' rfl) pa_nil))) pa_nil))))) (pw_or1 (pt_cmpR op_ne (pe_callB call_isi (by rfl) T.b_isinstance boot_isi (pa_cons (pv 0) (pa_cons (pe_bltn (v := .ty "list") (by rfl) T.b_list boot_list' rfl) pa_nil))) (pe_callB call_isi (by rfl) T.b_isinstance boot_isi (pa_cons (pv 1) (pa_cons (pe_bltn (v := .ty "list") (by rfl) T.b_list boot_list' rfl) pa_nil))) (nomark _))))) (pss_one (ps_ret pe_bl)) pss_nil)
      (pss_cons (ps_if (pt_cmpR op_ne (pe_callB lenS (by rfl) T.b_len PySem.boot_len (pa_cons (pv 0) pa_nil)) (pe_callB lenS (by rfl) T.b_len PySem.boot_len (pa_cons (pv 1) pa_nil)) (nomark _)) (pss_one (ps_ret pe_bl)) pss_nil)
      (pss_one (ps_ret (pe_cmpR (op_eqD hr.units) (pe_lc (own := [("_law_k", 2)]) (g := (gName 2)) rfl sc_l_alike.nd (pi_range1 (by rfl) T.b_range (pa_cons (pe_callB lenS (by rfl) T.b_len PySem.boot_len (pa_cons (pv 1) pa_nil)) pa_nil)) (blkOk_by (N := N_l_alike) (sc := defScope s_l_alike) (by decide +kernel)) (fun _ _ _ _ _ => (pg_name (i := 2) sc_l_alike.nd rfl (by first | exact Or.inl rfl | exact Or.inr rfl))) (fun _ _ _ _ _ => (pts_one (pt_not (pt_val (pe_call IH hr (by rfl) T.l_alike.m T.l_alike.F.kp T.l_alike.b .nil pass0 (pa_cons (pe_ix ixT (pv 0) (pv 2) (fun _ _ => rfl)) (pa_cons (pe_ix ixT (pv 1) (pv 2) (fun _ _ => rfl)) pa_nil)))))))
        (fun _ _ _ _ _ => (pv 2))) (pe_lst pa_nil) (nomark _)))))) pss_nil)
      (pss_cons (ps_if (PW.pt (pw_or (pt_cmp (pc_isN (pv 1)) rfl) (pw_or1 (pt_val (pe_callB call_isi (by rfl) T.b_isinstance boot_isi (pa_cons (pv 1) (pa_cons (pe_bltn (v := .ty "str") (by rfl) T.b_str boot_str' rfl) pa_nil))))))) (pss_one ps_never) pss_nil)
      (pss_one (ps_ret (pe_and (pe_callB call_isi (by rfl) T.b_isinstance boot_isi (pa_cons (pv 0) (pa_cons (pe_bltn (v := .ty "int") (by rfl) T.b_int boot_int' rfl) pa_nil))) (pe_and (pe_cmpR op_eq (pe_callB call_isi (by rfl) T.b_isinstance boot_isi (pa_cons (pv 0) (pa_cons (pe_bltn (v := .ty "bool") (by rfl) T.b_bool boot_bool rfl) pa_nil))) (pe_callB call_isi (by rfl) T.b_isinstance boot_isi (pa_cons (pv 1) (pa_cons (pe_bltn (v := .ty "bool") (by rfl) T.b_bool boot_bool rfl) pa_nil))) (nomark _)) (pe_one (pe_cmpR op_eq (pv 0) (pv 1) (nomark _))))))))), ?_⟩
      have pcl : Paired ClsV [V.ty "tuple", V.ty "list"] [Value.type "tuple", Value.type "list"] := .cons (.ty _) (.cons (.ty _) .nil)
      rcases hal with ⟨i, rfl, rfl⟩ | ⟨a, b, xs, ys, rfl, rfl, ha, hb, hz, hp⟩
      · refine ⟨_, rfl, by show 2 ≤ sizeLine; decide, fun t1 n1 => ?_⟩
        have s1 : Same H (upd H t1 (.tup [.ty "tuple", .ty "list"])) := same_new n1
        refine ⟨_, t1, _, _, _, false, rfl, upd_same, pcl, .base (.int i), isi_tl_int, _, rfl, ifF rfl ?_⟩
        refine ⟨_, rfl, _, rfl, ifF rfl ⟨_, rfl, _, _, _, _, false, rfl, .ty "str", .base (.int i), kit_ty (by decide +kernel), _, rfl, ifF rfl ?_⟩⟩
        refine ⟨_, rfl, _, _, _, _, true, rfl, .ty "int", .base (.int i), kit_ty (by decide +kernel), _, rfl, ifT rfl ?_⟩
        refine ⟨_, rfl, _, _, _, _, false, rfl, .ty "bool", .base (.int i), kit_ty (by decide +kernel), _, rfl, _, _, _, _, false, rfl, .ty "bool", .base (.int i), kit_ty (by decide +kernel), rfl, _, rfl, ifT rfl ?_⟩
        refine ⟨_, rfl, _, rfl, rfl, ?_⟩
        rw [decide_eq_true rfl]
        exact q _ s1
      · refine ⟨_, rfl, by show 2 ≤ sizeLine; decide, fun t1 n1 => ?_⟩
        have s1 : Same H (upd H t1 (.tup [.ty "tuple", .ty "list"])) := same_new n1
        refine ⟨_, t1, _, _, _, true, rfl, upd_same, pcl, .base (.tup (s1 _ _ hb)), isi_tl_tup, _, rfl, ifT rfl ?_⟩
        refine ⟨_, rfl, by show 2 ≤ sizeLine; decide, fun t2 n2 => ?_⟩
        have s2 := Same.trans s1 (same_new (o := .tup [.ty "tuple", .ty "list"]) n2)
        refine ⟨_, t2, _, _, _, true, rfl, upd_same, pcl, .base (.tup (s2 _ _ ha)), isi_tl_tup, _, rfl, ifF rfl ?_⟩
        refine ⟨_, rfl, _, _, _, _, false, rfl, .ty "list", .base (.tup (s2 _ _ ha)), kit_ty (by decide +kernel), _, rfl, _, _, _, _, false, rfl, .ty "list", .base (.tup (s2 _ _ hb)), kit_ty (by decide +kernel), rfl, _, rfl, ifF rfl ?_⟩
        have el := Paired.length hp
        refine ⟨_, rfl, a, _, rfl, .inr (s2 _ _ ha), _, rfl, b, _, rfl, .inr (s2 _ _ hb), rfl, _, rfl, ifF ?_ ?_⟩
        · rw [el, decide_eq_true rfl]
          rfl
        refine ⟨_, rfl, b, _, rfl, .inr (s2 _ _ hb), _, rfl, by omega, by omega, fun D hD => ?_⟩
        have en : ((ys.length : Int)).toNat = ys.length := Int.toNat_natCast _
        show ∃ W, _
        rw [en]
        refine lc_dat (List.range ys.length) walk_rangeL (fun _ => (none : Option Int)) NI hD stab_NI (by rw [List.length_range]; omega) (fun _ _ => trivial) (fun i c x H1 H2 Q2 Qn hpp s3 hacc y k kn => ?_) fun H' acc s3 e pr => ?_
        · obtain ⟨rfl, rfl, hi⟩ := yfn_range hpp y
          have hy : ys[c]? = some ys[c] := List.getElem?_eq_getElem hi
          obtain ⟨xv, hx, hxy⟩ := paired_get' hp hy
          have s4 := Same.trans s2 s3
          refine ⟨rfl, _, rfl, _, rfl, a, _, _, _, rfl, rfl, s4 _ _ ha, atI_nat hx, _, rfl, _, rfl, b, _, _, _, rfl, rfl, s4 _ _ hb, atI_nat hy, _, _, rfl, AL.up hxy s4, fun H5 s5 => ?_⟩
          exact ⟨true, rfl, ifF rfl (kn _ rfl s5)⟩
        · have e0 : (List.range ys.length).filterMap (fun _ => (none : Option Int)) = [] := by simp
          rw [e0] at pr
          cases pr
          refine ⟨Nat.zero_le _, fun p2 np2 => ?_⟩
          have s4 : Same H' (upd H' p2 (.lst [])) := same_new np2
          refine ⟨.list [], .list [], .lst (SqL.of (s4 _ _ e)) .nil, .lst (SqL.of upd_same) .nil, rfl, rfl, ?_⟩
          have ev : PyData.eqv (.list []) (.list []) = true := by simp [PyData.eqv, PyData.eqvAll]
          rw [ev]
          exact q _ (Same.trans s2 (Same.trans s3 s4))
end
end K37
end

section
set_option Elab.async false
set_option linter.all false
set_option maxRecDepth 100000
set_option maxHeartbeats 4000000
/-! _law_street. -/
namespace K37
open PySem PySem.Spec PyProof.Rows L2
theorem count_le {n p : Int} : ∀ (l : List Int) (k : Nat), (∀ (j : Nat) x, l[j]? = some x → x ≤ n - 1 - (k + j)) → ((l.filter fun h => decide (p ≤ h)).length : Int) ≤ max 0 (n - p - k)
  | [], k, _ => by
    show ((0 : Nat) : Int) ≤ _
    omega
  | x :: t, k, h => by
    have ih := count_le (n := n) (p := p) t (k + 1) fun j y hy => by
      have := h (j + 1) y (by simpa using hy)
      omega
    have h0 := h 0 x rfl
    by_cases e : p ≤ x
    · rw [List.filter_cons_of_pos (by simpa using e), List.length_cons]
      omega
    · rw [List.filter_cons_of_neg (by simpa using e)]
      omega
theorem fits_of {n : Int} {l hs : List Int} (hp : hs.Perm l) (h : ∀ (j : Nat) x, l[j]? = some x → x ≤ n - 1 - j) : Fits n hs := fun p hpn => by
  have c := count_le (n := n) (p := (p : Int)) l 0 fun j x hx => by
    have := h j x hx
    omega
  have e : (hs.filter fun h => decide ((p : Int) ≤ h)).length = (l.filter fun h => decide ((p : Int) ≤ h)).length := (hp.filter _).length_eq
  rw [e]
  omega
theorem idx_nat {x : Int} {n : Nat} (h0 : 0 ≤ x) (h1 : x < (n : Int)) : seqIndex? x n = some x.toNat := by
  unfold seqIndex?
  have e : ¬ x < 0 := by omega
  simp only [if_neg e]
  have e2 : (decide (0 ≤ x) && decide (x < (n : Int))) = true := by simp [h0, h1]
  rw [e2]
  rfl
theorem perm_erase : ∀ {l : List Int} {k : Nat} {x : Int}, l[k]? = some x → (x :: l.eraseIdx k).Perm l
  | [], k, x, h => by simp at h
  | y :: l, 0, x, h => by
    simp at h
    subst h
    exact List.Perm.refl _
  | y :: l, k + 1, x, h => by
    have := perm_erase (l := l) (k := k) (x := x) (by simpa using h)
    exact (List.Perm.swap y x _).trans (this.cons y)
theorem perm_pop {ml hl : List Int} {k : Nat} {x : Int} (h : hl[k]? = some x) : (ml ++ [x] ++ hl.eraseIdx k).Perm (ml ++ hl) := by
  rw [List.append_assoc]
  exact List.Perm.append_left ml (perm_erase h)
theorem map_erase : ∀ (l : List Int) (k : Nat), (l.map V.int).eraseIdx k = (l.eraseIdx k).map V.int
  | [], _ => rfl
  | _ :: _, 0 => rfl
  | x :: l, k + 1 => by
    show V.int x :: (l.map V.int).eraseIdx k = _
    rw [map_erase l k]
    rfl
theorem but_free {r o : Addr} {H H' : Hp} (s : SameBut r H H') (n : o ≠ r) (h : H' o = none) : H o = none := by
  cases e : H o with
  | none => rfl
  | some u => rw [s _ _ n e] at h; cases h
section
variable {P : Program} {w : World} {K : PySem.W.Frag} {mg : Str → Option Value} {base : Heap}
def spStreet (K : PySem.W.Frag) : Sp := fun vs H Q _ => ∃ (r : Addr), vs = [.ref r, .int 5, .int 10] ∧ RowAt K H r ∧ ∀ H' v n hs, SameBut r H H' → RowAt K H' r → StrAt H' v n hs → OkStreet n hs → hs.length ≤ 5 → Q v H'
theorem ok_l_street (T : Txt K mg) : FnOk P w K mg base CX0 2 T.l_street.f T.l_street.fd ["_law_row", "_law_cars", "_law_places"] (spStreet K) := by
  refine T.l_street.F.ok sc_l_street (fun vs H Q E h => ?_) (fun cdv A outer s H vs Q E hr h => ?_)
  · obtain ⟨_, rfl, _⟩ := h
    rfl
  · obtain ⟨r, rfl, R, q⟩ := h
    refine ⟨_, (pss_cons (ps_set (i := 3) sc_l_street.nd rfl (by first | exact Or.inl rfl | exact Or.inr rfl) (pe_op op_add pe_int (pe_call (ok_l_taken T) (hr.mono (by decide)) (by rfl) T.l_taken.m T.l_taken.F.kp T.l_taken.b .nil pass0 (pa_cons (pv 0) (pa_cons (pv 1) pa_nil)))))
      (pss_cons (ps_set (i := 4) sc_l_street.nd rfl (by first | exact Or.inl rfl | exact Or.inr rfl) (pe_callB (call_max2 rfl) (by rfl) T.b_max boot_max' (pa_cons (pv 3) (pa_cons (pe_op op_add pe_int (pe_call (ok_l_taken T) (hr.mono (by decide)) (by rfl) T.l_taken.m T.l_taken.F.kp T.l_taken.b .nil pass0 (pa_cons (pv 0) (pa_cons (pv 2) pa_nil)))) pa_nil))))
      (pss_cons (ps_par (i := 5) (j := 6) (by rfl) sc_l_street.nd rfl rfl (by decide) rfl rfl (pa_cons (pe_lst pa_nil) (pa_cons (pv 4) pa_nil)) (by rfl))
      (pss_cons (ps_for PassesOwn.never rfl (pi_range1 (by rfl) T.b_range (pa_cons (pv 3) pa_nil)) (pg_name (i := 7) sc_l_street.nd rfl (by first | exact Or.inl rfl | exact Or.inr rfl))
      (pss_cons (ps_set (i := 6) sc_l_street.nd rfl (by first | exact Or.inl rfl | exact Or.inr rfl) (pe_op op_sub (pv 6) pe_int))
      (pss_one (ps_expr (bmK K PySem.F.plainAttrs_list PySem.F.slot_list_append PySem.F.type_list_append mt_append (pv 5) (pa_cons (pe_call (ok_l_taken T) (hr.mono (by decide)) (by rfl) T.l_taken.m T.l_taken.F.kp T.l_taken.b .nil pass0 (pa_cons (pv 0) (pa_cons (pe_op op_add (pv 6) pe_int) pa_nil))) pa_nil))))))
      (pss_cons (ps_set (i := 8) sc_l_street.nd rfl (by first | exact Or.inl rfl | exact Or.inr rfl) (pe_lst pa_nil))
      (pss_cons (ps_for PassesOwn.never rfl (pi_range1 (by rfl) T.b_range (pa_cons (pv 3) pa_nil)) (pg_name (i := 7) sc_l_street.nd rfl (by first | exact Or.inl rfl | exact Or.inr rfl))
      (pss_one (ps_expr (bmK K PySem.F.plainAttrs_list PySem.F.slot_list_append PySem.F.type_list_append mt_append (pv 8) (pa_cons (bmK K PySem.F.plainAttrs_list PySem.F.slot_list_pop PySem.F.type_list_pop mt_popAt (pv 5) (pa_cons (pe_call (ok_l_taken T) (hr.mono (by decide)) (by rfl) T.l_taken.m T.l_taken.F.kp T.l_taken.b .nil pass0 (pa_cons (pv 0) (pa_cons (pe_callB lenS (by rfl) T.b_len PySem.boot_len (pa_cons (pv 5) pa_nil)) pa_nil))) pa_nil)) pa_nil)))))
      (pss_one (ps_ret (pe_tup (pa_cons (pv 4) (pa_cons (pe_callTy call_tuple_of (by rfl) T.b_tuple boot_tuple' (pa_cons (pv 8) pa_nil)) pa_nil))))))))))), ?_⟩
    refine ⟨_, rfl, _, rfl, r, 5, rfl, by omega, by omega, R, fun H1 x1 b1 R1 x10 x15 => ?_⟩
    refine ⟨1, x1, rfl, rfl, ?_⟩
    refine ⟨_, rfl, _, rfl, _, rfl, r, 10, rfl, by omega, by omega, R1, fun H2 x2 b2 R2 x20 x210 => ?_⟩
    refine ⟨1, x2, rfl, rfl, _, _, rfl, ?_⟩
    dsimp only
    generalize hm : 1 + x1 = many
    generalize hn : (if 1 + x2 > many then 1 + x2 else many) = n
    have hmn : many ≤ n ∧ n ≤ 10 := by
      rw [← hn]
      by_cases z : 1 + x2 > many
      · rw [if_pos z]
        omega
      · rw [if_neg z]
        omega
    obtain ⟨hmn1, hmn2⟩ := hmn
    obtain ⟨c, hc⟩ : ∃ c : Nat, many = c := ⟨many.toNat, by omega⟩
    subst hc
    have c1 : 1 ≤ c := by omega
    have c5 : c ≤ 5 := by omega
    refine ⟨Nat.zero_le _, fun o no => ?_⟩
    have b12 := but_trans b1 b2
    have hor : o ≠ r := by
      obtain ⟨acc, e⟩ := R2.lst
      exact fun z => by rw [z, e] at no; cases no
    refine ⟨_, rfl, _, _, rfl, ?_⟩
    refine ⟨_, rfl, (c : Int), rfl, by omega, by omega, ?_⟩
    rw [Int.toNat_natCast]
    refine for_it walk_range (fun i σ H3 => (∃ y7, σ = [some (.ref r), some (.int 5), some (.int 10), some (.int c), some (.int n), some (.ref o), some (.int (n - i)), y7, none]) ∧ SameBut r H2 H3 ∧ RowAt K H3 r ∧ ∃ hl : List Int, H3 o = some (.lst (hl.map V.int)) ∧ hl.length = i ∧ ∀ (j : Nat) x, hl[j]? = some x → 0 ≤ x ∧ x ≤ n - 1 - j)
      ⟨⟨_, by rw [Int.natCast_zero, Int.sub_zero]; rfl⟩, same_but (same_new no), R2.up (same_new no), [], upd_same, rfl, fun j x h => by simp at h⟩ (fun _ _ _ _ _ => trivial) (fun i x σ H3 H4 hi h y => ?_) fun σ H3 h => ?_
    · obtain ⟨⟨y7, rfl⟩, b3, R3, hl, eo, ll, hb⟩ := h
      obtain ⟨rfl, rfl⟩ := y
      refine ⟨_, rfl, n - i, 1, rfl, rfl, ?_⟩
      refine ⟨_, rfl, .inl ⟨rfl, _, SqL.of eo⟩, ?_⟩
      refine ⟨_, rfl, _, rfl, n - i - 1, 1, rfl, rfl, r, n - i - 1 + 1, rfl, by omega, by omega, R3, fun H5 x5 b5 R5 x50 x51 => ?_⟩
      have eo5 := b5 _ _ hor eo
      refine ⟨o, _, _, rfl, rfl, eo5, ?_, ?_⟩
      · rw [List.length_map, ll]
        exact Nat.lt_of_lt_of_le hi (Nat.le_trans c5 (by decide))
      · refine ⟨⟨some (.int (0 + (i : Int))), ?_⟩, but_new (but_trans b3 b5) no, R5.put (.inr ⟨_, eo5⟩) hor, hl ++ [x5], ?_, by simp [ll], fun j x hx => ?_⟩
        · have e1 : n - ((i + 1 : Nat) : Int) = n - i - 1 := by omega
          rw [e1]
          rfl
        · rw [upd_same, List.map_append]
          rfl
        · by_cases hj : j < hl.length
          · rw [List.getElem?_append_left hj] at hx
            exact hb j x hx
          · rw [List.getElem?_append_right (by omega)] at hx
            have hz : j - hl.length = 0 := by
              cases hq : j - hl.length with
              | zero => rfl
              | succ z => rw [hq] at hx; simp at hx
            rw [hz] at hx
            simp at hx
            subst hx
            omega
    · obtain ⟨⟨y7, rfl⟩, b3, R3, hl0, eo, ll, hb⟩ := h
      refine ⟨Nat.zero_le _, fun m nm => ?_⟩
      have b23 := but_trans b12 b3
      have hmr : m ≠ r := by
        obtain ⟨acc, e⟩ := R3.lst
        exact fun z => by rw [z, e] at nm; cases nm
      have hmo : o ≠ m := fun z => by rw [← z, eo] at nm; cases nm
      refine ⟨_, rfl, (c : Int), rfl, by omega, by omega, ?_⟩
      rw [Int.toNat_natCast]
      refine for_it walk_range (fun i σ H5 => (∃ y6 y7, σ = [some (.ref r), some (.int 5), some (.int 10), some (.int c), some (.int n), some (.ref o), y6, y7, some (.ref m)]) ∧ RowAt K H5 r ∧ SameBut r H H5 ∧ ∃ hl ml : List Int, H5 o = some (.lst (hl.map V.int)) ∧ H5 m = some (.lst (ml.map V.int)) ∧ hl.length + i = c ∧ (ml ++ hl).Perm hl0)
        ⟨⟨_, _, rfl⟩, R3.up (same_new nm), ?_, hl0, [], by rw [upd_ne hmo]; exact eo, upd_same, by omega, List.Perm.refl _⟩ (fun _ _ _ _ _ => trivial) (fun i x σ H5 H6 hi h y => ?_) fun σ H5 h => ?_
      · exact fun a u n e => same_new nm _ _ (b23 a u n e)
      · obtain ⟨⟨y6, y8, rfl⟩, R5, b5, hl, ml, eo5, em5, ll5, hp⟩ := h
        obtain ⟨rfl, rfl⟩ := y
        have lm : ml.length = i := by
          have := hp.length_eq
          rw [List.length_append] at this
          omega
        refine ⟨_, rfl, .inl ⟨rfl, _, SqL.of em5⟩, ?_⟩
        refine ⟨_, rfl, .inl ⟨rfl, _, SqL.of eo5⟩, ?_⟩
        refine ⟨_, rfl, _, rfl, o, _, rfl, .inl eo5, r, _, rfl, ?_, ?_, R5, fun H7 x7 b7 R7 x70 x71 => ?_⟩
        · rw [List.length_map]
          omega
        · rw [List.length_map]
          omega
        · rw [List.length_map] at x71
          have eo7 := b7 _ _ hor eo5
          have em7 := b7 _ _ hmr em5
          obtain ⟨k, rfl⟩ : ∃ k : Nat, x7 = k := ⟨x7.toNat, by omega⟩
          have hk : k < hl.length := by omega
          have hk2 := getD_at hk
          generalize hl.getD k 0 = z at hk2
          refine ⟨o, _, (k : Int), k, _, rfl, rfl, eo7, by omega, by omega, ?_, at_ints hk2, ?_⟩
          · rw [List.length_map]
            exact idx_nat (by omega) x71
          · refine ⟨m, _, _, rfl, rfl, by rw [upd_ne hmo.symm]; exact em7, ?_, ?_⟩
            · rw [List.length_map, lm]
              exact Nat.lt_of_lt_of_le hi (Nat.le_trans c5 (by decide))
            · have R8 := R7.put (x := .lst ((hl.map V.int).eraseIdx k)) (.inr ⟨_, eo7⟩) hor
              have em8 : upd H7 o (.lst ((hl.map V.int).eraseIdx k)) m = some (.lst (ml.map V.int)) := by
                rw [upd_ne hmo.symm]
                exact em7
              refine ⟨⟨_, _, rfl⟩, R8.put (.inr ⟨_, em8⟩) hmr, ?_, hl.eraseIdx k, ml ++ [z], ?_, ?_, ?_, (perm_pop hk2).trans hp⟩
              · exact but_new (but_new (but_trans b5 b7) (but_free b12 hor no)) (but_free b23 hmr nm)
              · rw [upd_ne hmo, upd_same, map_erase]
              · rw [upd_same, List.map_append]
                rfl
              · rw [List.length_eraseIdx, if_pos hk]
                omega
      · obtain ⟨⟨y6, y8, rfl⟩, R5, b5, hl, ml, eo5, em5, ll5, hp⟩ := h
        have e0 : hl = [] := List.eq_nil_of_length_eq_zero (by omega)
        subst e0
        rw [List.append_nil] at hp
        refine ⟨_, rfl, _, rfl, m, _, rfl, .inl ⟨SqL.of em5, fun l nl => ⟨by show 2 ≤ sizeLine; decide, fun u nu => ?_⟩⟩⟩
        have s5 : Same H5 (upd H5 l (.tup (ml.map V.int))) := same_new nl
        have s6 : Same (upd H5 l (.tup (ml.map V.int))) (upd (upd H5 l (.tup (ml.map V.int))) u (.tup [.int n, .ref l])) := same_new nu
        have s56 := Same.trans s5 s6
        have lm : ml.length = c := hp.length_eq.trans ll
        refine q _ _ n ml (but_trans b5 (same_but s56)) (R5.up s56) ⟨u, l, rfl, upd_same, s6 _ _ upd_same⟩ ⟨by omega, by omega, by omega, by omega, fun h hh => ?_, fits_of hp fun j x hx => (hb j x hx).2⟩ (by omega)
        obtain ⟨j, hj⟩ := List.getElem?_of_mem (hp.mem_iff.mp hh)
        have := hb j h hj
        omega
end
end K37
end

section
set_option Elab.async false
set_option linter.all false
set_option maxRecDepth 100000
set_option maxHeartbeats 1000000
/-! The plain part of _law_state: cars that are placed by their homes from behind. -/
namespace K37
open PySem PySem.Spec PyProof.Rows L2
/-- how a car is written in the law's list -/
def carRow (hs : List Int) (c : Nat) : List Int := [0 - hs.getD c 0, (c : Int)]
theorem carRow_inj {hs : List Int} {a b : Nat} (h : carRow hs a = carRow hs b) : a = b := by
  injection h with _ h
  injection h with h _
  omega
theorem nodup_le : ∀ (L U : List Int), L.Nodup → (∀ x ∈ L, x ∈ U) → L.length ≤ U.length
  | [], _, _, _ => Nat.zero_le _
  | x :: L, U, hn, h => by
    obtain ⟨h1, h2⟩ := List.nodup_cons.mp hn
    have hx := h x List.mem_cons_self
    have ih := nodup_le L (U.erase x) h2 fun y hy => (List.mem_erase_of_ne (fun z => h1 (by rw [← z]; exact hy))).mpr (h y (List.mem_cons_of_mem _ hy))
    have := List.length_erase_of_mem hx
    have hp := List.length_pos_of_mem hx
    rw [List.length_cons]
    omega
/-- the places of a street at a turn -/
structure Placed (n : Int) (hs : List Int) (M : List (List Int)) (i : Nat) (F : List V) (U : List Int) : Prop where
  len : F.length = hs.length
  cell : ∀ k : Nat, k < hs.length → (F[k]? = some V.non ∧ ∀ j : Nat, j < i → M[j]? ≠ some (carRow hs k)) ∨ ∃ p : Int, F[k]? = some (V.int p) ∧ hs.getD k 0 ≤ p ∧ p ≤ n - 1 ∧ p ∈ U
  inj : ∀ (k k' : Nat) (p : Int), F[k]? = some (V.int p) → F[k']? = some (V.int p) → k = k'
  used : U.length ≤ i
theorem Placed.start {n : Int} {hs : List Int} {M : List (List Int)} : Placed n hs M 0 (List.replicate hs.length .non) [] := by
  refine ⟨by simp, fun k hk => .inl ⟨by simp [hk], fun j hj => by omega⟩, fun k k' p h => ?_, Nat.le_refl _⟩
  rw [List.getElem?_replicate] at h
  split at h
  · cases h
  · cases h
theorem Placed.flat {n : Int} {hs : List Int} {M : List (List Int)} {i : Nat} {F : List V} {U : List Int} (P : Placed n hs M i F U) : ∀ v ∈ F, v = .non ∨ ∃ p, v = .int p ∧ p ∈ U := fun v hv => by
  obtain ⟨k, hk⟩ := List.getElem?_of_mem hv
  have hl : k < hs.length := by
    rw [← P.len]
    exact (List.getElem?_eq_some_iff.mp hk).1
  rcases P.cell k hl with ⟨e, _⟩ | ⟨p, e, _, _, hp⟩
  · rw [hk] at e
    exact .inl (Option.some.inj e)
  · rw [hk] at e
    exact .inr ⟨p, Option.some.inj e, hp⟩
theorem Placed.step {n : Int} {hs : List Int} {M : List (List Int)} {i : Nat} {F : List V} {U : List Int} (P : Placed n hs M i F U) {c : Nat} (hc : c < hs.length) (hM : M[i]? = some (carRow hs c)) {x : Int} (h1 : hs.getD c 0 ≤ x) (h2 : x ≤ n - 1) (hx : V.int x ∉ F) :
    Placed n hs M (i + 1) (F.set c (.int x)) (x :: U) := by
  have hcF : c < F.length := by rw [P.len]; exact hc
  refine ⟨by rw [List.length_set]; exact P.len, fun k hk => ?_, fun k k' p e e' => ?_, ?_⟩
  · by_cases e : k = c
    · subst e
      exact .inr ⟨x, List.getElem?_set_self hcF, h1, h2, List.mem_cons_self⟩
    · rw [List.getElem?_set_ne (Ne.symm e)]
      rcases P.cell k hk with ⟨q, hj⟩ | ⟨p, q, a, b, hp⟩
      · refine .inl ⟨q, fun j hji => ?_⟩
        by_cases ej : j = i
        · rw [ej, hM]
          exact fun z => e (carRow_inj (Option.some.inj z)).symm
        · exact hj j (by omega)
      · exact .inr ⟨p, q, a, b, List.mem_cons_of_mem _ hp⟩
  · by_cases ek : k = c
    · by_cases ek' : k' = c
      · omega
      · subst ek
        rw [List.getElem?_set_self hcF] at e
        rw [List.getElem?_set_ne (Ne.symm ek')] at e'
        cases e
        exact absurd (List.mem_of_getElem? e') hx
    · rw [List.getElem?_set_ne (Ne.symm ek)] at e
      by_cases ek' : k' = c
      · subst ek'
        rw [List.getElem?_set_self hcF] at e'
        cases e'
        exact absurd (List.mem_of_getElem? e) hx
      · rw [List.getElem?_set_ne (Ne.symm ek')] at e'
        exact P.inj k k' p e e'
  · rw [List.length_cons]
    have := P.used
    omega
theorem row_le {a b c d : Int} (h : [a, b] ≤ [c, d]) : a ≤ c := by
  rcases Int.lt_or_le c a with l | l
  · exact absurd (List.cons_lt_cons_iff.mpr (.inl l)) h
  · exact l
theorem hs_range (hs : List Int) : (List.range hs.length).map (fun c => hs.getD c 0) = hs := by
  refine List.ext_getElem? fun i => ?_
  by_cases h : i < hs.length
  · rw [List.getElem?_map, List.getElem?_range h, getD_at h]
    rfl
  · rw [List.getElem?_eq_none (by simpa using h), List.getElem?_eq_none (by simpa using h)]
/-- room is left: the cars so far have homes no nearer -/
theorem room_left {n : Int} {hs : List Int} (O : OkStreet n hs) {M : List (List Int)} (mp : M.Perm ((List.range hs.length).map (carRow hs))) (mu : M.Pairwise (· ≤ ·)) {i c : Nat} (hc : c < hs.length) (hM : M[i]? = some (carRow hs c)) : (i : Int) < n - hs.getD c 0 := by
  have hmem : hs.getD c 0 ∈ hs := List.mem_of_getElem? (getD_at hc)
  obtain ⟨o1, o2⟩ := O.at_ _ hmem
  generalize hh : hs.getD c 0 = h at *
  obtain ⟨hN, rfl⟩ : ∃ k : Nat, h = k := ⟨h.toNat, by omega⟩
  have fit := O.fits hN (by omega)
  let q : List Int → Bool := fun z => decide (z.getD 0 0 ≤ 0 - (hN : Int))
  have himl : i < M.length := (List.getElem?_eq_some_iff.mp hM).1
  have e1 : (M.take (i + 1)).filter q = M.take (i + 1) := List.filter_eq_self.mpr fun z hz => by
    obtain ⟨j, hj⟩ := List.getElem?_of_mem hz
    have hjl : j < i + 1 := by
      have := (List.getElem?_eq_some_iff.mp hj).1
      rw [List.length_take] at this
      omega
    rw [List.getElem?_take_of_lt hjl] at hj
    have hzM := List.mem_of_getElem? hj
    obtain ⟨c', hc', rfl⟩ := List.mem_map.mp (mp.mem_iff.mp hzM)
    refine decide_eq_true ?_
    show 0 - hs.getD c' 0 ≤ _
    by_cases ej : j = i
    · rw [ej, hM] at hj
      have := carRow_inj (Option.some.inj hj)
      rw [← this, hh]
      exact Int.le_refl _
    · have hjm : j < M.length := by omega
      have le := List.pairwise_iff_getElem.mp mu j i hjm himl (by omega)
      rw [(List.getElem?_eq_some_iff.mp hj).2, (List.getElem?_eq_some_iff.mp hM).2] at le
      have := row_le le
      rw [hh] at this
      exact this
  have e2 : (M.take (i + 1)).length ≤ (M.filter q).length := by
    rw [← e1]
    have e3 : M.filter q = (M.take (i + 1)).filter q ++ (M.drop (i + 1)).filter q := by rw [← List.filter_append, List.take_append_drop]
    rw [e3, List.length_append]
    omega
  have e4 : (M.filter q).length = (hs.filter fun x => decide ((hN : Int) ≤ x)).length := by
    rw [(mp.filter q).length_eq, List.filter_map, List.length_map]
    have e5 : (List.range hs.length).filter (q ∘ carRow hs) = (List.range hs.length).filter ((fun x => decide ((hN : Int) ≤ x)) ∘ fun c => hs.getD c 0) := List.filter_congr fun c _ => by
      show decide (0 - hs.getD c 0 ≤ 0 - (hN : Int)) = decide ((hN : Int) ≤ hs.getD c 0)
      exact decide_eq_decide.mpr (by omega)
    have e6 : (hs.filter fun x => decide ((hN : Int) ≤ x)) = (((List.range hs.length).map (fun c => hs.getD c 0)).filter fun x => decide ((hN : Int) ≤ x)) := by rw [hs_range]
    rw [e5, e6, List.filter_map, List.length_map]
  rw [List.length_take] at e2
  omega
/-- a place is left -/
theorem fit_some {n : Int} {hs : List Int} {M : List (List Int)} {i : Nat} {F : List V} {U : List Int} (P : Placed n hs M i F U) {h : Int} {m : Nat} (hm : i < m) (f : Nat → Option Int) (hf : ∀ c, f c = if V.int (h + c) ∈ F then none else some (h + c)) : 0 < ((List.range m).filterMap f).length := by
  rcases Nat.eq_zero_or_pos ((List.range m).filterMap f).length with z | z
  · exfalso
    have hall : ∀ c : Nat, c < m → h + (c : Int) ∈ U := fun c hc => by
      have e := List.eq_nil_of_length_eq_zero z
      have hn : f c = none := List.filterMap_eq_nil_iff.mp e c (List.mem_range.mpr hc)
      rw [hf] at hn
      by_cases hF : V.int (h + c) ∈ F
      · rcases P.flat _ hF with e | ⟨p, e, hp⟩
        · cases e
        · cases e
          exact hp
      · rw [if_neg hF] at hn
        cases hn
    have := nodup_le ((List.range m).map fun c : Nat => h + (c : Int)) U ?_ ?_
    · rw [List.length_map, List.length_range] at this
      have := P.used
      omega
    · refine List.pairwise_map.mpr (List.nodup_range.imp fun hne => ?_)
      intro e
      exact hne (by omega)
    · intro x hx
      obtain ⟨c, hc, rfl⟩ := List.mem_map.mp hx
      exact hall c (List.mem_range.mp hc)
  · exact z
/-- all are placed -/
theorem Placed.done {n : Int} {hs : List Int} {M : List (List Int)} {F : List V} {U : List Int} (mp : M.Perm ((List.range hs.length).map (carRow hs))) (P : Placed n hs M M.length F U) : ∃ st : List Int, F = st.map V.int ∧ OkState n hs st := by
  have all : ∀ k : Nat, k < hs.length → ∃ p : Int, F[k]? = some (V.int p) ∧ hs.getD k 0 ≤ p ∧ p ≤ n - 1 := fun k hk => by
    rcases P.cell k hk with ⟨_, h⟩ | ⟨p, h1, h2, h3, _⟩
    · have hm : carRow hs k ∈ M := mp.mem_iff.mpr (List.mem_map.mpr ⟨k, List.mem_range.mpr hk, rfl⟩)
      obtain ⟨j, hj⟩ := List.getElem?_of_mem hm
      exact absurd hj (h j (List.getElem?_eq_some_iff.mp hj).1)
    · exact ⟨p, h1, h2, h3⟩
  let g : Nat → Int := fun k => match F[k]? with
    | some (.int p) => p
    | _ => 0
  have hg : ∀ (k : Nat) (p : Int), F[k]? = some (V.int p) → g k = p := fun k p h => by
    show (match F[k]? with
      | some (.int p) => p
      | _ => 0) = p
    rw [h]
  refine ⟨(List.range hs.length).map g, ?_, by simp, fun i h p hh hp => ?_, ?_⟩
  · refine List.ext_getElem? fun k => ?_
    by_cases hk : k < hs.length
    · obtain ⟨p, h1, _, _⟩ := all k hk
      rw [List.getElem?_map, List.getElem?_map, List.getElem?_range hk, h1]
      show some (V.int p) = some (V.int (g k))
      rw [hg k p h1]
    · rw [List.getElem?_eq_none (by rw [P.len]; omega), List.getElem?_eq_none (by simp; omega)]
  · have hi : i < hs.length := (List.getElem?_eq_some_iff.mp hh).1
    obtain ⟨p', h1, h2, h3⟩ := all i hi
    rw [List.getElem?_map, List.getElem?_range hi] at hp
    have e : g i = p := Option.some.inj hp
    rw [hg i p' h1] at e
    subst e
    rw [getD_at hi] at hh
    cases hh
    exact ⟨h2, h3⟩
  · refine List.pairwise_map.mpr (List.pairwise_iff_getElem.mpr fun a b ha hb hab => ?_)
    rw [List.length_range] at ha hb
    rw [List.getElem_range, List.getElem_range]
    obtain ⟨p, h1, _⟩ := all a ha
    obtain ⟨p', h2, _⟩ := all b hb
    rw [hg a p h1, hg b p' h2]
    intro e
    subst e
    have := P.inj a b p h1 h2
    omega
/-- in, over cells -/
theorem inV_cells {F : List V} (h : ∀ v ∈ F, v = .non ∨ ∃ p, v = .int p) (x : Int) : inV (.int x) F = decide (V.int x ∈ F) := by
  unfold inV
  induction F with
  | nil => simp
  | cons v F ih =>
    rw [List.any_cons, ih fun w hw => h w (List.mem_cons_of_mem _ hw)]
    rcases h v List.mem_cons_self with rfl | ⟨p, rfl⟩
    · show (false || decide (V.int x ∈ F)) = _
      simp
    · show ((p == x) || decide (V.int x ∈ F)) = _
      by_cases e : p = x
      · subst e
        simp
      · have e2 : ¬ x = p := fun z => e z.symm
        simp [e, e2]
theorem flat_cells {F : List V} (h : ∀ v ∈ F, v = .non ∨ ∃ p, v = .int p) : F.all flatV = true := List.all_eq_true.mpr fun v hv => by
  rcases h v hv with rfl | ⟨p, rfl⟩ <;> rfl
end K37
end

section
set_option Elab.async false
set_option linter.all false
set_option maxRecDepth 100000
set_option maxHeartbeats 4000000
/-! _law_state. -/
namespace K37
open PySem PySem.Spec PyProof.Rows L2
section
variable {X : Cx}
/-- not in, over cells that hold None or an int -/
def rNotC : R2 := fun x y H Q => ∃ (p : Addr) (i : Int) (F : List V), x = .int i ∧ y = .ref p ∧ H p = some (.lst F) ∧ (∀ v ∈ F, v = .non ∨ ∃ q, v = V.int q) ∧ Q (.bl (!decide (V.int i ∈ F))) H
theorem notInC : OpR X (compareOp .NotIn) rNotC := fun pins s σ H x y v u Q I rx ry ⟨p, i, F, e1, e2, h, hF, q⟩ => op_notIn_seq pins s σ H x y v u Q I rx ry ⟨p, _, e2, .inl (SqL.of h), by rw [e1]; rfl, flat_cells hF, by
  rw [e1, inV_cells hF]
  exact q⟩
end
theorem rep_non (k : Nat) : (List.replicate k [V.non]).flatten = List.replicate k V.non := by
  induction k with
  | zero => rfl
  | succ k ih => rw [List.replicate_succ, List.flatten_cons, ih]; rfl
section
variable {P : Program} {w : World} {K : PySem.W.Frag} {mg : Str → Option Value} {base : Heap}
def spState (K : PySem.W.Frag) : Sp := fun vs H Q _ => ∃ (r : Addr) (sv : V) (n : Int) (hs : List Int), vs = [.ref r, sv] ∧ RowAt K H r ∧ StrAt H sv n hs ∧ OkStreet n hs ∧ ∀ H' v st, SameBut r H H' → RowAt K H' r → RT H' v st → OkState n hs st → Q v H'
theorem ok_l_state (T : Txt K mg) : FnOk P w K mg base CX0 3 T.l_state.f T.l_state.fd ["_law_row", "_law_street_here"] (spState K) := by
  refine T.l_state.F.ok sc_l_state (fun vs H Q E h => ?_) (fun cdv A outer s H vs Q E hr h => ?_)
  · obtain ⟨_, _, _, _, rfl, _⟩ := h
    rfl
  · obtain ⟨r, sv, n, hs, rfl, R, ⟨a, b, rfl, ha, hb⟩, O, q⟩ := h
    have hu32 : (A.deeper (envOfC "_law_state" (defScope s_l_state) s.heap.objs.size T.l_state.f cdv)).units + 32 < cLine := by
      have := hr.un
      omega
    refine ⟨_, (pss_cons (ps_set (i := 2) sc_l_state.nd rfl (by first | exact Or.inl rfl | exact Or.inr rfl) (pe_op op_rep (pe_lst (pa_cons pe_non pa_nil)) (pe_callB lenS (by rfl) T.b_len PySem.boot_len (pa_cons (pe_ix ixT (pv 1) pe_int (fun _ _ => rfl)) pa_nil))))
      (pss_cons (ps_for PassesOwn.never rfl (piL K (pe_callB (sortE K (encT K) hu32) (by rfl) T.b_sorted boot_sorted' (pa_cons (pe_lc (own := [("_law_car", 4)]) (g := (gName 4)) (tt := tYes) rfl sc_l_state.nd (pi_range1 (by rfl) T.b_range (pa_cons (pe_callB lenS (by rfl) T.b_len PySem.boot_len (pa_cons (pv 2) pa_nil)) pa_nil)) (blkOk_by (N := N_l_state) (sc := defScope s_l_state) (by decide +kernel)) (fun _ _ _ _ _ => (pg_name (i := 4) sc_l_state.nd rfl (by first | exact Or.inl rfl | exact Or.inr rfl))) (fun _ _ _ _ _ => pts_nil)
        (fun _ _ _ _ _ => (pe_tup (pa_cons (pe_op op_sub pe_int (pe_ix ixT (pe_ix ixT (pv 1) pe_int (fun _ _ => rfl)) (pv 4) (fun _ _ => rfl))) (pa_cons (pv 4) pa_nil))))) pa_nil))) (pg_tup rfl (pgs_cons (pg_name (i := 3) sc_l_state.nd rfl (by first | exact Or.inl rfl | exact Or.inr rfl)) (pgs_cons (pg_name (i := 4) sc_l_state.nd rfl (by first | exact Or.inl rfl | exact Or.inr rfl)) pgs_nil)))
      (pss_cons (ps_setLc (i := 5) (own := [("_law_place", 6)]) (g := (gName 6)) rfl sc_l_state.nd rfl rfl (sw_true rfl rfl rfl (by decide +kernel)) (pi_range2 (by rfl) T.b_range (pa_cons (pe_ix ixT (pe_ix ixT (pv 1) pe_int (fun _ _ => rfl)) (pv 4) (fun _ _ => rfl)) (pa_cons (pe_ix ixT (pv 1) pe_int (fun _ _ => rfl)) pa_nil))) (blkOk_by (N := N_l_state) (sc := defScope s_l_state) (by decide +kernel)) (fun _ _ _ _ _ => (pg_name (i := 6) sc_l_state.nd rfl (by first | exact Or.inl rfl | exact Or.inr rfl))) (fun _ _ _ _ _ => (pts_one (pt_cmpR notInC (pv 6) (pv 2) (by rfl))))
        (fun _ _ _ _ _ => (pv 6)))
      (pss_one (ps_asg (pe_call (ok_l_pick T) (hr.mono (by decide)) (by rfl) T.l_pick.m T.l_pick.F.kp T.l_pick.b .nil pass0 (pa_cons (pv 0) (pa_cons (pv 5) pa_nil))) (pg_sub (pv 2) (pv 4) set_list)))))
      (pss_one (ps_ret (pe_callTy call_tuple_of (by rfl) T.b_tuple boot_tuple' (pa_cons (pv 2) pa_nil)))))), ?_⟩
    have i0 : atI [V.int n, V.ref b] 0 = some (.int n) := atI_nat (j := 0) rfl
    have i1 : atI [V.int n, V.ref b] 1 = some (.ref b) := atI_nat (j := 1) rfl
    have c1 := O.c1
    have c7 := O.c7
    have n12 := O.n12
    -- found = [None] * len(street[1])
    refine ⟨by show 1 ≤ sizeLine; decide, fun t nt => ?_⟩
    have s1 : Same H (upd H t (.lst [.non])) := same_new nt
    refine ⟨_, rfl, a, _, 1, _, rfl, rfl, s1 _ _ ha, i1, b, _, rfl, .inr (s1 _ _ hb), t, _, _, rfl, rfl, upd_same, ?_, ?_, ?_, fun o no => ?_⟩
    · rw [List.length_map]
      omega
    · rw [List.length_map]
      omega
    · rw [List.length_map, Int.toNat_natCast]
      show 1 * _ ≤ sizeLine
      have : (10 : Nat) ≤ sizeLine := by decide
      omega
    have e0 : (List.replicate ((hs.map V.int).length : Int).toNat [V.non]).flatten = List.replicate hs.length V.non := by
      rw [List.length_map, Int.toNat_natCast, rep_non]
    rw [e0]
    have s2 := Same.trans s1 (same_new (o := .lst (List.replicate hs.length V.non)) no)
    have no0 : H o = none := same_free s1 no
    -- the cars by their homes
    refine ⟨_, rfl, o, _, rfl, .inl upd_same, _, rfl, ?_, ?_, fun D hD => ?_⟩
    · rw [List.length_replicate]
      omega
    · rw [List.length_replicate]
      omega
    rw [List.length_replicate, Int.toNat_natCast]
    refine lc_map (List.range hs.length) walk_rangeL (fun c => carRow hs c) RT hD stab_RT (by rw [List.length_range]; omega) (fun _ _ => trivial) (fun i c x H1 H2 Q2 hp s3 hacc y k => ?_) fun H3 acc s3 eD pr => ?_
    · obtain ⟨rfl, rfl, hi⟩ := yfn_range hp y
      have s4 := Same.trans s2 s3
      refine ⟨rfl, _, rfl, a, _, 1, _, rfl, rfl, s4 _ _ ha, i1, _, rfl, b, _, _, _, rfl, rfl, s4 _ _ hb, atI_ints hi, 0, hs.getD c 0, rfl, rfl, _, rfl, by show 2 ≤ sizeLine; decide, fun u hu => ?_⟩
      exact k _ _ (same_new hu) ⟨u, rfl, upd_same⟩
    have s4 := Same.trans s2 s3
    have eo3 : H3 o = some (.lst (List.replicate hs.length V.non)) := s3 _ _ upd_same
    refine ⟨D, acc, _, rfl, .inl eD, pr, .inl fun z hz => ?_, ?_, fun p ws M np pw so => ?_⟩
    · obtain ⟨c, _, rfl⟩ := List.mem_map.mp hz
      exact ⟨_, _, rfl⟩
    · rw [List.length_map, List.length_range]
      have : (10 : Nat) ≤ sizeLine := by decide
      omega
    have mp : M.Perm ((List.range hs.length).map (carRow hs)) := so.perm
    have mu : M.Pairwise (· ≤ ·) := so.up
    have R3 := R.up s4
    have s5 : Same H3 (upd H3 p (.lst ws)) := same_new np
    have np0 : H p = none := same_free s4 np
    have hor : o ≠ r := by
      obtain ⟨acc, e⟩ := R.lst
      exact fun z => by rw [z, e] at no0; cases no0
    have hpr : p ≠ r := by
      obtain ⟨acc, e⟩ := R.lst
      exact fun z => by rw [z, e] at np0; cases np0
    have hpo : p ≠ o := fun z => by rw [z, eo3] at np; cases np
    refine ⟨p, rfl, ⟨_, SqL.of upd_same⟩, ?_⟩
    refine for_it (walk_rows (rows_up pw s5)) (fun i σ H5 => (∃ y3 y4 y5, σ = [some (.ref r), some (.ref a), some (.ref o), y3, y4, y5, none]) ∧ RowAt K H5 r ∧ SameBut r H H5 ∧ H5 p = some (.lst ws) ∧ Paired (RT H5) ws M ∧ ∃ F U, H5 o = some (.lst F) ∧ Placed n hs M i F U)
      ⟨⟨_, _, _, rfl⟩, R3.up s5, same_but (Same.trans s4 s5), upd_same, rows_up pw s5, _, [], s5 _ _ eo3, Placed.start⟩ (fun i σ H5 _ h => SqL.of h.2.2.2.1) (fun i x σ H5 H6 hi h y => ?_) fun σ H5 h => ?_
    · obtain ⟨⟨y3, y4, y5, rfl⟩, R5, b5, ep5, pw5, F, U, eo5, PL⟩ := h
      have hM : M[i]? = some M[i] := List.getElem?_eq_getElem hi
      obtain ⟨rfl, ⟨ra, rfl, hra⟩⟩ := yat_row pw5 hM y
      obtain ⟨c, hc, ec⟩ := List.mem_map.mp (mp.mem_iff.mp (List.mem_of_getElem? hM))
      have hc := List.mem_range.mp hc
      rw [← ec] at hM hra
      have ha5 := b5 _ _ (tup_ne ha R.lst) ha
      have hb5 := b5 _ _ (tup_ne hb R.lst) hb
      obtain ⟨o1, o2⟩ := O.at_ _ (List.mem_of_getElem? (getD_at hc))
      have room := room_left O mp mu hc hM
      refine ⟨ra, _, rfl, SqT.of hra, rfl, _, _, rfl, _, _, rfl, rfl, ?_⟩
      -- the places that fit
      refine ⟨_, rfl, a, _, 1, _, rfl, rfl, ha5, i1, _, rfl, b, _, _, _, rfl, rfl, hb5, atI_ints hc, _, rfl, a, _, 0, _, rfl, rfl, ha5, i0, hs.getD c 0, n, rfl, ⟨by omega, by omega, by omega, by omega⟩, fun D6 hD6 => ?_⟩
      have hcells : ∀ v ∈ F, v = .non ∨ ∃ q, v = V.int q := fun v hv => (PL.flat v hv).imp id fun ⟨q, e, _⟩ => ⟨q, e⟩
      generalize hh : hs.getD c 0 = h0 at *
      refine lc_dat (List.range (n - h0).toNat) walk_rangeL (fun k => if V.int (h0 + k) ∈ F then none else some (h0 + (k : Int))) NI hD6 stab_NI (by rw [List.length_range]; omega) (fun _ _ => trivial) (fun j k x H7 H8 Q7 Qn hp7 s7 hacc7 y7 kk kn => ?_) fun H7 acc7 s7 e7 p7 => ?_
      · obtain ⟨rfl, hj⟩ := range_at hp7
        obtain ⟨rfl, rfl⟩ := y7
        refine ⟨rfl, _, rfl, _, rfl, o, _, F, rfl, rfl, s7 _ _ eo5, hcells, _, rfl, ?_⟩
        by_cases hF : V.int (h0 + (k : Int)) ∈ F
        · exact ifF (by simp [hF]) (kn _ (if_pos hF) (Same.refl _))
        · exact ifT (by simp [hF]) ⟨_, rfl, kk _ _ _ (if_neg hF) (Same.refl _) rfl⟩
      · rw [paired_ints p7] at e7
        generalize hfit : (List.range (n - h0).toNat).filterMap (fun k : Nat => if V.int (h0 + (k : Int)) ∈ F then none else some (h0 + (k : Int))) = fit at e7
        have lfit : 0 < fit.length := by
          rw [← hfit]
          exact fit_some PL (h := h0) (m := (n - h0).toNat) (by omega) _ fun _ => rfl
        have lfit2 : fit.length ≤ 1000 := by
          rw [← hfit]
          have := List.length_filterMap_le (fun k : Nat => if V.int (h0 + (k : Int)) ∈ F then none else some (h0 + (k : Int))) (List.range (n - h0).toNat)
          rw [List.length_range] at this
          omega
        have hDr : D6 ≠ r := by
          obtain ⟨acc, e⟩ := R5.lst
          exact fun z => by rw [z, e] at hD6; cases hD6
        refine ⟨_, rfl, _, rfl, r, D6, fit, rfl, hDr, e7, lfit, lfit2, R5.up s7, fun H8 x b8 R8 hx => ?_⟩
        have hx2 : ∃ k : Nat, k < (n - h0).toNat ∧ x = h0 + (k : Int) ∧ V.int x ∉ F := by
          rw [← hfit] at hx
          obtain ⟨k, hk, e⟩ := List.mem_filterMap.mp hx
          by_cases hF : V.int (h0 + (k : Int)) ∈ F
          · rw [if_pos hF] at e
            cases e
          · rw [if_neg hF] at e
            have e := Option.some.inj e
            exact ⟨k, List.mem_range.mp hk, e.symm, e ▸ hF⟩
        obtain ⟨kx, hkx, ex, hxF⟩ := hx2
        have b58 : SameBut r H6 H8 := but_trans (same_but s7) b8
        have eo8 := b58 _ _ hor eo5
        have hcF : c < F.length := by rw [PL.len]; exact hc
        refine ⟨_, rfl, _, rfl, o, F, (c : Int), c, rfl, rfl, eo8, ?_, ?_⟩
        · unfold ixN
          rw [if_pos (by omega), if_pos (by omega)]
          rfl
        · have rlst := R5.lst
          refine ⟨⟨_, _, _, rfl⟩, R8.put (.inr ⟨_, eo8⟩) hor, but_new (but_trans b5 b58) no0, ?_, ?_, F.set c (.int x), x :: U, upd_same, PL.step hc hM (by rw [hh]; omega) (by omega) hxF⟩
          · rw [upd_ne hpo]
            exact b58 _ _ hpr ep5
          · exact rows_but (rows_but pw5 b58 rlst) but_put ⟨_, eo8⟩
    · obtain ⟨⟨y3, y4, y5, rfl⟩, R5, b5, ep5, pw5, F, U, eo5, PL⟩ := h
      obtain ⟨st, eF, OS⟩ := Placed.done mp PL
      refine ⟨_, rfl, o, F, rfl, .inl ⟨SqL.of eo5, fun l nl => ?_⟩⟩
      have s6 : Same H5 (upd H5 l (.tup F)) := same_new nl
      exact q _ _ st (but_trans b5 (same_but s6)) (R5.up s6) ⟨l, rfl, by rw [← eF]; exact upd_same⟩ OS
end
end K37
end

section
set_option Elab.async false
set_option linter.all false
set_option maxRecDepth 100000
set_option maxHeartbeats 1000000
/-! The law's own sums against the package's: plain lists. -/
namespace K37
open PySem PySem.Spec PyProof.Rows L2
/-- a list of ints at an address -/
def WR (H : Hp) (v : V) (ns : List Int) : Prop := ∃ a, v = .ref a ∧ H a = some (.lst (ns.map V.int))
theorem WR.up {H H' : Hp} {v : V} {ns : List Int} (h : WR H v ns) (s : Same H H') : WR H' v ns := let ⟨a, e, h⟩ := h; ⟨a, e, s _ _ h⟩
theorem wrs_up {H H' : Hp} {vs : List V} {L : List (List Int)} (p : Paired (WR H) vs L) (s : Same H H') : Paired (WR H') vs L := Paired.imp (fun _ _ r => r.up s) p
theorem lr_wr {D : Addr} {H : Hp} {vs : List V} {L : List (List Int)} (p : Paired (LR D H) vs L) : Paired (WR H) vs L := Paired.imp (fun _ _ ⟨a, e, _, h⟩ => ⟨a, e, h⟩) p
theorem range_map {α β : Type} (L : List α) (d : α) (g : α → β) : (List.range L.length).map (fun i => g (L.getD i d)) = L.map g := by
  refine List.ext_getElem? fun i => ?_
  by_cases h : i < L.length
  · rw [List.getElem?_map, List.getElem?_range h, List.getElem?_map, List.getElem?_eq_getElem h]
    show some (g (L.getD i d)) = some (g L[i])
    rw [List.getD_eq_getElem?_getD, List.getElem?_eq_getElem h]
    rfl
  · rw [List.getElem?_eq_none (by simpa using h), List.getElem?_eq_none (by simpa using h)]
theorem range_fm {α β : Type} (L : List α) (d : α) (g : α → Option β) : (List.range L.length).filterMap (fun i => g (L.getD i d)) = L.filterMap g := by
  have h := range_map L d id
  have e : (List.range L.length).filterMap (fun i => g (L.getD i d)) = ((List.range L.length).map fun i => L.getD i d).filterMap g := by
    rw [List.filterMap_map]
    rfl
  rw [e]
  have h2 : (List.range L.length).map (fun i => L.getD i d) = L := by
    rw [show (fun i => L.getD i d) = fun i => id (L.getD i d) from rfl, h, List.map_id]
  rw [h2]
theorem zip_range (a b : List Int) (h : b.length = a.length) (g : Int → Int → Int) : (List.range a.length).map (fun i => g (a.getD i 0) (b.getD i 0)) = (a.zip b).map fun p => g p.1 p.2 := by
  refine List.ext_getElem? fun i => ?_
  by_cases hi : i < a.length
  · have hz : (a.zip b)[i]? = some (a.getD i 0, b.getD i 0) := List.getElem?_zip_eq_some.mpr ⟨getD_at hi, getD_at (by omega)⟩
    rw [List.getElem?_map, List.getElem?_range hi, List.getElem?_map, hz]
    rfl
  · rw [List.getElem?_eq_none (by simpa using hi), List.getElem?_eq_none (by simp; omega)]
theorem law_ways {hs r : List Int} (h : r.length = hs.length) : (List.range hs.length).map (fun c => r.getD c 0 - hs.getD c 0) = ways hs r := by
  have e := zip_range r hs h.symm fun a b => a - b
  rw [h] at e
  exact e
theorem law_cheap {hs st ws r : List Int} (h : (ways hs r).length = hs.length) (hw : ws.length = hs.length) : ((List.range hs.length).map fun c => ws.getD c 0 * (ways hs r).getD c 0).sum = fCheap ws hs st r := by
  have e := zip_range ws (ways hs r) (h.trans hw.symm) fun a b => a * b
  rw [hw] at e
  rw [e]
  rfl
theorem law_calls {hs st ws r : List Int} (h : st.length = hs.length) : ((List.range hs.length).filterMap fun c => if r.getD c 0 = st.getD c 0 then none else some (ws.getD c 0)).sum = fCalls ws hs st r := by
  unfold fCalls unl
  rw [List.map_filterMap, h]
  congr 1
  congr 1
  funext c
  by_cases e : st.getD c 0 = r.getD c 0
  · rw [if_pos e, if_pos e.symm]
    rfl
  · rw [if_neg e, if_neg fun z => e z.symm]
    show _ = some (ws.getD (((c : Nat) : Int)).toNat 0)
    rw [Int.toNat_natCast]
/-- the test of a rest that can come -/
theorem law_ok {r st : List Int} (h : r.length = st.length) (h0 : 0 < st.length) : okR r st = decide (0 ≤ mn ((List.range st.length).map fun c => st.getD c 0 - r.getD c 0)) := by
  have e := zip_range st r h fun a b => a - b
  rw [e]
  unfold okR
  have hne : (st.zip r).map (fun p => p.1 - p.2) ≠ [] := by
    intro z
    have q := congrArg List.length z
    rw [List.length_map, List.length_zip, h] at q
    rw [Nat.min_self] at q
    exact Nat.ne_of_gt h0 q
  obtain ⟨m, hm⟩ : ∃ m, ((st.zip r).map fun p => p.1 - p.2).min? = some m := by
    cases q : ((st.zip r).map fun p => p.1 - p.2).min? with
    | none => exact absurd (List.min?_eq_none_iff.mp q) hne
    | some m => exact ⟨m, rfl⟩
  have hmn : mn ((st.zip r).map fun p => p.1 - p.2) = m := by
    unfold mn
    rw [hm]
    rfl
  obtain ⟨h1, h2⟩ := List.min?_eq_some_iff.mp hm
  rw [hmn]
  by_cases q : 0 ≤ m
  · rw [decide_eq_true q, List.all_eq_true]
    intro p hp
    obtain ⟨i, hi⟩ := List.getElem?_of_mem hp
    obtain ⟨z1, z2⟩ := List.getElem?_zip_eq_some.mp hi
    have := h2 (p.2 - p.1) (List.mem_map.mpr ⟨(p.2, p.1), List.mem_of_getElem? (List.getElem?_zip_eq_some.mpr ⟨z2, z1⟩), rfl⟩)
    exact decide_eq_true (by omega)
  · rw [decide_eq_false q]
    obtain ⟨p, hp, e2⟩ := List.mem_map.mp h1
    obtain ⟨i, hi⟩ := List.getElem?_of_mem hp
    obtain ⟨z1, z2⟩ := List.getElem?_zip_eq_some.mp hi
    refine Bool.eq_false_iff.mpr fun z => ?_
    have := of_decide_eq_true (List.all_eq_true.mp z (p.2, p.1) (List.mem_of_getElem? (List.getElem?_zip_eq_some.mpr ⟨z2, z1⟩)))
    simp only at this
    omega
theorem filter_ok (L : List (List Int)) (st : List Int) : (L.filterMap fun r => if okR r st = true then some r else none) = L.filter fun r => okR r st := by
  induction L with
  | nil => rfl
  | cons x t ih =>
    by_cases e : okR x st = true <;> simp [e, ih]
/-- the greatest sum, the least rest that has it: by the least pair of minus the sums -/
theorem least_neg {R : List (List Int)} {S : List Int → Int} {m : Int × List Int} {m2 : List Int} (h : Least (R.map fun r => (-S r, r)) m) (h2 : m2 ∈ R.filterMap fun r => if S r = mx (R.map S) then some r else none) (h3 : ∀ y ∈ R.filterMap fun r => if S r = mx (R.map S) then some r else none, m2 ≤ y) : (-m.1, m.2) = (mx (R.map S), m2) := by
  obtain ⟨r, hr, rfl⟩ := List.mem_map.mp h.mem
  have le : ∀ y ∈ R, S y ≤ S r ∧ (S y = S r → r ≤ y) := fun y hy => by
    have q := h.le (-S y, y) (List.mem_map.mpr ⟨y, hy, rfl⟩)
    have q1 : ¬ ((-S y) :: y < (-S r) :: r) := q
    rw [List.cons_lt_cons_iff] at q1
    refine ⟨?_, fun e => ?_⟩
    · rcases Int.lt_or_le (S r) (S y) with l | l
      · exact absurd (.inl (by omega)) q1
      · exact l
    · exact fun z => q1 (.inr ⟨by omega, z⟩)
  have em : mx (R.map S) = S r := mx_eq (List.mem_map.mpr ⟨r, hr, rfl⟩) fun y hy => by
    obtain ⟨z, hz, rfl⟩ := List.mem_map.mp hy
    exact (le z hz).1
  rw [em] at h2 h3 ⊢
  obtain ⟨y, hy, e⟩ := List.mem_filterMap.mp h2
  have hry : r ∈ R.filterMap fun r' => if S r' = S r then some r' else none := List.mem_filterMap.mpr ⟨r, hr, if_pos rfl⟩
  by_cases q : S y = S r
  · rw [if_pos q] at e
    cases e
    have e2 : r = m2 := List.le_antisymm ((le m2 hy).2 q) (h3 r hry)
    rw [← e2]
    show (- -S r, r) = (S r, r)
    rw [Int.neg_neg]
  · rw [if_neg q] at e
    cases e
/-! ### alike -/
theorem al_int {d : Nat} {H : Hp} (i : Int) : AL (d + 1) H (.int i) (.int i) := .inl ⟨i, rfl, rfl⟩
theorem al_ints {d : Nat} {H : Hp} : ∀ ns : List Int, Paired (AL (d + 1) H) (ns.map V.int) (ns.map V.int)
  | [] => .nil
  | n :: ns => .cons (al_int n) (al_ints ns)
theorem al_row {d : Nat} {H : Hp} {v u : V} {r : List Int} (h : RT H v r) (h' : RT H u r) (hz : r.length ≤ 1000) : AL (d + 2) H v u := by
  obtain ⟨a, rfl, h⟩ := h
  obtain ⟨b, rfl, h'⟩ := h'
  exact .inr ⟨a, b, _, _, rfl, rfl, h, h', by rw [List.length_map]; exact hz, al_ints r⟩
theorem al_pair {H : Hp} {v u : V} {m : Int × List Int} (h : PR H v m) (h' : PR H u m) (hz : m.2.length ≤ 1000) : AL 3 H v u := by
  obtain ⟨a, x, rfl, h, hx⟩ := h
  obtain ⟨b, y, rfl, h', hy⟩ := h'
  exact .inr ⟨a, b, _, _, rfl, rfl, h, h', by show 2 ≤ 1000; decide, .cons (al_int _) (.cons (al_row hx hy hz) .nil)⟩
theorem PR.but {D : Addr} {H H' : Hp} {v : V} {b : Int × List Int} (h : PR H v b) (s : SameBut D H H') (hD : ∃ acc, H D = some (.lst acc)) : PR H' v b := stab_PR _ _ _ _ h s hD
theorem Least.row_len {H : Hp} {sv tv : V} {n : Int} {hs st : List Int} (g : Given H sv tv n hs st) {f : List Int → Int} {m : Int × List Int} (h : Least ((restsIn hs st).map fun r => (f r, r)) m) : m.2.length ≤ 1000 := by
  obtain ⟨r, hr, rfl⟩ := List.mem_map.mp h.mem
  have := g.rest_len hr
  have := g.five
  show r.length ≤ 1000
  omega
/-! ### what stands in the law behind its draws -/
structure LawAt (H : Hp) (a ta l so wo : Addr) (rs wl : List V) (n : Int) (hs st ws : List Int) : Prop where
  g : Given H (.ref a) (.ref ta) n hs st
  w : H l = some (.tup (ws.map V.int))
  ow : OkWeights hs ws
  so_ : H so = some (.lst rs)
  sop : Paired (RT H) rs (restsIn hs st)
  wo_ : H wo = some (.lst wl)
  wop : Paired (WR H) wl ((restsIn hs st).map (ways hs))
theorem LawAt.up {H H' : Hp} {a ta l so wo : Addr} {rs wl : List V} {n : Int} {hs st ws : List Int} (L : LawAt H a ta l so wo rs wl n hs st ws) (s : Same H H') : LawAt H' a ta l so wo rs wl n hs st ws :=
  ⟨L.g.up s, s _ _ L.w, L.ow, s _ _ L.so_, rows_up L.sop s, s _ _ L.wo_, wrs_up L.wop s⟩
theorem str_ref {H : Hp} {a : Addr} {n : Int} {hs : List Int} (h : StrAt H (.ref a) n hs) : ∃ b, H a = some (.tup [.int n, .ref b]) ∧ H b = some (.tup (hs.map V.int)) := by
  obtain ⟨a', b, e, h1, h2⟩ := h
  cases e
  exact ⟨b, h1, h2⟩
theorem rt_ref {H : Hp} {a : Addr} {ns : List Int} (h : RT H (.ref a) ns) : H a = some (.tup (ns.map V.int)) := by
  obtain ⟨a', e, h1⟩ := h
  cases e
  exact h1
/-- the c-th rest and its ways -/
theorem LawAt.row {H : Hp} {a ta l so wo : Addr} {rs wl : List V} {n : Int} {hs st ws : List Int} (L : LawAt H a ta l so wo rs wl n hs st ws) {c : Nat} (hc : c < (restsIn hs st).length) :
    ∃ ra wa, rs[c]? = some (.ref ra) ∧ H ra = some (.tup (((restsIn hs st).getD c []).map V.int)) ∧ wl[c]? = some (.ref wa) ∧ H wa = some (.lst ((ways hs ((restsIn hs st).getD c [])).map V.int)) ∧ (restsIn hs st).getD c [] ∈ restsIn hs st := by
  have hr : (restsIn hs st)[c]? = some ((restsIn hs st).getD c []) := by
    rw [List.getD_eq_getElem?_getD, List.getElem?_eq_getElem hc]
    rfl
  obtain ⟨v, h1, ⟨ra, rfl, h2⟩⟩ := paired_get' L.sop hr
  have hw : ((restsIn hs st).map (ways hs))[c]? = some (ways hs ((restsIn hs st).getD c [])) := by
    rw [List.getElem?_map, hr]
    rfl
  obtain ⟨u, h3, ⟨wa, rfl, h4⟩⟩ := paired_get' L.wop hw
  exact ⟨ra, wa, h1, h2, h3, h4, List.mem_of_getElem? hr⟩
theorem LawAt.n_some {H : Hp} {a ta l so wo : Addr} {rs wl : List V} {n : Int} {hs st ws : List Int} (L : LawAt H a ta l so wo rs wl n hs st ws) : rs.length = (restsIn hs st).length := Paired.length L.sop
/-- the i-th of a list of ints made of the rests -/
theorem at_map {R : List (List Int)} {S : List Int → Int} {c : Nat} (hc : c < R.length) : ((R.map S).map V.int)[c]? = some (.int (S (R.getD c []))) := by
  rw [List.getElem?_map, List.getElem?_map, List.getD_eq_getElem?_getD, List.getElem?_eq_getElem hc]
  rfl
theorem least_in {R : List (List Int)} {S : List Int → Int} {m : Int × List Int} (h : Least (R.map fun r => (-S r, r)) m) : (R.filterMap fun r => if S r = mx (R.map S) then some r else none) ≠ [] := by
  obtain ⟨r, hr, rfl⟩ := List.mem_map.mp h.mem
  have em : mx (R.map S) = S r := mx_eq (List.mem_map.mpr ⟨r, hr, rfl⟩) fun y hy => by
    obtain ⟨z, hz, rfl⟩ := List.mem_map.mp hy
    have q1 : ¬ ((-S z) :: z < (-S r) :: r) := h.le (-S z, z) (List.mem_map.mpr ⟨z, hz, rfl⟩)
    rw [List.cons_lt_cons_iff] at q1
    rcases Int.lt_or_le (S r) (S z) with l | l
    · exact absurd (.inl (by omega)) q1
    · exact l
  have hm : r ∈ R.filterMap fun r => if S r = mx (R.map S) then some r else none := List.mem_filterMap.mpr ⟨r, hr, if_pos em.symm⟩
  exact List.ne_nil_of_mem hm
end K37
end

section
set_option Elab.async false
set_option linter.all false
set_option maxRecDepth 100000
set_option maxHeartbeats 16000000
/-! The law. -/
namespace K37
open PySem PySem.Spec PyProof.Rows L2
section
variable {P : Program} {w : World} {K : PySem.W.Frag} {mg : Str → Option Value} {base : Heap}
def spLaw (K : PySem.W.Frag) : Sp := fun vs H Q _ => ∃ (a : Addr) (ns : List Int), vs = [.ref a] ∧ Sc K H a ns ∧ ns.length ≤ 63 ∧ ∀ H', Q (.bl true) H'
theorem ok_law (T : Txt K mg) : FnOk P w K mg base CX0 6 T.law.f T.law.fd ["_law_script"] (spLaw K) := by
  refine T.law.F.ok sc_law (fun vs H Q E h => ?_) (fun cdv A outer s H vs Q E hr h => ?_)
  · obtain ⟨_, _, rfl, _⟩ := h
    rfl
  · obtain ⟨script, ns, rfl, S0, h63, q⟩ := h
    have hu32 : (A.deeper (envOfC "law" (defScope s_law) s.heap.objs.size T.law.f cdv)).units + 32 < cLine := by
      have := hr.un
      omega
    refine ⟨_, (pss_cons (ps_set (i := 1) sc_law.nd rfl (by first | exact Or.inl rfl | exact Or.inr rfl) (pe_lst (pa_cons (pv 0) (pa_cons pe_int (pa_cons pe_int (pa_cons pe_int pa_nil))))))
      (pss_cons (ps_set (i := 2) sc_law.nd rfl (by first | exact Or.inl rfl | exact Or.inr rfl) (pe_call (ok_l_street T) (hr.mono (by decide)) (by rfl) T.l_street.m T.l_street.F.kp T.l_street.b .nil pass0 (pa_cons (pv 1) (pa_cons pe_int (pa_cons pe_int pa_nil)))))
      (pss_cons (ps_asg (pe_tup (pa_cons (pe_callB lenS (by rfl) T.b_len PySem.boot_len (pa_cons (pe_ix ixT (pv 2) pe_int (fun _ _ => rfl)) pa_nil)) (pa_cons (pe_call (ok_l_state T) (hr.mono (by decide)) (by rfl) T.l_state.m T.l_state.F.kp T.l_state.b .nil pass0 (pa_cons (pv 1) (pa_cons (pv 2) pa_nil))) pa_nil))) (pg_tup rfl (pgs_cons (pg_name (i := 3) sc_law.nd rfl (by first | exact Or.inl rfl | exact Or.inr rfl)) (pgs_cons (pg_name (i := 4) sc_law.nd rfl (by first | exact Or.inl rfl | exact Or.inr rfl)) pgs_nil))))
      (pss_cons (ps_set (i := 5) sc_law.nd rfl (by first | exact Or.inl rfl | exact Or.inr rfl) (pe_lc (own := [("_law_rest", 6)]) (g := (gName 6)) rfl sc_law.nd (piL K (pe_call (ok_l_rests T) (hr.mono (by decide)) (by rfl) T.l_rests.m T.l_rests.F.kp T.l_rests.b .nil pass0 (pa_cons (pv 2) pa_nil))) (blkOk_by (N := N_law) (sc := defScope s_law) (by decide +kernel)) (fun _ _ _ _ _ => (pg_name (i := 6) sc_law.nd rfl (by first | exact Or.inl rfl | exact Or.inr rfl))) (fun _ _ _ _ _ => (pts_one (pt_cmpR op_ge (pe_callB (minL rfl) (by rfl) T.b_min boot_min' (pa_cons (pe_lc (own := [("_law_car", 7)]) (g := (gName 7)) (tt := tYes) rfl sc_law.nd (pi_range1 (by rfl) T.b_range (pa_cons (pv 3) pa_nil)) (blkOk_by (N := N_law) (sc := relS _ (defScope s_law)) (by decide +kernel)) (fun _ _ _ _ _ => (pg_name (i := 7) sc_law.nd rfl (by first | exact Or.inl rfl | exact Or.inr rfl))) (fun _ _ _ _ _ => pts_nil)
        (fun _ _ _ _ _ => (pe_op op_sub (pe_ix ixT (pv 4) (pv 7) (fun _ _ => rfl)) (pe_ix ixT (pv 6) (pv 7) (fun _ _ => rfl))))) pa_nil)) pe_int (nomark _))))
        (fun _ _ _ _ _ => (pv 6))))
      (pss_cons (ps_set (i := 8) sc_law.nd rfl (by first | exact Or.inl rfl | exact Or.inr rfl) (pe_callTy call_tuple_of (by rfl) T.b_tuple boot_tuple' (pa_cons (pe_lc (own := [("_law_car", 7)]) (g := (gName 7)) (tt := tYes) rfl sc_law.nd (pi_range1 (by rfl) T.b_range (pa_cons (pv 3) pa_nil)) (blkOk_by (N := N_law) (sc := defScope s_law) (by decide +kernel)) (fun _ _ _ _ _ => (pg_name (i := 7) sc_law.nd rfl (by first | exact Or.inl rfl | exact Or.inr rfl))) (fun _ _ _ _ _ => pts_nil)
        (fun _ _ _ _ _ => (pe_call (ok_l_taken T) (hr.mono (by decide)) (by rfl) T.l_taken.m T.l_taken.F.kp T.l_taken.b .nil pass0 (pa_cons (pv 1) (pa_cons pe_int pa_nil))))) pa_nil)))
      (pss_cons (ps_set (i := 9) sc_law.nd rfl (by first | exact Or.inl rfl | exact Or.inr rfl) (pe_lc (own := [("_law_rest", 6)]) (g := (gName 6)) (tt := tYes) rfl sc_law.nd (piL K (pv 5)) (blkOk_by (N := N_law) (sc := defScope s_law) (by decide +kernel)) (fun _ _ _ _ _ => (pg_name (i := 6) sc_law.nd rfl (by first | exact Or.inl rfl | exact Or.inr rfl))) (fun _ _ _ _ _ => pts_nil)
        (fun _ _ _ _ _ => (pe_lc (own := [("_law_car", 7)]) (g := (gName 7)) (tt := tYes) rfl sc_law.nd (pi_range1 (by rfl) T.b_range (pa_cons (pv 3) pa_nil)) (blkOk_by (N := N_law) (sc := relS _ (defScope s_law)) (by decide +kernel)) (fun _ _ _ _ _ => (pg_name (i := 7) sc_law.nd rfl (by first | exact Or.inl rfl | exact Or.inr rfl))) (fun _ _ _ _ _ => pts_nil)
        (fun _ _ _ _ _ => (pe_op op_sub (pe_ix ixT (pv 6) (pv 7) (fun _ _ => rfl)) (pe_ix ixT (pe_ix ixT (pv 2) pe_int (fun _ _ => rfl)) (pv 7) (fun _ _ => rfl))))))))
      (pss_cons (ps_if (pt_not (pt_val (pe_call (ok_l_alike T 3) (hr.mono (by decide)) (by rfl) T.l_alike.m T.l_alike.F.kp T.l_alike.b .nil pass0 (pa_cons (pe_call (ok_fairest T) (hr.mono (by decide)) (by rfl) T.fairest.m T.fairest.F.kp T.fairest.b .nil pass0 (pa_cons (pv 2) (pa_cons (pv 4) pa_nil))) (pa_cons (pe_callB (minE K (encP K) rfl hu32) (by rfl) T.b_min boot_min' (pa_cons (pe_lc (own := [("_law_at", 10)]) (g := (gName 10)) (tt := tYes) rfl sc_law.nd (pi_range1 (by rfl) T.b_range (pa_cons (pe_callB lenS (by rfl) T.b_len PySem.boot_len (pa_cons (pv 5) pa_nil)) pa_nil)) (blkOk_by (N := N_law) (sc := defScope s_law) (by decide +kernel)) (fun _ _ _ _ _ => (pg_name (i := 10) sc_law.nd rfl (by first | exact Or.inl rfl | exact Or.inr rfl))) (fun _ _ _ _ _ => pts_nil)
        (fun _ _ _ _ _ => (pe_tup (pa_cons (pe_callB (maxL rfl) (by rfl) T.b_max boot_max' (pa_cons (pe_ix ixL (pv 9) (pv 10) (fun _ _ => rfl)) pa_nil)) (pa_cons (pe_ix ixL (pv 5) (pv 10) (fun _ _ => rfl)) pa_nil))))) pa_nil)) pa_nil))))) (pss_one (ps_ret pe_bl)) pss_nil)
      (pss_cons (ps_setLc (i := 11) (own := [("_law_way", 12)]) (g := (gName 12)) (tt := tYes) rfl sc_law.nd rfl rfl (sw_true rfl rfl rfl (by decide +kernel)) (piL K (pv 9)) (blkOk_by (N := N_law) (sc := defScope s_law) (by decide +kernel)) (fun _ _ _ _ _ => (pg_name (i := 12) sc_law.nd rfl (by first | exact Or.inl rfl | exact Or.inr rfl))) (fun _ _ _ _ _ => pts_nil)
        (fun _ _ _ _ _ => (pe_callB (maxL rfl) (by rfl) T.b_max boot_max' (pa_cons (pv 12) pa_nil))))
      (pss_cons (ps_if (pt_not (pt_val (pe_call (ok_l_alike T 3) (hr.mono (by decide)) (by rfl) T.l_alike.m T.l_alike.F.kp T.l_alike.b .nil pass0 (pa_cons (pe_call (ok_count_fair T) (hr.mono (by decide)) (by rfl) T.count_fair.m T.count_fair.F.kp T.count_fair.b .nil pass0 (pa_cons (pv 2) (pa_cons (pv 4) pa_nil))) (pa_cons (bmK K PySem.F.plainAttrs_list PySem.F.slot_list_count PySem.F.type_list_count countL (pv 11) (pa_cons (pe_callB (minL rfl) (by rfl) T.b_min boot_min' (pa_cons (pv 11) pa_nil)) pa_nil)) pa_nil))))) (pss_one (ps_ret pe_bl)) pss_nil)
      (pss_cons (ps_if (pt_not (pt_val (pe_call (ok_l_alike T 3) (hr.mono (by decide)) (by rfl) T.l_alike.m T.l_alike.F.kp T.l_alike.b .nil pass0 (pa_cons (pe_call (ok_squarest T) (hr.mono (by decide)) (by rfl) T.squarest.m T.squarest.F.kp T.squarest.b .nil pass0 (pa_cons (pv 2) (pa_cons (pv 4) pa_nil))) (pa_cons (pe_callB (minE K (encP K) rfl hu32) (by rfl) T.b_min boot_min' (pa_cons (pe_lc (own := [("_law_at", 10)]) (g := (gName 10)) (tt := tYes) rfl sc_law.nd (pi_range1 (by rfl) T.b_range (pa_cons (pe_callB lenS (by rfl) T.b_len PySem.boot_len (pa_cons (pv 5) pa_nil)) pa_nil)) (blkOk_by (N := N_law) (sc := defScope s_law) (by decide +kernel)) (fun _ _ _ _ _ => (pg_name (i := 10) sc_law.nd rfl (by first | exact Or.inl rfl | exact Or.inr rfl))) (fun _ _ _ _ _ => pts_nil)
        (fun _ _ _ _ _ => (pe_tup (pa_cons (pe_callB (sumL rfl) (by rfl) T.b_sum boot_sum' (pa_cons (pe_lc (own := [("_law_way", 12)]) (g := (gName 12)) (tt := tYes) rfl sc_law.nd (piL K (pe_ix ixL (pv 9) (pv 10) (fun _ _ => rfl))) (blkOk_by (N := N_law) (sc := relS _ (defScope s_law)) (by decide +kernel)) (fun _ _ _ _ _ => (pg_name (i := 12) sc_law.nd rfl (by first | exact Or.inl rfl | exact Or.inr rfl))) (fun _ _ _ _ _ => pts_nil)
        (fun _ _ _ _ _ => (pe_op op_mul (pv 12) (pv 12)))) pa_nil)) (pa_cons (pe_ix ixL (pv 5) (pv 10) (fun _ _ => rfl)) pa_nil))))) pa_nil)) pa_nil))))) (pss_one (ps_ret pe_bl)) pss_nil)
      (pss_cons (ps_set (i := 13) sc_law.nd rfl (by first | exact Or.inl rfl | exact Or.inr rfl) (pe_lc (own := [("_law_at", 10)]) (g := (gName 10)) (tt := tYes) rfl sc_law.nd (pi_range1 (by rfl) T.b_range (pa_cons (pe_callB lenS (by rfl) T.b_len PySem.boot_len (pa_cons (pv 5) pa_nil)) pa_nil)) (blkOk_by (N := N_law) (sc := defScope s_law) (by decide +kernel)) (fun _ _ _ _ _ => (pg_name (i := 10) sc_law.nd rfl (by first | exact Or.inl rfl | exact Or.inr rfl))) (fun _ _ _ _ _ => pts_nil)
        (fun _ _ _ _ _ => (pe_callB (sumL rfl) (by rfl) T.b_sum boot_sum' (pa_cons (pe_lc (own := [("_law_car", 7)]) (g := (gName 7)) (tt := tYes) rfl sc_law.nd (pi_range1 (by rfl) T.b_range (pa_cons (pv 3) pa_nil)) (blkOk_by (N := N_law) (sc := relS _ (defScope s_law)) (by decide +kernel)) (fun _ _ _ _ _ => (pg_name (i := 7) sc_law.nd rfl (by first | exact Or.inl rfl | exact Or.inr rfl))) (fun _ _ _ _ _ => pts_nil)
        (fun _ _ _ _ _ => (pe_op op_mul (pe_ix ixT (pv 8) (pv 7) (fun _ _ => rfl)) (pe_ix ixL (pe_ix ixL (pv 9) (pv 10) (fun _ _ => rfl)) (pv 7) (fun _ _ => rfl))))) pa_nil)))))
      (pss_cons (ps_if (pt_not (pt_val (pe_call (ok_l_alike T 3) (hr.mono (by decide)) (by rfl) T.l_alike.m T.l_alike.F.kp T.l_alike.b .nil pass0 (pa_cons (pe_call (ok_cheapest T) (hr.mono (by decide)) (by rfl) T.cheapest.m T.cheapest.F.kp T.cheapest.b .nil pass0 (pa_cons (pv 2) (pa_cons (pv 4) (pa_cons (pv 8) pa_nil)))) (pa_cons (pe_callB (minE K (encP K) rfl hu32) (by rfl) T.b_min boot_min' (pa_cons (pe_lc (own := [("_law_at", 10)]) (g := (gName 10)) (tt := tYes) rfl sc_law.nd (pi_range1 (by rfl) T.b_range (pa_cons (pe_callB lenS (by rfl) T.b_len PySem.boot_len (pa_cons (pv 5) pa_nil)) pa_nil)) (blkOk_by (N := N_law) (sc := defScope s_law) (by decide +kernel)) (fun _ _ _ _ _ => (pg_name (i := 10) sc_law.nd rfl (by first | exact Or.inl rfl | exact Or.inr rfl))) (fun _ _ _ _ _ => pts_nil)
        (fun _ _ _ _ _ => (pe_tup (pa_cons (pe_ix ixL (pv 13) (pv 10) (fun _ _ => rfl)) (pa_cons (pe_ix ixL (pv 5) (pv 10) (fun _ _ => rfl)) pa_nil))))) pa_nil)) pa_nil))))) (pss_one (ps_ret pe_bl)) pss_nil)
      (pss_cons (ps_if (pt_not (pt_val (pe_call (ok_l_alike T 3) (hr.mono (by decide)) (by rfl) T.l_alike.m T.l_alike.F.kp T.l_alike.b .nil pass0 (pa_cons (pe_call (ok_dearest T) (hr.mono (by decide)) (by rfl) T.dearest.m T.dearest.F.kp T.dearest.b .nil pass0 (pa_cons (pv 2) (pa_cons (pv 4) (pa_cons (pv 8) pa_nil)))) (pa_cons (pe_tup (pa_cons (pe_callB (maxL rfl) (by rfl) T.b_max boot_max' (pa_cons (pv 13) pa_nil)) (pa_cons (pe_callB (minE K (encT K) rfl hu32) (by rfl) T.b_min boot_min' (pa_cons (pe_lc (own := [("_law_at", 10)]) (g := (gName 10)) rfl sc_law.nd (pi_range1 (by rfl) T.b_range (pa_cons (pe_callB lenS (by rfl) T.b_len PySem.boot_len (pa_cons (pv 5) pa_nil)) pa_nil)) (blkOk_by (N := N_law) (sc := defScope s_law) (by decide +kernel)) (fun _ _ _ _ _ => (pg_name (i := 10) sc_law.nd rfl (by first | exact Or.inl rfl | exact Or.inr rfl))) (fun _ _ _ _ _ => (pts_one (pt_cmpR op_eq (pe_ix ixL (pv 13) (pv 10) (fun _ _ => rfl)) (pe_callB (maxL rfl) (by rfl) T.b_max boot_max' (pa_cons (pv 13) pa_nil)) (nomark _))))
        (fun _ _ _ _ _ => (pe_ix ixL (pv 5) (pv 10) (fun _ _ => rfl)))) pa_nil)) pa_nil))) pa_nil))))) (pss_one (ps_ret pe_bl)) pss_nil)
      (pss_cons (ps_set (i := 14) sc_law.nd rfl (by first | exact Or.inl rfl | exact Or.inr rfl) (pe_lc (own := [("_law_rest", 6)]) (g := (gName 6)) (tt := tYes) rfl sc_law.nd (piL K (pv 5)) (blkOk_by (N := N_law) (sc := defScope s_law) (by decide +kernel)) (fun _ _ _ _ _ => (pg_name (i := 6) sc_law.nd rfl (by first | exact Or.inl rfl | exact Or.inr rfl))) (fun _ _ _ _ _ => pts_nil)
        (fun _ _ _ _ _ => (pe_callB (sumL rfl) (by rfl) T.b_sum boot_sum' (pa_cons (pe_lc (own := [("_law_car", 7)]) (g := (gName 7)) rfl sc_law.nd (pi_range1 (by rfl) T.b_range (pa_cons (pv 3) pa_nil)) (blkOk_by (N := N_law) (sc := relS _ (defScope s_law)) (by decide +kernel)) (fun _ _ _ _ _ => (pg_name (i := 7) sc_law.nd rfl (by first | exact Or.inl rfl | exact Or.inr rfl))) (fun _ _ _ _ _ => (pts_one (pt_cmpR op_ne (pe_ix ixT (pv 6) (pv 7) (fun _ _ => rfl)) (pe_ix ixT (pv 4) (pv 7) (fun _ _ => rfl)) (nomark _))))
        (fun _ _ _ _ _ => (pe_ix ixT (pv 8) (pv 7) (fun _ _ => rfl)))) pa_nil)))))
      (pss_cons (ps_if (pt_not (pt_val (pe_call (ok_l_alike T 3) (hr.mono (by decide)) (by rfl) T.l_alike.m T.l_alike.F.kp T.l_alike.b .nil pass0 (pa_cons (pe_call (ok_cheapest_calls T) (hr.mono (by decide)) (by rfl) T.cheapest_calls.m T.cheapest_calls.F.kp T.cheapest_calls.b .nil pass0 (pa_cons (pv 2) (pa_cons (pv 4) (pa_cons (pv 8) pa_nil)))) (pa_cons (pe_callB (minE K (encP K) rfl hu32) (by rfl) T.b_min boot_min' (pa_cons (pe_lc (own := [("_law_at", 10)]) (g := (gName 10)) (tt := tYes) rfl sc_law.nd (pi_range1 (by rfl) T.b_range (pa_cons (pe_callB lenS (by rfl) T.b_len PySem.boot_len (pa_cons (pv 5) pa_nil)) pa_nil)) (blkOk_by (N := N_law) (sc := defScope s_law) (by decide +kernel)) (fun _ _ _ _ _ => (pg_name (i := 10) sc_law.nd rfl (by first | exact Or.inl rfl | exact Or.inr rfl))) (fun _ _ _ _ _ => pts_nil)
        (fun _ _ _ _ _ => (pe_tup (pa_cons (pe_ix ixL (pv 14) (pv 10) (fun _ _ => rfl)) (pa_cons (pe_ix ixL (pv 5) (pv 10) (fun _ _ => rfl)) pa_nil))))) pa_nil)) pa_nil))))) (pss_one (ps_ret pe_bl)) pss_nil)
      (pss_cons (ps_set (i := 15) sc_law.nd rfl (by first | exact Or.inl rfl | exact Or.inr rfl) (pe_lc (own := [("_law_way", 12)]) (g := (gName 12)) (tt := tYes) rfl sc_law.nd (piL K (pv 9)) (blkOk_by (N := N_law) (sc := defScope s_law) (by decide +kernel)) (fun _ _ _ _ _ => (pg_name (i := 12) sc_law.nd rfl (by first | exact Or.inl rfl | exact Or.inr rfl))) (fun _ _ _ _ _ => pts_nil)
        (fun _ _ _ _ _ => (bmK K PySem.F.plainAttrs_list PySem.F.slot_list_count PySem.F.type_list_count countL (pv 12) (pa_cons pe_int pa_nil)))))
      (pss_one (ps_ret (pe_call (ok_l_alike T 3) (hr.mono (by decide)) (by rfl) T.l_alike.m T.l_alike.F.kp T.l_alike.b .nil pass0 (pa_cons (pe_call (ok_most_home T) (hr.mono (by decide)) (by rfl) T.most_home.m T.most_home.F.kp T.most_home.b .nil pass0 (pa_cons (pv 2) (pa_cons (pv 4) pa_nil))) (pa_cons (pe_tup (pa_cons (pe_callB (maxL rfl) (by rfl) T.b_max boot_max' (pa_cons (pv 15) pa_nil)) (pa_cons (pe_callB (minE K (encT K) rfl hu32) (by rfl) T.b_min boot_min' (pa_cons (pe_lc (own := [("_law_at", 10)]) (g := (gName 10)) rfl sc_law.nd (pi_range1 (by rfl) T.b_range (pa_cons (pe_callB lenS (by rfl) T.b_len PySem.boot_len (pa_cons (pv 5) pa_nil)) pa_nil)) (blkOk_by (N := N_law) (sc := defScope s_law) (by decide +kernel)) (fun _ _ _ _ _ => (pg_name (i := 10) sc_law.nd rfl (by first | exact Or.inl rfl | exact Or.inr rfl))) (fun _ _ _ _ _ => (pts_one (pt_cmpR op_eq (pe_ix ixL (pv 15) (pv 10) (fun _ _ => rfl)) (pe_callB (maxL rfl) (by rfl) T.b_max boot_max' (pa_cons (pv 15) pa_nil)) (nomark _))))
        (fun _ _ _ _ _ => (pe_ix ixL (pv 5) (pv 10) (fun _ _ => rfl)))) pa_nil)) pa_nil))) pa_nil))))))))))))))))))))), ?_⟩
    -- the row of the draws
    refine ⟨_, rfl, by show 4 ≤ sizeLine; decide, fun r nr => ?_⟩
    have R1 : RowAt K (upd H r (.lst [.ref script, .int 0, .int 9037, .int 0])) r := ⟨script, ns, 0, 9037, 0, upd_same, S0.put (.inl nr), h63, by omega, by omega, by omega⟩
    generalize upd H r (.lst [.ref script, .int 0, .int 9037, .int 0]) = H1 at R1
    -- a street
    refine ⟨_, rfl, r, rfl, R1, fun H2 sv n hs b2 R2 S2 O h5 => ?_⟩
    clear b2 R1
    obtain ⟨a, b, rfl, ha, hb⟩ := S2
    have i1 : ∀ b : Addr, atI [V.int n, V.ref b] 1 = some (.ref b) := fun b => atI_nat (j := 1) rfl
    have c1 := O.c1
    -- its cars, a state
    refine ⟨_, rfl, a, _, 1, _, rfl, rfl, ha, i1 b, b, _, rfl, .inr hb, ?_⟩
    rw [List.length_map]
    refine ⟨_, rfl, _, rfl, r, .ref a, n, hs, rfl, R2, ⟨a, b, rfl, ha, hb⟩, O, fun H3 tv st b3 R3 T3 OS => ?_⟩
    obtain ⟨ta, rfl, hta⟩ := T3
    have hlst := OS.len
    refine ⟨by show 2 ≤ sizeLine; decide, fun u hu => ?_⟩
    have S3 : StrAt H3 (.ref a) n hs := StrAt.but ⟨a, b, rfl, ha, hb⟩ b3 R2.lst
    have s4 : Same H3 (upd H3 u (.tup [.int (hs.length : Nat), .ref ta])) := same_new hu
    have R4 := R3.up s4
    have S4 := S3.up s4
    have T4 : RT _ (.ref ta) st := RT.up ⟨ta, rfl, hta⟩ s4
    refine ⟨u, _, rfl, SqT.of upd_same, rfl, _, _, rfl, _, _, rfl, rfl, ?_⟩
    generalize upd H3 u (.tup [.int (hs.length : Nat), .ref ta]) = H4 at R4 S4 T4
    clear S3 s4 R3 hta b3 R2 ha hb hu
    -- the rests that can come
    refine ⟨_, rfl, .ref a, n, hs, rfl, S4, O, h5, fun H5 p rs0 s5 np ep pr => ?_⟩
    refine ⟨p, rfl, ⟨_, SqL.of ep⟩, fun so hso => ?_⟩
    have hsor : so ≠ r := by
      obtain ⟨acc, e⟩ := (R4.up s5).lst
      exact fun z => by rw [z, e] at hso; cases hso
    refine lc_dat (restsL (tk hs) hs [[]]) (walk_rows pr) (fun x => if okR x st = true then some x else none) RT hso stab_RT (Nat.le_trans (restsL_3125 (by rw [tk_length]; exact h5) h5) (by decide)) (fun H6 s6 => SqL.of (s6 _ _ ep)) (fun i x v H6 H7 Q6 Qn hp s6 hacc y k kn => ?_) fun H6 rs s6 eso pso => ?_
    · obtain ⟨rfl, ⟨ra, rfl, hra⟩⟩ := yat_row pr hp y
      have hl : x.length = hs.length := restsL_len x (List.mem_of_getElem? hp)
      have hta7 := rt_ref ((T4.up s5).up s6)
      refine ⟨rfl, _, rfl, (hs.length : Int), rfl, by omega, by omega, fun D2 hD2 => ?_⟩
      rw [Int.toNat_natCast]
      refine lc_map (List.range hs.length) walk_rangeL (fun c => st.getD c 0 - x.getD c 0) NI hD2 stab_NI (by rw [List.length_range]; omega) (fun _ _ => trivial) (fun i2 c z H8 H9 Q8 hp2 s8 hacc2 y2 k2 => ?_) fun H8 acc2 s8 e2 p2 => ?_
      · obtain ⟨rfl, rfl, hc⟩ := yfn_range hp2 y2
        exact ⟨rfl, _, rfl, _, rfl, ta, _, _, _, rfl, rfl, s8 _ _ hta7, atI_ints (by omega), _, rfl, _, rfl, ra, _, _, _, rfl, rfl, s8 _ _ (s6 _ _ hra), atI_ints (by omega), _, _, rfl, rfl, k2 _ _ (Same.refl _) rfl⟩
      · rw [paired_ints p2] at e2
        have eo : okR x st = decide (0 ≤ mn ((List.range hs.length).map fun c => st.getD c 0 - x.getD c 0)) := by
          have := law_ok (r := x) (st := st) (by omega) (by omega)
          rwa [hlst] at this
        refine ⟨D2, _, rfl, e2, by rw [List.length_map, List.length_range]; omega, _, _, rfl, rfl, _, rfl, ?_⟩
        by_cases ho : okR x st = true
        · exact ifT (by rw [← eo]; exact ho) ⟨_, rfl, k _ _ x (if_pos ho) s8 ⟨ra, rfl, s8 _ _ (s6 _ _ hra)⟩⟩
        · exact ifF (by rw [← eo]; simpa using ho) (kn _ (if_neg ho) s8)
    rw [filter_ok, restsIn_eq hlst] at pso
    have s46 := Same.trans s5 s6
    have R6 := R4.up s46
    have g6 : Given H6 (.ref a) (.ref ta) n hs st := ⟨S4.up s46, T4.up s46, O, OS, h5⟩
    clear R4 S4 T4 s46 pr ep np s5 s6 hso
    -- weights
    refine ⟨_, rfl, (hs.length : Int), rfl, by omega, by omega, fun D5 hD5 => ?_⟩
    rw [Int.toNat_natCast]
    have hD5r : D5 ≠ r := by
      obtain ⟨acc, e⟩ := R6.lst
      exact fun z => by rw [z, e] at hD5; cases hD5
    refine lc_it walk_range (fun i H7 => SameBut r H6 H7 ∧ RowAt K H7 r ∧ ∃ wl : List Int, H7 D5 = some (.lst (wl.map V.int)) ∧ wl.length = i ∧ ∀ w ∈ wl, 0 ≤ w ∧ w ≤ 99) ⟨same_but (same_new hD5), R6.up (same_new hD5), [], upd_same, rfl, fun w hw => by cases hw⟩ (fun _ _ _ _ => trivial) (fun i x H7 H8 hi h y => ?_) fun H7 h => ?_
    · obtain ⟨b7, R7, wl, ew, lw, hw⟩ := h
      obtain ⟨rfl, rfl⟩ := y
      refine ⟨rfl, ?_⟩
      refine ⟨_, rfl, r, 9, rfl, by omega, by omega, R7, fun H9 x b9 R9 x0 x9 => ?_⟩
      have ew9 := b9 _ _ hD5r ew
      refine ⟨_, ew9, ?_, but_new (but_trans b7 b9) hD5, R9.put (.inr ⟨_, ew9⟩) hD5r, wl ++ [x], by rw [upd_same, List.map_append]; rfl, by simp [lw], fun w hw' => ?_⟩
      · rw [List.length_map, lw]
        exact Nat.lt_of_lt_of_le hi (Nat.le_trans h5 (by decide))
      · rcases List.mem_append.mp hw' with hw' | hw'
        · exact hw w hw'
        · rw [List.mem_singleton.mp hw']
          omega
    obtain ⟨b7, R7, ws, ew, lw, hw⟩ := h
    refine ⟨D5, _, rfl, .inl ⟨SqL.of ew, fun l nl => ?_⟩⟩
    have sl : Same H7 (upd H7 l (.tup (ws.map V.int))) := same_new nl
    have g := (g6.but b7 R6.lst).up sl
    have hws : upd H7 l (.tup (ws.map V.int)) l = some (.tup (ws.map V.int)) := upd_same
    have OW : OkWeights hs ws := ⟨lw, hw⟩
    have eso8 := sl _ _ (b7 _ _ hsor eso)
    have pso8 := rows_up (rows_but pso b7 R6.lst) sl
    generalize upd H7 l (.tup (ws.map V.int)) = Hc at g hws eso8 pso8
    clear sl nl ew R7 b7 hD5r hD5 g6 R6 pso eso hsor H7
    -- the ways
    refine ⟨_, rfl, so, rfl, ⟨_, SqL.of eso8⟩, fun wo hwo => ?_⟩
    refine lc_map (restsIn hs st) (walk_rows pso8) (fun x => ways hs x) (LR wo) hwo stab_LR (Nat.le_trans g.many (by decide)) (fun H s => SqL.of (s _ _ eso8)) (fun i x v H1 H2 Q1 hp s1 hacc y k => ?_) fun H8 wl s8 ewo pwo => ?_
    · obtain ⟨rfl, ⟨ra, rfl, hra⟩⟩ := yat_row pso8 hp y
      have hl := g.rest_len (List.mem_of_getElem? hp)
      obtain ⟨b, ha, hb⟩ := str_ref (g.up s1).str
      refine ⟨rfl, _, rfl, (hs.length : Int), rfl, by omega, by omega, fun D7 hD7 => ?_⟩
      rw [Int.toNat_natCast]
      have ne : D7 ≠ wo := by
        obtain ⟨acc, e⟩ := hacc
        exact fun z => by rw [z, e] at hD7; cases hD7
      refine lc_map (List.range hs.length) walk_rangeL (fun c => x.getD c 0 - hs.getD c 0) NI hD7 stab_NI (by rw [List.length_range]; omega) (fun _ _ => trivial) (fun i2 c z H3 H4 Q3 hp2 s3 hacc3 y3 k3 => ?_) fun H3 acc3 s3 e3 p3 => ?_
      · obtain ⟨rfl, rfl, hc⟩ := yfn_range hp2 y3
        exact ⟨rfl, _, rfl, _, rfl, ra, _, _, _, rfl, rfl, s3 _ _ (s1 _ _ hra), atI_ints (by omega), _, rfl, a, _, 1, _, rfl, rfl, s3 _ _ ha, i1 b, _, rfl, b, _, _, _, rfl, rfl, s3 _ _ hb, atI_ints hc, _, _, rfl, rfl, k3 _ _ (Same.refl _) rfl⟩
      · rw [paired_ints p3, law_ways hl] at e3
        exact k _ _ s3 ⟨D7, rfl, ne, e3⟩
    have L : LawAt H8 a ta l so wo rs wl n hs st ws := ⟨g.up s8, s8 _ _ hws, OW, s8 _ _ eso8, rows_up pso8 s8, ewo, lr_wr pwo⟩
    clear pwo ewo s8 hwo pso8 eso8 hws g
    have iN : ((rs.length : Nat) : Int) = ((restsIn hs st).length : Nat) := by rw [L.n_some]
    have many := L.g.many
    have hOK := L.g.okS.c7
    -- fairest
    refine ⟨_, rfl, _, rfl, .ref a, .ref ta, n, hs, st, rfl, L.g, fun Ha v m sa ev least => ?_⟩
    have La := L.up sa
    refine ⟨_, rfl, so, _, rfl, .inl La.so_, _, rfl, by omega, by omega, fun D7 hD7 => ?_⟩
    rw [iN, Int.toNat_natCast]
    refine lc_map (List.range (restsIn hs st).length) walk_rangeL (fun i => (fun x => (fFair hs st x, x)) ((restsIn hs st).getD i [])) PR hD7 stab_PR (by rw [List.length_range]; omega) (fun _ _ => trivial) (fun i c z H1 H2 Q1 hp s1 hacc y k => ?_) fun H1 acc1 s1 e1 p1 => ?_
    · obtain ⟨rfl, rfl, hc⟩ := yfn_range hp y
      have L1 := La.up s1
      obtain ⟨ra, wa, h1, h2, h3, h4, hmem⟩ := L1.row hc
      have hl := L.g.rest_len hmem
      refine ⟨rfl, _, rfl, _, rfl, wo, _, _, _, rfl, rfl, L1.wo_, atI_nat h3, wa, _, rfl, h4, by rw [ways_len hl]; omega, _, rfl, _, rfl, so, _, _, _, rfl, rfl, L1.so_, atI_nat h1, by show 2 ≤ sizeLine; decide, fun u hu => ?_⟩
      have s2 : Same H2 (upd H2 u (.tup [.int (fFair hs st ((restsIn hs st).getD c [])), .ref ra])) := same_new hu
      exact k _ _ s2 ⟨u, _, rfl, upd_same, ra, rfl, s2 _ _ h2⟩
    rw [range_map (restsIn hs st) [] (fun x => (fFair hs st x, x))] at p1
    refine ⟨D7, acc1, _, rfl, e1, p1, by simpa using L.g.is_one, fun v2 m2 ev2 hm hl => ?_⟩
    have em : m = m2 := least.eq ⟨hm, hl⟩
    subst em
    refine ⟨v, v2, rfl, al_pair (ev.up s1) ev2 (Least.row_len L.g least), fun Hb sb => ?_⟩
    refine ⟨true, rfl, ifF rfl ?_⟩
    have L := La.up (Same.trans s1 sb)
    clear La sa ev least hD7 e1 p1 hm hl ev2 sb s1
    -- greatest
    refine ⟨_, rfl, wo, rfl, ⟨_, SqL.of L.wo_⟩, fun go hgo => ?_⟩
    refine lc_map ((restsIn hs st).map (ways hs)) (walk_rows L.wop) (fun x => mx x) NI hgo stab_NI (by rw [List.length_map]; omega) (fun H s => SqL.of (s _ _ L.wo_)) (fun i x v H1 H2 Q1 hp s1 hacc y k => ?_) fun Hg acc s1 eg pg => ?_
    · obtain ⟨rfl, ⟨wa, rfl, hwa⟩⟩ := yat_row L.wop hp y
      obtain ⟨x0, hx0, rfl⟩ := List.mem_map.mp (List.mem_of_getElem? hp)
      have hl := L.g.rest_len hx0
      exact ⟨rfl, _, rfl, wa, _, rfl, s1 _ _ hwa, by rw [ways_len hl]; omega, k _ _ (Same.refl _) rfl⟩
    rw [paired_ints pg] at eg
    have e0 : ((restsIn hs st).map (ways hs)).map (fun x => mx x) = (restsIn hs st).map (fFair hs st) := by
      rw [List.map_map]
      rfl
    rw [e0] at eg
    have L := L.up s1
    clear s1 pg hgo
    -- count_fair
    refine ⟨_, rfl, _, rfl, .ref a, .ref ta, n, hs, st, rfl, L.g, fun Ha sa => ?_⟩
    refine ⟨_, rfl, .inl ⟨rfl, _, SqL.of (sa _ _ eg)⟩, _, rfl, go, _, rfl, sa _ _ eg, by rw [List.length_map]; exact List.length_pos_iff.mpr L.g.is_one, go, _, _, rfl, rfl, sa _ _ eg, ?_⟩
    refine ⟨_, _, rfl, al_int _, fun Hb sb => ?_⟩
    refine ⟨true, rfl, ifF rfl ?_⟩
    have L := L.up (Same.trans sa sb)
    clear sa sb eg
    -- squarest
    refine ⟨_, rfl, _, rfl, .ref a, .ref ta, n, hs, st, rfl, L.g, fun Ha v m sa ev least => ?_⟩
    have La := L.up sa
    refine ⟨_, rfl, so, _, rfl, .inl La.so_, _, rfl, by omega, by omega, fun D7 hD7 => ?_⟩
    rw [iN, Int.toNat_natCast]
    refine lc_map (List.range (restsIn hs st).length) walk_rangeL (fun i => (fun x => (fSq hs st x, x)) ((restsIn hs st).getD i [])) PR hD7 stab_PR (by rw [List.length_range]; omega) (fun _ _ => trivial) (fun i c z H1 H2 Q1 hp s1 hacc y k => ?_) fun H1 acc1 s1 e1 p1 => ?_
    · obtain ⟨rfl, rfl, hc⟩ := yfn_range hp y
      have L1 := La.up s1
      obtain ⟨ra, wa, h1, h2, h3, h4, hmem⟩ := L1.row hc
      have hl := L.g.rest_len hmem
      refine ⟨rfl, _, rfl, _, rfl, wo, _, _, _, rfl, rfl, L1.wo_, atI_nat h3, wa, rfl, ⟨_, SqL.of h4⟩, fun D8 hD8 => ?_⟩
      refine lc_map (ways hs ((restsIn hs st).getD c [])) walk_listI (fun x => x * x) NI hD8 stab_NI (by rw [ways_len hl]; omega) (fun H3 s3 => SqL.of (s3 _ _ h4)) (fun i2 x2 z2 H3 H4 Q3 hp3 s3 hacc3 y3 k3 => ?_) fun H3 acc3 s3 e3 p3 => ?_
      · obtain ⟨rfl, rfl⟩ := yat_ints hp3 y3
        have hw2 := L.g.way_in hmem _ (List.mem_of_getElem? hp3)
        exact ⟨rfl, _, rfl, _, rfl, x2, x2, rfl, rfl, .inl ⟨by omega, by omega⟩, k3 _ _ (Same.refl _) rfl⟩
      rw [paired_ints p3] at e3
      have L3 := L1.up s3
      refine ⟨D8, _, rfl, e3, _, rfl, _, rfl, so, _, _, _, rfl, rfl, L3.so_, atI_nat h1, by show 2 ≤ sizeLine; decide, fun u hu => ?_⟩
      have s4 : Same H3 (upd H3 u (.tup [.int (fSq hs st ((restsIn hs st).getD c [])), .ref ra])) := same_new hu
      exact k _ _ (Same.trans s3 s4) ⟨u, _, rfl, upd_same, ra, rfl, s4 _ _ (s3 _ _ h2)⟩
    rw [range_map (restsIn hs st) [] (fun x => (fSq hs st x, x))] at p1
    refine ⟨D7, acc1, _, rfl, e1, p1, by simpa using L.g.is_one, fun v2 m2 ev2 hm hl => ?_⟩
    have em : m = m2 := least.eq ⟨hm, hl⟩
    subst em
    refine ⟨v, v2, rfl, al_pair (ev.up s1) ev2 (Least.row_len L.g least), fun Hb sb => ?_⟩
    refine ⟨true, rfl, ifF rfl ?_⟩
    have sL := Same.trans sa (Same.trans s1 sb)
    have L := L.up sL
    clear La sa ev least hD7 e1 p1 hm hl ev2 sb s1 sL
    -- sums
    refine ⟨_, rfl, so, _, rfl, .inl L.so_, _, rfl, by omega, by omega, fun xo hxo => ?_⟩
    rw [iN, Int.toNat_natCast]
    refine lc_map (List.range (restsIn hs st).length) walk_rangeL (fun i => (fun x => fCheap ws hs st x) ((restsIn hs st).getD i [])) NI hxo stab_NI (by rw [List.length_range]; omega) (fun _ _ => trivial) (fun i c z H1 H2 Q1 hp s1 hacc y k => ?_) fun Hs acc1 s1 exo p1 => ?_
    · obtain ⟨rfl, rfl, hc⟩ := yfn_range hp y
      have L1 := L.up s1
      obtain ⟨ra, wa, h1, h2, h3, h4, hmem⟩ := L1.row hc
      have hl := L.g.rest_len hmem
      have hwl := ways_len hl
      refine ⟨rfl, _, rfl, (hs.length : Int), rfl, by omega, by omega, fun D8 hD8 => ?_⟩
      rw [Int.toNat_natCast]
      refine lc_map (List.range hs.length) walk_rangeL (fun c2 => ws.getD c2 0 * (ways hs ((restsIn hs st).getD c [])).getD c2 0) NI hD8 stab_NI (by rw [List.length_range]; omega) (fun _ _ => trivial) (fun i2 c2 z2 H3 H4 Q3 hp3 s3 hacc3 y3 k3 => ?_) fun H3 acc3 s3 e3 p3 => ?_
      · obtain ⟨rfl, rfl, hc2⟩ := yfn_range hp3 y3
        have L3 := L1.up s3
        have w1 := OW.at_ _ (List.mem_of_getElem? (getD_at (show c2 < ws.length by omega)))
        refine ⟨rfl, _, rfl, _, rfl, l, _, _, _, rfl, rfl, L3.w, atI_ints (by omega), _, rfl, _, rfl, wo, _, _, _, rfl, rfl, L3.wo_, atI_nat h3, _, rfl, wa, _, _, _, rfl, rfl, s3 _ _ h4, atI_ints (by omega), _, _, rfl, rfl, .inl ⟨by omega, by omega⟩, k3 _ _ (Same.refl _) rfl⟩
      rw [paired_ints p3] at e3
      refine ⟨D8, _, rfl, e3, ?_⟩
      rw [law_cheap (st := st) hwl lw]
      exact k _ _ s3 rfl
    rw [range_map (restsIn hs st) [] (fun x => fCheap ws hs st x)] at p1
    rw [paired_ints p1] at exo
    have L := L.up s1
    clear s1 p1 hxo
    -- cheapest
    refine ⟨_, rfl, _, rfl, _, rfl, .ref a, .ref ta, .ref l, n, hs, st, ws, rfl, L.g, ⟨l, rfl, L.w⟩, OW, fun Ha v m sa ev least => ?_⟩
    have La := L.up sa
    refine ⟨_, rfl, so, _, rfl, .inl La.so_, _, rfl, by omega, by omega, fun D7 hD7 => ?_⟩
    rw [iN, Int.toNat_natCast]
    refine lc_map (List.range (restsIn hs st).length) walk_rangeL (fun i => (fun x => (fCheap ws hs st x, x)) ((restsIn hs st).getD i [])) PR hD7 stab_PR (by rw [List.length_range]; omega) (fun _ _ => trivial) (fun i c z H1 H2 Q1 hp s1 hacc y k => ?_) fun H1 acc1 s1 e1 p1 => ?_
    · obtain ⟨rfl, rfl, hc⟩ := yfn_range hp y
      have L1 := La.up s1
      obtain ⟨ra, wa, h1, h2, h3, h4, hmem⟩ := L1.row hc
      have hl := L.g.rest_len hmem
      refine ⟨rfl, _, rfl, _, rfl, xo, _, _, _, rfl, rfl, s1 _ _ (sa _ _ exo), atI_nat (at_map hc), _, rfl, _, rfl, so, _, _, _, rfl, rfl, L1.so_, atI_nat h1, by show 2 ≤ sizeLine; decide, fun u hu => ?_⟩
      have s2 : Same H2 (upd H2 u (.tup [.int (fCheap ws hs st ((restsIn hs st).getD c [])), .ref ra])) := same_new hu
      exact k _ _ s2 ⟨u, _, rfl, upd_same, ra, rfl, s2 _ _ h2⟩
    rw [range_map (restsIn hs st) [] (fun x => (fCheap ws hs st x, x))] at p1
    refine ⟨D7, acc1, _, rfl, e1, p1, by simpa using L.g.is_one, fun v2 m2 ev2 hm hl => ?_⟩
    have em : m = m2 := least.eq ⟨hm, hl⟩
    subst em
    refine ⟨v, v2, rfl, al_pair (ev.up s1) ev2 (Least.row_len L.g least), fun Hb sb => ?_⟩
    refine ⟨true, rfl, ifF rfl ?_⟩
    have sL := Same.trans sa (Same.trans s1 sb)
    have L := L.up sL
    have exo := sL _ _ exo
    clear La sa ev least hD7 e1 p1 hm hl ev2 sb s1 sL
    -- dearest
    refine ⟨_, rfl, _, rfl, _, rfl, .ref a, .ref ta, .ref l, n, hs, st, ws, rfl, L.g, ⟨l, rfl, L.w⟩, OW, fun Ha v m sa ev least => ?_⟩
    have La := L.up sa
    refine ⟨_, rfl, xo, _, rfl, sa _ _ exo, by rw [List.length_map]; exact List.length_pos_iff.mpr L.g.is_one, ?_⟩
    refine ⟨_, rfl, so, _, rfl, .inl La.so_, _, rfl, by omega, by omega, fun D7 hD7 => ?_⟩
    rw [iN, Int.toNat_natCast]
    refine lc_dat (List.range (restsIn hs st).length) walk_rangeL (fun i => (fun x => if fCheap ws hs st x = mx ((restsIn hs st).map (fCheap ws hs st)) then some x else none) ((restsIn hs st).getD i [])) RT hD7 stab_RT (by rw [List.length_range]; omega) (fun _ _ => trivial) (fun i c z H1 H2 Q1 Qn hp s1 hacc y k kn => ?_) fun H1 acc1 s1 e1 p1 => ?_
    · obtain ⟨rfl, rfl, hc⟩ := yfn_range hp y
      have L1 := La.up s1
      obtain ⟨ra, wa, h1, h2, h3, h4, hmem⟩ := L1.row hc
      have hl := L.g.rest_len hmem
      have ex := s1 _ _ (sa _ _ exo)
      refine ⟨rfl, _, rfl, _, rfl, xo, _, _, _, rfl, rfl, ex, atI_nat (at_map hc), _, rfl, xo, _, rfl, ex, by rw [List.length_map]; exact List.length_pos_iff.mpr L.g.is_one, rfl, _, rfl, ?_⟩
      by_cases hS : fCheap ws hs st ((restsIn hs st).getD c []) = mx ((restsIn hs st).map (fCheap ws hs st))
      · exact ifT (decide_eq_true (congrArg V.int hS)) ⟨_, rfl, _, rfl, so, _, _, _, rfl, rfl, L1.so_, atI_nat h1, k _ _ _ (if_pos hS) (Same.refl _) ⟨ra, rfl, h2⟩⟩
      · exact ifF (decide_eq_false fun z => hS (V.int.inj z)) (kn _ (if_neg hS) (Same.refl _))
    rw [range_fm (restsIn hs st) [] (fun x => if fCheap ws hs st x = mx ((restsIn hs st).map (fCheap ws hs st)) then some x else none)] at p1
    refine ⟨D7, acc1, _, rfl, e1, p1, least_in least, fun v2 m2 ev2 hm hl => ?_⟩
    refine ⟨by show 2 ≤ sizeLine; decide, fun u hu => ?_⟩
    have em := least_neg least hm hl
    have su : Same H1 (upd H1 u (.tup [.int (mx ((restsIn hs st).map (fCheap ws hs st))), v2])) := same_new hu
    have ev' : PR (upd H1 u (.tup [.int (mx ((restsIn hs st).map (fCheap ws hs st))), v2])) (.ref u) (-m.1, m.2) := by
      rw [em]
      exact ⟨u, v2, rfl, upd_same, ev2.up su⟩
    have hm5 := Least.row_len L.g (f := fun r => -fCheap ws hs st r) least
    refine ⟨v, .ref u, rfl, al_pair ((ev.up s1).up su) ev' hm5, fun Hb sb => ?_⟩
    refine ⟨true, rfl, ifF rfl ?_⟩
    have L := L.up (Same.trans sa (Same.trans s1 (Same.trans su sb)))
    clear La sa ev least hD7 e1 p1 hm hl ev2 sb s1 em su ev' hu exo hm5
    -- calls
    refine ⟨_, rfl, so, rfl, ⟨_, SqL.of L.so_⟩, fun yo hyo => ?_⟩
    refine lc_map (restsIn hs st) (walk_rows L.sop) (fun x => fCalls ws hs st x) NI hyo stab_NI (by omega) (fun H s => SqL.of (s _ _ L.so_)) (fun i x v H1 H2 Q1 hp s1 hacc y k => ?_) fun Hk acc s1 eyo pk => ?_
    · obtain ⟨rfl, ⟨ra, rfl, hra⟩⟩ := yat_row L.sop hp y
      have L1 := L.up s1
      have hl := L.g.rest_len (List.mem_of_getElem? hp)
      have hta := rt_ref L1.g.sta
      refine ⟨rfl, _, rfl, (hs.length : Int), rfl, by omega, by omega, fun D8 hD8 => ?_⟩
      rw [Int.toNat_natCast]
      refine lc_dat (List.range hs.length) walk_rangeL (fun c => if x.getD c 0 = st.getD c 0 then none else some (ws.getD c 0)) NI hD8 stab_NI (by rw [List.length_range]; omega) (fun _ _ => trivial) (fun i2 c2 z2 H3 H4 Q3 Qn hp3 s3 hacc3 y3 k3 kn => ?_) fun H3 acc3 s3 e3 p3 => ?_
      · obtain ⟨rfl, rfl, hc2⟩ := yfn_range hp3 y3
        refine ⟨rfl, _, rfl, _, rfl, ra, _, _, _, rfl, rfl, s3 _ _ (s1 _ _ hra), atI_ints (by omega), _, rfl, _, rfl, ta, _, _, _, rfl, rfl, s3 _ _ hta, atI_ints (by omega), rfl, _, rfl, ?_⟩
        by_cases hq : x.getD c2 0 = st.getD c2 0
        · exact ifF (by rw [decide_eq_true (congrArg V.int hq)]; rfl) (kn _ (if_pos hq) (Same.refl _))
        · exact ifT (by rw [decide_eq_false fun z => hq (V.int.inj z)]; rfl) ⟨_, rfl, _, rfl, l, _, _, _, rfl, rfl, (L1.up s3).w, atI_ints (by omega), k3 _ _ _ (if_neg hq) (Same.refl _) rfl⟩
      rw [paired_ints p3] at e3
      refine ⟨D8, _, rfl, e3, ?_⟩
      rw [law_calls hlst]
      exact k _ _ s3 rfl
    rw [paired_ints pk] at eyo
    have L := L.up s1
    clear s1 pk hyo
    -- cheapest_calls
    refine ⟨_, rfl, _, rfl, _, rfl, .ref a, .ref ta, .ref l, n, hs, st, ws, rfl, L.g, ⟨l, rfl, L.w⟩, OW, fun Ha v m sa ev least => ?_⟩
    have La := L.up sa
    refine ⟨_, rfl, so, _, rfl, .inl La.so_, _, rfl, by omega, by omega, fun D7 hD7 => ?_⟩
    rw [iN, Int.toNat_natCast]
    refine lc_map (List.range (restsIn hs st).length) walk_rangeL (fun i => (fun x => (fCalls ws hs st x, x)) ((restsIn hs st).getD i [])) PR hD7 stab_PR (by rw [List.length_range]; omega) (fun _ _ => trivial) (fun i c z H1 H2 Q1 hp s1 hacc y k => ?_) fun H1 acc1 s1 e1 p1 => ?_
    · obtain ⟨rfl, rfl, hc⟩ := yfn_range hp y
      have L1 := La.up s1
      obtain ⟨ra, wa, h1, h2, h3, h4, hmem⟩ := L1.row hc
      have hl := L.g.rest_len hmem
      refine ⟨rfl, _, rfl, _, rfl, yo, _, _, _, rfl, rfl, s1 _ _ (sa _ _ eyo), atI_nat (at_map hc), _, rfl, _, rfl, so, _, _, _, rfl, rfl, L1.so_, atI_nat h1, by show 2 ≤ sizeLine; decide, fun u hu => ?_⟩
      have s2 : Same H2 (upd H2 u (.tup [.int (fCalls ws hs st ((restsIn hs st).getD c [])), .ref ra])) := same_new hu
      exact k _ _ s2 ⟨u, _, rfl, upd_same, ra, rfl, s2 _ _ h2⟩
    rw [range_map (restsIn hs st) [] (fun x => (fCalls ws hs st x, x))] at p1
    refine ⟨D7, acc1, _, rfl, e1, p1, by simpa using L.g.is_one, fun v2 m2 ev2 hm hl => ?_⟩
    have em : m = m2 := least.eq ⟨hm, hl⟩
    subst em
    refine ⟨v, v2, rfl, al_pair (ev.up s1) ev2 (Least.row_len L.g least), fun Hb sb => ?_⟩
    refine ⟨true, rfl, ifF rfl ?_⟩
    have sL := Same.trans sa (Same.trans s1 sb)
    have L := L.up sL
    clear eyo
    clear La sa ev least hD7 e1 p1 hm hl ev2 sb s1 sL
    -- homes
    refine ⟨_, rfl, wo, rfl, ⟨_, SqL.of L.wo_⟩, fun zo hzo => ?_⟩
    refine lc_map ((restsIn hs st).map (ways hs)) (walk_rows L.wop) (fun x => ((x.count 0 : Nat) : Int)) NI hzo stab_NI (by rw [List.length_map]; omega) (fun H s => SqL.of (s _ _ L.wo_)) (fun i x v H1 H2 Q1 hp s1 hacc y k => ?_) fun Hz acc s1 ez pz => ?_
    · obtain ⟨rfl, ⟨wa, rfl, hwa⟩⟩ := yat_row L.wop hp y
      exact ⟨rfl, _, rfl, .inl ⟨rfl, _, SqL.of (s1 _ _ hwa)⟩, wa, _, 0, rfl, rfl, s1 _ _ hwa, k _ _ (Same.refl _) rfl⟩
    rw [paired_ints pz] at ez
    have e0 : ((restsIn hs st).map (ways hs)).map (fun x => ((x.count 0 : Nat) : Int)) = (restsIn hs st).map (fHome hs st) := by
      rw [List.map_map]
      rfl
    rw [e0] at ez
    have L := L.up s1
    clear s1 pz hzo
    -- most_home
    refine ⟨_, rfl, _, rfl, .ref a, .ref ta, n, hs, st, rfl, L.g, fun Ha v m sa ev least => ?_⟩
    have La := L.up sa
    refine ⟨_, rfl, zo, _, rfl, sa _ _ ez, by rw [List.length_map]; exact List.length_pos_iff.mpr L.g.is_one, ?_⟩
    refine ⟨_, rfl, so, _, rfl, .inl La.so_, _, rfl, by omega, by omega, fun D7 hD7 => ?_⟩
    rw [iN, Int.toNat_natCast]
    refine lc_dat (List.range (restsIn hs st).length) walk_rangeL (fun i => (fun x => if fHome hs st x = mx ((restsIn hs st).map (fHome hs st)) then some x else none) ((restsIn hs st).getD i [])) RT hD7 stab_RT (by rw [List.length_range]; omega) (fun _ _ => trivial) (fun i c z H1 H2 Q1 Qn hp s1 hacc y k kn => ?_) fun H1 acc1 s1 e1 p1 => ?_
    · obtain ⟨rfl, rfl, hc⟩ := yfn_range hp y
      have L1 := La.up s1
      obtain ⟨ra, wa, h1, h2, h3, h4, hmem⟩ := L1.row hc
      have hl := L.g.rest_len hmem
      have ex := s1 _ _ (sa _ _ ez)
      refine ⟨rfl, _, rfl, _, rfl, zo, _, _, _, rfl, rfl, ex, atI_nat (at_map hc), _, rfl, zo, _, rfl, ex, by rw [List.length_map]; exact List.length_pos_iff.mpr L.g.is_one, rfl, _, rfl, ?_⟩
      by_cases hS : fHome hs st ((restsIn hs st).getD c []) = mx ((restsIn hs st).map (fHome hs st))
      · exact ifT (decide_eq_true (congrArg V.int hS)) ⟨_, rfl, _, rfl, so, _, _, _, rfl, rfl, L1.so_, atI_nat h1, k _ _ _ (if_pos hS) (Same.refl _) ⟨ra, rfl, h2⟩⟩
      · exact ifF (decide_eq_false fun z => hS (V.int.inj z)) (kn _ (if_neg hS) (Same.refl _))
    rw [range_fm (restsIn hs st) [] (fun x => if fHome hs st x = mx ((restsIn hs st).map (fHome hs st)) then some x else none)] at p1
    refine ⟨D7, acc1, _, rfl, e1, p1, least_in least, fun v2 m2 ev2 hm hl => ?_⟩
    refine ⟨by show 2 ≤ sizeLine; decide, fun u hu => ?_⟩
    have em := least_neg least hm hl
    have su : Same H1 (upd H1 u (.tup [.int (mx ((restsIn hs st).map (fHome hs st))), v2])) := same_new hu
    have ev' : PR (upd H1 u (.tup [.int (mx ((restsIn hs st).map (fHome hs st))), v2])) (.ref u) (-m.1, m.2) := by
      rw [em]
      exact ⟨u, v2, rfl, upd_same, ev2.up su⟩
    have hm5 := Least.row_len L.g (f := fun r => -fHome hs st r) least
    refine ⟨v, .ref u, rfl, al_pair ((ev.up s1).up su) ev' hm5, fun Hb sb => ?_⟩
    exact q _
end
end K37
end

section
set_option Elab.async false
set_option linter.all false
set_option maxRecDepth 100000
/-! The law's promise at the head: the script stands as it was given. -/
namespace K37
open PySem PySem.Spec PyProof.Rows L2
/-- a heap that holds frozen lists alone: the script stands whatever is written -/
theorem sc_only {K : PySem.W.Frag} {H : Hp} {a : Addr} {ns : List Int} (hO : Only H) (hS : SqL K H a (ns.map V.int)) : Sc K H a ns := by
  rcases hS with hS | hS
  · rcases hS with h | h
    · rcases hO a with z | ⟨o, xs, z⟩
      · exact nomatch h.symm.trans z
      · exact nomatch h.symm.trans z
    · exact .inl h
  · exact .inr fun H' => .inr hS
theorem at_head {K : PySem.W.Frag} {H : Hp} {a : Addr} {ns : List Int} (hl : ns.length ≤ 63) (hO : Only H) (hS : SqL K H a (ns.map V.int)) : spLaw K [.ref a] H (fun v _ => v = .bl true) fun _ _ _ => False :=
  ⟨a, ns, rfl, sc_only hO hS, hl, fun _ => rfl⟩
theorem fin {P : Program} {w : World} {K : PySem.W.Frag} {mg : Str → Option Value} {fa : Addr} (T : Txt K mg) (hfa : mg "law" = some (.ref fa)) :
    ∃ fd : FuncData, (∀ (s : Shared) (u : Value), BindsTo s fd ⟨[u], []⟩ [("_law_script", u)]) ∧ ∀ base : Heap, K.In base → base.Ns mainGlobals mg → FnOk P w K mg base CX0 6 fa fd ["_law_script"] (spLaw K) := by
  have e := hfa.symm.trans T.law.m
  cases e
  exact ⟨T.law.fd, fun s u => BindsTo.of_eq (T.law.b0 [u] rfl), fun base _ _ => ok_law T⟩
end K37
end

open PySem PySem.W PyProof.Rows
set_option Elab.async false
set_option maxRecDepth 100000 in
set_option maxHeartbeats 0 in
theorem PySem.Challenge.cw_parkback_k37_whole_picks_holds : PySem.Challenge.rw_parkback_k37_whole_picks.Holds := by
  w_on; o_law; k_head; (case hw => w_witness2)
  k_fill
  refine L2.walk_of (l := PySem.Challenge.rw_parkback_k37_whole_picks) (n := 63) (k := 6) (x := "_law_script") (CX := fun _ => L2.CX0) (sp := fun w => K37.spLaw _) rfl (by decide) rfl ⟨rfl, by decide, by decide⟩ (fun w h Y => PySem.W.kIn_of Y) ?F (fun _ _ a ns hl hO hS => K37.at_head hl hO hS) (fun _ _ _ _ _ h => h)
  case F =>
    intro w mg fa h KX G hmg
    refine' K37.fin (K37.txt_mk KX G ?a0 ?l0 ?c0 ?k0 ?a1 ?l1 ?c1 ?k1 ?a2 ?l2 ?c2 ?k2 ?a3 ?l3 ?c3 ?k3 ?a4 ?l4 ?c4 ?k4 ?a5 ?l5 ?c5 ?k5 ?a6 ?l6 ?c6 ?k6 ?a7 ?l7 ?c7 ?k7 ?a8 ?l8 ?c8 ?k8 ?a9 ?l9 ?c9 ?k9 ?a10 ?l10 ?c10 ?k10 ?a11 ?l11 ?c11 ?k11 ?a12 ?l12 ?c12 ?k12 ?a13 ?l13 ?c13 ?k13 ?a14 ?l14 ?c14 ?k14 ?a15 ?l15 ?c15 ?k15 ?a16 ?l16 ?c16 ?k16 ?a17 ?l17 ?c17 ?k17 ?a18 ?l18 ?c18 ?k18 ?a19 ?l19 ?c19 ?k19 ?a20 ?l20 ?c20 ?k20 ?a21 ?l21 ?c21 ?k21 ?a22 ?l22 ?c22 ?k22 ?a23 ?l23 ?c23 ?k23 ?a24 ?l24 ?c24 ?k24 ?a25 ?l25 ?c25 ?k25 ?a26 ?l26 ?c26 ?k26 ?z0 ?z1 ?z2 ?z3 ?z4 ?z5 ?z6 ?z7 ?z8 ?z9 ?z10 ?z11 ?z12 ?z13 ?z14 ?gc0 ?gc1) hmg
    (case a0 => k_is); (case l0 => k_is); (case c0 => k_is); (case k0 => k_is); (case a1 => k_is); (case l1 => k_is); (case c1 => k_is); (case k1 => k_is); (case a2 => k_is); (case l2 => k_is); (case c2 => k_is); (case k2 => k_is); (case a3 => k_is); (case l3 => k_is); (case c3 => k_is); (case k3 => k_is); (case a4 => k_is); (case l4 => k_is); (case c4 => k_is); (case k4 => k_is); (case a5 => k_is); (case l5 => k_is); (case c5 => k_is); (case k5 => k_is); (case a6 => k_is); (case l6 => k_is); (case c6 => k_is); (case k6 => k_is); (case a7 => k_is); (case l7 => k_is); (case c7 => k_is); (case k7 => k_is); (case a8 => k_is); (case l8 => k_is); (case c8 => k_is); (case k8 => k_is); (case a9 => k_is); (case l9 => k_is); (case c9 => k_is); (case k9 => k_is); (case a10 => k_is); (case l10 => k_is); (case c10 => k_is); (case k10 => k_is); (case a11 => k_is); (case l11 => k_is); (case c11 => k_is); (case k11 => k_is); (case a12 => k_is); (case l12 => k_is); (case c12 => k_is); (case k12 => k_is); (case a13 => k_is); (case l13 => k_is); (case c13 => k_is); (case k13 => k_is); (case a14 => k_is); (case l14 => k_is); (case c14 => k_is); (case k14 => k_is); (case a15 => k_is); (case l15 => k_is); (case c15 => k_is); (case k15 => k_is); (case a16 => k_is); (case l16 => k_is); (case c16 => k_is); (case k16 => k_is); (case a17 => k_is); (case l17 => k_is); (case c17 => k_is); (case k17 => k_is); (case a18 => k_is); (case l18 => k_is); (case c18 => k_is); (case k18 => k_is); (case a19 => k_is); (case l19 => k_is); (case c19 => k_is); (case k19 => k_is); (case a20 => k_is); (case l20 => k_is); (case c20 => k_is); (case k20 => k_is); (case a21 => k_is); (case l21 => k_is); (case c21 => k_is); (case k21 => k_is); (case a22 => k_is); (case l22 => k_is); (case c22 => k_is); (case k22 => k_is); (case a23 => k_is); (case l23 => k_is); (case c23 => k_is); (case k23 => k_is); (case a24 => k_is); (case l24 => k_is); (case c24 => k_is); (case k24 => k_is); (case a25 => k_is); (case l25 => k_is); (case c25 => k_is); (case k25 => k_is); (case a26 => k_is); (case l26 => k_is); (case c26 => k_is); (case k26 => k_is); (case z0 => k_is); (case z1 => k_is); (case z2 => k_is); (case z3 => k_is); (case z4 => k_is); (case z5 => k_is); (case z6 => k_is); (case z7 => k_is); (case z8 => k_is); (case z9 => k_is); (case z10 => k_is); (case z11 => k_is); (case z12 => k_is); (case z13 => k_is); (case z14 => k_is); (case gc0 => k_is); (case gc1 => k_is)
